import PyProof.Rows.All
import HandS.ForMost
import HandS.TupAny
import HandS.IsInst
import HandS.TupMul
import KE.DataMinMax
import KE.SortData
import KE.DatumOrd
import HandS.Deep
import HandS.SortInts
import HandS.More
import HandS.Conv
import HandS.TupLen
import KE.KTupSum
import HandS.Words
import HandS.Defaults
import HandS.Comp
import HandS.Style
import HandS.Text
import HandS.Iter
import HandS.Zip
import HandS.SetFor
import HandS.Small
import HandS.Set
import HandS.TupSets
import HandS.Base
import KE.GoesEnum
import KE.KIndexOf
import HandS.Head0
import HandS.Head1
import HandS.Head2
import HandS.HeadEnd
import HandS.HeadHook1
import HandS.HeadHook2
import KE.KStateDown
import PySem.Challenge.RW_toolslent_k13_service_between_loans
set_option Elab.async false
set_option linter.all false
set_option maxRecDepth 100000
set_option maxHeartbeats 4000000
/-! MP core: a small pure language (values as trees, mutable locals by ownership, shared dicts by a store) and its evaluator. -/
namespace MP
open PySem

inductive PV where
  | non | bl (b : Bool) | int (i : Int) | str (s : Str)
  | tup (xs : List PV) | lst (xs : List PV) | dct (t : Nat) (kvs : List (PV × PV)) | shr (i : Nat)
  | scr (ns : List Int)   -- the law's script
  | lck (x : PV)          -- a shared dict while it is walked
  deriving Inhabited

abbrev LIM : Nat := 1000000

/-! ### equality, order -/
mutual
def peq : PV → PV → Bool
  | .non, .non => true
  | .bl a, .bl b => a == b
  | .bl a, .int j => (if a then 1 else 0) == j
  | .int i, .bl b => i == (if b then 1 else 0)
  | .int i, .int j => i == j
  | .str x, .str y => x == y
  | .lst xs, .lst ys => peqs xs ys
  | .tup xs, .tup ys => peqs xs ys
  | _, _ => false
def peqs : List PV → List PV → Bool
  | [], [] => true
  | x :: xs, y :: ys => peq x y && peqs xs ys
  | _, _ => false
end
/-- data of depth at most n, no dicts -/
def shp : Nat → PV → Bool
  | _, .non | _, .bl _ | _, .int _ => true
  | _, .str s => PySem.PyData.strOk s
  | n + 1, .tup xs => xs.all (shp n)
  | n + 1, .lst xs => xs.all (shp n)
  | _, _ => false
abbrev DEP : Nat := 20
def pEq (x y : PV) : Option Bool := if shp DEP x && shp DEP y then some (peq x y) else none

mutual
def plt : PV → PV → Bool
  | .int a, .int b => decide (a < b)
  | .str a, .str b => decide (a.cps.toList < b.cps.toList)
  | .tup xs, .tup ys => pltL xs ys
  | .lst xs, .lst ys => pltL xs ys
  | _, _ => false
def pltL : List PV → List PV → Bool
  | [], [] => false
  | [], _ :: _ => true
  | _ :: _, [] => false
  | x :: xs, y :: ys => if peq x y then pltL xs ys else plt x y
end
mutual
/-- the order between them is served -/
def cmpOk : PV → PV → Bool
  | .int _, .int _ => true
  | .str _, .str _ => true
  | .tup xs, .tup ys => cmpOkL xs ys
  | .lst xs, .lst ys => cmpOkL xs ys
  | _, _ => false
def cmpOkL : List PV → List PV → Bool
  | x :: xs, y :: ys => cmpOk x y && cmpOkL xs ys
  | _, _ => true
end
def pLt (x y : PV) : Option Bool := if shp DEP x && shp DEP y && cmpOk x y then some (plt x y) else none

def ordOk (xs : List PV) : Bool := xs.all fun x => shp DEP x && xs.all fun y => cmpOk x y
def minL (x : PV) (xs : List PV) : PV := xs.foldl (fun a y => if plt y a then y else a) x
def maxL (x : PV) (xs : List PV) : PV := xs.foldl (fun a y => if plt a y then y else a) x
def pMin : List PV → Option PV
  | [] => none
  | x :: xs => if ordOk (x :: xs) then some (minL x xs) else none
def pMax : List PV → Option PV
  | [] => none
  | x :: xs => if ordOk (x :: xs) then some (maxL x xs) else none
def neTup : PV → Bool
  | .tup (_ :: _) => true
  | _ => false
def isTup : PV → Bool
  | .tup _ => true
  | _ => false
def srtOk (xs : List PV) : Bool := xs.all neTup || xs.all fun x => !isTup x
def pSort (xs : List PV) : Option (List PV) := if ordOk xs && srtOk xs then some (xs.mergeSort fun a b => !plt b a) else none

/-! ### dicts -/
def dGet (k : PV) : List (PV × PV) → Option PV
  | [] => none
  | p :: r => if peq p.1 k then some p.2 else dGet k r
def dPut (k v : PV) (kvs : List (PV × PV)) : List (PV × PV) :=
  if (kvs.any fun p => peq p.1 k) = true then kvs.map (fun p => if peq p.1 k = true then (p.1, v) else p) else kvs ++ [(k, v)]
def dMerge : List (PV × PV) → List (PV × PV) → List (PV × PV)
  | acc, [] => acc
  | acc, p :: r => dMerge (dPut p.1 p.2 acc) r
def isKey1 : PV → Bool
  | .int _ => true
  | .str _ => true
  | _ => false
/-- keys of a dict of kind 0: ints, texts; of kind 1: tuples of these -/
def isKey (t : Nat) : PV → Bool
  | .int _ => t == 0
  | .str _ => t == 0
  | .tup xs => t == 1 && xs.all isKey1
  | _ => false
def pairOf : PV → Option (PV × PV)
  | .tup [k, v] => some (k, v)
  | _ => none

/-! ### operations -/
inductive Bo where
  | add | sub | mul | div | mod | pow | shr | shl | band
  | cat | rep   -- of lists alone: a new list
inductive Co where
  | eq | ne | lt | le | gt | ge | is_ | isn | in_ | nin
inductive Bi where
  | len | abs | min | max | sum | sorted | tuple | list | dict | dictT | int | all | any | setLen | sortedSet | tupRange | listRange
inductive Ty where
  | tint | tbool | ttup | tstr | tlst | tdct

def two64 : Int := 18446744073709551616
def pBin : Bo → PV → PV → Option PV
  | .add, .int a, .int b => some (.int (a + b))
  | .add, .str a, .str b => if a.length + b.length ≤ LIM then some (.str (a ++ b)) else none
  | .add, .lst a, .lst b => if a.length + b.length ≤ LIM then some (.lst (a ++ b)) else none
  | .add, .tup a, .tup b => if a.length + b.length ≤ LIM then some (.tup (a ++ b)) else none
  | .sub, .int a, .int b => some (.int (a - b))
  | .mul, .int a, .int b => if (-two64 < a ∧ a < two64) ∨ (-two64 < b ∧ b < two64) then some (.int (a * b)) else none
  | .mul, .lst a, .int k => if a.length * k.toNat ≤ LIM ∧ k ≤ LIM ∧ -LIM ≤ k then some (.lst (List.replicate k.toNat a).flatten) else none
  | .div, .int a, .int b => if b ≠ 0 ∧ b.natAbs < 1073741824 then some (.int (a.fdiv b)) else none
  | .mod, .int a, .int b => if b ≠ 0 then some (.int (a.fmod b)) else none
  | .pow, .int a, .int b => if 0 ≤ b ∧ b ≤ 1000 ∧ a.natAbs < 1000000 then some (.int (a ^ b.toNat)) else none
  | .shl, .int a, .int b => if 0 ≤ b ∧ b ≤ 1000 ∧ a.natAbs < 1000000 then some (.int (a * 2 ^ b.toNat)) else none
  | .shr, .int a, .int b => if 0 ≤ b then some (.int (a / 2 ^ b.toNat)) else none
  | .band, .int a, .int b => some (.int (Builtin.bitAnd a b))
  | .cat, .lst a, .lst b => if a.length + b.length ≤ LIM then some (.lst (a ++ b)) else none
  | .rep, .lst a, .int k => if a.length * k.toNat ≤ LIM ∧ k ≤ LIM ∧ -LIM ≤ k then some (.lst (List.replicate k.toNat a).flatten) else none
  | _, _, _ => none
/-- x op= y -/
def pIp : Bo → PV → PV → Option PV
  | .add, .int a, .int b => some (.int (a + b))
  | .sub, .int a, .int b => some (.int (a - b))
  | _, _, _ => none
/-- in a list, a tuple, a dict, a text -/
def pIn : PV → PV → Option Bool
  | x, .lst ys => if shp DEP x && ys.all (shp DEP) then some (ys.any fun y => peq y x) else none
  | x, .tup ys => if shp DEP x && ys.all (shp DEP) then some (ys.any fun y => peq y x) else none
  | x, .dct t kvs => if isKey t x then some (dGet x kvs).isSome else none
  | .str a, .str b => if a.length = 1 then some (decide (a.cps.toList.headD 0 ∈ b.cps.toList)) else none
  | _, _ => none
def isNon : PV → Bool
  | .non => true
  | _ => false
def pCmp : Co → PV → PV → Option Bool
  | .eq, x, y => pEq x y
  | .ne, x, y => (pEq x y).map (!·)
  | .lt, x, y => pLt x y
  | .gt, x, y => pLt y x
  | .le, .int a, .int b => some (decide (a ≤ b))
  | .ge, .int a, .int b => some (decide (b ≤ a))
  | .le, .str a, .str b => some (!decide (b.cps.toList < a.cps.toList))
  | .ge, .str a, .str b => some (!decide (a.cps.toList < b.cps.toList))
  | .is_, x, .non => some (isNon x)
  | .isn, x, .non => some (!isNon x)
  | .in_, x, y => pIn x y
  | .nin, x, y => (pIn x y).map (!·)
  | _, _, _ => none
def pNeg : PV → Option PV
  | .int a => some (.int (-a))
  | _ => none
def ixN (n : Nat) (i : Int) : Option Nat := if 0 ≤ i then (if i < n then some i.toNat else none) else if -(n : Int) ≤ i then some (i + n).toNat else none
def pIdx : PV → PV → Option PV
  | .lst xs, .int i => (ixN xs.length i).bind fun j => xs[j]?
  | .scr ns, .int i => (ixN ns.length i).bind fun j => (ns[j]?).map .int
  | .tup xs, .int i => (ixN xs.length i).bind fun j => xs[j]?
  | .str s, .int i => if s.length ≤ LIM then (ixN s.length i).bind fun j => (s.cps.toList[j]?).map fun c => .str ⟨#[c]⟩ else none
  | .dct t kvs, k => if isKey t k then dGet k kvs else none
  | _, _ => none
/-- slice bounds -/
def cutN (n d : Nat) : Option Int → Nat
  | none => d
  | some i => if i < 0 then (i + n).toNat else min i.toNat n
def cutL {α : Type} (xs : List α) (lo hi : Option Int) : List α := (xs.drop (cutN xs.length 0 lo)).take (cutN xs.length xs.length hi - cutN xs.length 0 lo)
def pCut : PV → Option Int → Option Int → Option PV
  | .lst xs, lo, hi => some (.lst (cutL xs lo hi))
  | .tup xs, lo, hi => some (.tup (cutL xs lo hi))
  | .str s, lo, hi => if s.length ≤ LIM then some (.str ⟨(cutL s.cps.toList lo hi).toArray⟩) else none
  | _, _, _ => none
def pRev : PV → Option PV
  | .lst xs => some (.lst xs.reverse)
  | _ => none
def seqOf : PV → Option (List PV)
  | .lst xs => some xs
  | .tup xs => some xs
  | _ => none
def intOf : PV → Option Int
  | .int i => some i
  | _ => none
def blOf : PV → Option Bool
  | .bl b => some b
  | _ => none
def mapO {α β : Type} (f : α → Option β) : List α → Option (List β)
  | [] => some []
  | x :: xs => (f x).bind fun y => (mapO f xs).bind fun ys => some (y :: ys)
/-- the ints without doubles, in order -/
def insU (x : Int) : List Int → List Int
  | [] => [x]
  | y :: r => if x < y then x :: y :: r else if x = y then y :: r else y :: insU x r
def sset (ns : List Int) : List Int := ns.foldr insU []
/-- without doubles, the first of each -/
def dedup : List PV → List PV → List PV
  | acc, [] => acc
  | acc, x :: xs => if acc.any (fun y => peq y x) then dedup acc xs else dedup (acc ++ [x]) xs
def pBi : Bi → List PV → Option PV
  | .len, [.lst xs] => some (.int xs.length)
  | .len, [.tup xs] => some (.int xs.length)
  | .len, [.scr ns] => some (.int ns.length)
  | .len, [.str s] => if s.length ≤ LIM then some (.int s.length) else none
  | .len, [.dct _ kvs] => some (.int kvs.length)
  | .abs, [.int i] => some (.int (if i < 0 then -i else i))
  | .min, [.lst xs] => pMin xs
  | .min, [.tup xs] => pMin xs
  | .min, [.int i, .int j] => some (.int (if j < i then j else i))
  | .max, [.lst xs] => pMax xs
  | .max, [.tup xs] => pMax xs
  | .max, [.int i, .int j] => some (.int (if j > i then j else i))
  | .sum, [x] => (seqOf x).bind fun xs => (mapO intOf xs).map fun ns => .int ns.sum
  | .sorted, [.lst xs] => (pSort xs).map .lst
  | .sorted, [.tup xs] => (pSort xs).map .lst
  | .sorted, [.dct 0 kvs] => (pSort (kvs.map (·.1))).map .lst
  | .sortedSet, [x] => (seqOf x).bind fun xs => (mapO intOf xs).bind fun ns => if ns.length ≤ 4000 ∧ (sset ns).length < 64 then some (.lst ((sset ns).map .int)) else none
  | .setLen, [x] => (seqOf x).bind fun xs => (mapO intOf xs).bind fun ns => if ns.length ≤ 4000 ∧ (sset ns).length < 64 then some (.int (sset ns).length) else none
  | .tuple, [x] => (seqOf x).map .tup
  | .list, [.dct 0 kvs] => some (.lst (kvs.map (·.1)))
  | .list, [.lst xs] => some (.lst xs)
  | .list, [.tup xs] => some (.lst xs)
  | .dict, [.dct 0 kvs] => some (.dct 0 kvs)
  | .dict, [.lst xs] => (mapO pairOf xs).bind fun ps => if ps.all fun p => isKey 0 p.1 then some (.dct 0 (dMerge [] ps)) else none
  | .dictT, [.lst xs] => (mapO pairOf xs).bind fun ps => if ps.all fun p => isKey 1 p.1 then some (.dct 1 (dMerge [] ps)) else none
  | .int, [.int i] => some (.int i)
  | .int, [.bl b] => some (.int (if b then 1 else 0))
  | .all, [.lst xs] => (mapO blOf xs).map fun bs => .bl (bs.all id)
  | .any, [.lst xs] => (mapO blOf xs).map fun bs => .bl (bs.any id)
  | .tupRange, [.int n] => if n ≤ LIM ∧ -LIM ≤ n then some (.tup ((List.range n.toNat).map fun (k : Nat) => .int k)) else none
  | .listRange, [.int n] => if n ≤ LIM ∧ -LIM ≤ n then some (.lst ((List.range n.toNat).map fun (k : Nat) => .int k)) else none
  | _, _ => none
def pIs : Ty → PV → Option Bool
  | _, .shr _ => none
  | _, .scr _ => none
  | _, .lck _ => none
  | .tint, .int _ => some true
  | .tint, .bl _ => some true
  | .tbool, .bl _ => some true
  | .ttup, .tup _ => some true
  | .tstr, .str _ => some true
  | .tlst, .lst _ => some true
  | .tdct, .dct _ _ => some true
  | _, _ => some false
inductive Me where
  | get1 | get2 | count | index | items | join | split | replace
def pMe : Me → PV → List PV → Option PV
  | .get1, .dct t kvs, [k] => if isKey t k then some ((dGet k kvs).getD .non) else none
  | .get2, .dct t kvs, [k, d] => if isKey t k then some ((dGet k kvs).getD d) else none
  | .count, .lst xs, [y] => if shp DEP y && xs.all (shp DEP) then some (.int (xs.filter fun x => peq x y).length) else none
  | .index, .lst xs, [.int y] => (mapO intOf xs).bind fun ns => if y ∈ ns then some (.int (ns.idxOf y)) else none
  | .index, .tup xs, [.int y] => (mapO intOf xs).bind fun ns => if y ∈ ns then some (.int (ns.idxOf y)) else none
  | .items, .dct _ kvs, [] => some (.lst (kvs.map fun p => .tup [p.1, p.2]))
  | _, _, _ => none

/-! ### the language -/
inductive Pat where
  | nm (i : Nat) | tp (ps : List Pat)
mutual
inductive CE where
  | var (i : Nat) | bor (i : Nat) | int (n : Int) | bl (b : Bool) | non | str (s : Str) | cst (x : Str) (s : Str)
  | tup (es : CEs) | lst (es : CEs) | dsp (t : Nat) (ps : CPs)
  | bin (op : Bo) (a b : CE) | neg (a : CE)
  | cmp (op : Co) (a b : CE) | chn (op op2 : Co) (a b c : CE)
  | and_ (es : CEs) | or_ (es : CEs) | not_ (a : CE) | ite (c a b : CE)
  | idx (a i : CE) | cut (a : CE) (lo hi : CEs) | rev (a : CE)
  | call (g : Nat) (es : CEs) | bi (b : Bi) (es : CEs) | isi (t : Ty) (a : CE) | met (m : Me) (a : CE) (es : CEs)
  | lc1 (own : List Nat) (elt : CE) (t : Pat) (it : CI) (cs : CEs)
  | lc2 (own : List Nat) (elt : CE) (t1 : Pat) (it1 : CI) (cs1 : CEs) (own2 : List Nat) (t2 : Pat) (it2 : CI) (cs2 : CEs)
inductive CEs where
  | nil | cons (e : CE) (es : CEs)
inductive CPs where
  | nil | cons (k v : CE) (r : CPs)
inductive CI where
  | over (e : CE) | rng1 (a : CE) | rng2 (a b : CE) | rng3 (a b c : CE) | enum (e : CE) | zip (a b : CE) | keys (i : Nat)
end

abbrev Envi := List (Option (Bool × PV))
abbrev DS := List PV
abbrev Fns := Nat → List PV → DS → Option (PV × DS)

def isLD : PV → Bool
  | .lst _ => true
  | .dct _ _ => true
  | _ => false
/-- an operand: a shared object is read -/
def opd (D : DS) : PV → Option PV
  | .shr j => (D[j]?).map fun x => match x with
    | .lck y => y
    | y => y
  | x => some x
def getS (ρ : Envi) (i : Nat) : Option PV := match ρ[i]? with
  | some (some (false, x)) => some x
  | _ => none
def borS (ρ : Envi) (i : Nat) : Option PV := match ρ[i]? with
  | some (some (_, x)) => some x
  | _ => none
def wipE (ρ : Envi) : List Nat → Envi
  | [] => ρ
  | v :: vs => (wipE ρ vs).set v none
mutual
def bindP : Pat → PV → Envi → Option Envi
  | .nm i, x, ρ => some (ρ.set i (some (false, x)))
  | .tp ps, .tup xs, ρ => bindPs ps xs ρ
  | .tp _, _, _ => none
def bindPs : List Pat → List PV → Envi → Option Envi
  | [], [], ρ => some ρ
  | p :: ps, x :: xs, ρ => (bindP p x ρ).bind fun ρ1 => bindPs ps xs ρ1
  | _, _, _ => none
end
/-- a comprehension's loop: each item gives a list -/
def lcF (f : PV → DS → Option (List PV × DS)) : List PV → DS → Option (List PV × DS)
  | [], D => some ([], D)
  | x :: xs, D => (f x D).bind fun r => (lcF f xs r.2).bind fun q => some (r.1 ++ q.1, q.2)
def chars (s : Str) : List PV := s.cps.toList.map fun c => .str ⟨#[c]⟩
def itOf : PV → Option (List PV)
  | .lst xs => some xs
  | .tup xs => some xs
  | .str s => if s.length ≤ LIM then some (chars s) else none
  | _ => none
/-- a dict's keys -/
def keysOf : PV → Option (List PV)
  | .dct 0 kvs => if kvs.length ≤ LIM then some (kvs.map (·.1)) else none
  | _ => none
def rngL (a b : Int) : List PV := (List.range (b - a).toNat).map fun (k : Nat) => .int (a + k)
def rngOk (a b : Int) : Bool := decide (-LIM ≤ a ∧ a ≤ LIM ∧ -LIM ≤ b ∧ b ≤ LIM)
/-- range(a, b, c), c not 0 -/
def rngN (a b c : Int) : Nat := if 0 < c then ((b - a + c - 1) / c).toNat else if c < 0 then ((a - b + (-c) - 1) / (-c)).toNat else 0
def rngC (a b c : Int) : List PV := (List.range (rngN a b c)).map fun (k : Nat) => .int (a + k * c)
def enumL (xs : List PV) : List PV := (List.range xs.length).zipWith (fun (k : Nat) x => .tup [.int k, x]) xs
def zipL (xs ys : List PV) : List PV := xs.zipWith (fun x y => .tup [x, y]) ys
def zipOf : PV → PV → Option (List PV)
  | .lst xs, .lst ys => some (zipL xs ys)
  | .tup xs, .tup ys => some (zipL xs ys)
  | _, _ => none
mutual
def ev (Φ : Fns) : CE → Envi → DS → Option (PV × DS)
  | .var i, ρ, D => (getS ρ i).map fun x => (x, D)
  | .bor i, ρ, D => (borS ρ i).map fun x => (x, D)
  | .int n, _, D => some (.int n, D)
  | .bl b, _, D => some (.bl b, D)
  | .non, _, D => some (.non, D)
  | .str s, _, D => some (.str s, D)
  | .cst _ s, _, D => some (.str s, D)
  | .tup es, ρ, D => (evs Φ es ρ D).map fun r => (.tup r.1, r.2)
  | .lst es, ρ, D => (evs Φ es ρ D).map fun r => (.lst r.1, r.2)
  | .dsp t ps, ρ, D => (evd Φ ps ρ D).bind fun r => if (r.1.all fun p => isKey t p.1) then some (.dct t (dMerge [] r.1), r.2) else none
  | .bin op a b, ρ, D => (ev Φ a ρ D).bind fun r => (ev Φ b ρ r.2).bind fun q => (pBin op r.1 q.1).map fun z => (z, q.2)
  | .neg a, ρ, D => (ev Φ a ρ D).bind fun r => (pNeg r.1).map fun z => (z, r.2)
  | .cmp op a b, ρ, D => (ev Φ a ρ D).bind fun r => (ev Φ b ρ r.2).bind fun q => (opd q.2 q.1).bind fun o => (pCmp op r.1 o).map fun z => (.bl z, q.2)
  | .chn op op2 a b c, ρ, D => (ev Φ a ρ D).bind fun r => (ev Φ b ρ r.2).bind fun q => (pCmp op r.1 q.1).bind fun z => if z then (ev Φ c ρ q.2).bind fun t => (pCmp op2 q.1 t.1).map fun y => (.bl y, t.2) else some (.bl false, q.2)
  | .and_ es, ρ, D => evand Φ es ρ D
  | .or_ es, ρ, D => evor Φ es ρ D
  | .not_ a, ρ, D => (ev Φ a ρ D).bind fun r => (blOf r.1).map fun z => (.bl (!z), r.2)
  | .ite c a b, ρ, D => (ev Φ c ρ D).bind fun r => (blOf r.1).bind fun z => if z then ev Φ a ρ r.2 else ev Φ b ρ r.2
  | .idx a i, ρ, D => (ev Φ a ρ D).bind fun r => (ev Φ i ρ r.2).bind fun q => (opd q.2 r.1).bind fun o => (pIdx o q.1).map fun z => (z, q.2)
  | .cut a lo hi, ρ, D => (ev Φ a ρ D).bind fun r => (evo Φ lo ρ r.2).bind fun l => (evo Φ hi ρ l.2).bind fun h => (pCut r.1 l.1 h.1).map fun z => (z, h.2)
  | .rev a, ρ, D => (ev Φ a ρ D).bind fun r => (pRev r.1).map fun z => (z, r.2)
  | .call g es, ρ, D => (evs Φ es ρ D).bind fun r => Φ g r.1 r.2
  | .bi b es, ρ, D => (evs Φ es ρ D).bind fun r => (mapO (opd r.2) r.1).bind fun xs => (pBi b xs).map fun z => (z, r.2)
  | .isi t a, ρ, D => (ev Φ a ρ D).bind fun r => (pIs t r.1).map fun z => (.bl z, r.2)
  | .met m a es, ρ, D => (ev Φ a ρ D).bind fun r => (evs Φ es ρ r.2).bind fun q => (pMe m r.1 q.1).map fun z => (z, q.2)
  | .lc1 own elt t it cs, ρ, D => (evi Φ it ρ D).bind fun r =>
      (lcF (fun x D1 => (bindP t x (wipE ρ own)).bind fun ρ1 => (evt Φ cs ρ1 D1).bind fun c => if c.1 then (ev Φ elt ρ1 c.2).map fun y => ([y.1], y.2) else some ([], c.2)) r.1 r.2).map fun q => (.lst q.1, q.2)
  | .lc2 own elt t1 it1 cs1 own2 t2 it2 cs2, ρ, D => (evi Φ it1 ρ D).bind fun r =>
      (lcF (fun x D1 => (bindP t1 x (wipE ρ own)).bind fun ρ1 => (evt Φ cs1 ρ1 D1).bind fun c => if c.1 then (evi Φ it2 ρ1 c.2).bind fun r2 =>
        lcF (fun y D2 => (bindP t2 y (wipE ρ1 own2)).bind fun ρ2 => (evt Φ cs2 ρ2 D2).bind fun c2 => if c2.1 then (ev Φ elt ρ2 c2.2).map fun y => ([y.1], y.2) else some ([], c2.2)) r2.1 r2.2
        else some ([], c.2)) r.1 r.2).bind fun q => if q.1.length ≤ LIM then some (.lst q.1, q.2) else none
def evs (Φ : Fns) : CEs → Envi → DS → Option (List PV × DS)
  | .nil, _, D => some ([], D)
  | .cons e es, ρ, D => (ev Φ e ρ D).bind fun r => (evs Φ es ρ r.2).map fun q => (r.1 :: q.1, q.2)
def evd (Φ : Fns) : CPs → Envi → DS → Option (List (PV × PV) × DS)
  | .nil, _, D => some ([], D)
  | .cons k v r, ρ, D => (ev Φ k ρ D).bind fun x => (ev Φ v ρ x.2).bind fun q => (evd Φ r ρ q.2).map fun z => ((x.1, q.1) :: z.1, z.2)
def evand (Φ : Fns) : CEs → Envi → DS → Option (PV × DS)
  | .nil, _, _ => none
  | .cons e .nil, ρ, D => ev Φ e ρ D
  | .cons e es, ρ, D => (ev Φ e ρ D).bind fun r => (blOf r.1).bind fun z => if z then evand Φ es ρ r.2 else some (.bl false, r.2)
def evor (Φ : Fns) : CEs → Envi → DS → Option (PV × DS)
  | .nil, _, _ => none
  | .cons e .nil, ρ, D => ev Φ e ρ D
  | .cons e es, ρ, D => (ev Φ e ρ D).bind fun r => (blOf r.1).bind fun z => if z then some (.bl true, r.2) else evor Φ es ρ r.2
/-- a slice's part -/
def evo (Φ : Fns) : CEs → Envi → DS → Option (Option Int × DS)
  | .nil, _, D => some (none, D)
  | .cons e .nil, ρ, D => (ev Φ e ρ D).bind fun r => (intOf r.1).map fun i => (some i, r.2)
  | _, _, _ => none
/-- a clause's tests: none or one -/
def evt (Φ : Fns) : CEs → Envi → DS → Option (Bool × DS)
  | .nil, _, D => some (true, D)
  | .cons e .nil, ρ, D => (ev Φ e ρ D).bind fun r => (blOf r.1).map fun z => (z, r.2)
  | _, _, _ => none
def evi (Φ : Fns) : CI → Envi → DS → Option (List PV × DS)
  | .over e, ρ, D => (ev Φ e ρ D).bind fun r => (itOf r.1).map fun xs => (xs, r.2)
  | .rng1 a, ρ, D => (ev Φ a ρ D).bind fun r => (intOf r.1).bind fun n => if rngOk 0 n then some (rngL 0 n, r.2) else none
  | .rng2 a b, ρ, D => (ev Φ a ρ D).bind fun r => (ev Φ b ρ r.2).bind fun q => (intOf r.1).bind fun m => (intOf q.1).bind fun n => if rngOk m n then some (rngL m n, q.2) else none
  | .rng3 a b c, ρ, D => (ev Φ a ρ D).bind fun r => (ev Φ b ρ r.2).bind fun q => (ev Φ c ρ q.2).bind fun t => (intOf r.1).bind fun m => (intOf q.1).bind fun n => (intOf t.1).bind fun k =>
      if rngOk m n && decide (k ≠ 0 ∧ k.natAbs ≤ LIM) then some (rngC m n k, t.2) else none
  | .enum e, ρ, D => (ev Φ e ρ D).bind fun r => (seqOf r.1).map fun xs => (enumL xs, r.2)
  | .zip a b, ρ, D => (ev Φ a ρ D).bind fun r => (ev Φ b ρ r.2).bind fun q => (zipOf r.1 q.1).map fun xs => (xs, q.2)
  | .keys i, ρ, D => ((borS ρ i).bind keysOf).map fun xs => (xs, D)
end

/-! ### statements -/
inductive Tg where
  | nm (i : Nat) | sub (i : Nat) (k : CE)
mutual
inductive CS where
  | asg (o : Bool) (i : Nat) (e : CE) | asgP (p : Pat) (e : CE) | asgS (i : Nat) (e : CE) | asg2 (i j : Nat) (e : CE)
  | par (ts : List Tg) (os : List Bool) (es : CEs)
  | aug (i : Nat) (op : Bo) (e : CE) | setI (i : Nat) (k e : CE) | augI (i : Nat) (k : CE) (op : Bo) (e : CE)
  | app (i : Nat) (e : CE) | ext (i : Nat) (e : CE) | ins (i : Nat) (k e : CE) | rem (i : Nat) (e : CE) | upd (i : Nat) (e : CE)
  | pop (p : Pat) (i : Nat) | pop0 (p : Pat) (i : Nat)
  | expr (e : CE) | ret (e : CE) | retN | ife (c : CE) (a b : CSs) | whl (c : CE) (b : CSs) | for_ (t : Pat) (it : CI) (b : CSs)
  | brk | cnt | pass
inductive CSs where
  | nil | cons (s : CS) (r : CSs) | frz (is : List Nat) (r : CSs)
end
inductive Out where
  | nx | rt (x : PV) | bk | ct
abbrev XR := Option (Out × Envi × DS)
def frz1 (ρ : Envi) (i : Nat) : Envi := match ρ[i]? with
  | some (some (true, x)) => ρ.set i (some (false, x))
  | _ => ρ
def frzL (ρ : Envi) : List Nat → Envi
  | [] => ρ
  | i :: r => frzL (frz1 ρ i) r
/-- an item stored, in a list or a dict -/
def pSet : PV → PV → PV → Option PV
  | .lst xs, .int i, v => (ixN xs.length i).map fun j => .lst (xs.set j v)
  | .dct t kvs, k, v => if isKey t k && decide (kvs.length < LIM) then some (.dct t (dPut k v kvs)) else none
  | _, _, _ => none
/-- the object at slot i changed by f -/
def chg (f : PV → Option PV) (i : Nat) (ρ : Envi) (D : DS) : Option (Envi × DS) := match ρ[i]? with
  | some (some (true, x)) => (f x).map fun y => (ρ.set i (some (true, y)), D)
  | some (some (false, .shr j)) => (D[j]?).bind fun x => (f x).map fun y => (ρ, D.set j y)
  | _ => none
/-- .. only what the slot holds by itself -/
def chgO (f : PV → Option PV) (i : Nat) (ρ : Envi) (D : DS) : Option (Envi × DS) := match ρ[i]? with
  | some (some (true, x)) => (f x).map fun y => (ρ.set i (some (true, y)), D)
  | _ => none
def pApp (v : PV) : PV → Option PV
  | .lst xs => if xs.length < LIM then some (.lst (xs ++ [v])) else none
  | _ => none
def pExt (v : PV) : PV → Option PV
  | .lst xs => match v with
    | .lst ys => if xs.length + ys.length ≤ LIM then some (.lst (xs ++ ys)) else none
    | _ => none
  | _ => none
def pInsAt (k v : PV) : PV → Option PV
  | .lst xs => match k with
    | .int i => if 0 ≤ i ∧ i ≤ xs.length ∧ xs.length < LIM then some (.lst (xs.take i.toNat ++ v :: xs.drop i.toNat)) else none
    | _ => none
  | _ => none
def pRem (v : PV) : PV → Option PV
  | .lst xs => match v with
    | .int n => (mapO intOf xs).bind fun ns => if n ∈ ns then some (.lst ((ns.erase n).map .int)) else none
    | _ => none
  | _ => none
def pUpd (v : PV) : PV → Option PV
  | .dct t kvs => match v with
    | .dct u more => if t == u && decide (kvs.length + more.length ≤ LIM) then some (.dct t (dMerge kvs more)) else none
    | _ => none
  | _ => none
def forL (f : PV → Envi → DS → XR) : List PV → Envi → DS → XR
  | [], ρ, D => some (.nx, ρ, D)
  | x :: xs, ρ, D => (f x ρ D).bind fun r => match r.1 with
    | .nx => forL f xs r.2.1 r.2.2
    | .ct => forL f xs r.2.1 r.2.2
    | .bk => some (.nx, r.2)
    | .rt v => some (.rt v, r.2)
def whlL (c : Envi → DS → Option (Bool × DS)) (f : Envi → DS → XR) : Nat → Envi → DS → XR
  | 0, _, _ => none
  | n + 1, ρ, D => (c ρ D).bind fun b => if b.1 then (f ρ b.2).bind fun r => match r.1 with
    | .nx => whlL c f n r.2.1 r.2.2
    | .ct => whlL c f n r.2.1 r.2.2
    | .bk => some (.nx, r.2)
    | .rt v => some (.rt v, r.2)
    else some (.nx, ρ, b.2)
abbrev WH : Nat := 100000
/-- targets of a parallel assignment, from the left -/
def storeT (Φ : Fns) : List Tg → List Bool → List PV → Envi → DS → Option (Envi × DS)
  | [], [], [], ρ, D => some (ρ, D)
  | .nm i :: ts, o :: os, x :: xs, ρ, D => storeT Φ ts os xs (ρ.set i (some (o, x))) D
  | .sub i k :: ts, false :: os, x :: xs, ρ, D => (ev Φ k ρ D).bind fun q => (chg (fun y => pSet y q.1 x) i ρ q.2).bind fun r => storeT Φ ts os xs r.1 r.2
  | _, _, _, _, _ => none
mutual
def ex (Φ : Fns) : CS → Envi → DS → XR
  | .asg o i e, ρ, D => (ev Φ e ρ D).map fun r => (.nx, ρ.set i (some (o, r.1)), r.2)
  | .asgP p e, ρ, D => (ev Φ e ρ D).bind fun r => (bindP p r.1 ρ).map fun ρ1 => (.nx, ρ1, r.2)
  | .asgS i e, ρ, D => (ev Φ e ρ D).map fun r => (.nx, ρ.set i (some (false, .shr r.2.length)), r.2 ++ [r.1])
  | .asg2 i j e, ρ, D => (ev Φ e ρ D).map fun r => (.nx, (ρ.set i (some (false, r.1))).set j (some (false, r.1)), r.2)
  | .par ts os es, ρ, D => (evs Φ es ρ D).bind fun r => (storeT Φ ts os r.1 ρ r.2).map fun q => (.nx, q.1, q.2)
  | .aug i op e, ρ, D => (getS ρ i).bind fun x => (ev Φ e ρ D).bind fun r => (pIp op x r.1).map fun z => (.nx, ρ.set i (some (false, z)), r.2)
  | .setI i k e, ρ, D => (ev Φ e ρ D).bind fun r => (ev Φ k ρ r.2).bind fun q => (chg (fun y => pSet y q.1 r.1) i ρ q.2).map fun z => (.nx, z.1, z.2)
  | .augI i k op e, ρ, D => (ev Φ k ρ D).bind fun q => (borS ρ i).bind fun c => (opd q.2 c).bind fun o => (if isLD o then pIdx o q.1 else none).bind fun old => (ev Φ e ρ q.2).bind fun r => (pIp op old r.1).bind fun z =>
      (chg (fun y => pSet y q.1 z) i ρ r.2).map fun t => (.nx, t.1, t.2)
  | .app i e, ρ, D => (ev Φ e ρ D).bind fun r => (chgO (pApp r.1) i ρ r.2).map fun z => (.nx, z.1, z.2)
  | .ext i e, ρ, D => (ev Φ e ρ D).bind fun r => (chgO (pExt r.1) i ρ r.2).map fun z => (.nx, z.1, z.2)
  | .ins i k e, ρ, D => (ev Φ k ρ D).bind fun q => (ev Φ e ρ q.2).bind fun r => (chgO (pInsAt q.1 r.1) i ρ r.2).map fun z => (.nx, z.1, z.2)
  | .rem i e, ρ, D => (ev Φ e ρ D).bind fun r => (chgO (pRem r.1) i ρ r.2).map fun z => (.nx, z.1, z.2)
  | .upd i e, ρ, D => (ev Φ e ρ D).bind fun r => (chg (pUpd r.1) i ρ r.2).map fun z => (.nx, z.1, z.2)
  | .pop p i, ρ, D => match ρ[i]? with
    | some (some (true, .lst xs)) => (xs.getLast?).bind fun y => (bindP p y (ρ.set i (some (true, .lst xs.dropLast)))).map fun ρ1 => (.nx, ρ1, D)
    | _ => none
  | .pop0 p i, ρ, D => match ρ[i]? with
    | some (some (true, .lst (y :: xs))) => (bindP p y (ρ.set i (some (true, .lst xs)))).map fun ρ1 => (.nx, ρ1, D)
    | _ => none
  | .expr e, ρ, D => (ev Φ e ρ D).map fun r => (.nx, ρ, r.2)
  | .ret e, ρ, D => (ev Φ e ρ D).map fun r => (.rt r.1, ρ, r.2)
  | .retN, ρ, D => some (.rt .non, ρ, D)
  | .ife c a b, ρ, D => (ev Φ c ρ D).bind fun r => (blOf r.1).bind fun z => if z then exs Φ a ρ r.2 else exs Φ b ρ r.2
  | .whl c b, ρ, D => whlL (fun ρ D => (ev Φ c ρ D).bind fun r => (blOf r.1).map fun z => (z, r.2)) (fun ρ D => exs Φ b ρ D) WH ρ D
  | .for_ t it b, ρ, D => (evi Φ it ρ D).bind fun r => forL (fun x ρ D => (bindP t x ρ).bind fun ρ1 => exs Φ b ρ1 D) r.1 ρ r.2
  | .brk, ρ, D => some (.bk, ρ, D)
  | .cnt, ρ, D => some (.ct, ρ, D)
  | .pass, ρ, D => some (.nx, ρ, D)
def exs (Φ : Fns) : CSs → Envi → DS → XR
  | .nil, ρ, D => some (.nx, ρ, D)
  | .frz is r, ρ, D => exs Φ r (frzL ρ is) D
  | .cons s r, ρ, D => (ex Φ s ρ D).bind fun q => match q.1 with
    | .nx => exs Φ r q.2.1 q.2.2
    | _ => some q
end
/-- no shared object in it -/
def noShr : Nat → PV → Bool
  | _, .shr _ => false
  | _, .lck _ => false
  | n + 1, .tup xs => xs.all (noShr n)
  | n + 1, .lst xs => xs.all (noShr n)
  | n + 1, .dct _ kvs => kvs.all fun p => noShr n p.1 && noShr n p.2
  | 0, .tup _ => false
  | 0, .lst _ => false
  | 0, .dct _ _ => false
  | _, _ => true
/-- a def: n names in all, the first are the parameters -/
structure Def where
  nn : Nat
  np : Nat
  body : CSs
def Def.run (Φ : Fns) (d : Def) (args : List PV) (D : DS) : Option (PV × DS) :=
  if args.length = d.np then
    (exs Φ d.body (args.map (fun x => some (false, x)) ++ List.replicate (d.nn - d.np) none) D).bind fun q =>
      (match q.1 with
        | .rt x => some x
        | .nx => some .non
        | _ => none).bind fun x => if q.2.2.length = D.length then some (x, q.2.2) else if noShr DEP x && (q.2.2.take D.length).all (noShr DEP) then some (x, q.2.2.take D.length) else none
  else none
/-- all defs of a program, by the depth of their calls -/
def sem (defs : List Def) : Nat → Fns
  | 0, _, _, _ => none
  | n + 1, g, args, D => (defs[g]?).bind fun d => d.run (sem defs n) args D
end MP

/-! MP rep: how values, slots and shared objects lie in the layer's abstract heap. -/
namespace MP
open PySem PySem.Spec PyProof.Rows L2

def kPV : Key → PV
  | .inl i => .int i
  | .inr s => .str s
mutual
/-- v is the tree x, its objects in G; the shared objects stand at as -/
inductive Tr (as : List Addr) (K : PySem.W.Frag) (G : Hp) : V → PV → Prop
  | non : Tr as K G .non .non
  | bl (b : Bool) : Tr as K G (.bl b) (.bl b)
  | int (i : Int) : Tr as K G (.int i) (.int i)
  | str (s : Str) : Tr as K G (.str s) (.str s)
  | tup {a : Addr} {vs : List V} {xs : List PV} : G a = some (.tup vs) → TrS as K G vs xs → Tr as K G (.ref a) (.tup xs)
  | lst {a : Addr} {vs : List V} {xs : List PV} : G a = some (.lst vs) → TrS as K G vs xs → Tr as K G (.ref a) (.lst xs)
  | dK {a : Addr} {ks : List (Key × V)} {kvs : List (PV × PV)} : Rd G a (.dK ks) → TrK as K G ks kvs → Tr as K G (.ref a) (.dct 0 kvs)
  | dT {a : Addr} {ks : List (List Key × V)} {kvs : List (PV × PV)} : Rd G a (.dT ks) → TrT as K G ks kvs → Tr as K G (.ref a) (.dct 1 kvs)
  | shr {j : Nat} {a : Addr} : as[j]? = some a → Tr as K G (.ref a) (.shr j)
  | scr {a : Addr} {ns : List Int} : SqL K G a (ns.map V.int) → Tr as K G (.ref a) (.scr ns)
inductive TrS (as : List Addr) (K : PySem.W.Frag) (G : Hp) : List V → List PV → Prop
  | nil : TrS as K G [] []
  | cons {v : V} {x : PV} {vs : List V} {xs : List PV} : Tr as K G v x → TrS as K G vs xs → TrS as K G (v :: vs) (x :: xs)
inductive TrK (as : List Addr) (K : PySem.W.Frag) (G : Hp) : List (Key × V) → List (PV × PV) → Prop
  | nil : TrK as K G [] []
  | cons {k : Key} {v : V} {x : PV} {ks : List (Key × V)} {kvs : List (PV × PV)} : Tr as K G v x → TrK as K G ks kvs → TrK as K G ((k, v) :: ks) ((kPV k, x) :: kvs)
inductive TrT (as : List Addr) (K : PySem.W.Frag) (G : Hp) : List (List Key × V) → List (PV × PV) → Prop
  | nil : TrT as K G [] []
  | cons {k : List Key} {v : V} {x : PV} {ks : List (List Key × V)} {kvs : List (PV × PV)} : Tr as K G v x → TrT as K G ks kvs → TrT as K G ((k, v) :: ks) ((.tup (k.map kPV), x) :: kvs)
end

/-- what G tells, G' tells -/
structure Le (G G' : Hp) : Prop where
  pl : ∀ b o, (∀ c u, o ≠ .frz c u) → (∀ u, o ≠ .dK u) → (∀ u, o ≠ .dT u) → G b = some o → G' b = some o
  rd' : ∀ b u, (∀ c v, u ≠ HO.frz c v) → Rd G b u → Rd G' b u
theorem Le.rd {G G' : Hp} (l : Le G G') (b : Addr) (u : HO) (h : Rd G b u) (hn : ∀ c v, u ≠ HO.frz c v := by intro _ _ z; cases z) : Rd G' b u := l.rd' b u hn h
theorem Le.refl (G : Hp) : Le G G := ⟨fun _ _ _ _ _ h => h, fun _ _ _ h => h⟩
theorem Le.trans {G G1 G2 : Hp} (a : Le G G1) (b : Le G1 G2) : Le G G2 := ⟨fun c o h1 h2 h3 h => b.pl c o h1 h2 h3 (a.pl c o h1 h2 h3 h), fun c u hn h => b.rd' c u hn (a.rd' c u hn h)⟩
theorem Le.of {G G' : Hp} (h : ∀ b o, G b = some o → G' b = some o) : Le G G' := ⟨fun b o _ _ _ => h b o, fun b u _ r => by
  rcases r with r | ⟨o, r⟩
  · exact .inl (h _ _ r)
  · exact .inr ⟨o, h _ _ r⟩⟩
theorem Le.lst {G G' : Hp} (l : Le G G') {a : Addr} {vs : List V} (h : G a = some (.lst vs)) : G' a = some (.lst vs) := l.pl a _ (fun _ _ z => nomatch z) (fun _ z => nomatch z) (fun _ z => nomatch z) h
theorem Le.tup {G G' : Hp} (l : Le G G') {a : Addr} {vs : List V} (h : G a = some (.tup vs)) : G' a = some (.tup vs) := l.pl a _ (fun _ _ z => nomatch z) (fun _ z => nomatch z) (fun _ z => nomatch z) h
theorem Le.sq {G G' : Hp} (l : Le G G') {K : PySem.W.Frag} {a : Addr} {vs : List V} (h : SqL K G a vs) : SqL K G' a vs := by
  rcases h with h | h
  · exact .inl (l.rd _ _ h)
  · exact .inr h
theorem pre_get {as : List Addr} (more : List Addr) {j : Nat} {a : Addr} (h : as[j]? = some a) : (as ++ more)[j]? = some a := by
  rw [List.getElem?_append_left (List.getElem?_eq_some_iff.mp h).1]; exact h
section
variable {as : List Addr} {K : PySem.W.Frag} {G G' : Hp}
mutual
theorem Tr.mono (l : Le G G') (more : List Addr) : ∀ {v : V} {x : PV}, Tr as K G v x → Tr (as ++ more) K G' v x
  | _, _, .non => .non
  | _, _, .bl b => .bl b
  | _, _, .int i => .int i
  | _, _, .str s => .str s
  | _, _, .tup h t => .tup (l.tup h) (TrS.mono l more t)
  | _, _, .lst h t => .lst (l.lst h) (TrS.mono l more t)
  | _, _, .dK h t => .dK (l.rd _ _ h) (TrK.mono l more t)
  | _, _, .dT h t => .dT (l.rd _ _ h) (TrT.mono l more t)
  | _, _, .shr h => .shr (pre_get more h)
  | _, _, .scr h => .scr (l.sq h)
theorem TrS.mono (l : Le G G') (more : List Addr) : ∀ {vs : List V} {xs : List PV}, TrS as K G vs xs → TrS (as ++ more) K G' vs xs
  | _, _, .nil => .nil
  | _, _, .cons h t => .cons (Tr.mono l more h) (TrS.mono l more t)
theorem TrK.mono (l : Le G G') (more : List Addr) : ∀ {vs : List (Key × V)} {xs : List (PV × PV)}, TrK as K G vs xs → TrK (as ++ more) K G' vs xs
  | _, _, .nil => .nil
  | _, _, .cons h t => .cons (Tr.mono l more h) (TrK.mono l more t)
theorem TrT.mono (l : Le G G') (more : List Addr) : ∀ {vs : List (List Key × V)} {xs : List (PV × PV)}, TrT as K G vs xs → TrT (as ++ more) K G' vs xs
  | _, _, .nil => .nil
  | _, _, .cons h t => .cons (Tr.mono l more h) (TrT.mono l more t)
end
theorem Tr.up (l : Le G G') {v : V} {x : PV} (h : Tr as K G v x) : Tr as K G' v x := by simpa using h.mono l []
theorem TrS.up (l : Le G G') {v : List V} {x : List PV} (h : TrS as K G v x) : TrS as K G' v x := by simpa using h.mono l []
theorem TrK.up (l : Le G G') {v : List (Key × V)} {x : List (PV × PV)} (h : TrK as K G v x) : TrK as K G' v x := by simpa using h.mono l []
theorem TrT.up (l : Le G G') {v : List (List Key × V)} {x : List (PV × PV)} (h : TrT as K G v x) : TrT as K G' v x := by simpa using h.mono l []
theorem TrS.len : ∀ {vs : List V} {xs : List PV}, TrS as K G vs xs → vs.length = xs.length
  | _, _, .nil => rfl
  | _, _, .cons _ t => congrArg Nat.succ (TrS.len t)
theorem TrK.len : ∀ {vs : List (Key × V)} {xs : List (PV × PV)}, TrK as K G vs xs → vs.length = xs.length
  | _, _, .nil => rfl
  | _, _, .cons _ t => congrArg Nat.succ (TrK.len t)
theorem TrT.len : ∀ {vs : List (List Key × V)} {xs : List (PV × PV)}, TrT as K G vs xs → vs.length = xs.length
  | _, _, .nil => rfl
  | _, _, .cons _ t => congrArg Nat.succ (TrT.len t)
theorem TrS.get : ∀ {vs : List V} {xs : List PV} {j : Nat} {x : PV}, TrS as K G vs xs → xs[j]? = some x → ∃ v, vs[j]? = some v ∧ Tr as K G v x
  | _, _, _, _, .nil, h => by simp at h
  | _, _, 0, x, .cons h t, e => by
    simp at e; subst e; exact ⟨_, rfl, h⟩
  | _, _, j + 1, x, .cons h t, e => by
    obtain ⟨v, e1, e2⟩ := TrS.get t (j := j) (by simpa using e)
    exact ⟨v, by simpa using e1, e2⟩
theorem TrS.getV : ∀ {vs : List V} {xs : List PV} {j : Nat} {v : V}, TrS as K G vs xs → vs[j]? = some v → ∃ x, xs[j]? = some x ∧ Tr as K G v x
  | _, _, _, _, .nil, h => by simp at h
  | _, _, 0, v, .cons h t, e => by
    simp at e; subst e; exact ⟨_, rfl, h⟩
  | _, _, j + 1, v, .cons h t, e => by
    obtain ⟨x, e1, e2⟩ := TrS.getV t (j := j) (by simpa using e)
    exact ⟨x, by simpa using e1, e2⟩
theorem TrS.app : ∀ {vs ws : List V} {xs ys : List PV}, TrS as K G vs xs → TrS as K G ws ys → TrS as K G (vs ++ ws) (xs ++ ys)
  | _, _, _, _, .nil, t => t
  | _, _, _, _, .cons h r, t => .cons h (TrS.app r t)
theorem TrS.take (n : Nat) : ∀ {vs : List V} {xs : List PV}, TrS as K G vs xs → TrS as K G (vs.take n) (xs.take n) := by
  induction n with
  | zero => intro vs xs _; simp; exact .nil
  | succ n ih =>
    intro vs xs h
    cases h with
    | nil => exact .nil
    | cons h t => exact .cons h (ih t)
theorem TrS.drop (n : Nat) : ∀ {vs : List V} {xs : List PV}, TrS as K G vs xs → TrS as K G (vs.drop n) (xs.drop n) := by
  induction n with
  | zero => intro vs xs h; exact h
  | succ n ih =>
    intro vs xs h
    cases h with
    | nil => exact .nil
    | cons h t => exact ih t
theorem TrS.rev : ∀ {vs : List V} {xs : List PV}, TrS as K G vs xs → TrS as K G vs.reverse xs.reverse
  | _, _, .nil => .nil
  | _, _, .cons h t => by
    rw [List.reverse_cons, List.reverse_cons]
    exact (TrS.rev t).app (.cons h .nil)
theorem TrS.set (n : Nat) {v : V} {x : PV} (hv : Tr as K G v x) : ∀ {vs : List V} {xs : List PV}, TrS as K G vs xs → TrS as K G (vs.set n v) (xs.set n x) := by
  induction n with
  | zero =>
    intro vs xs h
    cases h with
    | nil => exact .nil
    | cons h t => exact .cons hv t
  | succ n ih =>
    intro vs xs h
    cases h with
    | nil => exact .nil
    | cons h t => exact .cons h (ih t)
theorem TrS.rep {vs : List V} {xs : List PV} (h : TrS as K G vs xs) : ∀ k : Nat, TrS as K G (List.replicate k vs).flatten (List.replicate k xs).flatten
  | 0 => by simp; exact .nil
  | k + 1 => by
    rw [List.replicate_succ, List.replicate_succ, List.flatten_cons, List.flatten_cons]
    exact h.app (TrS.rep h k)
theorem TrS.cut {vs : List V} {xs : List PV} (h : TrS as K G vs xs) (lo hi : Option Int) : TrS as K G (cutL vs lo hi) (cutL xs lo hi) := by
  unfold cutL
  rw [h.len]
  exact (h.drop _).take _
theorem TrS.ints {as : List Addr} : ∀ (ns : List Int), TrS as K G (ns.map V.int) (ns.map PV.int)
  | [] => .nil
  | _ :: r => .cons (.int _) (TrS.ints r)
end

/-! ### the world: what is shared -/
/-- the object at a holds x by itself -/
def OwnO (as : List Addr) (K : PySem.W.Frag) (G H : Hp) (a : Addr) : PV → Prop
  | .lst xs => ∃ vs, H a = some (.lst vs) ∧ TrS as K G vs xs
  | .dct t kvs => (t = 0 ∧ ∃ ks, H a = some (.dK ks) ∧ TrK as K G ks kvs) ∨ (t = 1 ∧ ∃ ks, H a = some (.dT ks) ∧ TrT as K G ks kvs)
  | _ => False
/-- .. or is locked meanwhile -/
def OwnR (as : List Addr) (K : PySem.W.Frag) (G H : Hp) (a : Addr) : PV → Prop
  | .lst xs => ∃ vs, H a = some (.lst vs) ∧ TrS as K G vs xs
  | .dct t kvs => (t = 0 ∧ ∃ ks, Rd H a (.dK ks) ∧ TrK as K G ks kvs) ∨ (t = 1 ∧ ∃ ks, Rd H a (.dT ks) ∧ TrT as K G ks kvs)
  | _ => False
def OwnS (as : List Addr) (K : PySem.W.Frag) (G H : Hp) (a : Addr) : PV → Prop
  | .lck x => OwnR as K G H a x
  | x => OwnO as K G H a x
theorem OwnO.r {as : List Addr} {K : PySem.W.Frag} {G H : Hp} {a : Addr} {x : PV} (h : OwnO as K G H a x) : OwnR as K G H a x := by
  cases x with
  | lst xs => exact h
  | dct t kvs =>
    rcases h with ⟨e, ks, h1, h2⟩ | ⟨e, ks, h1, h2⟩
    · exact .inl ⟨e, ks, .inl h1, h2⟩
    · exact .inr ⟨e, ks, .inl h1, h2⟩
  | _ => exact h
theorem OwnO.up {as : List Addr} {K : PySem.W.Frag} {G H G' H' : Hp} {a : Addr} {x : PV} (l : Le G G') (e : H' a = H a) (more : List Addr) (h : OwnO as K G H a x) : OwnO (as ++ more) K G' H' a x := by
  cases x with
  | lst xs =>
    obtain ⟨vs, h1, h2⟩ := h
    exact ⟨vs, e.trans h1, h2.mono l more⟩
  | dct t kvs =>
    rcases h with ⟨et, ks, h1, h2⟩ | ⟨et, ks, h1, h2⟩
    · exact .inl ⟨et, ks, e.trans h1, h2.mono l more⟩
    · exact .inr ⟨et, ks, e.trans h1, h2.mono l more⟩
  | _ => exact h
theorem rd_at {H H' : Hp} {a : Addr} {u : HO} (e : H' a = H a) (h : Rd H a u) : Rd H' a u := by
  rcases h with h | ⟨o, h⟩
  · exact .inl (e.trans h)
  · exact .inr ⟨o, e.trans h⟩
theorem OwnR.up {as : List Addr} {K : PySem.W.Frag} {G H G' H' : Hp} {a : Addr} {x : PV} (l : Le G G') (e : H' a = H a) (more : List Addr) (h : OwnR as K G H a x) : OwnR (as ++ more) K G' H' a x := by
  cases x with
  | lst xs =>
    obtain ⟨vs, h1, h2⟩ := h
    exact ⟨vs, e.trans h1, h2.mono l more⟩
  | dct t kvs =>
    rcases h with ⟨et, ks, h1, h2⟩ | ⟨et, ks, h1, h2⟩
    · exact .inl ⟨et, ks, rd_at e h1, h2.mono l more⟩
    · exact .inr ⟨et, ks, rd_at e h1, h2.mono l more⟩
  | _ => exact h
theorem OwnS.up {as : List Addr} {K : PySem.W.Frag} {G H G' H' : Hp} {a : Addr} {x : PV} (l : Le G G') (e : H' a = H a) (more : List Addr) (h : OwnS as K G H a x) : OwnS (as ++ more) K G' H' a x := by
  cases x with
  | lck y => exact OwnR.up (x := y) l e more h
  | lst xs => exact OwnO.up (x := .lst xs) l e more h
  | dct t kvs => exact OwnO.up (x := .dct t kvs) l e more h
  | _ => exact h
theorem OwnO.some {as : List Addr} {K : PySem.W.Frag} {G H : Hp} {a : Addr} {x : PV} (h : OwnO as K G H a x) : H a ≠ none := by
  cases x with
  | lst xs => obtain ⟨vs, h1, _⟩ := h; rw [h1]; exact fun z => nomatch z
  | dct t kvs =>
    rcases h with ⟨_, ks, h1, _⟩ | ⟨_, ks, h1, _⟩
    · rw [h1]; exact fun z => nomatch z
    · rw [h1]; exact fun z => nomatch z
  | _ => exact absurd h id
theorem rd_some {H : Hp} {a : Addr} {u : HO} (h : Rd H a u) : H a ≠ none := by
  rcases h with h | ⟨o, h⟩ <;> rw [h] <;> exact fun z => nomatch z
theorem OwnR.some {as : List Addr} {K : PySem.W.Frag} {G H : Hp} {a : Addr} {x : PV} (h : OwnR as K G H a x) : H a ≠ none := by
  cases x with
  | lst xs => obtain ⟨vs, h1, _⟩ := h; rw [h1]; exact fun z => nomatch z
  | dct t kvs =>
    rcases h with ⟨_, ks, h1, _⟩ | ⟨_, ks, h1, _⟩
    · exact rd_some h1
    · exact rd_some h1
  | _ => exact absurd h id
theorem OwnS.some {as : List Addr} {K : PySem.W.Frag} {G H : Hp} {a : Addr} {x : PV} (h : OwnS as K G H a x) : H a ≠ none := by
  cases x with
  | lck y => exact OwnR.some (x := y) h
  | lst xs => exact OwnO.some (x := .lst xs) h
  | dct t kvs => exact OwnO.some (x := .dct t kvs) h
  | _ => exact absurd h id

structure Wd (as : List Addr) (K : PySem.W.Frag) (G H : Hp) (D : DS) : Prop where
  sub : ∀ b o, G b = some o → H b = some o
  nd : as.Nodup
  len : as.length = D.length
  off : ∀ a ∈ as, G a = none
  sh : ∀ (j : Nat) (a : Addr) (x : PV), as[j]? = some a → D[j]? = some x → OwnS as K G H a x
/-- a step: nothing but the shared objects has changed; what is new of G is new -/
structure Stp (as : List Addr) (G H G' H' : Hp) : Prop where
  le : Le G G'
  nw : ∀ b, G' b ≠ none → G b ≠ none ∨ H b = none
  kp : ∀ b o, b ∉ as → H b = some o → H' b = some o
  sm : ∀ b, H b ≠ none → H' b ≠ none
theorem Stp.refl (as : List Addr) (G H : Hp) : Stp as G H G H := ⟨Le.refl G, fun _ h => .inl h, fun _ _ _ h => h, fun _ h => h⟩
theorem Stp.trans {as : List Addr} {G H G1 H1 G2 H2 : Hp} (a : Stp as G H G1 H1) (b : Stp as G1 H1 G2 H2) : Stp as G H G2 H2 :=
  ⟨a.le.trans b.le, fun c h => by
    rcases b.nw c h with h | h
    · exact a.nw c h
    · right
      cases e : H c with
      | none => rfl
      | some o => exact absurd h (a.sm c (by rw [e]; exact fun z => nomatch z)),
   fun c o hc h => b.kp c o hc (a.kp c o hc h), fun c h => b.sm c (a.sm c h)⟩
/-- a new object, told by G too -/
theorem Stp.new {as : List Addr} {G H : Hp} {p : Addr} {o : HO} (hp : H p = none) (hG : G p = none) : Stp as G H (upd G p o) (upd H p o) :=
  ⟨Le.of fun b u h => by rw [upd_ne (ne_of_none h hG)]; exact h, fun b h => by
    by_cases e : b = p
    · right; rw [e]; exact hp
    · left; rwa [upd_ne e] at h, fun b u _ h => by rw [upd_ne (ne_of_none h hp)]; exact h, fun b h => by
    by_cases e : b = p
    · rw [e, upd_same]; exact fun z => nomatch z
    · rw [upd_ne e]; exact h⟩
/-- a new object that G does not tell -/
theorem Stp.own {as : List Addr} {G H : Hp} {p : Addr} {o : HO} (hp : H p = none) : Stp as G H G (upd H p o) :=
  ⟨Le.refl G, fun _ h => .inl h, fun b u _ h => by rw [upd_ne (ne_of_none h hp)]; exact h, fun b h => by
    by_cases e : b = p
    · rw [e, upd_same]; exact fun z => nomatch z
    · rw [upd_ne e]; exact h⟩
section
variable {as : List Addr} {K : PySem.W.Frag} {G H : Hp} {D : DS} {p : Addr} {o : HO}
theorem Wd.free (w : Wd as K G H D) (hp : H p = none) : G p = none := by
  cases e : G p with
  | none => rfl
  | some u => rw [w.sub p u e] at hp; cases hp
theorem Wd.offp (w : Wd as K G H D) (hp : H p = none) : p ∉ as := fun hm => by
  obtain ⟨j, hj⟩ := List.getElem?_of_mem hm
  have hl := (List.getElem?_eq_some_iff.mp hj).1
  have hl2 : j < D.length := by rw [← w.len]; exact hl
  exact (w.sh j p D[j] hj (List.getElem?_eq_getElem hl2)).some hp
theorem Wd.new (w : Wd as K G H D) (hp : H p = none) : Wd as K (upd G p o) (upd H p o) D where
  sub := fun b u h => by
    by_cases e : b = p
    · rw [e, upd_same] at h ⊢; exact h
    · rw [upd_ne e] at h ⊢; exact w.sub b u h
  nd := w.nd
  len := w.len
  off := fun a ha => by rw [upd_ne fun e => w.offp hp (by rw [← e]; exact ha)]; exact w.off a ha
  sh := fun j a x h1 h2 => by
    have ha : a ≠ p := fun e => w.offp hp (by rw [← e]; exact List.mem_of_getElem? h1)
    have := (w.sh j a x h1 h2).up (G' := upd G p o) (H' := upd H p o) (Le.of fun b u h => by rw [upd_ne (ne_of_none h (w.free hp))]; exact h) (upd_ne ha) []
    simpa using this
theorem Wd.ownp (w : Wd as K G H D) (hp : H p = none) : Wd as K G (upd H p o) D where
  sub := fun b u h => by rw [upd_ne (ne_of_none h (w.free hp))]; exact w.sub b u h
  nd := w.nd
  len := w.len
  off := w.off
  sh := fun j a x h1 h2 => by
    have ha : a ≠ p := fun e => w.offp hp (by rw [← e]; exact List.mem_of_getElem? h1)
    have := (w.sh j a x h1 h2).up (G' := G) (H' := upd H p o) (Le.refl G) (upd_ne ha) []
    simpa using this
end

/-! ### the slots -/
structure Rp (as : List Addr) (K : PySem.W.Frag) (G H : Hp) (σ : L2.St) (ρ : Envi) : Prop where
  len : σ.length = ρ.length
  frz : ∀ (i : Nat) (x : PV), ρ[i]? = some (some (false, x)) → ∃ v, σ[i]? = some (some v) ∧ Tr as K G v x
  own : ∀ (i : Nat) (x : PV), ρ[i]? = some (some (true, x)) → ∃ a, σ[i]? = some (some (.ref a)) ∧ G a = none ∧ a ∉ as ∧ OwnR as K G H a x
  dis : ∀ (i j : Nat) (x y : PV) (a : Addr), ρ[i]? = some (some (true, x)) → ρ[j]? = some (some (true, y)) → σ[i]? = some (some (.ref a)) → σ[j]? = some (some (.ref a)) → i = j
/-- none of the slots' own objects is locked -/
def Pln (as : List Addr) (K : PySem.W.Frag) (G H : Hp) (σ : L2.St) (ρ : Envi) : Prop :=
  ∀ (i : Nat) (x : PV) (a : Addr), ρ[i]? = some (some (true, x)) → σ[i]? = some (some (.ref a)) → OwnO as K G H a x
theorem Rp.up {as : List Addr} {K : PySem.W.Frag} {G H G' H' : Hp} {σ : L2.St} {ρ : Envi} (r : Rp as K G H σ ρ) (st : Stp as G H G' H') : Rp as K G' H' σ ρ where
  len := r.len
  frz := fun i x h => by
    obtain ⟨v, e, t⟩ := r.frz i x h
    exact ⟨v, e, t.up st.le⟩
  own := fun i x h => by
    obtain ⟨a, e, g, n, o⟩ := r.own i x h
    have hs := o.some
    refine ⟨a, e, ?_, n, ?_⟩
    · cases q : G' a with
      | none => rfl
      | some u =>
        rcases st.nw a (by rw [q]; exact fun z => nomatch z) with z | z
        · exact absurd g z
        · exact absurd z hs
    · cases q : H a with
      | none => exact absurd q hs
      | some u =>
        have := o.up (G' := G') (H' := H') st.le ((st.kp a u n q).trans q.symm) []
        simpa using this
  dis := r.dis
theorem Pln.up {as : List Addr} {K : PySem.W.Frag} {G H G' H' : Hp} {σ : L2.St} {ρ : Envi} (r : Rp as K G H σ ρ) (p : Pln as K G H σ ρ) (st : Stp as G H G' H') : Pln as K G' H' σ ρ := fun i x a h1 h2 => by
  obtain ⟨b, e, g, n, o⟩ := r.own i x h1
  have e2 : a = b := by
    rw [e] at h2
    cases h2; rfl
  subst e2
  have o2 := p i x a h1 h2
  cases q : H a with
  | none => exact absurd q o2.some
  | some u =>
    have := o2.up (G' := G') (H' := H') st.le ((st.kp a u n q).trans q.symm) []
    simpa using this

/-- an operand: a tree, or what a slot holds by itself -/
def TrO (as : List Addr) (K : PySem.W.Frag) (G H : Hp) (v : V) (x : PV) : Prop :=
  Tr as K G v x ∨ ∃ a, v = .ref a ∧ G a = none ∧ a ∉ as ∧ OwnR as K G H a x
theorem TrO.up {as : List Addr} {K : PySem.W.Frag} {G H G' H' : Hp} {v : V} {x : PV} (r : TrO as K G H v x) (st : Stp as G H G' H') : TrO as K G' H' v x := by
  rcases r with t | ⟨a, e, g, n, o⟩
  · exact .inl (t.up st.le)
  · have hs := o.some
    refine .inr ⟨a, e, ?_, n, ?_⟩
    · cases q : G' a with
      | none => rfl
      | some u =>
        rcases st.nw a (by rw [q]; exact fun z => nomatch z) with z | z
        · exact absurd g z
        · exact absurd z hs
    · cases q : H a with
      | none => exact absurd q hs
      | some u =>
        have := o.up (G' := G') (H' := H') st.le ((st.kp a u n q).trans q.symm) []
        simpa using this
/-- how an operand is read: shared objects by what they hold -/
def TrR (as : List Addr) (K : PySem.W.Frag) (G H : Hp) (v : V) (x : PV) : Prop :=
  Tr as K G v x ∨ ∃ a, v = .ref a ∧ OwnR as K G H a x
theorem TrO.r {as : List Addr} {K : PySem.W.Frag} {G H : Hp} {v : V} {x : PV} (r : TrO as K G H v x) : TrR as K G H v x := by
  rcases r with t | ⟨a, e, _, _, o⟩
  · exact .inl t
  · exact .inr ⟨a, e, o⟩
theorem TrO.opd {as : List Addr} {K : PySem.W.Frag} {G H : Hp} {D : DS} {v : V} {x y : PV} (w : Wd as K G H D) (r : TrO as K G H v x) (h : opd D x = some y) : TrR as K G H v y := by
  have other : ∀ z, MP.opd D x = some z → (∀ j, x ≠ .shr j) → z = x := fun z hz hn => by
    cases x <;> first | (exact absurd rfl (hn _)) | (unfold MP.opd at hz; cases hz; rfl)
  by_cases hx : ∃ j, x = .shr j
  · obtain ⟨j, rfl⟩ := hx
    have hD : ∃ z, D[j]? = some z ∧ y = (match z with | .lck t => t | t => t) := by
      have h' : (D[j]?).map (fun x => match x with | PV.lck y => y | y => y) = some y := h
      cases q : D[j]? with
      | none => rw [q] at h'; cases h'
      | some z => rw [q] at h'; cases h'; exact ⟨z, rfl, rfl⟩
    obtain ⟨z, hz, rfl⟩ := hD
    rcases r with t | ⟨a, e, _, _, o⟩
    · cases t with
      | shr ha =>
        have s := w.sh j _ z ha hz
        refine .inr ⟨_, rfl, ?_⟩
        cases z with
        | lck t => exact s
        | lst xs => exact OwnO.r (x := .lst xs) s
        | dct t kvs => exact OwnO.r (x := .dct t kvs) s
        | _ => exact absurd s id
    · exact absurd o id
  · have := other y h fun j e => hx ⟨j, e⟩
    subst this
    exact r.r
end MP

/-! MP ops: the operators by values. -/
namespace MP
open PySem PySem.Spec PyProof.Rows L2

theorem line_lim {n : Nat} (h : n ≤ LIM) : n ≤ sizeLine := by rw [sizeLine_eq]; have : LIM = 1000000 := rfl; omega
/-- what is wanted of a value that is z -/
def Fin_ (as : List Addr) (K : PySem.W.Frag) (G H : Hp) (D : DS) (z : PV) (Q : VK) : Prop := ∀ v G' H', Stp as G H G' H' → Wd as K G' H' D → Tr as K G' v z → Q v H'
section
variable {as : List Addr} {K : PySem.W.Frag} {G H : Hp} {D : DS} {x y : V} {z : PV} {Q : VK}
theorem Fin_.same (f : Fin_ as K G H D z Q) (w : Wd as K G H D) {v : V} (t : Tr as K G v z) : Q v H := f v G H (Stp.refl as G H) w t
theorem Fin_.new (f : Fin_ as K G H D z Q) (w : Wd as K G H D) {p : Addr} {o : HO} (hp : H p = none) (t : Tr as K (upd G p o) (.ref p) z) : Q (.ref p) (upd H p o) :=
  f _ _ _ (Stp.new hp (w.free hp)) (w.new hp) t
theorem le_new {p : Addr} {o : HO} (hG : G p = none) : Le G (upd G p o) := Le.of fun b u h => by rw [upd_ne (ne_of_none h hG)]; exact h
/-- what is wanted of a new object that is z: G does not tell it -/
def FinF (as : List Addr) (K : PySem.W.Frag) (G H : Hp) (D : DS) (z : PV) (Q : VK) : Prop := ∀ p o, H p = none → OwnO as K G (upd H p o) p z → Q (.ref p) (upd H p o)
theorem OwnO.tell {p : Addr} {o : HO} (hp : H p = none) (w : Wd as K G H D) (h : OwnO as K G (upd H p o) p z) : Tr as K (upd G p o) (.ref p) z := by
  have l : Le G (upd G p o) := le_new (w.free hp)
  cases z with
  | lst xs =>
    obtain ⟨vs, h1, h2⟩ := h
    rw [upd_same] at h1
    cases h1
    exact .lst upd_same (h2.up l)
  | dct t kvs =>
    rcases h with ⟨rfl, ks, h1, h2⟩ | ⟨rfl, ks, h1, h2⟩
    · rw [upd_same] at h1
      cases h1
      exact .dK (.of upd_same) (h2.up l)
    · rw [upd_same] at h1
      cases h1
      exact .dT (.of upd_same) (h2.up l)
  | _ => exact absurd h id
theorem Fin_.toF (w : Wd as K G H D) (f : Fin_ as K G H D z Q) : FinF as K G H D z Q := fun p o hp h => f _ _ _ (Stp.new hp (w.free hp)) (w.new hp) (h.tell hp w)
theorem TrR.int {i : Int} (r : TrR as K G H x (.int i)) : x = .int i := by
  rcases r with t | ⟨a, _, o⟩
  · cases t; rfl
  · exact absurd o id
theorem TrR.bl {i : Bool} (r : TrR as K G H x (.bl i)) : x = .bl i := by
  rcases r with t | ⟨a, _, o⟩
  · cases t; rfl
  · exact absurd o id
theorem TrR.non (r : TrR as K G H x .non) : x = .non := by
  rcases r with t | ⟨a, _, o⟩
  · cases t; rfl
  · exact absurd o id
theorem TrR.str {i : Str} (r : TrR as K G H x (.str i)) : x = .str i := by
  rcases r with t | ⟨a, _, o⟩
  · cases t; rfl
  · exact absurd o id
theorem TrR.lst {xs : List PV} (w : Wd as K G H D) (r : TrR as K G H x (.lst xs)) : ∃ a vs, x = .ref a ∧ H a = some (.lst vs) ∧ TrS as K G vs xs := by
  rcases r with t | ⟨a, e, vs, h, t⟩
  · cases t with
    | lst h t => exact ⟨_, _, rfl, w.sub _ _ h, t⟩
  · exact ⟨a, vs, e, h, t⟩
theorem TrR.tup {xs : List PV} (w : Wd as K G H D) (r : TrR as K G H x (.tup xs)) : ∃ a vs, x = .ref a ∧ H a = some (.tup vs) ∧ G a = some (.tup vs) ∧ TrS as K G vs xs := by
  rcases r with t | ⟨a, _, o⟩
  · cases t with
    | tup h t => exact ⟨_, _, rfl, w.sub _ _ h, h, t⟩
  · exact absurd o id
theorem rd_sub (w : Wd as K G H D) {a : Addr} {u : HO} (h : Rd G a u) : Rd H a u := by
  rcases h with h | ⟨o, h⟩
  · exact .inl (w.sub _ _ h)
  · exact .inr ⟨o, w.sub _ _ h⟩
theorem TrR.dct {t : Nat} {xs : List (PV × PV)} (w : Wd as K G H D) (r : TrR as K G H x (.dct t xs)) :
    (t = 0 ∧ ∃ a ks, x = .ref a ∧ Rd H a (.dK ks) ∧ TrK as K G ks xs) ∨ (t = 1 ∧ ∃ a ks, x = .ref a ∧ Rd H a (.dT ks) ∧ TrT as K G ks xs) := by
  rcases r with t | ⟨a, e, o⟩
  · cases t with
    | dK h t => exact .inl ⟨rfl, _, _, rfl, rd_sub w h, t⟩
    | dT h t => exact .inr ⟨rfl, _, _, rfl, rd_sub w h, t⟩
  · rcases o with ⟨e1, ks, h, t⟩ | ⟨e1, ks, h, t⟩
    · exact .inl ⟨e1, a, ks, e, h, t⟩
    · exact .inr ⟨e1, a, ks, e, h, t⟩
theorem TrR.scr {ns : List Int} (w : Wd as K G H D) (r : TrR as K G H x (.scr ns)) : ∃ a, x = .ref a ∧ SqL K H a (ns.map V.int) := by
  rcases r with t | ⟨a, _, o⟩
  · cases t with
    | scr h =>
      refine ⟨_, rfl, ?_⟩
      rcases h with h | h
      · exact .inl (rd_sub w h)
      · exact .inr h
  · exact absurd o id
end

def boT : Bo → Operator
  | .add => .Add | .sub => .Sub | .mul => .Mult | .div => .FloorDiv | .mod => .Mod | .pow => .Pow | .shr => .RShift | .shl => .LShift | .band => .BitAnd | .cat => .Add | .rep => .Mult
def rBinM (K : PySem.W.Frag) (op : Bo) : R2 := fun x y H Q => ∃ as G D px py z, Wd as K G H D ∧ TrR as K G H x px ∧ TrR as K G H y py ∧ pBin op px py = some z ∧ Fin_ as K G H D z Q
section
variable {X : Cx}
/-- t * k of any size: as far as it is served -/
theorem rep_small {α : Type} (xs : List α) (k : Int) (h : k ≤ 1) : (List.replicate k.toNat xs).flatten = if k = 1 then xs else [] := by
  by_cases e : k = 1
  · subst e; simp
  · have : k.toNat = 0 := by omega
    rw [this]; simp [e]
theorem op_binM (op : Bo) : OpR X (binaryOp (boT op)) (rBinM X.K op) := by
  intro pins s σ H x y v u Q I rx ry h
  obtain ⟨as, G, D, px, py, z, w, hx, hy, e, f⟩ := h
  cases op with
  | add =>
    cases px <;> cases py <;> try (cases e; done)
    case int.int a b =>
      cases e
      obtain rfl := hx.int
      obtain rfl := hy.int
      exact op_add pins s σ H _ _ v u Q I rx ry ⟨_, _, rfl, rfl, f.same w (.int _)⟩
    case str.str a b =>
      obtain rfl := hx.str
      obtain rfl := hy.str
      have e' : (if a.length + b.length ≤ LIM then some (PV.str (a ++ b)) else none) = some z := e
      split at e'
      · rename_i hl
        cases e'
        exact op_add_str pins s σ H _ _ v u Q I rx ry ⟨_, _, rfl, rfl, line_lim hl, f.same w (.str _)⟩
      · cases e'
    case lst.lst a b =>
      obtain ⟨p, vs, rfl, h1, t1⟩ := hx.lst w
      obtain ⟨q, ws, rfl, h2, t2⟩ := hy.lst w
      have e' : (if a.length + b.length ≤ LIM then some (PV.lst (a ++ b)) else none) = some z := e
      split at e'
      · rename_i hl
        cases e'
        refine op_cat pins s σ H _ _ v u Q I rx ry ⟨_, _, _, _, rfl, rfl, h1, h2, by rw [t1.len, t2.len]; exact line_lim hl, fun r hr => ?_⟩
        exact f.new w hr (.lst upd_same ((t1.app t2).up (le_new (w.free hr))))
      · cases e'
    case tup.tup a b =>
      obtain ⟨p, vs, rfl, h1, g1, t1⟩ := hx.tup w
      obtain ⟨q, ws, rfl, h2, g2, t2⟩ := hy.tup w
      have e' : (if a.length + b.length ≤ LIM then some (PV.tup (a ++ b)) else none) = some z := e
      split at e'
      · rename_i hl
        cases e'
        refine op_catA pins s σ H _ _ v u Q I rx ry ⟨_, _, _, _, rfl, rfl, .of h1, .of h2, by rw [t1.len, t2.len]; exact line_lim hl, fun n1 => ?_, fun _ n2 => ?_, fun _ _ r hr => ?_⟩
        · subst n1
          cases t1
          exact f.same w (.tup g2 t2)
        · subst n2
          cases t2
          rw [List.append_nil] at f
          exact f.same w (.tup g1 t1)
        · exact f.new w hr (.tup upd_same ((t1.app t2).up (le_new (w.free hr))))
      · cases e'
  | sub =>
    cases px <;> cases py <;> try (cases e; done)
    case int.int a b =>
      cases e
      obtain rfl := hx.int
      obtain rfl := hy.int
      exact op_sub pins s σ H _ _ v u Q I rx ry ⟨_, _, rfl, rfl, f.same w (.int _)⟩
  | mul =>
    cases px <;> cases py <;> try (cases e; done)
    case int.int a b =>
      obtain rfl := hx.int
      obtain rfl := hy.int
      have e' : (if (-two64 < a ∧ a < two64) ∨ (-two64 < b ∧ b < two64) then some (PV.int (a * b)) else none) = some z := e
      split at e'
      · rename_i hl
        cases e'
        exact op_mul pins s σ H _ _ v u Q I rx ry ⟨_, _, rfl, rfl, hl, f.same w (.int _)⟩
      · cases e'
    case lst.int a k =>
      obtain ⟨p, vs, rfl, h1, t1⟩ := hx.lst w
      obtain rfl := hy.int
      have e' : (if a.length * k.toNat ≤ LIM ∧ k ≤ LIM ∧ -LIM ≤ k then some (PV.lst (List.replicate k.toNat a).flatten) else none) = some z := e
      split at e'
      · rename_i hl
        obtain ⟨l1, l2, l3⟩ := hl
        have : ((LIM : Nat) : Int) = 1000000 := rfl
        cases e'
        refine op_rep pins s σ H _ _ v u Q I rx ry ⟨_, _, _, rfl, rfl, h1, by omega, by omega, by rw [t1.len]; exact line_lim l1, fun r hr => ?_⟩
        exact f.new w hr (.lst upd_same ((t1.rep _).up (le_new (w.free hr))))
      · cases e'
  | div =>
    cases px <;> cases py <;> try (cases e; done)
    case int.int a b =>
      obtain rfl := hx.int
      obtain rfl := hy.int
      have e' : (if b ≠ 0 ∧ b.natAbs < 1073741824 then some (PV.int (a.fdiv b)) else none) = some z := e
      split at e'
      · rename_i hl
        cases e'
        exact op_fdivN pins s σ H _ _ v u Q I rx ry ⟨_, _, rfl, rfl, hl, f.same w (.int _)⟩
      · cases e'
  | mod =>
    cases px <;> cases py <;> try (cases e; done)
    case int.int a b =>
      obtain rfl := hx.int
      obtain rfl := hy.int
      have e' : (if b ≠ 0 then some (PV.int (a.fmod b)) else none) = some z := e
      split at e'
      · rename_i hl
        cases e'
        exact op_modN pins s σ H _ _ v u Q I rx ry ⟨_, _, rfl, rfl, hl, f.same w (.int _)⟩
      · cases e'
  | pow =>
    cases px <;> cases py <;> try (cases e; done)
    case int.int a b =>
      obtain rfl := hx.int
      obtain rfl := hy.int
      have e' : (if 0 ≤ b ∧ b ≤ 1000 ∧ a.natAbs < 1000000 then some (PV.int (a ^ b.toNat)) else none) = some z := e
      split at e'
      · rename_i hl
        cases e'
        exact op_pow pins s σ H _ _ v u Q I rx ry ⟨_, _, rfl, rfl, ⟨hl.1, by omega, by omega⟩, f.same w (.int _)⟩
      · cases e'
  | shl =>
    cases px <;> cases py <;> try (cases e; done)
    case int.int a b =>
      obtain rfl := hx.int
      obtain rfl := hy.int
      have e' : (if 0 ≤ b ∧ b ≤ 1000 ∧ a.natAbs < 1000000 then some (PV.int (a * 2 ^ b.toNat)) else none) = some z := e
      split at e'
      · rename_i hl
        cases e'
        exact op_shl pins s σ H _ _ v u Q I rx ry ⟨_, _, rfl, rfl, ⟨hl.1, by omega, by omega⟩, f.same w (.int _)⟩
      · cases e'
  | shr =>
    cases px <;> cases py <;> try (cases e; done)
    case int.int a b =>
      obtain rfl := hx.int
      obtain rfl := hy.int
      have e' : (if 0 ≤ b then some (PV.int (a / 2 ^ b.toNat)) else none) = some z := e
      split at e'
      · rename_i hl
        cases e'
        exact op_shr pins s σ H _ _ v u Q I rx ry ⟨_, _, rfl, rfl, hl, f.same w (.int _)⟩
      · cases e'
  | band =>
    cases px <;> cases py <;> try (cases e; done)
    case int.int a b =>
      cases e
      obtain rfl := hx.int
      obtain rfl := hy.int
      exact op_and pins s σ H _ _ v u Q I rx ry ⟨_, _, rfl, rfl, f.same w (.int _)⟩
  | cat =>
    cases px <;> cases py <;> try (cases e; done)
    case lst.lst a b =>
      obtain ⟨p, vs, rfl, h1, t1⟩ := hx.lst w
      obtain ⟨q, ws, rfl, h2, t2⟩ := hy.lst w
      have e' : (if a.length + b.length ≤ LIM then some (PV.lst (a ++ b)) else none) = some z := e
      split at e'
      · rename_i hl
        cases e'
        refine op_cat pins s σ H _ _ v u Q I rx ry ⟨_, _, _, _, rfl, rfl, h1, h2, by rw [t1.len, t2.len]; exact line_lim hl, fun r hr => ?_⟩
        exact f.new w hr (.lst upd_same ((t1.app t2).up (le_new (w.free hr))))
      · cases e'
  | rep =>
    cases px <;> cases py <;> try (cases e; done)
    case lst.int a k =>
      obtain ⟨p, vs, rfl, h1, t1⟩ := hx.lst w
      obtain rfl := hy.int
      have e' : (if a.length * k.toNat ≤ LIM ∧ k ≤ LIM ∧ -LIM ≤ k then some (PV.lst (List.replicate k.toNat a).flatten) else none) = some z := e
      split at e'
      · rename_i hl
        obtain ⟨l1, l2, l3⟩ := hl
        have : ((LIM : Nat) : Int) = 1000000 := rfl
        cases e'
        refine op_rep pins s σ H _ _ v u Q I rx ry ⟨_, _, _, rfl, rfl, h1, by omega, by omega, by rw [t1.len]; exact line_lim l1, fun r hr => ?_⟩
        exact f.new w hr (.lst upd_same ((t1.rep _).up (le_new (w.free hr))))
      · cases e'
end
end MP

/-! MP order: equality, order and membership of trees, over the library's data. -/
namespace MP
open PySem PySem.Spec PyProof.Rows L2

mutual
def toD : PV → PyData
  | .bl b => .bool b
  | .int i => .int i
  | .str s => .str s
  | .lst xs => .list (toDs xs)
  | .tup xs => .tuple (toDs xs)
  | _ => .none
def toDs : List PV → List PyData
  | [] => []
  | x :: xs => toD x :: toDs xs
end
theorem toDs_map : ∀ xs : List PV, toDs xs = xs.map toD
  | [] => by rw [toDs]; rfl
  | x :: xs => by rw [toDs, toDs_map xs]; rfl
theorem shp_all {n : Nat} {xs : List PV} (h : xs.all (shp n) = true) : ∀ x ∈ xs, shp n x = true := fun x hx => List.all_eq_true.mp h x hx
theorem shp_tup {n : Nat} {xs : List PV} : shp (n + 1) (.tup xs) = xs.all (shp n) := rfl
theorem shp_lst {n : Nat} {xs : List PV} : shp (n + 1) (.lst xs) = xs.all (shp n) := rfl
theorem shp_tup0 {xs : List PV} : shp 0 (.tup xs) = false := rfl
theorem shp_lst0 {xs : List PV} : shp 0 (.lst xs) = false := rfl
theorem shp_dct {n t : Nat} {xs} : shp n (.dct t xs) = false := by cases n <;> rfl
theorem shp_shr {n t : Nat} : shp n (.shr t) = false := by cases n <;> rfl
theorem shp_scr {n : Nat} {t} : shp n (.scr t) = false := by cases n <;> rfl
theorem shp_lck {n : Nat} {t} : shp n (.lck t) = false := by cases n <;> rfl
theorem shp_str {n : Nat} {s : Str} (h : shp n (.str s) = true) : PyData.strOk s = true := by cases n <;> exact h
mutual
theorem lay_shp : ∀ (n : Nat) (x : PV), shp n x = true → (toD x).canLay0 = true ∧ (toD x).depth ≤ n
  | n, .non, _ => by constructor <;> simp [toD, PyData.canLay0, PyData.depth]
  | n, .bl b, _ => by constructor <;> simp [toD, PyData.canLay0, PyData.depth]
  | n, .int i, _ => by constructor <;> simp [toD, PyData.canLay0, PyData.depth]
  | n, .str s, h => by
    constructor
    · simp [toD, PyData.canLay0]; exact shp_str h
    · simp [toD, PyData.depth]
  | 0, .tup xs, h => by rw [shp_tup0] at h; cases h
  | 0, .lst xs, h => by rw [shp_lst0] at h; cases h
  | n + 1, .tup xs, h => by
    rw [shp_tup] at h
    obtain ⟨h1, h2⟩ := lay_shps n xs h
    constructor
    · simp [toD, PyData.canLay0]; exact h1
    · simp [toD, PyData.depth]; exact h2
  | n + 1, .lst xs, h => by
    rw [shp_lst] at h
    obtain ⟨h1, h2⟩ := lay_shps n xs h
    constructor
    · simp [toD, PyData.canLay0]; exact h1
    · simp [toD, PyData.depth]; exact h2
  | n, .dct _ _, h => by rw [shp_dct] at h; cases h
  | n, .shr _, h => by rw [shp_shr] at h; cases h
  | n, .scr _, h => by rw [shp_scr] at h; cases h
  | n, .lck _, h => by rw [shp_lck] at h; cases h
theorem lay_shps : ∀ (n : Nat) (xs : List PV), xs.all (shp n) = true → PyData.canLayAll0 (toDs xs) = true ∧ PyData.depthAll (toDs xs) ≤ n
  | n, [], _ => by constructor <;> simp [toDs, PyData.canLayAll0, PyData.depthAll]
  | n, x :: xs, h => by
    rw [List.all_cons, Bool.and_eq_true] at h
    obtain ⟨h1, h2⟩ := lay_shp n x h.1
    obtain ⟨h3, h4⟩ := lay_shps n xs h.2
    constructor
    · simp only [toDs, PyData.canLayAll0, h1, h3, Bool.and_self]
    · simp only [toDs, PyData.depthAll]; omega
end
mutual
theorem peq_eqv : ∀ (n m : Nat) (x y : PV), shp n x = true → shp m y = true → peq x y = PyData.eqv (toD x) (toD y)
  | n, m, x, .dct _ _, _, h => by rw [shp_dct] at h; cases h
  | n, m, x, .shr _, _, h => by rw [shp_shr] at h; cases h
  | n, m, x, .scr _, _, h => by rw [shp_scr] at h; cases h
  | n, m, x, .lck _, _, h => by rw [shp_lck] at h; cases h
  | n, m, .dct _ _, y, h, _ => by rw [shp_dct] at h; cases h
  | n, m, .shr _, y, h, _ => by rw [shp_shr] at h; cases h
  | n, m, .scr _, y, h, _ => by rw [shp_scr] at h; cases h
  | n, m, .lck _, y, h, _ => by rw [shp_lck] at h; cases h
  | n, m, .tup xs, .tup ys, h1, h2 => by
    cases n with
    | zero => rw [shp_tup0] at h1; cases h1
    | succ n =>
      cases m with
      | zero => rw [shp_tup0] at h2; cases h2
      | succ m =>
        rw [shp_tup] at h1 h2
        simp only [toD, peq, PyData.eqv]
        exact peqs_eqv n m xs ys h1 h2
  | n, m, .lst xs, .lst ys, h1, h2 => by
    cases n with
    | zero => rw [shp_lst0] at h1; cases h1
    | succ n =>
      cases m with
      | zero => rw [shp_lst0] at h2; cases h2
      | succ m =>
        rw [shp_lst] at h1 h2
        simp only [toD, peq, PyData.eqv]
        exact peqs_eqv n m xs ys h1 h2
  | _, _, .non, .non, _, _ => by simp [toD, peq, PyData.eqv]
  | _, _, .non, .bl _, _, _ => by simp [toD, peq, PyData.eqv]
  | _, _, .non, .int _, _, _ => by simp [toD, peq, PyData.eqv]
  | _, _, .non, .str _, _, _ => by simp [toD, peq, PyData.eqv]
  | _, _, .non, .tup _, _, _ => by simp [toD, peq, PyData.eqv]
  | _, _, .non, .lst _, _, _ => by simp [toD, peq, PyData.eqv]
  | _, _, .bl _, .non, _, _ => by simp [toD, peq, PyData.eqv]
  | _, _, .bl _, .bl _, _, _ => by simp [toD, peq, PyData.eqv]
  | _, _, .bl _, .int _, _, _ => by simp [toD, peq, PyData.eqv]
  | _, _, .bl _, .str _, _, _ => by simp [toD, peq, PyData.eqv]
  | _, _, .bl _, .tup _, _, _ => by simp [toD, peq, PyData.eqv]
  | _, _, .bl _, .lst _, _, _ => by simp [toD, peq, PyData.eqv]
  | _, _, .int _, .non, _, _ => by simp [toD, peq, PyData.eqv]
  | _, _, .int _, .bl _, _, _ => by simp [toD, peq, PyData.eqv]
  | _, _, .int _, .int _, _, _ => by simp [toD, peq, PyData.eqv]
  | _, _, .int _, .str _, _, _ => by simp [toD, peq, PyData.eqv]
  | _, _, .int _, .tup _, _, _ => by simp [toD, peq, PyData.eqv]
  | _, _, .int _, .lst _, _, _ => by simp [toD, peq, PyData.eqv]
  | _, _, .str _, .non, _, _ => by simp [toD, peq, PyData.eqv]
  | _, _, .str _, .bl _, _, _ => by simp [toD, peq, PyData.eqv]
  | _, _, .str _, .int _, _, _ => by simp [toD, peq, PyData.eqv]
  | _, _, .str _, .str _, _, _ => by simp [toD, peq, PyData.eqv]
  | _, _, .str _, .tup _, _, _ => by simp [toD, peq, PyData.eqv]
  | _, _, .str _, .lst _, _, _ => by simp [toD, peq, PyData.eqv]
  | _, _, .tup _, .non, _, _ => by simp [toD, peq, PyData.eqv]
  | _, _, .tup _, .bl _, _, _ => by simp [toD, peq, PyData.eqv]
  | _, _, .tup _, .int _, _, _ => by simp [toD, peq, PyData.eqv]
  | _, _, .tup _, .str _, _, _ => by simp [toD, peq, PyData.eqv]
  | _, _, .tup _, .lst _, _, _ => by simp [toD, peq, PyData.eqv]
  | _, _, .lst _, .non, _, _ => by simp [toD, peq, PyData.eqv]
  | _, _, .lst _, .bl _, _, _ => by simp [toD, peq, PyData.eqv]
  | _, _, .lst _, .int _, _, _ => by simp [toD, peq, PyData.eqv]
  | _, _, .lst _, .str _, _, _ => by simp [toD, peq, PyData.eqv]
  | _, _, .lst _, .tup _, _, _ => by simp [toD, peq, PyData.eqv]
theorem peqs_eqv : ∀ (n m : Nat) (xs ys : List PV), xs.all (shp n) = true → ys.all (shp m) = true → peqs xs ys = PyData.eqvAll (toDs xs) (toDs ys)
  | _, _, [], [], _, _ => by simp [toDs, peqs, PyData.eqvAll]
  | _, _, [], _ :: _, _, _ => by simp [toDs, peqs, PyData.eqvAll]
  | _, _, _ :: _, [], _, _ => by simp [toDs, peqs, PyData.eqvAll]
  | n, m, x :: xs, y :: ys, h1, h2 => by
    rw [List.all_cons, Bool.and_eq_true] at h1 h2
    simp only [toDs, peqs, PyData.eqvAll, peq_eqv n m x y h1.1 h2.1, peqs_eqv n m xs ys h1.2 h2.2]
end
mutual
theorem alike_cmp : ∀ (x y : PV), cmpOk x y = true → PySem.W.alike (toD x) (toD y) = true ∧ toD x ≠ .none
  | .int _, .int _, _ => by simp [toD, PySem.W.alike]
  | .str _, .str _, _ => by simp [toD, PySem.W.alike]
  | .tup xs, .tup ys, h => by
    refine ⟨?_, by simp [toD]⟩
    simp only [toD, PySem.W.alike]
    exact alikes_cmp xs ys (by rw [cmpOk] at h; exact h)
  | .lst xs, .lst ys, h => by
    refine ⟨?_, by simp [toD]⟩
    simp only [toD, PySem.W.alike]
    exact alikes_cmp xs ys (by rw [cmpOk] at h; exact h)
  | .non, y, h => by cases y <;> simp [cmpOk] at h
  | .bl _, y, h => by cases y <;> simp [cmpOk] at h
  | .dct _ _, y, h => by cases y <;> simp [cmpOk] at h
  | .shr _, y, h => by cases y <;> simp [cmpOk] at h
  | .scr _, y, h => by cases y <;> simp [cmpOk] at h
  | .lck _, y, h => by cases y <;> simp [cmpOk] at h
  | .int _, .non, h | .int _, .bl _, h | .int _, .str _, h | .int _, .tup _, h | .int _, .lst _, h | .int _, .dct _ _, h | .int _, .shr _, h | .int _, .scr _, h | .int _, .lck _, h => by simp [cmpOk] at h
  | .str _, .non, h | .str _, .bl _, h | .str _, .int _, h | .str _, .tup _, h | .str _, .lst _, h | .str _, .dct _ _, h | .str _, .shr _, h | .str _, .scr _, h | .str _, .lck _, h => by simp [cmpOk] at h
  | .tup _, .non, h | .tup _, .bl _, h | .tup _, .int _, h | .tup _, .str _, h | .tup _, .lst _, h | .tup _, .dct _ _, h | .tup _, .shr _, h | .tup _, .scr _, h | .tup _, .lck _, h => by simp [cmpOk] at h
  | .lst _, .non, h | .lst _, .bl _, h | .lst _, .int _, h | .lst _, .str _, h | .lst _, .tup _, h | .lst _, .dct _ _, h | .lst _, .shr _, h | .lst _, .scr _, h | .lst _, .lck _, h => by simp [cmpOk] at h
theorem alikes_cmp : ∀ (xs ys : List PV), cmpOkL xs ys = true → PySem.W.alikeAll (toDs xs) (toDs ys) = true
  | [], _, _ => by simp [toDs, PySem.W.alikeAll]
  | _ :: _, [], _ => by simp [toDs, PySem.W.alikeAll]
  | x :: xs, y :: ys, h => by
    rw [cmpOkL, Bool.and_eq_true] at h
    simp only [toDs, PySem.W.alikeAll, (alike_cmp x y h.1).1, alikes_cmp xs ys h.2, Bool.and_self]
end
theorem rows_nn : PyProof.Rows.lexLt PyProof.Rows.itemOrd (PySem.W.keyToksAll []) (PySem.W.keyToksAll []) = false := PySem.W.dataLt_self (.list [])
theorem rows_nc (y : PyData) (ys : List PyData) : PyProof.Rows.lexLt PyProof.Rows.itemOrd (PySem.W.keyToksAll []) (PySem.W.keyToksAll (y :: ys)) = true := by
  simp only [PySem.W.keyToksAll]
  rw [PyProof.Rows.lex_cons]
  rfl
theorem rows_cn (y : PyData) (ys : List PyData) : PyProof.Rows.lexLt PyProof.Rows.itemOrd (PySem.W.keyToksAll (y :: ys)) (PySem.W.keyToksAll []) = false := by
  simp only [PySem.W.keyToksAll]
  rw [PyProof.Rows.lex_cons]
  rfl
mutual
theorem plt_data : ∀ (n m : Nat) (x y : PV), shp n x = true → shp m y = true → cmpOk x y = true → plt x y = PySem.W.dataLt (toD x) (toD y)
  | _, _, .int a, .int b, _, _, _ => by simp only [toD, plt, PySem.W.dataLt_int]
  | _, _, .str a, .str b, _, _, _ => by simp only [toD, plt, PySem.W.dataLt_str]
  | n, m, .tup xs, .tup ys, h1, h2, h => by
    cases n with
    | zero => rw [shp_tup0] at h1; cases h1
    | succ n =>
      cases m with
      | zero => rw [shp_tup0] at h2; cases h2
      | succ m =>
        rw [shp_tup] at h1 h2
        rw [cmpOk] at h
        simp only [toD, plt, PySem.W.dataLt_tuple]
        exact pltL_data n m xs ys h1 h2 h
  | n, m, .lst xs, .lst ys, h1, h2, h => by
    cases n with
    | zero => rw [shp_lst0] at h1; cases h1
    | succ n =>
      cases m with
      | zero => rw [shp_lst0] at h2; cases h2
      | succ m =>
        rw [shp_lst] at h1 h2
        rw [cmpOk] at h
        simp only [toD, plt, PySem.W.dataLt_list]
        exact pltL_data n m xs ys h1 h2 h
  | _, _, .non, y, _, _, h => by cases y <;> simp [cmpOk] at h
  | _, _, .bl _, y, _, _, h => by cases y <;> simp [cmpOk] at h
  | _, _, .dct _ _, y, _, _, h => by cases y <;> simp [cmpOk] at h
  | _, _, .shr _, y, _, _, h => by cases y <;> simp [cmpOk] at h
  | _, _, .scr _, y, _, _, h => by cases y <;> simp [cmpOk] at h
  | _, _, .lck _, y, _, _, h => by cases y <;> simp [cmpOk] at h
  | _, _, .int _, .non, _, _, h | _, _, .int _, .bl _, _, _, h | _, _, .int _, .str _, _, _, h | _, _, .int _, .tup _, _, _, h | _, _, .int _, .lst _, _, _, h | _, _, .int _, .dct _ _, _, _, h | _, _, .int _, .shr _, _, _, h | _, _, .int _, .scr _, _, _, h | _, _, .int _, .lck _, _, _, h => by simp [cmpOk] at h
  | _, _, .str _, .non, _, _, h | _, _, .str _, .bl _, _, _, h | _, _, .str _, .int _, _, _, h | _, _, .str _, .tup _, _, _, h | _, _, .str _, .lst _, _, _, h | _, _, .str _, .dct _ _, _, _, h | _, _, .str _, .shr _, _, _, h | _, _, .str _, .scr _, _, _, h | _, _, .str _, .lck _, _, _, h => by simp [cmpOk] at h
  | _, _, .tup _, .non, _, _, h | _, _, .tup _, .bl _, _, _, h | _, _, .tup _, .int _, _, _, h | _, _, .tup _, .str _, _, _, h | _, _, .tup _, .lst _, _, _, h | _, _, .tup _, .dct _ _, _, _, h | _, _, .tup _, .shr _, _, _, h | _, _, .tup _, .scr _, _, _, h | _, _, .tup _, .lck _, _, _, h => by simp [cmpOk] at h
  | _, _, .lst _, .non, _, _, h | _, _, .lst _, .bl _, _, _, h | _, _, .lst _, .int _, _, _, h | _, _, .lst _, .str _, _, _, h | _, _, .lst _, .tup _, _, _, h | _, _, .lst _, .dct _ _, _, _, h | _, _, .lst _, .shr _, _, _, h | _, _, .lst _, .scr _, _, _, h | _, _, .lst _, .lck _, _, _, h => by simp [cmpOk] at h
theorem pltL_data : ∀ (n m : Nat) (xs ys : List PV), xs.all (shp n) = true → ys.all (shp m) = true → cmpOkL xs ys = true → pltL xs ys = PyProof.Rows.lexLt PyProof.Rows.itemOrd (PySem.W.keyToksAll (toDs xs)) (PySem.W.keyToksAll (toDs ys))
  | _, _, [], [], _, _, _ => by simp only [pltL, toDs, rows_nn]
  | _, _, [], y :: ys, _, _, _ => by simp only [pltL, toDs, rows_nc]
  | _, _, x :: xs, [], _, _, _ => by simp only [pltL, toDs, rows_cn]
  | n, m, x :: xs, y :: ys, h1, h2, h => by
    rw [List.all_cons, Bool.and_eq_true] at h1 h2
    rw [cmpOkL, Bool.and_eq_true] at h
    simp only [pltL, toDs]
    rw [PySem.W.dataLt_cons (alike_cmp x y h.1).1, peq_eqv n m x y h1.1 h2.1, pltL_data n m xs ys h1.2 h2.2 h.2, plt_data n m x y h1.1 h2.1 h.1]
end
end MP

/-! MP cmp: comparisons, membership, subscripts by values. -/
namespace MP
open PySem PySem.Spec PyProof.Rows L2

section
variable {as : List Addr} {K : PySem.W.Frag} {G H : Hp} {D : DS}
mutual
theorem Tr.dp (w : Wd as K G H D) : ∀ {n : Nat} {v : V} {x : PV}, Tr as K G v x → shp n x = true → Dp K H v (toD x)
  | _, _, _, .non, _ => .non
  | _, _, _, .bl b, _ => .bl b
  | _, _, _, .int i, _ => .int i
  | _, _, _, .str s, _ => .str s
  | 0, _, _, .tup _ _, h => by rw [shp_tup0] at h; cases h
  | 0, _, _, .lst _ _, h => by rw [shp_lst0] at h; cases h
  | n + 1, _, _, .tup h t, s => .tup (.of (w.sub _ _ h)) (TrS.dp w t (shp_tup ▸ s))
  | n + 1, _, _, .lst h t, s => .lst (.of (w.sub _ _ h)) (TrS.dp w t (shp_lst ▸ s))
  | _, _, _, .dK _ _, s => by rw [shp_dct] at s; cases s
  | _, _, _, .dT _ _, s => by rw [shp_dct] at s; cases s
  | _, _, _, .shr _, s => by rw [shp_shr] at s; cases s
  | _, _, _, .scr _, s => by rw [shp_scr] at s; cases s
theorem TrS.dp (w : Wd as K G H D) : ∀ {n : Nat} {vs : List V} {xs : List PV}, TrS as K G vs xs → xs.all (shp n) = true → DpAll K H vs (toDs xs)
  | _, _, _, .nil, _ => .nil
  | n, _, _, .cons h t, s => by
    rw [List.all_cons, Bool.and_eq_true] at s
    exact .cons (Tr.dp w h s.1) (TrS.dp w t s.2)
end
theorem TrR.dp (w : Wd as K G H D) {n : Nat} {v : V} {x : PV} (r : TrR as K G H v x) (s : shp n x = true) : Dp K H v (toD x) := by
  rcases r with t | ⟨a, rfl, o⟩
  · exact t.dp w s
  · cases x with
    | lst xs =>
      obtain ⟨vs, h, t⟩ := o
      cases n with
      | zero => rw [shp_lst0] at s; cases s
      | succ n => exact .lst (.of h) (t.dp w (shp_lst ▸ s))
    | dct t kvs => rw [shp_dct] at s; cases s
    | _ => exact absurd o id
theorem shaped_of {x : PV} (s : shp DEP x = true) : SeqAt.shaped (toD x) = true := by
  obtain ⟨h1, h2⟩ := lay_shp DEP x s
  have : DEP = 20 := rfl
  unfold SeqAt.shaped
  rw [h1, Bool.true_and]
  exact decide_eq_true (by omega)

/-! ### keys -/
theorem kPV_peq (a b : Key) : peq (kPV a) (kPV b) = decide (a = b) := by
  cases a with
  | inl i =>
    cases b with
    | inl j =>
      rw [key_ll]
      simp only [kPV, peq]
    | inr y =>
      rw [key_lr]
      simp only [kPV, peq]
  | inr x =>
    cases b with
    | inl j =>
      rw [key_rl]
      simp only [kPV, peq]
    | inr y =>
      rw [key_rr]
      simp only [kPV, peq]
      by_cases e : x = y
      · subst e; simp
      · rw [decide_eq_false e]; exact beq_eq_false_iff_ne.mpr e
theorem kPVs_peq : ∀ a b : List Key, peqs (a.map kPV) (b.map kPV) = decide (a = b)
  | [], [] => by simp [peqs]
  | [], _ :: _ => by simp [peqs]
  | _ :: _, [] => by simp [peqs]
  | a :: as, b :: bs => by
    simp only [List.map_cons, peqs, kPV_peq, kPVs_peq as bs]
    by_cases e : a = b
    · subst e
      by_cases e2 : as = bs
      · subst e2; simp
      · simp [e2]
    · simp [e]
theorem key_of_isKey1 {x : PV} (h : isKey1 x = true) : ∃ k : Key, x = kPV k := by
  cases x with
  | int i => exact ⟨.inl i, rfl⟩
  | str s => exact ⟨.inr s, rfl⟩
  | _ => cases h
theorem keys_of_isKey : ∀ {xs : List PV}, xs.all isKey1 = true → ∃ ks : List Key, xs = ks.map kPV
  | [], _ => ⟨[], rfl⟩
  | x :: xs, h => by
    rw [List.all_cons, Bool.and_eq_true] at h
    obtain ⟨k, rfl⟩ := key_of_isKey1 h.1
    obtain ⟨ks, rfl⟩ := keys_of_isKey h.2
    exact ⟨k :: ks, rfl⟩
theorem isKey0 {x : PV} (h : isKey 0 x = true) : ∃ k : Key, x = kPV k := by
  cases x with
  | int i => exact ⟨.inl i, rfl⟩
  | str s => exact ⟨.inr s, rfl⟩
  | tup xs => simp [isKey] at h
  | _ => simp [isKey] at h
theorem isKeyT {x : PV} (h : isKey 1 x = true) : ∃ ks : List Key, x = .tup (ks.map kPV) := by
  cases x with
  | tup xs =>
    have h' : ((1 == 1) && xs.all isKey1) = true := h
    obtain ⟨ks, rfl⟩ := keys_of_isKey (by simpa using h')
    exact ⟨ks, rfl⟩
  | _ => simp [isKey] at h
theorem Tr.key {v : V} {k : Key} (t : Tr as K G v (kPV k)) : v = kV k := by
  cases k with
  | inl i => cases t; rfl
  | inr s => cases t; rfl
theorem TrS.keys : ∀ {vs : List V} {ks : List Key}, TrS as K G vs (ks.map kPV) → vs = ks.map kV
  | _, [], t => by cases t; rfl
  | _, k :: ks, t => by
    cases t with
    | cons h t => rw [h.key, TrS.keys t]; rfl
theorem TrR.key {v : V} {k : Key} (t : TrR as K G H v (kPV k)) : v = kV k := by
  rcases t with t | ⟨a, _, o⟩
  · exact t.key
  · cases k <;> exact absurd o id
/-- a look-up in the dict and in its tree -/
theorem TrK.get (k : Key) : ∀ {ks : List (Key × V)} {kvs : List (PV × PV)}, TrK as K G ks kvs → (valV ks k = none ∧ dGet (kPV k) kvs = none) ∨ ∃ v x, valV ks k = some v ∧ dGet (kPV k) kvs = some x ∧ Tr as K G v x
  | _, _, .nil => .inl ⟨rfl, rfl⟩
  | _, _, .cons (k := k') (x := x') (kvs := kvs') h t => by
    by_cases e : k' = k
    · subst e
      refine .inr ⟨_, _, valV_pos rfl, ?_, h⟩
      simp [dGet, kPV_peq]
    · rw [valV_neg (by exact e)]
      have e2 : dGet (kPV k) ((kPV k', x') :: kvs') = dGet (kPV k) kvs' := by
        rw [dGet, kPV_peq, if_neg (by simpa using e)]
      rw [e2]
      exact TrK.get k t
theorem TrT.get (k : List Key) : ∀ {ks : List (List Key × V)} {kvs : List (PV × PV)}, TrT as K G ks kvs → (valV ks k = none ∧ dGet (.tup (k.map kPV)) kvs = none) ∨ ∃ v x, valV ks k = some v ∧ dGet (.tup (k.map kPV)) kvs = some x ∧ Tr as K G v x
  | _, _, .nil => .inl ⟨rfl, rfl⟩
  | _, _, .cons (k := k') (x := x') (kvs := kvs') h t => by
    have ep : peq (.tup (k'.map kPV)) (.tup (k.map kPV)) = decide (k' = k) := by rw [peq, kPVs_peq]
    by_cases e : k' = k
    · subst e
      refine .inr ⟨_, _, valV_pos rfl, ?_, h⟩
      rw [dGet, ep, if_pos (by simp)]
    · rw [valV_neg (by exact e)]
      have e2 : dGet (.tup (k.map kPV)) ((.tup (k'.map kPV), x') :: kvs') = dGet (.tup (k.map kPV)) kvs' := by
        rw [dGet, ep, if_neg (by simpa using e)]
      rw [e2]
      exact TrT.get k t
/-- what d[k] asks of the layer -/
theorem dget_of (w : Wd as K G H D) {x y : V} {t : Nat} {kvs : List (PV × PV)} {k : PV} (hx : TrR as K G H x (.dct t kvs)) (hy : TrR as K G H y k) (hk : isKey t k = true) :
    ∃ a o, x = .ref a ∧ DGet H a y o ∧ ((o = none ∧ dGet k kvs = none) ∨ ∃ v z, o = some v ∧ dGet k kvs = some z ∧ Tr as K G v z) := by
  rcases hx.dct w with ⟨rfl, a, ks, rfl, h, tr⟩ | ⟨rfl, a, ks, rfl, h, tr⟩
  · obtain ⟨kk, rfl⟩ := isKey0 hk
    have e := hy.key
    subst e
    exact ⟨a, valV ks kk, rfl, .inl ⟨ks, kk, h, rfl, rfl⟩, tr.get kk⟩
  · obtain ⟨kk, rfl⟩ := isKeyT hk
    obtain ⟨b, vs, rfl, h1, g1, t1⟩ := hy.tup w
    have e := t1.keys
    subst e
    exact ⟨a, valV ks kk, rfl, .inr ⟨ks, kk, b, h, rfl, h1, rfl⟩, tr.get kk⟩
end

def coT : Co → CmpOp
  | .eq => .Eq | .ne => .NotEq | .lt => .Lt | .le => .LtE | .gt => .Gt | .ge => .GtE | .is_ => .Is | .isn => .IsNot | .in_ => .In | .nin => .NotIn
def rCmpM (K : PySem.W.Frag) (op : Co) : R2 := fun x y H Q => ∃ as G D px py z, Wd as K G H D ∧ TrR as K G H x px ∧ TrR as K G H y py ∧ pCmp op px py = some z ∧ Q (.bl z) H
section
variable {X : Cx}
theorem eq_both {as : List Addr} {K : PySem.W.Frag} {G H : Hp} {D : DS} {x y : V} {px py : PV} {z : Bool} (w : Wd as K G H D) (hx : TrR as K G H x px) (hy : TrR as K G H y py) (e : pEq px py = some z) :
    ∃ d1 d2, Dp K H x d1 ∧ Dp K H y d2 ∧ SeqAt.shaped d1 = true ∧ SeqAt.shaped d2 = true ∧ PyData.eqv d1 d2 = z := by
  have e' : (if (shp DEP px && shp DEP py) = true then some (peq px py) else none) = some z := e
  split at e'
  · rename_i h
    rw [Bool.and_eq_true] at h
    cases e'
    exact ⟨_, _, hx.dp w h.1, hy.dp w h.2, shaped_of h.1, shaped_of h.2, (peq_eqv _ _ _ _ h.1 h.2).symm⟩
  · cases e'
theorem in_seq (hu : X.A.units + 65 < cLine) {neg : Bool} {as : List Addr} {G : Hp} {D : DS} {px : PV} {ys : List PV} {z : Bool} {a : Addr} {vs : List V} {pins : List (Addr × Obj)} {s : Shared} {σ : L2.St} {H : Hp} {x : V} {v : Value} {Q : VK}
    (I : Inv X pins σ H s) (w : Wd as X.K G H D) (rx : RelV x v) (hx : TrR as X.K G H x px) (t : TrS as X.K G vs ys) (hs : shp DEP px = true) (hys : ys.all (shp DEP) = true)
    (h : H a = some (.lst vs) ∨ H a = some (.tup vs)) (q : Q (.bl (if neg then !(ys.any fun y => peq y px) else ys.any fun y => peq y px)) H) :
    wpAny (model X.prog X.w) X.A (compareOp (if neg then .NotIn else .In) v (.ref a)) (EP X pins σ Q) X.xe s := by
  obtain ⟨bs, r1⟩ := Dp.reads I _ x v (hx.dp w hs) rx
  obtain ⟨l1, l2⟩ := lay_shp DEP px hs
  obtain ⟨l3, l4⟩ := lay_shps DEP ys hys
  have hd : DEP = 20 := rfl
  have hroom : X.A.units + 1 + min (PyData.depthAll (toDs ys)) (toD px).depth < cLine := by
    have := Nat.min_le_right (PyData.depthAll (toDs ys)) (toD px).depth
    omega
  have eany : ((toDs ys).any fun y => PyData.eqv y (toD px)) = ys.any fun y => peq y px := by
    rw [toDs_map, List.any_map]
    have : ∀ l : List PV, l.all (shp DEP) = true → l.any ((fun y => PyData.eqv y (toD px)) ∘ toD) = l.any fun y => peq y px := by
      intro l
      induction l with
      | nil => intro _; rfl
      | cons y l ih =>
        intro hl
        rw [List.all_cons, Bool.and_eq_true] at hl
        rw [List.any_cons, List.any_cons, ih hl.2, Function.comp, peq_eqv _ _ _ _ hl.1 hs]
    exact this ys hys
  rcases h with h | h
  · have hd : Dp X.K H (.ref a) (.list (toDs ys)) := .lst (.of h) (t.dp w hys)
    obtain ⟨cs, r2⟩ := Dp.reads I _ (.ref a) (.ref a) hd rfl
    cases neg with
    | false => exact SeqAt.in_list_reads r2 r1 l3 l1 hroom (by rw [eany]; exact ⟨.bl _, H, I, rfl, q⟩)
    | true => exact SeqAt.notIn_list_reads r2 r1 l3 l1 hroom (by rw [eany]; exact ⟨.bl _, H, I, rfl, q⟩)
  · have hd : Dp X.K H (.ref a) (.tuple (toDs ys)) := .tup (.of h) (t.dp w hys)
    obtain ⟨cs, r2⟩ := Dp.reads I _ (.ref a) (.ref a) hd rfl
    cases neg with
    | false => exact SeqAt.in_tuple_reads r2 r1 l3 l1 hroom (by rw [eany]; exact ⟨.bl _, H, I, rfl, q⟩)
    | true => exact SeqAt.notIn_tuple_reads r2 r1 l3 l1 hroom (by rw [eany]; exact ⟨.bl _, H, I, rfl, q⟩)
theorem lt_both {as : List Addr} {K : PySem.W.Frag} {G H : Hp} {D : DS} {x y : V} {px py : PV} {z : Bool} (w : Wd as K G H D) (hx : TrR as K G H x px) (hy : TrR as K G H y py) (e : pLt px py = some z) :
    Dp K H x (toD px) ∧ Dp K H y (toD py) ∧ PySem.W.alike (toD px) (toD py) = true ∧ toD px ≠ .none ∧ (toD px).depth ≤ 20 ∧ PySem.W.dataLt (toD px) (toD py) = z := by
  have e' : (if (shp DEP px && shp DEP py && cmpOk px py) = true then some (plt px py) else none) = some z := e
  split at e'
  · rename_i h
    rw [Bool.and_eq_true, Bool.and_eq_true] at h
    obtain ⟨⟨h1, h2⟩, h3⟩ := h
    cases e'
    obtain ⟨a1, a2⟩ := alike_cmp _ _ h3
    exact ⟨hx.dp w h1, hy.dp w h2, a1, a2, (lay_shp DEP _ h1).2, (plt_data _ _ _ _ h1 h2 h3).symm⟩
  · cases e'
theorem in_dct (hu : X.A.units + 65 < cLine) {neg : Bool} {as : List Addr} {G : Hp} {D : DS} {px : PV} {t : Nat} {kvs : List (PV × PV)} {z : Bool} {pins : List (Addr × Obj)} {s : Shared} {σ : L2.St} {H : Hp} {x y : V} {v u : Value} {Q : VK}
    (I : Inv X pins σ H s) (w : Wd as X.K G H D) (rx : RelV x v) (ry : RelV y u) (hx : TrR as X.K G H x px) (hy : TrR as X.K G H y (.dct t kvs)) (hk : isKey t px = true)
    (q : Q (.bl (if neg then !(dGet px kvs).isSome else (dGet px kvs).isSome)) H) :
    wpAny (model X.prog X.w) X.A (compareOp (if neg then .NotIn else .In) v u) (EP X pins σ Q) X.xe s := by
  obtain ⟨a, o, rfl, g, ho⟩ := dget_of w hy hx hk
  have eo : o.isSome = (dGet px kvs).isSome := by
    rcases ho with ⟨h1, h2⟩ | ⟨v, z, h1, h2, _⟩
    · rw [h1, h2]; rfl
    · rw [h1, h2]; rfl
  cases (show u = Value.ref a from ry)
  cases neg with
  | false => exact d_in (by omega) I g rx fun s' I' => ⟨.bl _, H, I', rfl, by rw [eo]; exact q⟩
  | true => exact d_notIn (by omega) I g rx fun s' I' => ⟨.bl _, H, I', rfl, by rw [eo]; exact q⟩
theorem op_cmpM (hu : X.A.units + 65 < cLine) (op : Co) : OpR X (compareOp (coT op)) (rCmpM X.K op) := by
  intro pins s σ H x y v u Q I rx ry h
  obtain ⟨as, G, D, px, py, z, w, hx, hy, e, q⟩ := h
  have hin : ∀ neg : Bool, ∀ z', pIn px py = some z' → Q (.bl (if neg then !z' else z')) H → wpAny (model X.prog X.w) X.A (compareOp (if neg then .NotIn else .In) v u) (EP X pins σ Q) X.xe s := by
    intro neg z' e9 q9
    unfold pIn at e9
    split at e9
    · rename_i ys
      split at e9
      · rename_i hs
        rw [Bool.and_eq_true] at hs
        cases e9
        obtain ⟨a, vs, rfl, h1, t1⟩ := hy.lst w
        cases (show u = Value.ref a from ry)
        exact in_seq (z := true) hu I w rx hx t1 hs.1 hs.2 (.inl h1) q9
      · cases e9
    · rename_i ys
      split at e9
      · rename_i hs
        rw [Bool.and_eq_true] at hs
        cases e9
        obtain ⟨a, vs, rfl, h1, _, t1⟩ := hy.tup w
        cases (show u = Value.ref a from ry)
        exact in_seq (z := true) hu I w rx hx t1 hs.1 hs.2 (.inr h1) q9
      · cases e9
    · split at e9
      · rename_i hk
        cases e9
        exact in_dct (z := true) hu I w rx ry hx hy hk q9
      · cases e9
    · rename_i a b
      split at e9
      · rename_i hl
        cases e9
        obtain rfl := hx.str
        obtain rfl := hy.str
        obtain ⟨c, rfl⟩ : ∃ c, a = ⟨#[c]⟩ := by
          obtain ⟨cs⟩ := a
          have hl' : cs.size = 1 := hl
          obtain ⟨l⟩ := cs
          match l, hl' with
          | [c], _ => exact ⟨c, rfl⟩
        have ec : decide (([c] : List Nat).headD 0 ∈ b.cps.toList) = decide (c ∈ b.cps.toList) := rfl
        cases neg with
        | false => exact op_in_sign pins s σ H _ _ v u Q I rx ry ⟨c, b, rfl, rfl, q9⟩
        | true => exact op_notIn_sign pins s σ H _ _ v u Q I rx ry ⟨c, b, rfl, rfl, q9⟩
      · cases e9
    · cases e9
  cases op with
  | eq =>
    obtain ⟨d1, d2, h1, h2, h3, h4, h5⟩ := eq_both w hx hy e
    exact op_eqD (by omega) pins s σ H x y v u Q I rx ry ⟨d1, d2, h1, h2, h3, h4, by rw [h5]; exact q⟩
  | ne =>
    obtain ⟨z', e1, e2⟩ := Option.map_eq_some_iff.mp (show (pEq px py).map (!·) = some z from e)
    obtain ⟨d1, d2, h1, h2, h3, h4, h5⟩ := eq_both w hx hy e1
    exact op_neD (by omega) pins s σ H x y v u Q I rx ry ⟨d1, d2, h1, h2, h3, h4, by rw [h5]; rw [← e2] at q; exact q⟩
  | lt =>
    obtain ⟨h1, h2, h3, h4, h5, h6⟩ := lt_both w hx hy e
    obtain ⟨as1, r1⟩ := Dp.reads I _ x v h1 rx
    obtain ⟨as2, r2⟩ := Dp.reads I _ y u h2 ry
    exact PySem.W.lt_data r1 r2 h3 h4 (by have := Nat.min_le_left (toD px).depth (toD py).depth; omega) ⟨.bl z, H, I, by rw [h6]; rfl, q⟩
  | gt =>
    obtain ⟨h1, h2, h3, h4, h5, h6⟩ := lt_both w hy hx e
    obtain ⟨as1, r1⟩ := Dp.reads I _ y u h1 ry
    obtain ⟨as2, r2⟩ := Dp.reads I _ x v h2 rx
    have h3' : PySem.W.alike (toD px) (toD py) = true := by rw [PySem.W.alike_comm]; exact h3
    exact PySem.W.gt_data r2 r1 h3' (PySem.W.ne_none_both h3 h4) (by have := Nat.min_le_right (toD px).depth (toD py).depth; omega) ⟨.bl z, H, I, by rw [h6]; rfl, q⟩
  | le =>
    cases px <;> cases py <;> try (cases e; done)
    case int.int a b =>
      cases e
      obtain rfl := hx.int
      obtain rfl := hy.int
      exact op_le pins s σ H _ _ v u Q I rx ry ⟨_, _, rfl, rfl, q⟩
    case str.str a b =>
      cases e
      obtain rfl := hx.str
      obtain rfl := hy.str
      obtain ⟨as1, r1⟩ := Dp.reads I _ (.str a) v (.str a) rx
      obtain ⟨as2, r2⟩ := Dp.reads I _ (.str b) u (.str b) ry
      refine PySem.W.le_data r1 r2 (by simp [PySem.W.alike]) (by simp) (by simp [PyData.depth]; omega) ?_
      rw [PySem.W.dataLt_str]
      exact ⟨.bl _, H, I, rfl, q⟩
  | ge =>
    cases px <;> cases py <;> try (cases e; done)
    case int.int a b =>
      cases e
      obtain rfl := hx.int
      obtain rfl := hy.int
      exact op_ge pins s σ H _ _ v u Q I rx ry ⟨_, _, rfl, rfl, q⟩
    case str.str a b =>
      cases e
      obtain rfl := hx.str
      obtain rfl := hy.str
      obtain ⟨as1, r1⟩ := Dp.reads I _ (.str a) v (.str a) rx
      obtain ⟨as2, r2⟩ := Dp.reads I _ (.str b) u (.str b) ry
      refine PySem.W.ge_data r1 r2 (by simp [PySem.W.alike]) (by simp) (by simp [PyData.depth]; omega) ?_
      rw [PySem.W.dataLt_str]
      exact ⟨.bl _, H, I, rfl, q⟩
  | is_ =>
    cases py <;> try (cases e; done)
    have ey := hy.non
    subst ey
    have ex : decide (x = V.non) = z := by
      have e' : isNon px = z := Option.some.inj e
      rcases hx with t | ⟨a, rfl, o⟩
      · cases t <;> first | (rw [← e']; rfl) | (rw [← e']; simp)
      · rw [← e']
        cases px <;> first | rfl | (simp; done) | exact absurd o id
    exact op_isN pins s σ H x _ v u Q I rx ry ⟨rfl, by rw [ex]; exact q⟩
  | isn =>
    cases py <;> try (cases e; done)
    have ey := hy.non
    subst ey
    have ex : (!decide (x = V.non)) = z := by
      have e' : (!isNon px) = z := Option.some.inj e
      rcases hx with t | ⟨a, rfl, o⟩
      · cases t <;> first | (rw [← e']; rfl) | (rw [← e']; simp)
      · rw [← e']
        cases px <;> first | rfl | (simp; done) | exact absurd o id
    exact op_notN pins s σ H x _ v u Q I rx ry ⟨rfl, by rw [ex]; exact q⟩
  | in_ => exact hin false z e q
  | nin =>
    obtain ⟨z', e1, e2⟩ := Option.map_eq_some_iff.mp (show (pIn px py).map (!·) = some z from e)
    exact hin true z' e1 (by rw [← e2] at q; exact q)
end

/-! ### subscripts -/
def rIxM (K : PySem.W.Frag) : R2 := fun x y H Q => ∃ as G D px py z, Wd as K G H D ∧ TrR as K G H x px ∧ TrR as K G H y py ∧ pIdx px py = some z ∧ ∀ v, Tr as K G v z → Q v H
theorem ixN_eq (n : Nat) (i : Int) : MP.ixN n i = L2.ixN n i := rfl
section
variable {X : Cx}
theorem ix_dct (hu : X.A.units + 65 < cLine) {value slice : Expr} {pins : List (Addr × Obj)} {s : Shared} {σ : L2.St} {H : Hp} {a : Addr} {y v : V} {u : Value} {Q : VK} (I : Inv X pins σ H s) (g : DGet H a y (some v)) (ry : RelV y u)
    (hs : subscripted slice false (.ref a) u = operate [.ref a, u] (getItem (.ref a) u)) (q : Q v H) : wpAny (model X.prog X.w) X.A (subscriptTail value slice (.ref a) u) (EP X pins σ Q) X.xe s := by
  have hT := dict_typeIs I g
  exact tail_any hT PySem.F.slot_dict_getitem.lookup (d_getItem (by omega) I g ry fun w' s' I' rw' => ⟨v, H, I', rw', q⟩) hs
theorem ix_M (hu : X.A.units + 65 < cLine) : IxR X (rIxM X.K) := by
  intro value slice pins s σ H x y v u Q I rx ry h hs
  obtain ⟨as, G, D, px, py, z, w, hx, hy, e, q⟩ := h
  unfold pIdx at e
  split at e
  · rename_i xs i
    obtain ⟨j, e1, e2⟩ := Option.bind_eq_some_iff.mp e
    obtain ⟨a, vs, rfl, h1, t1⟩ := hx.lst w
    obtain rfl := hy.int
    obtain ⟨vj, g1, g2⟩ := t1.get e2
    refine ix_list value slice pins s σ H _ _ v u Q I rx ry ⟨a, vs, i, vj, rfl, rfl, .of h1, ?_, q vj g2⟩ hs
    unfold atI
    rw [t1.len, ← ixN_eq, e1]
    exact g1
  · rename_i ns i
    obtain ⟨j, e1, e2⟩ := Option.bind_eq_some_iff.mp e
    obtain ⟨n, e3, e4⟩ := Option.map_eq_some_iff.mp e2
    obtain ⟨a, rfl, h1⟩ := hx.scr w
    obtain rfl := hy.int
    subst e4
    refine ix_list value slice pins s σ H _ _ v u Q I rx ry ⟨a, _, i, .int n, rfl, rfl, h1, ?_, q _ (.int n)⟩ hs
    unfold atI
    rw [List.length_map, ← ixN_eq, e1]
    show (ns.map V.int)[j]? = _
    rw [List.getElem?_map, e3]; rfl
  · rename_i xs i
    obtain ⟨j, e1, e2⟩ := Option.bind_eq_some_iff.mp e
    obtain ⟨a, vs, rfl, h1, _, t1⟩ := hx.tup w
    obtain rfl := hy.int
    obtain ⟨vj, g1, g2⟩ := t1.get e2
    refine ix_tup value slice pins s σ H _ _ v u Q I rx ry ⟨a, vs, i, vj, rfl, rfl, .of h1, ?_, q vj g2⟩ hs
    unfold atI
    rw [t1.len, ← ixN_eq, e1]
    exact g1
  · rename_i z' i
    split at e
    · rename_i hl
      obtain ⟨j, e1, e2⟩ := Option.bind_eq_some_iff.mp e
      obtain ⟨c, e3, e4⟩ := Option.map_eq_some_iff.mp e2
      obtain rfl := hx.str
      obtain rfl := hy.int
      subst e4
      refine ix_str value slice pins s σ H _ _ v u Q I rx ry ⟨z', i, c, rfl, rfl, line_lim hl, ?_, q _ (.str _)⟩ hs
      unfold atI
      have hlen : z'.cps.toList.length = z'.length := by simp [Str.length]
      rw [hlen, ← ixN_eq, e1]
      exact e3
    · cases e
  · rename_i t kvs k
    split at e
    · rename_i hk
      obtain ⟨a, o, rfl, g, ho⟩ := dget_of w hx hy hk
      rcases ho with ⟨h1, h2⟩ | ⟨vv, zz, h1, h2, h3⟩
      · rw [h2] at e; cases e
      · rw [h2] at e
        cases e
        subst h1
        cases (show v = Value.ref a from rx)
        exact ix_dct hu I g ry hs (q _ h3)
    · cases e
  · cases e
end
end MP

/-! MP builtins: len, min, max, sorted, .. by values. -/
namespace MP
open PySem PySem.Spec PyProof.Rows L2

def biV : Bi → Value
  | .len => .builtin "len" | .abs => .builtin "abs" | .min => .builtin "min" | .max => .builtin "max" | .sum => .builtin "sum" | .sorted => .builtin "sorted"
  | .tuple => .type "tuple" | .list => .type "list" | .dict => .type "dict" | .dictT => .type "dict" | .int => .type "int" | .all => .builtin "all" | .any => .builtin "any"
  | .setLen => .none | .sortedSet => .none | .tupRange => .none | .listRange => .none
inductive TrRs (as : List Addr) (K : PySem.W.Frag) (G H : Hp) : List V → List PV → Prop
  | nil : TrRs as K G H [] []
  | cons {v : V} {x : PV} {vs : List V} {xs : List PV} : TrR as K G H v x → TrRs as K G H vs xs → TrRs as K G H (v :: vs) (x :: xs)
def rBiF (K : PySem.W.Frag) (b : Bi) : List V → Hp → VK → Prop := fun vs H Q => ∃ as G D xs z, Wd as K G H D ∧ TrRs as K G H vs xs ∧ pBi b xs = some z ∧ FinF as K G H D z Q
def rBiM (K : PySem.W.Frag) (b : Bi) : List V → Hp → VK → Prop := fun vs H Q => ∃ as G D xs z, Wd as K G H D ∧ TrRs as K G H vs xs ∧ pBi b xs = some z ∧ Fin_ as K G H D z Q
section
variable {as : List Addr} {K : PySem.W.Frag} {G H : Hp} {D : DS}
theorem mapO_ints : ∀ {xs : List PV} {ns : List Int}, mapO intOf xs = some ns → xs = ns.map .int
  | [], _, h => by cases h; rfl
  | x :: xs, ns, h => by
    obtain ⟨y, h1, h2⟩ := Option.bind_eq_some_iff.mp (show (intOf x).bind (fun y => (mapO intOf xs).bind fun ys => some (y :: ys)) = some ns from h)
    obtain ⟨ys, h3, h4⟩ := Option.bind_eq_some_iff.mp h2
    cases h4
    rw [mapO_ints h3]
    cases x with
    | int i => cases h1; rfl
    | _ => cases h1
theorem mapO_bls : ∀ {xs : List PV} {ns : List Bool}, mapO blOf xs = some ns → xs = ns.map .bl
  | [], _, h => by cases h; rfl
  | x :: xs, ns, h => by
    obtain ⟨y, h1, h2⟩ := Option.bind_eq_some_iff.mp (show (blOf x).bind (fun y => (mapO blOf xs).bind fun ys => some (y :: ys)) = some ns from h)
    obtain ⟨ys, h3, h4⟩ := Option.bind_eq_some_iff.mp h2
    cases h4
    rw [mapO_bls h3]
    cases x with
    | bl i => cases h1; rfl
    | _ => cases h1
theorem TrS.toInts : ∀ {vs : List V} {ns : List Int}, TrS as K G vs (ns.map PV.int) → vs = ns.map V.int
  | _, [], h => by cases h; rfl
  | _, n :: ns, h => by
    cases h with
    | cons a t => cases a; rw [TrS.toInts t]; rfl
theorem TrS.toBls : ∀ {vs : List V} {ns : List Bool}, TrS as K G vs (ns.map PV.bl) → vs = ns.map V.bl
  | _, [], h => by cases h; rfl
  | _, n :: ns, h => by
    cases h with
    | cons a t => cases a; rw [TrS.toBls t]; rfl
theorem TrR.seq (w : Wd as K G H D) {x : V} {p : PV} {xs : List PV} (h : TrR as K G H x p) (e : seqOf p = some xs) : ∃ a vs, x = .ref a ∧ (H a = some (.lst vs) ∨ (H a = some (.tup vs) ∧ G a = some (.tup vs) ∧ p = .tup xs)) ∧ TrS as K G vs xs := by
  cases p with
  | lst ys =>
    cases e
    obtain ⟨a, vs, r, h1, t⟩ := h.lst w
    exact ⟨a, vs, r, .inl h1, t⟩
  | tup ys =>
    cases e
    obtain ⟨a, vs, r, h1, h2, t⟩ := h.tup w
    exact ⟨a, vs, r, .inr ⟨h1, h2, rfl⟩, t⟩
  | _ => cases e
/-- what an item of a list stands for -/
def Itm (as : List Addr) (K : PySem.W.Frag) (G : Hp) (u : Value) (x : PV) : Prop := ∃ v, RelV v u ∧ Tr as K G v x
theorem each_of : ∀ {vs : List V} {us : List Value} {xs : List PV}, Vals vs us → TrS as K G vs xs → PySem.W.EachIs (Itm as K G) us xs
  | _, _, _, .nil, .nil => .nil
  | _, _, _, .cons r t, .cons h k => .cons ⟨_, r, h⟩ (each_of t k)
theorem of_each : ∀ {us : List Value} {xs : List PV}, PySem.W.EachIs (Itm as K G) us xs → ∃ vs, Vals vs us ∧ TrS as K G vs xs
  | _, _, .nil => ⟨[], .nil, .nil⟩
  | _, _, .cons ⟨v, r, h⟩ t => by
    obtain ⟨vs, r2, h2⟩ := of_each t
    exact ⟨v :: vs, .cons r r2, .cons h h2⟩
theorem each_reads {X : Cx} {pins : List (Addr × Obj)} {σ : L2.St} {s : Shared} (I : Inv X pins σ H s) (w : Wd as X.K G H D) {us : List Value} {xs : List PV} (h : PySem.W.EachIs (Itm as X.K G) us xs) (hs : xs.all (shp DEP) = true) :
    PySem.W.EachIs (fun u x => ∃ bs, Reads s.heap u (toD x) bs) us xs := by
  induction h with
  | nil => exact .nil
  | cons h t ih =>
    rw [List.all_cons, Bool.and_eq_true] at hs
    obtain ⟨v, r, tr⟩ := h
    exact .cons (Dp.reads I _ v _ (tr.dp w hs.1) r) (ih hs.2)
theorem ord_all {xs : List PV} (h : ordOk xs = true) : xs.all (shp DEP) = true ∧ ∀ x ∈ xs, ∀ y ∈ xs, cmpOk x y = true := by
  unfold ordOk at h
  refine ⟨List.all_eq_true.mpr fun x hx => ?_, fun x hx y hy => ?_⟩
  · have := List.all_eq_true.mp h x hx
    rw [Bool.and_eq_true] at this
    exact this.1
  · have := List.all_eq_true.mp h x hx
    rw [Bool.and_eq_true] at this
    exact List.all_eq_true.mp this.2 y hy
theorem ord_alike {xs : List PV} (h : ordOk xs = true) : PySem.W.AllAlike (xs.map toD) := by
  obtain ⟨h1, h2⟩ := ord_all h
  intro d hd d' hd'
  obtain ⟨x, hx, rfl⟩ := List.mem_map.mp hd
  obtain ⟨y, hy, rfl⟩ := List.mem_map.mp hd'
  exact (alike_cmp x y (h2 x hx y hy)).1
theorem ord_AlikeAll {xs : List PV} (h : ordOk xs = true) : PySem.W.AlikeAll (toDs xs) := by
  obtain ⟨h1, h2⟩ := ord_all h
  rw [toDs_map]
  refine ⟨ord_alike h, fun d hd => ?_⟩
  obtain ⟨x, hx, rfl⟩ := List.mem_map.mp hd
  exact (alike_cmp x x (h2 x hx x hx)).2
theorem srt_sortable {xs : List PV} (h : ordOk xs = true) (h2 : srtOk xs = true) : PySem.W.Sortable (xs.map toD) := by
  obtain ⟨h3, h4⟩ := ord_all h
  unfold srtOk at h2
  rw [Bool.or_eq_true] at h2
  rcases h2 with h2 | h2
  · left
    intro d hd
    obtain ⟨x, hx, rfl⟩ := List.mem_map.mp hd
    have := List.all_eq_true.mp h2 x hx
    cases x with
    | tup l =>
      cases l with
      | nil => cases this
      | cons a l => exact ⟨toD a, toDs l, by simp [toD, toDs]⟩
    | _ => cases this
  · right
    intro d hd
    obtain ⟨x, hx, rfl⟩ := List.mem_map.mp hd
    have := List.all_eq_true.mp h2 x hx
    refine ⟨(alike_cmp x x (h4 x hx x hx)).2, fun l e => ?_⟩
    cases x with
    | tup l => cases this
    | _ => simp [toD] at e
theorem merge_eq {xs : List PV} (h : ordOk xs = true) : xs.mergeSort (fun a b => !plt b a) = xs.mergeSort (PySem.W.dataLe false toD) := by
  obtain ⟨h3, h4⟩ := ord_all h
  have e : ∀ a ∈ xs, ∀ b ∈ xs, (!plt b a) = PySem.W.dataLe false toD a b := fun a ha b hb => by
    rw [PySem.W.dataLe_eq]
    show (!plt b a) = !PySem.W.dataLt (toD b) (toD a)
    rw [plt_data DEP DEP b a (List.all_eq_true.mp h3 b hb) (List.all_eq_true.mp h3 a ha) (h4 b hb a ha)]
  exact PySem.W.sort_congr e
end

/-! ### toD tells trees apart -/
mutual
theorem toD_inj : ∀ (n m : Nat) (x y : PV), shp n x = true → shp m y = true → toD x = toD y → x = y
  | n, m, x, .dct _ _, _, h, _ => by rw [shp_dct] at h; cases h
  | n, m, x, .shr _, _, h, _ => by rw [shp_shr] at h; cases h
  | n, m, x, .scr _, _, h, _ => by rw [shp_scr] at h; cases h
  | n, m, x, .lck _, _, h, _ => by rw [shp_lck] at h; cases h
  | n, m, .dct _ _, y, h, _, _ => by rw [shp_dct] at h; cases h
  | n, m, .shr _, y, h, _, _ => by rw [shp_shr] at h; cases h
  | n, m, .scr _, y, h, _, _ => by rw [shp_scr] at h; cases h
  | n, m, .lck _, y, h, _, _ => by rw [shp_lck] at h; cases h
  | n, m, .tup xs, .tup ys, h1, h2, e => by
    cases n with
    | zero => rw [shp_tup0] at h1; cases h1
    | succ n =>
      cases m with
      | zero => rw [shp_tup0] at h2; cases h2
      | succ m =>
        rw [shp_tup] at h1 h2
        simp only [toD, PyData.tuple.injEq] at e
        rw [toDs_inj n m xs ys h1 h2 e]
  | n, m, .lst xs, .lst ys, h1, h2, e => by
    cases n with
    | zero => rw [shp_lst0] at h1; cases h1
    | succ n =>
      cases m with
      | zero => rw [shp_lst0] at h2; cases h2
      | succ m =>
        rw [shp_lst] at h1 h2
        simp only [toD, PyData.list.injEq] at e
        rw [toDs_inj n m xs ys h1 h2 e]
  | _, _, .non, .non, _, _, _ => rfl
  | _, _, .bl _, .bl _, _, _, e => by simp only [toD, PyData.bool.injEq] at e; rw [e]
  | _, _, .int _, .int _, _, _, e => by simp only [toD, PyData.int.injEq] at e; rw [e]
  | _, _, .str _, .str _, _, _, e => by simp only [toD, PyData.str.injEq] at e; rw [e]
  | _, _, .non, .bl _, _, _, e => by simp [toD] at e
  | _, _, .non, .int _, _, _, e => by simp [toD] at e
  | _, _, .non, .str _, _, _, e => by simp [toD] at e
  | _, _, .non, .tup _, _, _, e => by simp [toD] at e
  | _, _, .non, .lst _, _, _, e => by simp [toD] at e
  | _, _, .bl _, .non, _, _, e => by simp [toD] at e
  | _, _, .bl _, .int _, _, _, e => by simp [toD] at e
  | _, _, .bl _, .str _, _, _, e => by simp [toD] at e
  | _, _, .bl _, .tup _, _, _, e => by simp [toD] at e
  | _, _, .bl _, .lst _, _, _, e => by simp [toD] at e
  | _, _, .int _, .non, _, _, e => by simp [toD] at e
  | _, _, .int _, .bl _, _, _, e => by simp [toD] at e
  | _, _, .int _, .str _, _, _, e => by simp [toD] at e
  | _, _, .int _, .tup _, _, _, e => by simp [toD] at e
  | _, _, .int _, .lst _, _, _, e => by simp [toD] at e
  | _, _, .str _, .non, _, _, e => by simp [toD] at e
  | _, _, .str _, .bl _, _, _, e => by simp [toD] at e
  | _, _, .str _, .int _, _, _, e => by simp [toD] at e
  | _, _, .str _, .tup _, _, _, e => by simp [toD] at e
  | _, _, .str _, .lst _, _, _, e => by simp [toD] at e
  | _, _, .tup _, .non, _, _, e => by simp [toD] at e
  | _, _, .tup _, .bl _, _, _, e => by simp [toD] at e
  | _, _, .tup _, .int _, _, _, e => by simp [toD] at e
  | _, _, .tup _, .str _, _, _, e => by simp [toD] at e
  | _, _, .tup _, .lst _, _, _, e => by simp [toD] at e
  | _, _, .lst _, .non, _, _, e => by simp [toD] at e
  | _, _, .lst _, .bl _, _, _, e => by simp [toD] at e
  | _, _, .lst _, .int _, _, _, e => by simp [toD] at e
  | _, _, .lst _, .str _, _, _, e => by simp [toD] at e
  | _, _, .lst _, .tup _, _, _, e => by simp [toD] at e
theorem toDs_inj : ∀ (n m : Nat) (xs ys : List PV), xs.all (shp n) = true → ys.all (shp m) = true → toDs xs = toDs ys → xs = ys
  | _, _, [], [], _, _, _ => rfl
  | _, _, [], _ :: _, _, _, e => by simp [toDs] at e
  | _, _, _ :: _, [], _, _, e => by simp [toDs] at e
  | n, m, x :: xs, y :: ys, h1, h2, e => by
    rw [List.all_cons, Bool.and_eq_true] at h1 h2
    simp only [toDs, List.cons.injEq] at e
    rw [toD_inj n m x y h1.1 h2.1 e.1, toDs_inj n m xs ys h1.2 h2.2 e.2]
end

theorem minL_data {xs : List PV} (S : List PV) (hs : S.all (shp DEP) = true) (ho : ∀ x ∈ S, ∀ y ∈ S, cmpOk x y = true) : ∀ (x : PV), x ∈ S → (∀ y ∈ xs, y ∈ S) → PySem.W.minD (toD x) (xs.map toD) = toD (minL x xs) ∧ minL x xs ∈ S := by
  unfold PySem.W.minD minL
  induction xs with
  | nil => intro x hx _; exact ⟨rfl, hx⟩
  | cons y ys ih =>
    intro x hx hy
    have hy0 := hy y List.mem_cons_self
    rw [List.map_cons, List.foldl_cons, List.foldl_cons]
    have e := plt_data DEP DEP y x (List.all_eq_true.mp hs y hy0) (List.all_eq_true.mp hs x hx) (ho y hy0 x hx)
    simp only [← e]
    by_cases hb : plt y x = true
    · simp only [hb, if_true]
      exact ih y hy0 fun z hz => hy z (List.mem_cons_of_mem _ hz)
    · simp only [hb]
      exact ih x hx fun z hz => hy z (List.mem_cons_of_mem _ hz)
theorem maxL_data {xs : List PV} (S : List PV) (hs : S.all (shp DEP) = true) (ho : ∀ x ∈ S, ∀ y ∈ S, cmpOk x y = true) : ∀ (x : PV), x ∈ S → (∀ y ∈ xs, y ∈ S) → PySem.W.maxD (toD x) (xs.map toD) = toD (maxL x xs) ∧ maxL x xs ∈ S := by
  unfold PySem.W.maxD maxL
  induction xs with
  | nil => intro x hx _; exact ⟨rfl, hx⟩
  | cons y ys ih =>
    intro x hx hy
    have hy0 := hy y List.mem_cons_self
    rw [List.map_cons, List.foldl_cons, List.foldl_cons]
    have e := plt_data DEP DEP x y (List.all_eq_true.mp hs x hx) (List.all_eq_true.mp hs y hy0) (ho x hx y hy0)
    simp only [← e]
    by_cases hb : plt x y = true
    · simp only [hb, if_true]
      exact ih y hy0 fun z hz => hy z (List.mem_cons_of_mem _ hz)
    · simp only [hb]
      exact ih x hx fun z hz => hy z (List.mem_cons_of_mem _ hz)
/-- the item that is told by its data -/
theorem pick_item {P : Program} {w : World} {as : List Addr} {K : PySem.W.Frag} {G H : Hp} {D : DS} {h h' : Heap} (W : Wd as K G H D) {vs : List V} {its : List Value} {xs : List PV} (rv : Vals vs its) (t : TrS as K G vs xs)
    (hs : xs.all (shp DEP) = true) (rd : ∀ (v : V) (u : Value) (d : PyData), Dp K H v d → RelV v u → ∃ bs, Reads h u d bs) (k : ∀ b o, h.get? b = some o → h'.get? b = some o)
    {i : Nat} {u : Value} {m : PV} {bs : List Addr} (hi : its.toArray[i]? = some u) (hm : shp DEP m = true) (hr : Reads h' u (toD m) bs) : ∃ v, RelV v u ∧ Tr as K G v m := by
  have hi' : its[i]? = some u := by simpa using hi
  have hlt : i < vs.length := by
    rw [rv.length]
    exact (List.getElem?_eq_some_iff.mp hi').1
  have hv : vs[i]? = some vs[i] := List.getElem?_eq_getElem hlt
  obtain ⟨u', e1, r1⟩ := rv.get hv
  rw [hi'] at e1
  cases e1
  obtain ⟨x, hx, tx⟩ := t.getV hv
  have hxs := List.all_eq_true.mp hs x (List.mem_of_getElem? hx)
  obtain ⟨cs, r2⟩ := rd _ u _ (tx.dp W hxs) r1
  have e2 := PySem.SeqAt.Reads.unique _ _ _ _ _ (lay_shp DEP x hxs).1 (PyProof.Rows.Reads.keeps k r2) hr
  have e3 := toD_inj DEP DEP x m hxs hm e2
  subst e3
  exact ⟨_, r1, tx⟩

section
variable {X : Cx}
theorem TrRs.one {as : List Addr} {K : PySem.W.Frag} {G H : Hp} {vs : List V} {p : PV} (t : TrRs as K G H vs [p]) : ∃ x, vs = [x] ∧ TrR as K G H x p := by
  cases t with
  | cons h t => cases t; exact ⟨_, rfl, h⟩
theorem TrRs.two {as : List Addr} {K : PySem.W.Frag} {G H : Hp} {vs : List V} {p q : PV} (t : TrRs as K G H vs [p, q]) : ∃ x y, vs = [x, y] ∧ TrR as K G H x p ∧ TrR as K G H y q := by
  cases t with
  | cons h t => obtain ⟨y, rfl, h2⟩ := t.one; exact ⟨_, _, rfl, h, h2⟩
theorem TrRs.len {as : List Addr} {K : PySem.W.Frag} {G H : Hp} : ∀ {vs : List V} {ps : List PV}, TrRs as K G H vs ps → vs.length = ps.length
  | _, _, .nil => rfl
  | _, _, .cons _ t => congrArg Nat.succ (TrRs.len t)

theorem bi_len : CallR X (.builtin "len") (rBiM X.K .len) := by
  intro pins s σ H vs us Q I r h
  obtain ⟨as, G, D, ps, z, w, t, e, f⟩ := h
  unfold pBi at e
  split at e <;> first | (rename_i h0; cases h0; done) | skip
  all_goals try (cases e; done)
  · rename_i xs _
    obtain ⟨x, rfl, tx⟩ := t.one
    obtain ⟨a, ws, rfl, h1, t1⟩ := tx.lst w
    cases e
    exact call_len pins s σ H _ us Q I r ⟨_, ws.length, rfl, .inl ⟨ws, .of h1, rfl⟩, by rw [t1.len]; exact f.same w (.int _)⟩
  · rename_i xs _
    obtain ⟨x, rfl, tx⟩ := t.one
    obtain ⟨a, ws, rfl, h1, _, t1⟩ := tx.tup w
    cases e
    exact call_len pins s σ H _ us Q I r ⟨_, ws.length, rfl, .inr ⟨ws, .of h1, rfl⟩, by rw [t1.len]; exact f.same w (.int _)⟩
  · rename_i ns _
    obtain ⟨x, rfl, tx⟩ := t.one
    obtain ⟨a, rfl, h1⟩ := tx.scr w
    cases e
    exact call_len pins s σ H _ us Q I r ⟨_, ns.length, rfl, .inl ⟨_, h1, by rw [List.length_map]⟩, f.same w (.int _)⟩
  · rename_i y _
    split at e
    · rename_i hl
      obtain ⟨x, rfl, tx⟩ := t.one
      obtain rfl := tx.str
      cases e
      exact call_len pins s σ H _ us Q I r ⟨_, y.length, rfl, ⟨line_lim hl, rfl⟩, f.same w (.int _)⟩
    · cases e
  · rename_i tt kvs _
    obtain ⟨x, rfl, tx⟩ := t.one
    cases e
    rcases tx.dct w with ⟨_, a, ks, rfl, h1, tk⟩ | ⟨_, a, ks, rfl, h1, tk⟩
    · obtain ⟨u, rfl, ru⟩ := vals1 r
      cases ru
      exact d_len I h1 fun t s' I' => ⟨.int kvs.length, H, I', ⟨t, by rw [tk.len]⟩, f.same w (.int _)⟩
    · obtain ⟨u, rfl, ru⟩ := vals1 r
      cases ru
      obtain ⟨z, hd, ys, rel, dd⟩ := dt_rd I.hok h1
      have hl : ks.length = ys.length := Paired.length rel
      refine PySem.call_len_dictH hd dd (by rw [← hl]; rw [sizeLine_eq] at z; omega) ?_
      rw [← hl, tk.len]
      exact ⟨.int _, H, I.tok _, ⟨_, rfl⟩, f.same w (.int _)⟩
theorem bi_abs : CallR X (.builtin "abs") (rBiM X.K .abs) := by
  intro pins s σ H vs us Q I r h
  obtain ⟨as, G, D, ps, z, w, t, e, f⟩ := h
  unfold pBi at e
  split at e <;> first | (rename_i h0; cases h0; done) | skip
  all_goals try (cases e; done)
  obtain ⟨x, rfl, tx⟩ := t.one
  obtain rfl := tx.int
  cases e
  exact call_abs pins s σ H _ us Q I r ⟨_, rfl, f.same w (.int _)⟩
theorem bi_int : CallR X (.type "int") (rBiM X.K .int) := by
  intro pins s σ H vs us Q I r h
  obtain ⟨as, G, D, ps, z, w, t, e, f⟩ := h
  unfold pBi at e
  split at e <;> first | (rename_i h0; cases h0; done) | skip
  all_goals try (cases e; done)
  · obtain ⟨x, rfl, tx⟩ := t.one
    obtain rfl := tx.int
    cases e
    exact call_int1 pins s σ H _ us Q I r (.inl ⟨_, rfl, f.same w (.int _)⟩)
  · obtain ⟨x, rfl, tx⟩ := t.one
    obtain rfl := tx.bl
    cases e
    exact call_int1 pins s σ H _ us Q I r (.inr ⟨_, rfl, f.same w (.int _)⟩)
theorem bi_all (hc : X.calm = true) : CallR X (.builtin "all") (rBiM X.K .all) := by
  intro pins s σ H vs us Q I r h
  obtain ⟨as, G, D, ps, z, w, t, e, f⟩ := h
  unfold pBi at e
  split at e <;> first | (rename_i h0; cases h0; done) | skip
  all_goals try (cases e; done)
  obtain ⟨x, rfl, tx⟩ := t.one
  obtain ⟨a, ws, rfl, h1, t1⟩ := tx.lst w
  obtain ⟨bs, e1, e2⟩ := Option.map_eq_some_iff.mp e
  have := mapO_bls e1
  subst this
  have := t1.toBls
  subst this
  subst e2
  exact cr_all hc pins s σ H _ us Q I r ⟨a, bs, rfl, .of h1, f.same w (.bl _)⟩
theorem bi_any (hc : X.calm = true) : CallR X (.builtin "any") (rBiM X.K .any) := by
  intro pins s σ H vs us Q I r h
  obtain ⟨as, G, D, ps, z, w, t, e, f⟩ := h
  unfold pBi at e
  split at e <;> first | (rename_i h0; cases h0; done) | skip
  all_goals try (cases e; done)
  obtain ⟨x, rfl, tx⟩ := t.one
  obtain ⟨a, ws, rfl, h1, t1⟩ := tx.lst w
  obtain ⟨bs, e1, e2⟩ := Option.map_eq_some_iff.mp e
  have := mapO_bls e1
  subst this
  have := t1.toBls
  subst this
  subst e2
  exact cr_any hc pins s σ H _ us Q I r ⟨a, bs, rfl, .of h1, f.same w (.bl _)⟩
theorem bi_sum (hc : X.calm = true) : CallR X (.builtin "sum") (rBiM X.K .sum) := by
  intro pins s σ H vs us Q I r h
  obtain ⟨as, G, D, ps, z, w, t, e, f⟩ := h
  unfold pBi at e
  split at e <;> first | (rename_i h0; cases h0; done) | skip
  all_goals try (cases e; done)
  obtain ⟨x, rfl, tx⟩ := t.one
  obtain ⟨xs, e1, e2⟩ := Option.bind_eq_some_iff.mp e
  obtain ⟨ns, e3, e4⟩ := Option.map_eq_some_iff.mp e2
  have := mapO_ints e3
  subst this
  subst e4
  obtain ⟨a, ws, rfl, h1, t1⟩ := tx.seq w e1
  have := t1.toInts
  subst this
  rcases h1 with h1 | ⟨h1, _, _⟩
  · exact cr_sum hc pins s σ H _ us Q I r ⟨a, ns, rfl, .of h1, f.same w (.int _)⟩
  · obtain ⟨its, rv, pl, hz⟩ := I.tuple (.of h1)
    rw [Vals.ref1 r]
    have hi := rv.ints
    obtain ⟨xs, ex⟩ := hi.allInts.items
    have hn : numsOf (intItems xs).toList = ns := by rw [← ex]; exact hi.numsOf
    rw [nums_intItems] at hn
    rw [ex] at pl
    refine PySem.W.ktm_sumG (I.ok.hd hc) pl fun h' tk t' hk => ?_
    refine ⟨.int ns.sum, H, I.kept hk, ?_, f.same w (.int _)⟩
    rw [preSum_eq, List.take_of_length_le (by simp), hn]; exact ⟨_, rfl⟩
theorem bi_tuple : CallR X (.type "tuple") (rBiM X.K .tuple) := by
  intro pins s σ H vs us Q I r h
  obtain ⟨as, G, D, ps, z, w, t, e, f⟩ := h
  unfold pBi at e
  split at e <;> first | (rename_i h0; cases h0; done) | skip
  all_goals try (cases e; done)
  obtain ⟨x, rfl, tx⟩ := t.one
  obtain ⟨xs, e1, e2⟩ := Option.map_eq_some_iff.mp e
  subst e2
  obtain ⟨a, ws, rfl, h1, t1⟩ := tx.seq w e1
  rcases h1 with h1 | ⟨h1, h2, _⟩
  · exact call_tuple_of pins s σ H _ us Q I r ⟨a, ws, rfl, .inl ⟨.of h1, fun l hl => f.new w hl (.tup upd_same (t1.up (le_new (w.free hl))))⟩⟩
  · exact call_tuple_of pins s σ H _ us Q I r ⟨a, ws, rfl, .inr ⟨.of h1, f.same w (.tup h2 t1)⟩⟩
theorem trS_keysK {as : List Addr} {K : PySem.W.Frag} {G : Hp} : ∀ {ks : List (Key × V)} {kvs : List (PV × PV)}, TrK as K G ks kvs → TrS as K G (ks.map fun kv => kV kv.1) (kvs.map (·.1))
  | _, _, .nil => .nil
  | _, _, .cons (k := k) h t => by
    refine .cons ?_ (trS_keysK t)
    cases k with
    | inl i => exact .int i
    | inr s => exact .str s
theorem bi_list (hc : X.calm = true) : CallR X (.type "list") (rBiF X.K .list) := by
  intro pins s σ H vs us Q I r h
  obtain ⟨as, G, D, ps, z, w, t, e, f⟩ := h
  unfold pBi at e
  split at e <;> first | (rename_i h0; cases h0; done) | skip
  all_goals try (cases e; done)
  · obtain ⟨x, rfl, tx⟩ := t.one
    rcases tx.dct w with ⟨_, a, ks, rfl, h1, tk⟩ | ⟨e9, a, ks, rfl, h1, tk⟩
    · cases e
      exact call_listD hc pins s σ H _ us Q I r ⟨a, ks, rfl, h1, fun p hp => f p _ hp ⟨_, upd_same, trS_keysK tk⟩⟩
    · cases e9
  · obtain ⟨x, rfl, tx⟩ := t.one
    cases e
    obtain ⟨a, ws, rfl, h1, t1⟩ := tx.lst w
    exact call_list_of pins s σ H _ us Q I r ⟨a, ws, rfl, .inl (.of h1), fun l hl => f l _ hl ⟨_, upd_same, t1⟩⟩
  · obtain ⟨x, rfl, tx⟩ := t.one
    cases e
    obtain ⟨a, ws, rfl, h1, _, t1⟩ := tx.tup w
    exact call_list_of pins s σ H _ us Q I r ⟨a, ws, rfl, .inr (.of h1), fun l hl => f l _ hl ⟨_, upd_same, t1⟩⟩
mutual
theorem reads_bound {h : Heap} : ∀ {v : Value} {d : PyData} {as : List Addr}, Reads h v d as → ∀ a ∈ as, a < h.objs.size
  | _, _, _, .none, _, hm => absurd hm (by simp)
  | _, _, _, .bool _, _, hm => absurd hm (by simp)
  | _, _, _, .int _ _, _, hm => absurd hm (by simp)
  | _, _, _, .str _ _, _, hm => absurd hm (by simp)
  | _, _, _, .list ho _ _ r, b, hm => by
    rcases List.mem_cons.mp hm with e | hm
    · rw [e]; exact Heap.lt_size ho
    · exact readsAll_bound r b hm
  | _, _, _, .tuple ho _ _ r, b, hm => readsAll_bound r b hm
  | _, _, _, .dict ho _ _ r r2, b, hm => by
    rcases List.mem_append.mp hm with hm | hm
    · rcases List.mem_cons.mp hm with e | hm
      · rw [e]; exact Heap.lt_size ho
      · exact readsAll_bound r b hm
    · exact readsAll_bound r2 b hm
theorem readsAll_bound {h : Heap} : ∀ {v : List Value} {d : List PyData} {as : List Addr}, ReadsAll h v d as → ∀ a ∈ as, a < h.objs.size
  | _, _, _, .nil, _, hm => absurd hm (by simp)
  | _, _, _, .cons r t, b, hm => by
    rcases List.mem_append.mp hm with hm | hm
    · exact reads_bound r b hm
    · exact readsAll_bound t b hm
end
theorem each_len {α : Type} {R : Value → α → Prop} {us : List Value} {xs : List α} (h : PySem.W.EachIs R us xs) : us.length = xs.length := by
  induction h with
  | nil => rfl
  | cons _ _ ih => rw [List.length_cons, List.length_cons, ih]
theorem merge_mem {xs : List PV} {r : PV → PV → Bool} {x : PV} (h : x ∈ xs.mergeSort r) : x ∈ xs := (List.mergeSort_perm xs r).mem_iff.mp h
theorem dep_all {xs : List PV} (hs : xs.all (shp DEP) = true) : ∀ x ∈ xs, (toD x).depth ≤ 20 := fun x hx => (lay_shp DEP x (List.all_eq_true.mp hs x hx)).2
/-- sorted of a collected list of values -/
theorem sorted_collected (hu : X.A.units + 65 < cLine) {x : Value} {xs : List PV} {as : List Addr} {G : Hp} {D : DS} {pins : List (Addr × Obj)} {s : Shared} {σ : L2.St} {H : Hp} {Q : VK} (w : Wd as X.K G H D)
    (hx : ordOk xs = true) (hx2 : srtOk xs = true) (f : FinF as X.K G H D (.lst (xs.mergeSort fun a b => !plt b a)) Q) 
    (hcol : ∀ (Q' : List Value → Shared → Prop) (E' : Value → Shared → Prop), (∀ its h' tk, its.length ≤ sizeLine → PySem.W.EachIs (Itm as X.K G) its xs → Inv X pins σ H { s with heap := h', toks := tk } → Q' its { s with heap := h', toks := tk }) → wpAny (model X.prog X.w) X.A.in1 (collect x) Q' E' s) :
    wpAny (model X.prog X.w) X.A (call (.builtin "sorted") [x]) (EP X pins σ Q) X.xe s := by
  obtain ⟨hs, _⟩ := ord_all hx
  refine Calls.call_function_entry PyProof.Rows.kind_sorted PyProof.Rows.plain_sorted PyProof.Rows.entry_sorted (PyProof.Rows.args_sorted1 _) ?_
  unfold Builtin.«sorted»
  refine wpAny_bind (m := checkCount "sorted" 1 1 _) (wpAny_pure ?_)
  refine wpAny_bind (hcol _ _ fun its h' tk hz e0 I1 => ?_)
  refine wpAny_bind (wpAny_newList ?_ hz)
  have hoL : (h'.push (seqObj "list" its.toArray 0)).get? h'.objs.size = some (seqObj "list" its.toArray 0) := Heap.get?_push_size _ rfl
  show wpAny _ _ _ _ _ { s with heap := h'.push (seqObj "list" its.toArray 0), toks := tk }
  have er : PySem.W.EachIs (fun v b => ∃ bs, Reads h' v (toD b) bs) its xs := each_reads I1 w e0 hs
  have er2 : PySem.W.EachIs (fun v b => ∃ bs, Reads (h'.push (seqObj "list" its.toArray 0)) v (toD b) bs ∧ h'.objs.size ∉ bs) its xs := by
    refine er.mono fun v b ⟨bs, rd⟩ => ⟨bs, PyProof.Rows.Reads.keeps (fun c o q => Heap.get?_push_of_some _ q) rd, fun hm => ?_⟩
    exact absurd (reads_bound rd _ hm) (Nat.lt_irrefl _)
  refine wpAny_bind (wpAny_holding (PySem.W.list_sort_data (A := X.A.in1) (s := { s with heap := h'.push (seqObj "list" its.toArray 0), toks := tk }) (enc := toD) hoL e0 er2 (ord_alike hx) (srt_sortable hx hx2) (by rw [← each_len e0]; exact hz) (fun b hb => ?_) fun out hl eo => ?_))
  · have := dep_all hs b hb
    show X.A.units + 1 + 1 + _ < _
    omega
  · rw [← merge_eq hx] at eo
    obtain ⟨vs, rv, tv⟩ := of_each eo
    obtain ⟨e', he'⟩ := PyProof.Rows.sortedHeap_at (vs := its) (out := out.toArray) hoL
    have hlen : vs.length ≤ sizeLine := by rw [rv.length, hl, ← each_len e0]; exact hz
    have hn := I1.hok.fresh (Nat.le_refl _)
    refine wpAny_pure ⟨_, rfl, .ref h'.objs.size, upd H h'.objs.size (.lst vs), I1.laid (t' := tk) (fun b u e => ?_) (Nat.le_refl _)
      (show ObjOk X.prog X.w _ _ _ (.lst vs) from ⟨hlen, out, e', rv, he'⟩), rfl, f _ _ hn ⟨_, upd_same, tv⟩⟩
    have hb : b < h'.objs.size := Heap.lt_size e
    rw [PyProof.Rows.sortedHeap_old (Nat.ne_of_lt hb) (by rw [size_push']; exact Nat.lt_succ_of_lt hb)]
    exact Heap.get?_push_of_some _ e
theorem bi_sorted (hu : X.A.units + 65 < cLine) (hc : X.calm = true) : CallR X (.builtin "sorted") (rBiF X.K .sorted) := by
  intro pins s σ H vs us Q I r h
  obtain ⟨as, G, D, ps, z, w, t, e, f⟩ := h
  have hp : ∀ {ys : List PV}, (pSort ys).map PV.lst = some z → ordOk ys = true ∧ srtOk ys = true ∧ z = .lst (ys.mergeSort fun a b => !plt b a) := fun {ys} h => by
    obtain ⟨l, h1, h2⟩ := Option.map_eq_some_iff.mp h
    have h1' : (if (ordOk ys && srtOk ys) = true then some (ys.mergeSort fun a b => !plt b a) else none) = some l := h1
    split at h1'
    · rename_i hh
      rw [Bool.and_eq_true] at hh
      cases h1'
      exact ⟨hh.1, hh.2, h2.symm⟩
    · cases h1'
  unfold pBi at e
  split at e <;> first | (rename_i h0; cases h0; done) | skip
  all_goals try (cases e; done)
  · obtain ⟨x, rfl, tx⟩ := t.one
    obtain ⟨h1, h2, rfl⟩ := hp e
    obtain ⟨a, ws, rfl, g1, t1⟩ := tx.lst w
    obtain ⟨its, rv, pl, hz⟩ := I.list (.of g1)
    rw [Vals.ref1 r]
    obtain ⟨o, ho, hc, n, hd⟩ := pl.isList
    refine sorted_collected hu w h1 h2 f fun Q' E' hq => ?_
    exact PySem.wpAny_collect_seq a (.inl rfl) ho hc hd (fun h' kp => by simpa using hq its h' s.toks (by rw [← rv.length]; exact hz) (each_of rv t1) (I.kept kp)) (by simp only [List.size_toArray]; rw [← rv.length]; exact hz)
  · obtain ⟨x, rfl, tx⟩ := t.one
    obtain ⟨h1, h2, rfl⟩ := hp e
    obtain ⟨a, ws, rfl, g1, _, t1⟩ := tx.tup w
    obtain ⟨its, rv, pl, hz⟩ := I.tuple (.of g1)
    rw [Vals.ref1 r]
    obtain ⟨o, ho, hc, n, hd⟩ := id pl
    refine sorted_collected hu w h1 h2 f fun Q' E' hq => ?_
    exact PySem.wpAny_collect_seq a (.inr rfl) ho hc hd (fun h' kp => by simpa using hq its h' s.toks (by rw [← rv.length]; exact hz) (each_of rv t1) (I.kept kp)) (by simp only [List.size_toArray]; rw [← rv.length]; exact hz)
  · obtain ⟨x, rfl, tx⟩ := t.one
    obtain ⟨h1, h2, rfl⟩ := hp e
    rcases tx.dct w with ⟨_, a, ks, rfl, g1, tk⟩ | ⟨e9, a, ks, rfl, g1, tk⟩
    · rw [Vals.ref1 r]
      obtain ⟨z, lo, kvs, rel, dd⟩ := dk_rd I.hok g1
      obtain ⟨ep, hat⟩ := dd.dictAt
      have ek : (ks.map fun kv => kV kv.1) = kvs.map fun p => kV p.1 := by
        have e := congrArg (List.map kV) rel.keys
        rw [List.map_map, List.map_map] at e
        exact e
      refine sorted_collected hu w h1 h2 f fun Q' E' hq => ?_
      refine PySem.W.kdu_collect (A := X.A.in1) (PySem.W.kdl_dict (knd := mixKind X.prog X.w) (kvs := kvs) (ep := ep) lo) (I.ok.hd hc) hat (by rw [← rel.length]; exact z) fun h' tk1 acc hk hacc => ?_
      have hv : Vals (kvs.map fun p => kV p.1) acc.toList := keys_at (by rw [Array.length_toList]; exact hacc.1) fun j v e => hacc.2 j v (by rw [← Array.getElem?_toList]; exact e)
      have tv := trS_keysK tk
      rw [ek] at tv
      exact hq acc.toList h' _ (by rw [Array.length_toList, hacc.1, ← rel.length]; exact z) (each_of hv tv) (I.kept hk)
    · cases e9
theorem bi_min (hu : X.A.units + 65 < cLine) (hc : X.calm = true) : CallR X (.builtin "min") (rBiM X.K .min) := by
  intro pins s σ H vs us Q I r h
  obtain ⟨as, G, D, ps, z, w, t, e, f⟩ := h
  have hp : ∀ {ys : List PV}, pMin ys = some z → ∃ y l, ys = y :: l ∧ ordOk ys = true ∧ z = minL y l := fun {ys} h => by
    cases ys with
    | nil => cases h
    | cons y l =>
      have h1' : (if ordOk (y :: l) = true then some (minL y l) else none) = some z := h
      split at h1'
      · cases h1'
        exact ⟨y, l, rfl, by assumption, rfl⟩
      · cases h1'
  unfold pBi at e
  split at e <;> first | (rename_i h0; cases h0; done) | skip
  all_goals try (cases e; done)
  · obtain ⟨x, rfl, tx⟩ := t.one
    obtain ⟨y, l, rfl, ho, rfl⟩ := hp e
    obtain ⟨a, ws, rfl, g1, t1⟩ := tx.lst w
    obtain ⟨its, rv, pl, hz⟩ := I.list (.of g1)
    rw [Vals.ref1 r]
    obtain ⟨hs, hcmp⟩ := ord_all ho
    obtain ⟨bs, ra⟩ := Dp.readsAll I (toDs (y :: l)) ws its (t1.dp w hs) rv
    obtain ⟨em, hmem⟩ := minL_data (xs := l) (y :: l) hs hcmp y List.mem_cons_self (fun z hz => List.mem_cons_of_mem _ hz)
    have hd := (lay_shps DEP _ hs).2
    rw [show toDs (y :: l) = toD y :: toDs l from by simp [toDs]] at ra hd
    refine PySem.W.min_list_data (I.ok.hd hc) pl.isList (by simpa using ra) (by have := ord_AlikeAll ho; rwa [show toDs (y :: l) = toD y :: toDs l from by simp [toDs]] at this) (by have : DEP = 20 := rfl; omega) fun i v h' tk bs hi hr hk => ?_
    rw [toDs_map, em] at hr
    obtain ⟨v', rv', tv⟩ := pick_item (P := X.prog) (w := X.w) (h := s.heap) (h' := h') w rv t1 hs (fun v u d hd ru => Dp.reads I _ v u hd ru) hk hi (List.all_eq_true.mp hs _ hmem) hr
    exact ⟨v', H, I.kept hk, rv', f.same w tv⟩
  · obtain ⟨x, rfl, tx⟩ := t.one
    obtain ⟨y, l, rfl, ho, rfl⟩ := hp e
    obtain ⟨a, ws, rfl, g1, _, t1⟩ := tx.tup w
    obtain ⟨its, rv, pl, hz⟩ := I.tuple (.of g1)
    rw [Vals.ref1 r]
    obtain ⟨hs, hcmp⟩ := ord_all ho
    obtain ⟨bs, ra⟩ := Dp.readsAll I (toDs (y :: l)) ws its (t1.dp w hs) rv
    obtain ⟨em, hmem⟩ := minL_data (xs := l) (y :: l) hs hcmp y List.mem_cons_self (fun z hz => List.mem_cons_of_mem _ hz)
    have hd := (lay_shps DEP _ hs).2
    rw [show toDs (y :: l) = toD y :: toDs l from by simp [toDs]] at ra hd
    refine PySem.W.min_tuple_data (I.ok.hd hc) pl (by simpa using ra) (by have := ord_AlikeAll ho; rwa [show toDs (y :: l) = toD y :: toDs l from by simp [toDs]] at this) (by have : DEP = 20 := rfl; omega) fun i v h' tk bs hi hr hk => ?_
    rw [toDs_map, em] at hr
    obtain ⟨v', rv', tv⟩ := pick_item (P := X.prog) (w := X.w) (h := s.heap) (h' := h') w rv t1 hs (fun v u d hd ru => Dp.reads I _ v u hd ru) hk hi (List.all_eq_true.mp hs _ hmem) hr
    exact ⟨v', H, I.kept hk, rv', f.same w tv⟩
  · obtain ⟨x, y, rfl, tx, ty⟩ := t.two
    obtain rfl := tx.int
    obtain rfl := ty.int
    cases e
    exact call_min2 hc pins s σ H _ us Q I r ⟨_, _, rfl, f.same w (.int _)⟩
theorem bi_max (hu : X.A.units + 65 < cLine) (hc : X.calm = true) : CallR X (.builtin "max") (rBiM X.K .max) := by
  intro pins s σ H vs us Q I r h
  obtain ⟨as, G, D, ps, z, w, t, e, f⟩ := h
  have hp : ∀ {ys : List PV}, pMax ys = some z → ∃ y l, ys = y :: l ∧ ordOk ys = true ∧ z = maxL y l := fun {ys} h => by
    cases ys with
    | nil => cases h
    | cons y l =>
      have h1' : (if ordOk (y :: l) = true then some (maxL y l) else none) = some z := h
      split at h1'
      · cases h1'
        exact ⟨y, l, rfl, by assumption, rfl⟩
      · cases h1'
  unfold pBi at e
  split at e <;> first | (rename_i h0; cases h0; done) | skip
  all_goals try (cases e; done)
  · obtain ⟨x, rfl, tx⟩ := t.one
    obtain ⟨y, l, rfl, ho, rfl⟩ := hp e
    obtain ⟨a, ws, rfl, g1, t1⟩ := tx.lst w
    obtain ⟨its, rv, pl, hz⟩ := I.list (.of g1)
    rw [Vals.ref1 r]
    obtain ⟨hs, hcmp⟩ := ord_all ho
    obtain ⟨bs, ra⟩ := Dp.readsAll I (toDs (y :: l)) ws its (t1.dp w hs) rv
    obtain ⟨em, hmem⟩ := maxL_data (xs := l) (y :: l) hs hcmp y List.mem_cons_self (fun z hz => List.mem_cons_of_mem _ hz)
    have hd := (lay_shps DEP _ hs).2
    rw [show toDs (y :: l) = toD y :: toDs l from by simp [toDs]] at ra hd
    refine PySem.W.max_list_data (I.ok.hd hc) pl.isList (by simpa using ra) (by have := ord_AlikeAll ho; rwa [show toDs (y :: l) = toD y :: toDs l from by simp [toDs]] at this) (by have : DEP = 20 := rfl; omega) fun i v h' tk bs hi hr hk => ?_
    rw [toDs_map, em] at hr
    obtain ⟨v', rv', tv⟩ := pick_item (P := X.prog) (w := X.w) (h := s.heap) (h' := h') w rv t1 hs (fun v u d hd ru => Dp.reads I _ v u hd ru) hk hi (List.all_eq_true.mp hs _ hmem) hr
    exact ⟨v', H, I.kept hk, rv', f.same w tv⟩
  · obtain ⟨x, rfl, tx⟩ := t.one
    obtain ⟨y, l, rfl, ho, rfl⟩ := hp e
    obtain ⟨a, ws, rfl, g1, _, t1⟩ := tx.tup w
    obtain ⟨its, rv, pl, hz⟩ := I.tuple (.of g1)
    rw [Vals.ref1 r]
    obtain ⟨hs, hcmp⟩ := ord_all ho
    obtain ⟨bs, ra⟩ := Dp.readsAll I (toDs (y :: l)) ws its (t1.dp w hs) rv
    obtain ⟨em, hmem⟩ := maxL_data (xs := l) (y :: l) hs hcmp y List.mem_cons_self (fun z hz => List.mem_cons_of_mem _ hz)
    have hd := (lay_shps DEP _ hs).2
    rw [show toDs (y :: l) = toD y :: toDs l from by simp [toDs]] at ra hd
    refine PySem.W.max_tuple_data (I.ok.hd hc) pl (by simpa using ra) (by have := ord_AlikeAll ho; rwa [show toDs (y :: l) = toD y :: toDs l from by simp [toDs]] at this) (by have : DEP = 20 := rfl; omega) fun i v h' tk bs hi hr hk => ?_
    rw [toDs_map, em] at hr
    obtain ⟨v', rv', tv⟩ := pick_item (P := X.prog) (w := X.w) (h := s.heap) (h' := h') w rv t1 hs (fun v u d hd ru => Dp.reads I _ v u hd ru) hk hi (List.all_eq_true.mp hs _ hmem) hr
    exact ⟨v', H, I.kept hk, rv', f.same w tv⟩
  · obtain ⟨x, y, rfl, tx, ty⟩ := t.two
    obtain rfl := tx.int
    obtain rfl := ty.int
    cases e
    exact call_max2 hc pins s σ H _ us Q I r ⟨_, _, rfl, f.same w (.int _)⟩
theorem kPV_kV {as : List Addr} {K : PySem.W.Frag} {G : Hp} (k : Key) : Tr as K G (kV k) (kPV k) := by
  cases k with
  | inl i => exact .int i
  | inr s => exact .str s
theorem TrK.any {as : List Addr} {K : PySem.W.Frag} {G : Hp} (k : Key) : ∀ {ks : List (Key × V)} {kvs : List (PV × PV)}, TrK as K G ks kvs → (kvs.any fun p => peq p.1 (kPV k)) = ks.any fun kv => decide (kv.1 = k)
  | _, _, .nil => rfl
  | _, _, .cons h t => by rw [List.any_cons, List.any_cons, kPV_peq, TrK.any k t]
theorem TrK.mapPut {as : List Addr} {K : PySem.W.Frag} {G : Hp} (k : Key) {v : V} {x : PV} (hv : Tr as K G v x) : ∀ {ks : List (Key × V)} {kvs : List (PV × PV)}, TrK as K G ks kvs →
    TrK as K G (ks.map fun kv => if kv.1 = k then (kv.1, v) else kv) (kvs.map fun p => if peq p.1 (kPV k) = true then (p.1, x) else p)
  | _, _, .nil => .nil
  | _, _, .cons (k := k') h t => by
    rw [List.map_cons, List.map_cons]
    by_cases e : k' = k
    · simp only [kPV_peq, e, decide_true, if_true]
      exact .cons hv (TrK.mapPut k hv t)
    · simp only [kPV_peq, decide_eq_false e, if_neg e]
      exact .cons h (TrK.mapPut k hv t)
theorem TrK.app {as : List Addr} {K : PySem.W.Frag} {G : Hp} : ∀ {ks ls : List (Key × V)} {kvs lvs : List (PV × PV)}, TrK as K G ks kvs → TrK as K G ls lvs → TrK as K G (ks ++ ls) (kvs ++ lvs)
  | _, _, _, _, .nil, r => r
  | _, _, _, _, .cons h t, r => .cons h (TrK.app t r)
theorem TrK.put {as : List Addr} {K : PySem.W.Frag} {G : Hp} (k : Key) {v : V} {x : PV} (hv : Tr as K G v x) {ks : List (Key × V)} {kvs : List (PV × PV)} (t : TrK as K G ks kvs) : TrK as K G (putK ks k v) (dPut (kPV k) x kvs) := by
  unfold putK dPut
  rw [t.any k]
  split
  · exact t.mapPut k hv
  · exact t.app (.cons hv .nil)
theorem TrK.merge {as : List Addr} {K : PySem.W.Frag} {G : Hp} : ∀ {acc : List (Key × V)} {accP : List (PV × PV)} {ks : List (Key × V)} {kvs : List (PV × PV)}, TrK as K G acc accP → TrK as K G ks kvs → TrK as K G (mergeK acc ks) (dMerge accP kvs)
  | _, _, _, _, a, .nil => a
  | acc, accP, _, _, a, .cons (k := k) (v := v) (x := x) (ks := ks) (kvs := kvs) h t => by
    have r := TrK.merge (acc := putK acc k v) (accP := dPut (kPV k) x accP) (a.put k h) t
    exact r
theorem kTs_peq {as : List Addr} {K : PySem.W.Frag} {G : Hp} (k k' : List Key) : peq (.tup (k'.map kPV)) (.tup (k.map kPV)) = decide (k' = k) := by rw [peq, kPVs_peq]
theorem TrT.any {as : List Addr} {K : PySem.W.Frag} {G : Hp} (k : List Key) : ∀ {ks : List (List Key × V)} {kvs : List (PV × PV)}, TrT as K G ks kvs → (kvs.any fun p => peq p.1 (.tup (k.map kPV))) = ks.any fun kv => decide (kv.1 = k)
  | _, _, .nil => rfl
  | _, _, .cons h t => by rw [List.any_cons, List.any_cons, kTs_peq (as := as) (K := K) (G := G), TrT.any k t]
theorem TrT.mapPut {as : List Addr} {K : PySem.W.Frag} {G : Hp} (k : List Key) {v : V} {x : PV} (hv : Tr as K G v x) : ∀ {ks : List (List Key × V)} {kvs : List (PV × PV)}, TrT as K G ks kvs →
    TrT as K G (ks.map fun kv => if kv.1 = k then (kv.1, v) else kv) (kvs.map fun p => if peq p.1 (.tup (k.map kPV)) = true then (p.1, x) else p)
  | _, _, .nil => .nil
  | _, _, .cons (k := k') h t => by
    rw [List.map_cons, List.map_cons]
    by_cases e : k' = k
    · simp only [kTs_peq (as := as) (K := K) (G := G), e, decide_true, if_true]
      exact .cons hv (TrT.mapPut k hv t)
    · simp only [kTs_peq (as := as) (K := K) (G := G), decide_eq_false e, if_neg e]
      exact .cons h (TrT.mapPut k hv t)
theorem TrT.app {as : List Addr} {K : PySem.W.Frag} {G : Hp} : ∀ {ks ls : List (List Key × V)} {kvs lvs : List (PV × PV)}, TrT as K G ks kvs → TrT as K G ls lvs → TrT as K G (ks ++ ls) (kvs ++ lvs)
  | _, _, _, _, .nil, r => r
  | _, _, _, _, .cons h t, r => .cons h (TrT.app t r)
theorem TrT.put {as : List Addr} {K : PySem.W.Frag} {G : Hp} (k : List Key) {v : V} {x : PV} (hv : Tr as K G v x) {ks : List (List Key × V)} {kvs : List (PV × PV)} (t : TrT as K G ks kvs) : TrT as K G (putK ks k v) (dPut (.tup (k.map kPV)) x kvs) := by
  unfold putK dPut
  rw [t.any k]
  split
  · exact t.mapPut k hv
  · exact t.app (.cons hv .nil)
/-- a list of pairs: the addresses of the pairs and what stands there -/
theorem pairs_tr {as : List Addr} {K : PySem.W.Frag} {G H : Hp} {D : DS} (w : Wd as K G H D) : ∀ {vs : List V} {xs : List PV} {ps : List (PV × PV)}, TrS as K G vs xs → mapO pairOf xs = some ps → (ps.all fun p => isKey 0 p.1) = true →
    ∃ (bs : List Addr) (kvs : List (Key × V)), vs = bs.map V.ref ∧ Paired (fun p kv => SqT K H p [kV kv.1, kv.2]) bs kvs ∧ TrK as K G kvs ps
  | _, _, _, .nil, h, _ => by
    cases h
    exact ⟨[], [], rfl, .nil, .nil⟩
  | _, _, _, .cons (x := x) (xs := xs) h t, e, hk => by
    obtain ⟨p, e1, e2⟩ := Option.bind_eq_some_iff.mp (show (pairOf x).bind (fun y => (mapO pairOf xs).bind fun ys => some (y :: ys)) = some _ from e)
    obtain ⟨ps, e3, e4⟩ := Option.bind_eq_some_iff.mp e2
    cases e4
    rw [List.all_cons, Bool.and_eq_true] at hk
    obtain ⟨bs, kvs, r1, r2, r3⟩ := pairs_tr w t e3 hk.2
    unfold pairOf at e1
    split at e1
    · rename_i k v
      cases e1
      obtain ⟨kk, hkk⟩ := isKey0 hk.1
      simp only at hkk
      subst hkk
      cases h with
      | tup g tt =>
        cases tt with
        | cons t1 tt =>
          cases tt with
          | cons t2 tt =>
            cases tt
            have := t1.key
            subst this
            exact ⟨_ :: bs, (kk, _) :: kvs, by rw [List.map_cons, r1], .cons (.of (w.sub _ _ g)) r2, .cons t2 r3⟩
    · cases e1
theorem bi_dict (hc : X.calm = true) : CallR X (.type "dict") (rBiF X.K .dict) := by
  intro pins s σ H vs us Q I r h
  obtain ⟨as, G, D, ps, z, w, t, e, f⟩ := h
  unfold pBi at e
  split at e <;> first | (rename_i h0; cases h0; done) | skip
  all_goals try (cases e; done)
  · obtain ⟨x, rfl, tx⟩ := t.one
    cases e
    rcases tx.dct w with ⟨_, a, ks, rfl, g1, tk⟩ | ⟨e9, a, ks, rfl, g1, tk⟩
    · exact call_dictD pins s σ H _ us Q I r ⟨a, ks, rfl, g1, fun p hp => f p _ hp (.inl ⟨rfl, _, upd_same, tk⟩)⟩
    · cases e9
  · obtain ⟨x, rfl, tx⟩ := t.one
    obtain ⟨qs, e1, e2⟩ := Option.bind_eq_some_iff.mp e
    split at e2
    · rename_i hk
      cases e2
      obtain ⟨a, ws, rfl, g1, t1⟩ := tx.lst w
      obtain ⟨bs, kvs, rfl, r2, r3⟩ := pairs_tr w t1 e1 hk
      exact call_dictP hc pins s σ H _ us Q I r ⟨a, bs, kvs, rfl, .of g1, r2, fun p hp => f p _ hp (.inl ⟨rfl, _, upd_same, TrK.merge .nil r3⟩)⟩
    · cases e2
end
end MP

/-! MP ex: expressions keep their evaluator's promise. -/
namespace MP
open PySem PySem.Spec PyProof.Rows L2

/-- a def's promise, by its reading -/
def spOf (K : PySem.W.Frag) (φ : List PV → DS → Option (PV × DS)) (n : Nat) : Sp := fun vs H Q _ => vs.length = n ∧ ∃ as G D xs r D', Wd as K G H D ∧ TrS as K G vs xs ∧ φ xs D = some (r, D') ∧
  ∀ v G' H', Stp as G H G' H' → Wd as K G' H' D' → Tr as K G' v r → Q v H'
structure Tb where
  fns : List (Str × Nat)
  fr : List Str
  cs : List (Str × Str)
structure Gd (T : Tb) (Φ : Fns) (N : List Str) (sc : Scope) (X : Cx) : Prop where
  n : X.N = N
  sc : X.env.scope = sc
  nd : N.Nodup
  calm : X.calm = true
  xe : X.xe = fun _ _ => False
  un : X.A.units + 65 < cLine
  fn : ∀ (g : Nat) (x : Str) (m : Nat), T.fns[g]? = some (x, m) → ∃ (k : Nat) (f : Addr) (fd : FuncData) (ps : List Str), X.mg x = some (.ref f) ∧ PySem.W.keepIn X.K (.ref f) = true ∧ Binds X.K fd ps [] ∧ Room k X.A ∧ FnOk X.prog X.w X.K X.mg X.base CX0 k f fd ps (spOf X.K (Φ g) m)
  fr : ∀ (j : Nat) (x : Str), T.fr[j]? = some x → X.mg x = none
  cs : ∀ (j : Nat) (x s : Str), T.cs[j]? = some (x, s) → ∃ t, X.mg x = some (.str s t)
theorem Gd.blk {T : Tb} {Φ : Fns} {N : List Str} {sc : Scope} {X : Cx} (g : Gd T Φ N sc X) (s : Shared) (H : Hp) (scope : Scope) (C : Addr) (cl : List (Str × Addr)) (fp : List Addr) : Gd T Φ N (relS scope sc) (X.blk s H scope (compEnvC scope cl C X.env) fp) where
  n := g.n
  sc := by
    have e : (compEnvC scope cl C X.env).scope = relS scope X.env.scope := rfl
    show (compEnvC scope cl C X.env).scope = _
    rw [e, g.sc]
  nd := g.nd
  calm := g.calm
  xe := rfl
  un := g.un
  fn := g.fn
  fr := g.fr
  cs := g.cs

/-! ### what is asked of an evaluation -/
def tE (K : PySem.W.Frag) (Φ : Fns) (c : CE) : TE := fun σ H Q => ∃ as G ρ D x D', Wd as K G H D ∧ Rp as K G H σ ρ ∧ ev Φ c ρ D = some (x, D') ∧ ∀ v G' H', Stp as G H G' H' → Wd as K G' H' D' → Tr as K G' v x → Q v H'
/-- .. its value an operand -/
def tO (K : PySem.W.Frag) (Φ : Fns) (c : CE) : TE := fun σ H Q => ∃ as G ρ D x D', Wd as K G H D ∧ Rp as K G H σ ρ ∧ ev Φ c ρ D = some (x, D') ∧ ∀ v G' H', Stp as G H G' H' → Wd as K G' H' D' → TrO as K G' H' v x → Q v H'
/-- .. its value a new object -/
def tF (K : PySem.W.Frag) (Φ : Fns) (c : CE) : TE := fun σ H Q => ∃ as G ρ D x D', Wd as K G H D ∧ Rp as K G H σ ρ ∧ ev Φ c ρ D = some (x, D') ∧ ∀ p G' H', Stp as G H G' H' → Wd as K G' H' D' → H p = none → G' p = none → OwnO as K G' H' p x → Q (.ref p) H'
inductive TrOs (as : List Addr) (K : PySem.W.Frag) (G H : Hp) : List V → List PV → Prop
  | nil : TrOs as K G H [] []
  | cons {v : V} {x : PV} {vs : List V} {xs : List PV} : TrO as K G H v x → TrOs as K G H vs xs → TrOs as K G H (v :: vs) (x :: xs)
def tA (K : PySem.W.Frag) (Φ : Fns) (c : CEs) : TA := fun σ H Q => ∃ as G ρ D x D', Wd as K G H D ∧ Rp as K G H σ ρ ∧ evs Φ c ρ D = some (x, D') ∧ ∀ v G' H', Stp as G H G' H' → Wd as K G' H' D' → TrS as K G' v x → Q v H'
def tAO (K : PySem.W.Frag) (Φ : Fns) (c : CEs) : TA := fun σ H Q => ∃ as G ρ D x D', Wd as K G H D ∧ Rp as K G H σ ρ ∧ evs Φ c ρ D = some (x, D') ∧ ∀ v G' H', Stp as G H G' H' → Wd as K G' H' D' → TrOs as K G' H' v x → Q v H'
/-- a test -/
def tT (K : PySem.W.Frag) (Φ : Fns) (c : CE) : TT := fun σ H Q => ∃ as G ρ D b D', Wd as K G H D ∧ Rp as K G H σ ρ ∧ ev Φ c ρ D = some (.bl b, D') ∧ ∀ G' H', Stp as G H G' H' → Wd as K G' H' D' → Q b H'
abbrev PV_ (Φ : Fns) (X : Cx) (e : Expr) (c : CE) : Prop := PE X e (tE X.K Φ c)
abbrev PO_ (Φ : Fns) (X : Cx) (e : Expr) (c : CE) : Prop := PE X e (tO X.K Φ c)
abbrev PF_ (Φ : Fns) (X : Cx) (e : Expr) (c : CE) : Prop := PE X e (tF X.K Φ c)
abbrev PA_ (Φ : Fns) (X : Cx) (e : List Expr) (c : CEs) : Prop := PA X e (tA X.K Φ c)
abbrev PB_ (Φ : Fns) (X : Cx) (e : List Expr) (c : CEs) : Prop := PA X e (tAO X.K Φ c)
abbrev PT_ (Φ : Fns) (X : Cx) (e : Expr) (c : CE) : Prop := PT X e (tT X.K Φ c)
/-- weaken a reading -/
theorem pe_imp {X : Cx} {e : Expr} {t u : TE} (h : PE X e t) (i : ∀ σ H Q, u σ H Q → t σ H Q) : PE X e u := ⟨fun pins s σ H Q I q => h.run pins s σ H Q I (i _ _ _ q)⟩
theorem pa_imp {X : Cx} {e : List Expr} {t u : TA} (h : PA X e t) (i : ∀ σ H Q, u σ H Q → t σ H Q) : PA X e u := ⟨fun pos pins s σ H Q I q => h.run pos pins s σ H Q I (i _ _ _ q)⟩
theorem pt_imp {X : Cx} {e : Expr} {t u : TT} (h : PT X e t) (i : ∀ σ H Q, u σ H Q → t σ H Q) : PT X e u := ⟨fun pins s σ H Q I q => h.run pins s σ H Q I (i _ _ _ q)⟩
theorem pw_imp {X : Cx} {e : Expr} {t u : TT} (h : PW X e t) (i : ∀ σ H Q, u σ H Q → t σ H Q) : PW X e u := ⟨fun wh pins s σ H Q I q => h.run wh pins s σ H Q I (i _ _ _ q)⟩

section
variable {T : Tb} {Φ : Fns} {N : List Str} {sc : Scope} {X : Cx} {e a b : Expr} {pos : Pos}
theorem v_o {c : CE} (h : PV_ Φ X e c) : PO_ Φ X e c := pe_imp h fun σ H Q ⟨as, G, ρ, D, x, D', w, r, ee, f⟩ => ⟨as, G, ρ, D, x, D', w, r, ee, fun v G' H' st w' t => f v G' H' st w' (.inl t)⟩
/-- a new object may be told -/
theorem tell_own {as : List Addr} {K : PySem.W.Frag} {G H : Hp} {D : DS} {p : Addr} {z : PV} (w : Wd as K G H D) (hG : G p = none) (ha : p ∉ as) (h : OwnO as K G H p z) :
    ∃ G', Le G G' ∧ (∀ b, G' b ≠ none → G b ≠ none ∨ b = p) ∧ Wd as K G' H D ∧ Tr as K G' (.ref p) z := by
  have key : ∀ o, H p = some o → Wd as K (upd G p o) H D := fun o ho => by
    refine ⟨fun b u hb => ?_, w.nd, w.len, fun a m => ?_, fun j a x h1 h2 => ?_⟩
    · by_cases e : b = p
      · subst e; rw [upd_same] at hb; cases hb; exact ho
      · rw [upd_ne e] at hb; exact w.sub b u hb
    · rw [upd_ne (fun e : a = p => ha (by rw [← e]; exact m))]; exact w.off a m
    · have := (w.sh j a x h1 h2).up (G' := upd G p o) (H' := H) (le_new hG) rfl []
      simpa using this
  have two : ∀ o b, upd G p o b ≠ none → G b ≠ none ∨ b = p := fun o b hb => by
    by_cases e : b = p
    · exact .inr e
    · rw [upd_ne e] at hb; exact .inl hb
  cases z with
  | lst xs =>
    obtain ⟨vs, h1, h2⟩ := h
    exact ⟨_, le_new hG, two _, key _ h1, .lst upd_same (h2.up (le_new hG))⟩
  | dct t kvs =>
    rcases h with ⟨rfl, ks, h1, h2⟩ | ⟨rfl, ks, h1, h2⟩
    · exact ⟨_, le_new hG, two _, key _ h1, .dK (.of upd_same) (h2.up (le_new hG))⟩
    · exact ⟨_, le_new hG, two _, key _ h1, .dT (.of upd_same) (h2.up (le_new hG))⟩
  | _ => exact absurd h id
theorem Wd.some {as : List Addr} {K : PySem.W.Frag} {G H : Hp} {D : DS} (w : Wd as K G H D) {p : Addr} (h : p ∈ as) : H p ≠ none := fun e => w.offp e h
theorem f_v {c : CE} (h : PF_ Φ X e c) : PV_ Φ X e c := pe_imp h fun σ H Q ⟨as, G, ρ, D, x, D', w, r, ee, f⟩ => ⟨as, G, ρ, D, x, D', w, r, ee, fun p G' H' st w' hp hG o => by
  obtain ⟨G2, l, tw, w2, t⟩ := tell_own w' hG (fun m => w.some m hp) o
  refine f _ G2 H' ⟨st.le.trans l, fun b hb => ?_, st.kp, st.sm⟩ w2 t
  rcases tw b hb with z | z
  · exact st.nw b z
  · subst z; exact .inr hp⟩
theorem v_var {i : Nat} {x : Str} (g : Gd T Φ N sc X) (h : N[i]? = some x) (hv : Vis sc x) (hd : (x == ("__debug__" : Str)) = false := by decide) (hcd : (x == ("__classdict__" : Str)) = false := by decide) : PV_ Φ X (.Name x pos) (.var i) :=
  pe_imp (pe_var (i := i) (by rw [g.n]; exact h) (by rw [g.sc]; exact hv) hd hcd) fun σ H Q ⟨as, G, ρ, D, y, D', w, r, ee, f⟩ => by
    obtain ⟨z, e1, e2⟩ := Option.map_eq_some_iff.mp (show (getS ρ i).map (fun x => (x, D)) = some (y, D') from ee)
    cases e2
    unfold getS at e1
    split at e1
    · rename_i z' hz
      cases e1
      obtain ⟨v, e, t⟩ := r.frz i _ hz
      exact ⟨v, e, f v G H (Stp.refl _ _ _) w t⟩
    · cases e1
theorem o_bor {i : Nat} {x : Str} (g : Gd T Φ N sc X) (h : N[i]? = some x) (hv : Vis sc x) (hd : (x == ("__debug__" : Str)) = false := by decide) (hcd : (x == ("__classdict__" : Str)) = false := by decide) : PO_ Φ X (.Name x pos) (.bor i) :=
  pe_imp (pe_var (i := i) (by rw [g.n]; exact h) (by rw [g.sc]; exact hv) hd hcd) fun σ H Q ⟨as, G, ρ, D, y, D', w, r, ee, f⟩ => by
    obtain ⟨z, e1, e2⟩ := Option.map_eq_some_iff.mp (show (borS ρ i).map (fun x => (x, D)) = some (y, D') from ee)
    cases e2
    unfold borS at e1
    split at e1
    · rename_i o z' hz
      cases e1
      cases o with
      | false =>
        obtain ⟨v, e, t⟩ := r.frz i _ hz
        exact ⟨v, e, f v G H (Stp.refl _ _ _) w (.inl t)⟩
      | true =>
        obtain ⟨p, e, hG, ha, ow⟩ := r.own i _ hz
        exact ⟨_, e, f _ G H (Stp.refl _ _ _) w (.inr ⟨p, rfl, hG, ha, ow⟩)⟩
    · cases e1
theorem const_ {v : V} {x : PV} {c : CE} (h : PE X e (tC v)) (hc : ∀ ρ D, ev Φ c ρ D = some (x, D)) (ht : ∀ as G, Tr as X.K G v x) : PV_ Φ X e c :=
  pe_imp h fun σ H Q ⟨as, G, ρ, D, y, D', w, r, ee, f⟩ => by
    rw [hc] at ee
    cases ee
    exact f v G H (Stp.refl _ _ _) w (ht as G)
theorem v_int {i j} : PV_ Φ X (.Constant (.int i) j pos) (.int i) := const_ pe_int (fun _ _ => rfl) fun _ _ => .int _
theorem v_bl {b j} : PV_ Φ X (.Constant (.bool b) j pos) (.bl b) := const_ pe_bl (fun _ _ => rfl) fun _ _ => .bl _
theorem v_non {j} : PV_ Φ X (.Constant .none j pos) .non := const_ pe_non (fun _ _ => rfl) fun _ _ => .non
theorem v_str {x j} : PV_ Φ X (.Constant (.str x) j pos) (.str x) := const_ pe_str (fun _ _ => rfl) fun _ _ => .str _
theorem v_cst {x s : Str} {j : Nat} (g : Gd T Φ N sc X) (h : T.cs[j]? = some (x, s)) (hg : sc.names.lookup x = some .globalImplicit) (hd : (x == ("__debug__" : Str)) = false := by decide) : PV_ Φ X (.Name x pos) (.cst x s) := by
  obtain ⟨t, hm⟩ := g.cs j x s h
  exact const_ (pe_glob (v := .str s) (by unfold Gl Env.kindOf; rw [g.sc]; exact hg) hm ⟨t, rfl⟩ hd) (fun _ _ => rfl) fun _ _ => .str _
/-- two operands -/
theorem two {K : PySem.W.Frag} {ca cb : CE} {σ : L2.St} {H : Hp} {as : List Addr} {G : Hp} {ρ : Envi} {D D2 : DS} {x y : PV} {D1 : DS} (w : Wd as K G H D) (r : Rp as K G H σ ρ) (e1 : ev Φ ca ρ D = some (x, D1)) (e2 : ev Φ cb ρ D1 = some (y, D2))
    {R : V → V → Hp → Prop} (f : ∀ v u G' H', Stp as G H G' H' → Wd as K G' H' D2 → TrO as K G' H' v x → TrO as K G' H' u y → R v u H') : tO K Φ ca σ H fun v H1 => tO K Φ cb σ H1 fun u H2 => R v u H2 :=
  ⟨as, G, ρ, D, x, D1, w, r, e1, fun v1 G1 H1 st1 w1 t1 => ⟨as, G1, ρ, D1, y, D2, w1, r.up st1, e2, fun v2 G2 H2 st2 w2 t2 => f v1 v2 G2 H2 (st1.trans st2) w2 (t1.up st2) t2⟩⟩
theorem v_bin {op : Bo} {o : Operator} {ca cb : CE} (ha : PO_ Φ X a ca) (hb : PO_ Φ X b cb) (ho : o = boT op := by rfl) : PV_ Φ X (.BinOp a o b pos) (.bin op ca cb) := by
  subst ho
  refine pe_imp (pe_op (op_binM op) ha hb) fun σ H Q ⟨as, G, ρ, D, y, D', w, r, ee, f⟩ => ?_
  obtain ⟨⟨x, D1⟩, e1, ee⟩ := Option.bind_eq_some_iff.mp ee
  obtain ⟨⟨z, D2⟩, e2, ee⟩ := Option.bind_eq_some_iff.mp ee
  obtain ⟨t, e3, ee⟩ := Option.map_eq_some_iff.mp ee
  cases ee
  exact two w r e1 e2 fun v u G' H' st w' t1 t2 => ⟨as, G', _, x, z, _, w', t1.r, t2.r, e3, fun v2 G2 H2 st2 w2 t3 => f v2 G2 H2 (st.trans st2) w2 t3⟩
theorem v_neg {ca : CE} (ha : PO_ Φ X a ca) : PV_ Φ X (.UnaryOp .USub a pos) (.neg ca) :=
  pe_imp (pe_un un_neg ha) fun σ H Q ⟨as, G, ρ, D, y, D', w, r, ee, f⟩ => by
    obtain ⟨⟨x, D1⟩, e1, ee⟩ := Option.bind_eq_some_iff.mp ee
    obtain ⟨t, e3, ee⟩ := Option.map_eq_some_iff.mp ee
    cases ee
    refine ⟨as, G, ρ, D, x, D1, w, r, e1, fun v G' H' st w' t1 => ?_⟩
    cases x with
    | int i =>
      cases e3
      exact ⟨_, t1.r.int, f _ G' H' st w' (.int _)⟩
    | _ => cases e3
theorem cmp_ok {op : Co} {ca cb : CE} {σ : L2.St} {H : Hp} {Q : VK} (h : ∃ as G ρ D x D', Wd as X.K G H D ∧ Rp as X.K G H σ ρ ∧ ev Φ (.cmp op ca cb) ρ D = some (x, D') ∧ ∀ G' H', Stp as G H G' H' → Wd as X.K G' H' D' → ∀ b, x = .bl b → Q (.bl b) H') :
    tOp (rCmpM X.K op) (tO X.K Φ ca) (tO X.K Φ cb) σ H Q := by
  obtain ⟨as, G, ρ, D, y, D', w, r, ee, f⟩ := h
  obtain ⟨⟨x, D1⟩, e1, ee⟩ := Option.bind_eq_some_iff.mp ee
  obtain ⟨⟨z, D2⟩, e2, ee⟩ := Option.bind_eq_some_iff.mp ee
  obtain ⟨o, e3, ee⟩ := Option.bind_eq_some_iff.mp ee
  obtain ⟨t, e4, ee⟩ := Option.map_eq_some_iff.mp ee
  cases ee
  exact two w r e1 e2 fun v u G' H' st w' t1 t2 => ⟨as, G', D2, x, o, t, w', t1.r, t2.opd w' e3, e4, f G' H' st w' t rfl⟩
theorem v_cmp {op : Co} {o : CmpOp} {ca cb : CE} (g : Gd T Φ N sc X) (ha : PO_ Φ X a ca) (hb : PO_ Φ X b cb) (ho : o = coT op := by rfl) (hm : behindInMarks o b = false := by with_unfolding_all rfl) : PV_ Φ X (.Compare a [o] [b] pos) (.cmp op ca cb) := by
  subst ho
  refine pe_imp (pe_cmpR (op_cmpM g.un op) ha hb hm) fun σ H Q ⟨as, G, ρ, D, y, D', w, r, ee, f⟩ => cmp_ok ⟨as, G, ρ, D, y, D', w, r, ee, fun G' H' st w' b hb => ?_⟩
  subst hb
  exact f _ G' H' st w' (.bl b)
theorem t_cmp {op : Co} {o : CmpOp} {ca cb : CE} (g : Gd T Φ N sc X) (ha : PO_ Φ X a ca) (hb : PO_ Φ X b cb) (ho : o = coT op := by rfl) (hm : behindInMarks o b = false := by with_unfolding_all rfl) : PT_ Φ X (.Compare a [o] [b] pos) (.cmp op ca cb) := by
  subst ho
  refine pt_imp (pt_cmpR (op_cmpM g.un op) ha hb hm) fun σ H Q ⟨as, G, ρ, D, y, D', w, r, ee, f⟩ => cmp_ok ⟨as, G, ρ, D, .bl y, D', w, r, ee, fun G' H' st w' b hb => ?_⟩
  cases hb
  exact ⟨_, rfl, f G' H' st w'⟩
theorem chn_ok {op op2 : Co} {ca cb cc : CE} {σ : L2.St} {H : Hp} {Q : VK} (h : ∃ as G ρ D x D', Wd as X.K G H D ∧ Rp as X.K G H σ ρ ∧ ev Φ (.chn op op2 ca cb cc) ρ D = some (x, D') ∧ ∀ G' H', Stp as G H G' H' → Wd as X.K G' H' D' → ∀ b, x = .bl b → Q (.bl b) H') :
    tChain (rCmpM X.K op) (rCmpM X.K op2) (tO X.K Φ ca) (tO X.K Φ cb) (tO X.K Φ cc) σ H Q := by
  obtain ⟨as, G, ρ, D, y, D', w, r, ee, f⟩ := h
  obtain ⟨⟨x, D1⟩, e1, ee⟩ := Option.bind_eq_some_iff.mp ee
  obtain ⟨⟨z, D2⟩, e2, ee⟩ := Option.bind_eq_some_iff.mp ee
  obtain ⟨t, e3, ee⟩ := Option.bind_eq_some_iff.mp ee
  refine ⟨as, G, ρ, D, x, D1, w, r, e1, fun v1 G1 H1 st1 w1 t1 => ⟨as, G1, ρ, D1, z, D2, w1, r.up st1, e2, fun v2 G2 H2 st2 w2 t2 => ?_⟩⟩
  refine ⟨as, G2, D2, x, z, t, w2, (t1.up st2).r, t2.r, e3, t, rfl, ?_⟩
  cases t with
  | false =>
    cases ee
    exact f G2 H2 (st1.trans st2) w2 false rfl
  | true =>
    obtain ⟨⟨t3, D3⟩, e4, ee⟩ := Option.bind_eq_some_iff.mp (show (ev Φ cc ρ D2).bind (fun t => (pCmp op2 z t.1).map fun y => (PV.bl y, t.2)) = some (y, D') from ee)
    obtain ⟨q, e5, ee⟩ := Option.map_eq_some_iff.mp ee
    cases ee
    exact ⟨as, G2, ρ, D2, t3, D3, w2, r.up (st1.trans st2), e4, fun v3 G3 H3 st3 w3 t4 => ⟨as, G3, D3, z, t3, q, w3, (t2.up st3).r, t4.r, e5, f G3 H3 ((st1.trans st2).trans st3) w3 q rfl⟩⟩
theorem v_chn {op op2 : Co} {o o2 : CmpOp} {c : Expr} {ca cb cc : CE} (g : Gd T Φ N sc X) (ha : PO_ Φ X a ca) (hb : PO_ Φ X b cb) (hc : PO_ Φ X c cc) (ho : o = coT op := by rfl) (ho2 : o2 = coT op2 := by rfl)
    (hm : lastMarks [o, o2] [b, c] = false := by with_unfolding_all rfl) : PV_ Φ X (.Compare a [o, o2] [b, c] pos) (.chn op op2 ca cb cc) := by
  subst ho ho2
  refine pe_imp (pe_chain (op_cmpM g.un op) (op_cmpM g.un op2) ha hb hc hm) fun σ H Q ⟨as, G, ρ, D, y, D', w, r, ee, f⟩ => chn_ok ⟨as, G, ρ, D, y, D', w, r, ee, fun G' H' st w' b hb => ?_⟩
  subst hb
  exact f _ G' H' st w' (.bl b)
theorem t_chn {op op2 : Co} {o o2 : CmpOp} {c : Expr} {ca cb cc : CE} (g : Gd T Φ N sc X) (ha : PO_ Φ X a ca) (hb : PO_ Φ X b cb) (hc : PO_ Φ X c cc) (ho : o = coT op := by rfl) (ho2 : o2 = coT op2 := by rfl)
    (hm : lastMarks [o, o2] [b, c] = false := by with_unfolding_all rfl) : PT_ Φ X (.Compare a [o, o2] [b, c] pos) (.chn op op2 ca cb cc) := by
  subst ho ho2
  refine pt_imp (pt_chain (op_cmpM g.un op) (op_cmpM g.un op2) ha hb hc hm) fun σ H Q ⟨as, G, ρ, D, y, D', w, r, ee, f⟩ => chn_ok ⟨as, G, ρ, D, .bl y, D', w, r, ee, fun G' H' st w' b hb => ?_⟩
  cases hb
  exact ⟨_, rfl, f G' H' st w'⟩
/-! ### and, or, not, if -/
theorem v_and1 {ca : CE} (ha : PV_ Φ X a ca) : PV_ Φ X (.BoolOp .And [a] pos) (.and_ (.cons ca .nil)) := pe_one ha
theorem v_or1 {ca : CE} (ha : PV_ Φ X a ca) : PV_ Φ X (.BoolOp .Or [a] pos) (.or_ (.cons ca .nil)) := pe_one ha
theorem v_and {rest : List Expr} {ca cb : CE} {cr : CEs} (ha : PV_ Φ X a ca) (hb : PV_ Φ X (.BoolOp .And (b :: rest) pos) (.and_ (.cons cb cr))) : PV_ Φ X (.BoolOp .And (a :: b :: rest) pos) (.and_ (.cons ca (.cons cb cr))) :=
  pe_imp (pe_and ha hb) fun σ H Q ⟨as, G, ρ, D, y, D', w, r, ee, f⟩ => by
    obtain ⟨⟨x, D1⟩, e1, ee⟩ := Option.bind_eq_some_iff.mp (show (ev Φ ca ρ D).bind (fun r => (blOf r.1).bind fun z => if z then evand Φ (.cons cb cr) ρ r.2 else some (.bl false, r.2)) = some (y, D') from ee)
    obtain ⟨z, e2, ee⟩ := Option.bind_eq_some_iff.mp ee
    have ex : x = .bl z := by
      cases x <;> first | (cases e2; rfl) | cases e2
    subst ex
    refine ⟨as, G, ρ, D, _, D1, w, r, e1, fun v G' H' st w' t1 => ?_⟩
    cases t1
    refine ⟨z, rfl, ?_⟩
    cases z with
    | true => exact ⟨as, G', ρ, D1, y, D', w', r.up st, ee, fun v2 G2 H2 st2 w2 t2 => f v2 G2 H2 (st.trans st2) w2 t2⟩
    | false =>
      cases ee
      exact f _ G' H' st w' (.bl false)
theorem v_or {rest : List Expr} {ca cb : CE} {cr : CEs} (ha : PV_ Φ X a ca) (hb : PV_ Φ X (.BoolOp .Or (b :: rest) pos) (.or_ (.cons cb cr))) : PV_ Φ X (.BoolOp .Or (a :: b :: rest) pos) (.or_ (.cons ca (.cons cb cr))) :=
  pe_imp (pe_or ha hb) fun σ H Q ⟨as, G, ρ, D, y, D', w, r, ee, f⟩ => by
    obtain ⟨⟨x, D1⟩, e1, ee⟩ := Option.bind_eq_some_iff.mp (show (ev Φ ca ρ D).bind (fun r => (blOf r.1).bind fun z => if z then some (.bl true, r.2) else evor Φ (.cons cb cr) ρ r.2) = some (y, D') from ee)
    obtain ⟨z, e2, ee⟩ := Option.bind_eq_some_iff.mp ee
    have ex : x = .bl z := by
      cases x <;> first | (cases e2; rfl) | cases e2
    subst ex
    refine ⟨as, G, ρ, D, _, D1, w, r, e1, fun v G' H' st w' t1 => ?_⟩
    cases t1
    refine ⟨z, rfl, ?_⟩
    cases z with
    | false => exact ⟨as, G', ρ, D1, y, D', w', r.up st, ee, fun v2 G2 H2 st2 w2 t2 => f v2 G2 H2 (st.trans st2) w2 t2⟩
    | true =>
      cases ee
      exact f _ G' H' st w' (.bl true)
theorem v_not {ca : CE} (ha : PV_ Φ X a ca) : PV_ Φ X (.UnaryOp .Not a pos) (.not_ ca) :=
  pe_imp (pe_not ha) fun σ H Q ⟨as, G, ρ, D, y, D', w, r, ee, f⟩ => by
    obtain ⟨⟨x, D1⟩, e1, ee⟩ := Option.bind_eq_some_iff.mp ee
    obtain ⟨z, e2, ee⟩ := Option.map_eq_some_iff.mp ee
    cases ee
    have ex : x = .bl z := by
      cases x <;> first | (cases e2; rfl) | cases e2
    subst ex
    refine ⟨as, G, ρ, D, _, D1, w, r, e1, fun v G' H' st w' t1 => ?_⟩
    cases t1
    exact ⟨z, rfl, f _ G' H' st w' (.bl _)⟩
/-- a test of and, or: whatever its whole -/
abbrev PW_ (Φ : Fns) (X : Cx) (e : Expr) (c : CE) : Prop := PW X e (tT X.K Φ c)
theorem w_t {c : CE} (h : PW_ Φ X e c) : PT_ Φ X e c := h.pt
theorem w_and1 {ca : CE} (ha : PT_ Φ X a ca) : PW_ Φ X (.BoolOp .And [a] pos) (.and_ (.cons ca .nil)) := pw_and1 ha
theorem w_or1 {ca : CE} (ha : PT_ Φ X a ca) : PW_ Φ X (.BoolOp .Or [a] pos) (.or_ (.cons ca .nil)) := pw_or1 ha
theorem w_and {rest : List Expr} {ca cb : CE} {cr : CEs} (ha : PT_ Φ X a ca) (hb : PW_ Φ X (.BoolOp .And (b :: rest) pos) (.and_ (.cons cb cr))) : PW_ Φ X (.BoolOp .And (a :: b :: rest) pos) (.and_ (.cons ca (.cons cb cr))) :=
  pw_imp (pw_and ha hb) fun σ H Q ⟨as, G, ρ, D, y, D', w, r, ee, f⟩ => by
    obtain ⟨⟨x, D1⟩, e1, ee⟩ := Option.bind_eq_some_iff.mp (show (ev Φ ca ρ D).bind (fun r => (blOf r.1).bind fun z => if z then evand Φ (.cons cb cr) ρ r.2 else some (.bl false, r.2)) = some (.bl y, D') from ee)
    obtain ⟨z, e2, ee⟩ := Option.bind_eq_some_iff.mp ee
    have ex : x = .bl z := by
      cases x <;> first | (cases e2; rfl) | cases e2
    subst ex
    refine ⟨as, G, ρ, D, z, D1, w, r, e1, fun G' H' st w' => ?_⟩
    cases z with
    | true => exact ⟨as, G', ρ, D1, y, D', w', r.up st, ee, fun G2 H2 st2 w2 => f G2 H2 (st.trans st2) w2⟩
    | false =>
      cases ee
      exact f G' H' st w'
theorem w_or {rest : List Expr} {ca cb : CE} {cr : CEs} (ha : PT_ Φ X a ca) (hb : PW_ Φ X (.BoolOp .Or (b :: rest) pos) (.or_ (.cons cb cr))) : PW_ Φ X (.BoolOp .Or (a :: b :: rest) pos) (.or_ (.cons ca (.cons cb cr))) :=
  pw_imp (pw_or ha hb) fun σ H Q ⟨as, G, ρ, D, y, D', w, r, ee, f⟩ => by
    obtain ⟨⟨x, D1⟩, e1, ee⟩ := Option.bind_eq_some_iff.mp (show (ev Φ ca ρ D).bind (fun r => (blOf r.1).bind fun z => if z then some (.bl true, r.2) else evor Φ (.cons cb cr) ρ r.2) = some (.bl y, D') from ee)
    obtain ⟨z, e2, ee⟩ := Option.bind_eq_some_iff.mp ee
    have ex : x = .bl z := by
      cases x <;> first | (cases e2; rfl) | cases e2
    subst ex
    refine ⟨as, G, ρ, D, z, D1, w, r, e1, fun G' H' st w' => ?_⟩
    cases z with
    | false => exact ⟨as, G', ρ, D1, y, D', w', r.up st, ee, fun G2 H2 st2 w2 => f G2 H2 (st.trans st2) w2⟩
    | true =>
      cases ee
      exact f G' H' st w'
theorem t_not {ca : CE} (ha : PT_ Φ X a ca) : PT_ Φ X (.UnaryOp .Not a pos) (.not_ ca) :=
  pt_imp (pt_not ha) fun σ H Q ⟨as, G, ρ, D, y, D', w, r, ee, f⟩ => by
    obtain ⟨⟨x, D1⟩, e1, ee⟩ := Option.bind_eq_some_iff.mp ee
    obtain ⟨z, e2, ee⟩ := Option.map_eq_some_iff.mp ee
    cases ee
    have ex : x = .bl z := by
      cases x <;> first | (cases e2; rfl) | cases e2
    subst ex
    exact ⟨as, G, ρ, D, z, D1, w, r, e1, fun G' H' st w' => f G' H' st w'⟩
/-- a value that is a bool, as a test -/
theorem t_val {ca : CE} (h : PV_ Φ X e ca) (he : ∀ whole, isTrue e X.env whole = (do let v ← whole; standAt e.pos; holding [v] (truthy v)) := by intro _; rfl) : PT_ Φ X e ca :=
  pt_imp (pt_val h he) fun σ H Q ⟨as, G, ρ, D, y, D', w, r, ee, f⟩ => ⟨as, G, ρ, D, .bl y, D', w, r, ee, fun v G' H' st w' t => by
    cases t
    exact ⟨_, rfl, f G' H' st w'⟩⟩
theorem v_ite {c : Expr} {cc ca cb : CE} (hc : PT_ Φ X c cc) (ha : PV_ Φ X a ca) (hb : PV_ Φ X b cb) : PV_ Φ X (.IfExp c a b pos) (.ite cc ca cb) :=
  pe_imp (pe_ifExp hc ha hb) fun σ H Q ⟨as, G, ρ, D, y, D', w, r, ee, f⟩ => by
    obtain ⟨⟨x, D1⟩, e1, ee⟩ := Option.bind_eq_some_iff.mp ee
    obtain ⟨z, e2, ee⟩ := Option.bind_eq_some_iff.mp ee
    have ex : x = .bl z := by
      cases x <;> first | (cases e2; rfl) | cases e2
    subst ex
    refine ⟨as, G, ρ, D, z, D1, w, r, e1, fun G' H' st w' => ?_⟩
    cases z with
    | true => exact ⟨as, G', ρ, D1, y, D', w', r.up st, ee, fun v2 G2 H2 st2 w2 t2 => f v2 G2 H2 (st.trans st2) w2 t2⟩
    | false => exact ⟨as, G', ρ, D1, y, D', w', r.up st, ee, fun v2 G2 H2 st2 w2 t2 => f v2 G2 H2 (st.trans st2) w2 t2⟩
/-! ### lists of expressions, displays -/
theorem a_nil : PA_ Φ X [] .nil := pa_imp pa_nil fun σ H Q ⟨as, G, ρ, D, y, D', w, r, ee, f⟩ => by
  cases ee
  exact f [] G H (Stp.refl _ _ _) w .nil
theorem a_cons {es : List Expr} {c : CE} {cs : CEs} (ha : PV_ Φ X e c) (hr : PA_ Φ X es cs) (hs : starEach (e :: es) X.env = (false, eval e X.env) :: starEach es X.env := by rfl) : PA_ Φ X (e :: es) (.cons c cs) :=
  pa_imp (pa_cons ha hr hs) fun σ H Q ⟨as, G, ρ, D, y, D', w, r, ee, f⟩ => by
    obtain ⟨⟨x, D1⟩, e1, ee⟩ := Option.bind_eq_some_iff.mp ee
    obtain ⟨⟨xs, D2⟩, e2, ee⟩ := Option.map_eq_some_iff.mp ee
    cases ee
    exact ⟨as, G, ρ, D, x, D1, w, r, e1, fun v1 G1 H1 st1 w1 t1 => ⟨as, G1, ρ, D1, xs, D2, w1, r.up st1, e2, fun v2 G2 H2 st2 w2 t2 => f _ G2 H2 (st1.trans st2) w2 (.cons (t1.up st2.le) t2)⟩⟩
theorem b_nil : PB_ Φ X [] .nil := pa_imp pa_nil fun σ H Q ⟨as, G, ρ, D, y, D', w, r, ee, f⟩ => by
  cases ee
  exact f [] G H (Stp.refl _ _ _) w .nil
theorem TrOs.up {as : List Addr} {K : PySem.W.Frag} {G H G' H' : Hp} (st : Stp as G H G' H') : ∀ {vs : List V} {xs : List PV}, TrOs as K G H vs xs → TrOs as K G' H' vs xs
  | _, _, .nil => .nil
  | _, _, .cons h t => .cons (h.up st) (TrOs.up st t)
theorem b_cons {es : List Expr} {c : CE} {cs : CEs} (ha : PO_ Φ X e c) (hr : PB_ Φ X es cs) (hs : starEach (e :: es) X.env = (false, eval e X.env) :: starEach es X.env := by rfl) : PB_ Φ X (e :: es) (.cons c cs) :=
  pa_imp (pa_cons ha hr hs) fun σ H Q ⟨as, G, ρ, D, y, D', w, r, ee, f⟩ => by
    obtain ⟨⟨x, D1⟩, e1, ee⟩ := Option.bind_eq_some_iff.mp ee
    obtain ⟨⟨xs, D2⟩, e2, ee⟩ := Option.map_eq_some_iff.mp ee
    cases ee
    exact ⟨as, G, ρ, D, x, D1, w, r, e1, fun v1 G1 H1 st1 w1 t1 => ⟨as, G1, ρ, D1, xs, D2, w1, r.up st1, e2, fun v2 G2 H2 st2 w2 t2 => f _ G2 H2 (st1.trans st2) w2 (.cons (t1.up st2) t2)⟩⟩
def CEs.len : CEs → Nat
  | .nil => 0
  | .cons _ r => r.len + 1
theorem evs_len {Φ : Fns} {ρ : Envi} : ∀ {cs : CEs} {D D' : DS} {xs : List PV}, evs Φ cs ρ D = some (xs, D') → xs.length = cs.len
  | .nil, _, _, _, h => by cases h; rfl
  | .cons c cs, D, D', xs, h => by
    obtain ⟨⟨x, D1⟩, e1, ee⟩ := Option.bind_eq_some_iff.mp h
    obtain ⟨⟨ys, D2⟩, e2, ee⟩ := Option.map_eq_some_iff.mp ee
    cases ee
    show ys.length + 1 = cs.len + 1
    rw [evs_len e2]
theorem v_tup {es : List Expr} {cs : CEs} {x1} (h : PA_ Φ X es cs) (hl : cs.len ≤ LIM := by decide) : PV_ Φ X (.Tuple es x1 pos) (.tup cs) :=
  pe_imp (pe_tup h) fun σ H Q ⟨as, G, ρ, D, y, D', w, r, ee, f⟩ => by
    obtain ⟨⟨xs, D1⟩, e1, ee⟩ := Option.map_eq_some_iff.mp ee
    cases ee
    refine ⟨as, G, ρ, D, xs, D1, w, r, e1, fun vs G1 H1 st1 w1 t1 => ⟨by rw [t1.len, evs_len e1]; exact line_lim hl, fun p hp => ?_⟩⟩
    exact f _ _ _ (st1.trans (Stp.new hp (w1.free hp))) (w1.new hp) (.tup upd_same (t1.up (le_new (w1.free hp))))
theorem f_lst {es : List Expr} {cs : CEs} (h : PA_ Φ X es cs) (hl : cs.len ≤ LIM := by decide) : PF_ Φ X (.List es pos) (.lst cs) :=
  pe_imp (pe_lst h) fun σ H Q ⟨as, G, ρ, D, y, D', w, r, ee, f⟩ => by
    obtain ⟨⟨xs, D1⟩, e1, ee⟩ := Option.map_eq_some_iff.mp ee
    cases ee
    refine ⟨as, G, ρ, D, xs, D1, w, r, e1, fun vs G1 H1 st1 w1 t1 => ⟨by rw [t1.len, evs_len e1]; exact line_lim hl, fun p hp => ?_⟩⟩
    have hp0 : H p = none := by
      cases q : H p with
      | none => rfl
      | some o => exact absurd hp (st1.sm p (by rw [q]; exact fun z => nomatch z))
    exact f p G1 _ (st1.trans (Stp.own hp)) (w1.ownp hp) hp0 (w1.free hp) ⟨vs, upd_same, t1⟩
theorem pBin_cat {x z t : PV} (h : pBin .cat x z = some t) : ∃ a b, x = .lst a ∧ z = .lst b ∧ a.length + b.length ≤ LIM ∧ t = .lst (a ++ b) := by
  cases x <;> cases z <;> try (cases h; done)
  rename_i a b
  have h' : (if a.length + b.length ≤ LIM then some (PV.lst (a ++ b)) else none) = some t := h
  split at h'
  · rename_i hl
    cases h'
    exact ⟨a, b, rfl, rfl, hl, rfl⟩
  · cases h'
theorem pBin_rep {x z t : PV} (h : pBin .rep x z = some t) : ∃ a k, x = .lst a ∧ z = .int k ∧ (a.length * k.toNat ≤ LIM ∧ k ≤ LIM ∧ -LIM ≤ k) ∧ t = .lst (List.replicate k.toNat a).flatten := by
  cases x <;> cases z <;> try (cases h; done)
  rename_i a k
  have h' : (if a.length * k.toNat ≤ LIM ∧ k ≤ LIM ∧ -LIM ≤ k then some (PV.lst (List.replicate k.toNat a).flatten) else none) = some t := h
  split at h'
  · rename_i hl
    cases h'
    exact ⟨a, k, rfl, rfl, hl, rfl⟩
  · cases h'
/-- list + list, a new list -/
theorem f_cat {ca cb : CE} (ha : PO_ Φ X a ca) (hb : PO_ Φ X b cb) : PF_ Φ X (.BinOp a .Add b pos) (.bin .cat ca cb) := by
  refine pe_imp (pe_op op_cat ha hb) fun σ H Q ⟨as, G, ρ, D, y, D', w, r, ee, f⟩ => ?_
  obtain ⟨⟨x, D1⟩, e1, ee⟩ := Option.bind_eq_some_iff.mp ee
  obtain ⟨⟨z, D2⟩, e2, ee⟩ := Option.bind_eq_some_iff.mp ee
  obtain ⟨t, e3, ee⟩ := Option.map_eq_some_iff.mp ee
  cases ee
  obtain ⟨xa, xb, hxa, hxb, hl, ht⟩ := pBin_cat e3
  refine two w r e1 e2 fun v u G' H' st w' t1 t2 => ?_
  have hx := t1.r
  have hy := t2.r
  have hxa : x = .lst xa := hxa
  have hxb : z = .lst xb := hxb
  subst hxa hxb ht
  obtain ⟨p, vs, rfl, h1, s1⟩ := hx.lst w'
  obtain ⟨q, ws, rfl, h2, s2⟩ := hy.lst w'
  refine ⟨_, _, _, _, rfl, rfl, h1, h2, by rw [s1.len, s2.len]; exact line_lim hl, fun p hp => ?_⟩
  have hp0 : H p = none := by
    cases q : H p with
    | none => rfl
    | some o => exact absurd hp (st.sm p (by rw [q]; exact fun z => nomatch z))
  exact f p G' _ (st.trans (Stp.own hp)) (w'.ownp hp) hp0 (w'.free hp) ⟨_, upd_same, s1.app s2⟩
/-- list * n, a new list -/
theorem f_rep {ca cb : CE} (ha : PO_ Φ X a ca) (hb : PO_ Φ X b cb) : PF_ Φ X (.BinOp a .Mult b pos) (.bin .rep ca cb) := by
  refine pe_imp (pe_op op_rep ha hb) fun σ H Q ⟨as, G, ρ, D, y, D', w, r, ee, f⟩ => ?_
  obtain ⟨⟨x, D1⟩, e1, ee⟩ := Option.bind_eq_some_iff.mp ee
  obtain ⟨⟨z, D2⟩, e2, ee⟩ := Option.bind_eq_some_iff.mp ee
  obtain ⟨t, e3, ee⟩ := Option.map_eq_some_iff.mp ee
  cases ee
  obtain ⟨xa, k, hxa, hxb, hl, ht⟩ := pBin_rep e3
  refine two w r e1 e2 fun v u G' H' st w' t1 t2 => ?_
  have hx := t1.r
  have hy := t2.r
  have hxa : x = .lst xa := hxa
  have hxb : z = .int k := hxb
  subst hxa hxb ht
  obtain ⟨p, vs, rfl, h1, s1⟩ := hx.lst w'
  obtain rfl := hy.int
  obtain ⟨l1, l2, l3⟩ := hl
  have : ((LIM : Nat) : Int) = 1000000 := rfl
  refine ⟨_, _, _, rfl, rfl, h1, by omega, by omega, by rw [s1.len]; exact line_lim l1, fun p hp => ?_⟩
  have hp0 : H p = none := by
    cases q : H p with
    | none => rfl
    | some o => exact absurd hp (st.sm p (by rw [q]; exact fun z => nomatch z))
  exact f p G' _ (st.trans (Stp.own hp)) (w'.ownp hp) hp0 (w'.free hp) ⟨_, upd_same, s1.rep _⟩
/-! ### subscripts -/
theorem v_idx {ca cb : CE} (g : Gd T Φ N sc X) (ha : PO_ Φ X a ca) (hb : PO_ Φ X b cb) (hs : PlainIx b := by intro _ _; rfl) : PV_ Φ X (.Subscript a b pos) (.idx ca cb) :=
  pe_imp (pe_ix (ix_M g.un) ha hb hs) fun σ H Q ⟨as, G, ρ, D, y, D', w, r, ee, f⟩ => by
    obtain ⟨⟨x, D1⟩, e1, ee⟩ := Option.bind_eq_some_iff.mp ee
    obtain ⟨⟨z, D2⟩, e2, ee⟩ := Option.bind_eq_some_iff.mp ee
    obtain ⟨o, e3, ee⟩ := Option.bind_eq_some_iff.mp ee
    obtain ⟨t, e4, ee⟩ := Option.map_eq_some_iff.mp ee
    cases ee
    exact two w r e1 e2 fun v u G' H' st w' t1 t2 => ⟨as, G', _, o, z, _, w', t1.opd w' e3, t2.r, e4, fun v2 t3 => f v2 G' H' st w' t3⟩
/-! ### calls -/
theorem trOs_opd {as : List Addr} {K : PySem.W.Frag} {G H : Hp} {D : DS} (w : Wd as K G H D) : ∀ {vs : List V} {xs ys : List PV}, TrOs as K G H vs xs → mapO (opd D) xs = some ys → TrRs as K G H vs ys
  | _, _, _, .nil, h => by cases h; exact .nil
  | _, _, _, .cons (x := x) (xs := xs) h t, e => by
    obtain ⟨y, e1, e2⟩ := Option.bind_eq_some_iff.mp (show (opd D x).bind (fun y => (mapO (opd D) xs).bind fun ys => some (y :: ys)) = some _ from e)
    obtain ⟨ys, e3, e4⟩ := Option.bind_eq_some_iff.mp e2
    cases e4
    exact .cons (h.opd w e1) (trOs_opd w t e3)
theorem bi_run {b : Bi} {cs : CEs} {σ : L2.St} {H : Hp} {Q : VK} (h : tE X.K Φ (.bi b cs) σ H Q) : tCB (rBiM X.K b) (tAO X.K Φ cs) σ H Q := by
  obtain ⟨as, G, ρ, D, y, D', w, r, ee, f⟩ := h
  obtain ⟨⟨xs, D1⟩, e1, ee⟩ := Option.bind_eq_some_iff.mp ee
  obtain ⟨ys, e2, ee⟩ := Option.bind_eq_some_iff.mp ee
  obtain ⟨z, e3, ee⟩ := Option.map_eq_some_iff.mp ee
  cases ee
  exact ⟨as, G, ρ, D, xs, D1, w, r, e1, fun vs G1 H1 st1 w1 t1 => ⟨as, G1, _, ys, _, w1, trOs_opd w1 t1 e2, e3, fun v G' H' st w' t => f v G' H' (st1.trans st) w' t⟩⟩
theorem none_back {as : List Addr} {G H G' H' : Hp} (st : Stp as G H G' H') {p : Addr} (hp : H' p = none) : H p = none := by
  cases q : H p with
  | none => rfl
  | some o => exact absurd hp (st.sm p (by rw [q]; exact fun z => nomatch z))
theorem bi_runF {b : Bi} {cs : CEs} {σ : L2.St} {H : Hp} {Q : VK} (h : tF X.K Φ (.bi b cs) σ H Q) : tCB (rBiF X.K b) (tAO X.K Φ cs) σ H Q := by
  obtain ⟨as, G, ρ, D, y, D', w, r, ee, f⟩ := h
  obtain ⟨⟨xs, D1⟩, e1, ee⟩ := Option.bind_eq_some_iff.mp ee
  obtain ⟨ys, e2, ee⟩ := Option.bind_eq_some_iff.mp ee
  obtain ⟨z, e3, ee⟩ := Option.map_eq_some_iff.mp ee
  cases ee
  refine ⟨as, G, ρ, D, xs, D1, w, r, e1, fun vs G1 H1 st1 w1 t1 => ⟨as, G1, _, ys, _, w1, trOs_opd w1 t1 e2, e3, fun p o hp ow => ?_⟩⟩
  exact f p G1 _ (st1.trans (Stp.own hp)) (w1.ownp hp) (none_back st1 hp) (w1.free hp) ow
section
variable {x : Str} {p : Pos} {es : List Expr} {cs : CEs} {j : Nat}
theorem gl_of {sc : Scope} {X : Cx} {x : Str} (g : Gd T Φ N sc X) (h : sc.names.lookup x = some .globalImplicit) : Gl X x := by
  unfold Gl Env.kindOf
  rw [g.sc]
  exact h
/-- f(e, ..), f a built-in function -/
theorem v_biB {b : Bi} {id : String} (g : Gd T Φ N sc X) (hc : CallR X (.builtin id) (rBiM X.K b)) (hg : sc.names.lookup x = some .globalImplicit) (hm : T.fr[j]? = some x) (hv : bootBuiltins x = some (.builtin id)) (ha : PB_ Φ X (e :: es) cs)
    (hn : x ≠ "__name__" := by decide) (hdb : (x == ("__debug__" : Str)) = false := by decide)
    (he : starEach (e :: es) X.env = (false, eval e X.env) :: starEach es X.env := by rfl) (hpl : (backTo pos (starEach es X.env)).any (·.1) = false := by rfl) : PV_ Φ X (.Call (.Name x p) (e :: es) [] pos) (.bi b cs) :=
  pe_imp (pe_callB hc (gl_of g hg) (g.fr j x hm) hv ha hn hdb he hpl) fun σ H Q h => bi_run h
theorem v_biT {b : Bi} {id : String} (g : Gd T Φ N sc X) (hc : CallR X (.type id) (rBiM X.K b)) (hg : sc.names.lookup x = some .globalImplicit) (hm : T.fr[j]? = some x) (hv : bootBuiltins x = some (.type id)) (ha : PB_ Φ X (e :: es) cs)
    (hn : x ≠ "__name__" := by decide) (hdb : (x == ("__debug__" : Str)) = false := by decide)
    (he : starEach (e :: es) X.env = (false, eval e X.env) :: starEach es X.env := by rfl) (hpl : (backTo pos (starEach es X.env)).any (·.1) = false := by rfl) : PV_ Φ X (.Call (.Name x p) (e :: es) [] pos) (.bi b cs) :=
  pe_imp (pe_callTy hc (gl_of g hg) (g.fr j x hm) hv ha hn hdb he hpl) fun σ H Q h => bi_run h
theorem f_biB {b : Bi} {id : String} (g : Gd T Φ N sc X) (hc : CallR X (.builtin id) (rBiF X.K b)) (hg : sc.names.lookup x = some .globalImplicit) (hm : T.fr[j]? = some x) (hv : bootBuiltins x = some (.builtin id)) (ha : PB_ Φ X (e :: es) cs)
    (hn : x ≠ "__name__" := by decide) (hdb : (x == ("__debug__" : Str)) = false := by decide)
    (he : starEach (e :: es) X.env = (false, eval e X.env) :: starEach es X.env := by rfl) (hpl : (backTo pos (starEach es X.env)).any (·.1) = false := by rfl) : PF_ Φ X (.Call (.Name x p) (e :: es) [] pos) (.bi b cs) :=
  pe_imp (pe_callB hc (gl_of g hg) (g.fr j x hm) hv ha hn hdb he hpl) fun σ H Q h => bi_runF h
theorem f_biT {b : Bi} {id : String} (g : Gd T Φ N sc X) (hc : CallR X (.type id) (rBiF X.K b)) (hg : sc.names.lookup x = some .globalImplicit) (hm : T.fr[j]? = some x) (hv : bootBuiltins x = some (.type id)) (ha : PB_ Φ X (e :: es) cs)
    (hn : x ≠ "__name__" := by decide) (hdb : (x == ("__debug__" : Str)) = false := by decide)
    (he : starEach (e :: es) X.env = (false, eval e X.env) :: starEach es X.env := by rfl) (hpl : (backTo pos (starEach es X.env)).any (·.1) = false := by rfl) : PF_ Φ X (.Call (.Name x p) (e :: es) [] pos) (.bi b cs) :=
  pe_imp (pe_callTy hc (gl_of g hg) (g.fr j x hm) hv ha hn hdb he hpl) fun σ H Q h => bi_runF h
/-- a call of a def -/
theorem v_call {i m : Nat} (g : Gd T Φ N sc X) (h : T.fns[i]? = some (x, m)) (hg : sc.names.lookup x = some .globalImplicit) (ha : PA_ Φ X (e :: es) cs) (hl : cs.len = m := by rfl) (hdb : (x == ("__debug__" : Str)) = false := by decide)
    (he : starEach (e :: es) X.env = (false, eval e X.env) :: starEach es X.env := by rfl) (hpl : (backTo pos (starEach es X.env)).any (·.1) = false := by rfl) : PV_ Φ X (.Call (.Name x p) (e :: es) [] pos) (.call i cs) := by
  obtain ⟨k, f, fd, ps, h1, h2, h3, h4, h5⟩ := g.fn i x m h
  refine pe_imp (pe_call (E := E0) h5 h4 (gl_of g hg) h1 h2 h3 .nil pass0 ha hdb he hpl) fun σ H Q ⟨as, G, ρ, D, y, D', w, r, ee, f⟩ => ?_
  obtain ⟨⟨xs, D1⟩, e1, ee⟩ := Option.bind_eq_some_iff.mp ee
  refine ⟨as, G, ρ, D, xs, D1, w, r, e1, fun vs G1 H1 st1 w1 t1 => ⟨by rw [List.append_nil, t1.len, evs_len e1, hl], as, G1, D1, xs, y, D', w1, by rw [List.append_nil]; exact t1, ee, fun v G' H' st w' t => f v G' H' (st1.trans st) w' t⟩⟩
end
end
end MP

/-! MP it: what loops and comprehensions walk; comprehensions. -/
namespace MP
open PySem PySem.Spec PyProof.Rows L2

/-- the series xs, at all states that are later -/
def Ser (J : It) (as : List Addr) (K : PySem.W.Frag) (xs : List PV) (Lat : Hp → Hp → Prop) : Prop := ∀ (more : List Addr) (G H : Hp) (D : DS), Lat G H → Wd (as ++ more) K G H D →
  (∀ i, i < xs.length → J.go i H) ∧ (∀ i, xs.length ≤ i → J.stop i H) ∧ ∀ (i : Nat) (x : PV) (v : V) (H' : Hp), xs[i]? = some x → J.yld i H v H' → ∃ G', Stp (as ++ more) G H G' H' ∧ Wd (as ++ more) K G' H' D ∧ Tr (as ++ more) K G' v x
theorem Ser.weak {J : It} {as : List Addr} {K : PySem.W.Frag} {xs : List PV} {L L' : Hp → Hp → Prop} (s : Ser J as K xs L) (h : ∀ G H, L' G H → L G H) : Ser J as K xs L' := fun more G H D l w => s more G H D (h G H l) w
def tI (K : PySem.W.Frag) (Φ : Fns) (it : CI) : TI := fun σ H R => ∃ as G ρ D xs D', Wd as K G H D ∧ Rp as K G H σ ρ ∧ evi Φ it ρ D = some (xs, D') ∧ ∀ J G' H', Stp as G H G' H' → Wd as K G' H' D' → xs.length ≤ sizeLine → Ser J as K xs (fun G2 _ => Le G' G2) → R J H'
def tJ (K : PySem.W.Frag) (Φ : Fns) (it : CI) : TI := fun σ H R => ∃ as G ρ D xs D', Wd as K G H D ∧ Rp as K G H σ ρ ∧ evi Φ it ρ D = some (xs, D') ∧ ∀ J G' H', Stp as G H G' H' → Wd as K G' H' D' → xs.length ≤ sizeLine → Ser J as K xs (fun G2 H2 => Stp as G' H' G2 H2) → R J H'
abbrev PI_ (Φ : Fns) (X : Cx) (tg e : Expr) (c : CI) : Prop := PI X tg e (tI X.K Φ c)
abbrev PJ_ (Φ : Fns) (X : Cx) (tg e : Expr) (c : CI) : Prop := PI X tg e (tJ X.K Φ c)
theorem pi_imp {X : Cx} {tg e : Expr} {t u : TI} (h : PI X tg e t) (i : ∀ σ H R, u σ H R → t σ H R) : PI X tg e u := ⟨fun pins s σ H R I q => h.run pins s σ H R I (i _ _ _ q)⟩
def Szs (K : PySem.W.Frag) (H : Hp) : Prop := (∀ a xs, SqL K H a xs → xs.length ≤ sizeLine) ∧ ∀ a xs, SqT K H a xs → xs.length ≤ sizeLine
theorem pi_strong {X : Cx} {tg e : Expr} {t : TI} (h : PI X tg e t) : PI X tg e (fun σ H R => t σ H fun J H1 => Szs X.K H1 → R J H1) := ⟨fun pins s σ H R I q =>
  thn (h.run pins s σ H _ I q) fun v s1 h1 => thn h1 fun u s2 ⟨it, fp, tn, J, H', e, I', T, st, fo, q'⟩ => ⟨it, fp, tn, J, H', e, I', T, st, fo, q' ⟨fun a xs hq => let ⟨_, _, _, z⟩ := I'.list hq; z, fun a xs hq => let ⟨_, _, _, z⟩ := I'.tuple hq; z⟩⟩⟩

section
variable {as : List Addr} {K : PySem.W.Frag} {G H : Hp} {D : DS}
theorem ser_list {a : Addr} {vs : List V} {xs : List PV} {L : Hp → Hp → Prop} (hl : ∀ (more : List Addr) (G2 H2 : Hp) (D2 : DS), L G2 H2 → Wd (as ++ more) K G2 H2 D2 → SqL K H2 a vs ∧ TrS (as ++ more) K G2 vs xs) : Ser (Itl K a) as K xs L := fun more G2 H2 D2 l w => by
  obtain ⟨sq, t⟩ := hl more G2 H2 D2 l w
  have e := t.len
  refine ⟨fun i hi => ⟨vs, vs[i]'(by omega), sq, List.getElem?_eq_getElem (by omega)⟩, fun i hi => ⟨vs, sq, by omega⟩, fun i x v H' hx hy => ?_⟩
  obtain ⟨rfl, hy⟩ := hy
  obtain ⟨v', e1, t1⟩ := t.get hx
  have := hy vs sq
  rw [e1] at this
  cases this
  exact ⟨G2, Stp.refl _ _ _, w, t1⟩
theorem ser_tup {a : Addr} {vs : List V} {xs : List PV} {L : Hp → Hp → Prop} (hl : ∀ (more : List Addr) (G2 H2 : Hp) (D2 : DS), L G2 H2 → Wd (as ++ more) K G2 H2 D2 → SqT K H2 a vs ∧ TrS (as ++ more) K G2 vs xs) : Ser (Itt K a) as K xs L := fun more G2 H2 D2 l w => by
  obtain ⟨sq, t⟩ := hl more G2 H2 D2 l w
  have e := t.len
  refine ⟨fun i hi => ⟨vs, vs[i]'(by omega), sq, List.getElem?_eq_getElem (by omega)⟩, fun i hi => ⟨vs, sq, by omega⟩, fun i x v H' hx hy => ?_⟩
  obtain ⟨rfl, hy⟩ := hy
  obtain ⟨v', e1, t1⟩ := t.get hx
  have := hy vs sq
  rw [e1] at this
  cases this
  exact ⟨G2, Stp.refl _ _ _, w, t1⟩
theorem ser_str {z : Str} {L : Hp → Hp → Prop} : Ser (Its z) as K (chars z) L := fun more G2 H2 D2 l w => by
  have e : (chars z).length = z.cps.size := by simp [chars]
  refine ⟨fun i hi => (by rw [e] at hi; exact hi), fun i hi => (by rw [e] at hi; exact hi), fun i x v H' hx hy => ?_⟩
  obtain ⟨rfl, c, hc, rfl⟩ := hy
  have : x = .str ⟨#[c]⟩ := by
    unfold chars at hx
    rw [List.getElem?_map, Array.getElem?_toList, hc] at hx
    exact (Option.some.inj hx).symm
  subst this
  exact ⟨G2, Stp.refl _ _ _, w, .str _⟩
theorem rngL_get {a b : Int} {i : Nat} {x : PV} (h : (rngL a b)[i]? = some x) : x = .int (a + i) := by
  unfold rngL at h
  rw [List.getElem?_map] at h
  by_cases hi : i < (b - a).toNat
  · rw [List.getElem?_range hi] at h
    exact (Option.some.inj h).symm
  · rw [List.getElem?_eq_none (by simpa using hi)] at h
    cases h
theorem rngL_len (a b : Int) : (rngL a b).length = (b - a).toNat := by simp [rngL]
theorem ser_rng {a b : Int} {n : Nat} {L : Hp → Hp → Prop} (hn : n = (b - a).toNat) : Ser (Itr a n) as K (rngL a b) L := fun more G2 H2 D2 l w => by
  subst hn
  refine ⟨fun i hi => (by rw [rngL_len] at hi; exact hi), fun i hi => (by rw [rngL_len] at hi; exact hi), fun i x v H' hx hy => ?_⟩
  obtain ⟨rfl, rfl⟩ := hy
  rw [rngL_get hx]
  exact ⟨G2, Stp.refl _ _ _, w, .int _⟩
theorem rng_size {a b : Int} (h : rngOk a b = true) : (rngL a b).length ≤ sizeLine := by
  have h' := of_decide_eq_true h
  have : ((LIM : Nat) : Int) = 1000000 := rfl
  rw [rngL_len, sizeLine_eq]
  omega
theorem stp_le {G' H' : Hp} (st : Stp as G H G' H') : Le G G' := st.le
end
section
variable {T : Tb} {Φ : Fns} {N : List Str} {sc : Scope} {X : Cx} {e a b tg : Expr} {pos p : Pos}
theorem i_j {c : CI} (h : PI_ Φ X tg e c) : PJ_ Φ X tg e c := pi_imp h fun σ H R ⟨as, G, ρ, D, xs, D', w, r, ee, f⟩ => ⟨as, G, ρ, D, xs, D', w, r, ee, fun J G' H' st w' hz s => f J G' H' st w' hz (s.weak fun _ _ l => l.le)⟩
theorem i_over {c : CE} (h : PV_ Φ X e c) : PI_ Φ X tg e (.over c) := ⟨fun pins s σ H R I ⟨as, G, ρ, D, xs, D', w, r, ee, f⟩ => by
  obtain ⟨⟨x, D1⟩, e1, ee⟩ := Option.bind_eq_some_iff.mp ee
  obtain ⟨ys, e2, ee⟩ := Option.map_eq_some_iff.mp ee
  cases ee
  cases x with
  | lst zs =>
    cases e2
    refine (pi_strong (pi_list (tg := tg) h)).run pins s σ H R I ⟨as, G, ρ, D, _, _, w, r, e1, fun v G' H' st w' t => ?_⟩
    cases t with
    | lst hG ts => exact ⟨_, rfl, ⟨_, .of (w'.sub _ _ hG)⟩, fun sz => f _ G' H' st w' (by rw [← ts.len]; exact sz.1 _ _ (.of (w'.sub _ _ hG))) (ser_list fun more G2 H2 D2 l w2 => ⟨.of (w2.sub _ _ (l.lst hG)), ts.mono l more⟩)⟩
  | tup zs =>
    cases e2
    refine (pi_strong (pi_tup (tg := tg) h)).run pins s σ H R I ⟨as, G, ρ, D, _, _, w, r, e1, fun v G' H' st w' t => ?_⟩
    cases t with
    | tup hG ts => exact ⟨_, rfl, ⟨_, .of (w'.sub _ _ hG)⟩, fun sz => f _ G' H' st w' (by rw [← ts.len]; exact sz.2 _ _ (.of (w'.sub _ _ hG))) (ser_tup fun more G2 H2 D2 l w2 => ⟨.of (w2.sub _ _ (l.tup hG)), ts.mono l more⟩)⟩
  | str z =>
    have e2' : (if z.length ≤ LIM then some (chars z) else none) = some _ := e2
    split at e2'
    · rename_i hl
      cases e2'
      refine (pi_str (tg := tg) h).run pins s σ H R I ⟨as, G, ρ, D, _, _, w, r, e1, fun v G' H' st w' t => ?_⟩
      cases t
      exact ⟨z, rfl, f _ G' H' st w' (by simp only [chars, List.length_map, Array.length_toList]; exact line_lim hl) ser_str⟩
    · cases e2'
  | _ => cases e2⟩
/-- over what a slot holds by itself -/
theorem j_over {c : CE} (h : PO_ Φ X e c) : PJ_ Φ X tg e (.over c) := ⟨fun pins s σ H R I ⟨as, G, ρ, D, xs, D', w, r, ee, f⟩ => by
  obtain ⟨⟨x, D1⟩, e1, ee⟩ := Option.bind_eq_some_iff.mp ee
  obtain ⟨ys, e2, ee⟩ := Option.map_eq_some_iff.mp ee
  cases ee
  cases x with
  | lst zs =>
    cases e2
    refine (pi_strong (pi_list (tg := tg) h)).run pins s σ H R I ⟨as, G, ρ, D, _, _, w, r, e1, fun v G' H' st w' t => ?_⟩
    rcases t with t | ⟨a, rfl, hG, ha, vs, hH, ts⟩
    · cases t with
      | lst hG ts => exact ⟨_, rfl, ⟨_, .of (w'.sub _ _ hG)⟩, fun sz => f _ G' H' st w' (by rw [← ts.len]; exact sz.1 _ _ (.of (w'.sub _ _ hG))) (ser_list fun more G2 H2 D2 l w2 => ⟨.of (w2.sub _ _ (l.le.lst hG)), ts.mono l.le more⟩)⟩
    · exact ⟨_, rfl, ⟨_, .of hH⟩, fun sz => f _ G' H' st w' (by rw [← ts.len]; exact sz.1 _ _ (.of hH)) (ser_list fun more G2 H2 D2 l w2 => ⟨.of (l.kp _ _ ha hH), ts.mono l.le more⟩)⟩
  | tup zs =>
    cases e2
    refine (pi_strong (pi_tup (tg := tg) h)).run pins s σ H R I ⟨as, G, ρ, D, _, _, w, r, e1, fun v G' H' st w' t => ?_⟩
    rcases t with t | ⟨a, rfl, hG, ha, o⟩
    · cases t with
      | tup hG ts => exact ⟨_, rfl, ⟨_, .of (w'.sub _ _ hG)⟩, fun sz => f _ G' H' st w' (by rw [← ts.len]; exact sz.2 _ _ (.of (w'.sub _ _ hG))) (ser_tup fun more G2 H2 D2 l w2 => ⟨.of (w2.sub _ _ (l.le.tup hG)), ts.mono l.le more⟩)⟩
    · exact absurd o id
  | str z =>
    have e2' : (if z.length ≤ LIM then some (chars z) else none) = some _ := e2
    split at e2'
    · rename_i hl
      cases e2'
      refine (pi_str (tg := tg) h).run pins s σ H R I ⟨as, G, ρ, D, _, _, w, r, e1, fun v G' H' st w' t => ?_⟩
      have := t.r.str
      subst this
      exact ⟨z, rfl, f _ G' H' st w' (by simp only [chars, List.length_map, Array.length_toList]; exact line_lim hl) ser_str⟩
    · cases e2'
  | _ => cases e2⟩
section
variable {j : Nat} {ca cb cc : CE} {c : Expr}
theorem i_rng1 (g : Gd T Φ N sc X) (hg : sc.names.lookup ("range" : Str) = some .globalImplicit) (hm : T.fr[j]? = some ("range" : Str)) (ha : PV_ Φ X a ca) (hs : starEach [a] X.env = [(false, eval a X.env)] := by rfl) : PI_ Φ X tg (.Call (.Name "range" p) [a] [] pos) (.rng1 ca) := by
  have hA : PA_ Φ X [a] (.cons ca .nil) := a_cons ha a_nil hs
  refine pi_imp (pi_range1 (gl_of g hg) (g.fr j _ hm) hA hs) fun σ H R ⟨as, G, ρ, D, xs, D', w, r, ee, f⟩ => ?_
  obtain ⟨⟨x, D1⟩, e1, ee⟩ := Option.bind_eq_some_iff.mp ee
  obtain ⟨n, e2, ee⟩ := Option.bind_eq_some_iff.mp ee
  have ex : x = .int n := by
    cases x <;> first | (cases e2; rfl) | cases e2
  subst ex
  split at ee
  · rename_i hr
    cases ee
    refine ⟨as, G, ρ, D, [.int n], D1, w, r, by simp only [evs, e1, Option.bind_some, Option.map_some], fun vs G' H' st w' t => ?_⟩
    cases t with
    | cons t1 t2 =>
      cases t1
      cases t2
      have h' := of_decide_eq_true hr
      have : ((LIM : Nat) : Int) = 1000000 := rfl
      exact ⟨n, rfl, by omega, by omega, f _ G' H' st w' (rng_size hr) (ser_rng (by simp))⟩
  · cases ee
theorem i_rng2 (g : Gd T Φ N sc X) (hg : sc.names.lookup ("range" : Str) = some .globalImplicit) (hm : T.fr[j]? = some ("range" : Str)) (ha : PV_ Φ X a ca) (hb : PV_ Φ X b cb) (hs : starEach [a, b] X.env = [(false, eval a X.env), (false, eval b X.env)] := by rfl) (hs2 : starEach [b] X.env = [(false, eval b X.env)] := by rfl) :
    PI_ Φ X tg (.Call (.Name "range" p) [a, b] [] pos) (.rng2 ca cb) := by
  have hA : PA_ Φ X [a, b] (.cons ca (.cons cb .nil)) := a_cons ha (a_cons hb a_nil hs2) (by rw [hs, hs2])
  refine pi_imp (pi_range2 (gl_of g hg) (g.fr j _ hm) hA hs hs2) fun σ H R ⟨as, G, ρ, D, xs, D', w, r, ee, f⟩ => ?_
  obtain ⟨⟨x, D1⟩, e1, ee⟩ := Option.bind_eq_some_iff.mp ee
  obtain ⟨⟨y, D2⟩, e3, ee⟩ := Option.bind_eq_some_iff.mp ee
  obtain ⟨m, e2, ee⟩ := Option.bind_eq_some_iff.mp ee
  obtain ⟨n, e4, e9⟩ := Option.bind_eq_some_iff.mp ee
  have ex : x = .int m := by
    cases x <;> first | (cases e2; rfl) | cases e2
  subst ex
  have ey : y = .int n := by
    cases y <;> first | (cases e4; rfl) | cases e4
  subst ey
  split at e9
  · rename_i hr
    cases e9
    refine ⟨as, G, ρ, D, [.int m, .int n], D2, w, r, by simp only [evs, e1, e3, Option.bind_some, Option.map_some], fun vs G' H' st w' t => ?_⟩
    cases t with
    | cons t1 t2 =>
      cases t2 with
      | cons t2 t3 =>
        cases t1
        cases t2
        cases t3
        have h' := of_decide_eq_true hr
        have : ((LIM : Nat) : Int) = 1000000 := rfl
        exact ⟨m, n, rfl, by omega, f _ G' H' st w' (rng_size hr) (ser_rng rfl)⟩
  · cases e9
end
/-! ### targets -/
mutual
def Pat.slots : Pat → List Nat
  | .nm i => [i]
  | .tp ps => slotsL ps
def slotsL : List Pat → List Nat
  | [] => []
  | p :: ps => p.slots ++ slotsL ps
end
/-- nothing but these slots is changed -/
def Same (σ σ' : L2.St) (vs : List Nat) : Prop := σ'.length = σ.length ∧ ∀ i, i ∉ vs → σ'[i]? = σ[i]?
theorem Same.refl (σ : L2.St) (vs : List Nat) : Same σ σ vs := ⟨rfl, fun _ _ => rfl⟩
theorem Same.trans {σ σ1 σ2 : L2.St} {vs ws : List Nat} (a : Same σ σ1 vs) (b : Same σ1 σ2 ws) : Same σ σ2 (vs ++ ws) := ⟨b.1.trans a.1, fun i hi => by
  rw [List.mem_append, not_or] at hi
  exact (b.2 i hi.2).trans (a.2 i hi.1)⟩
theorem Same.set (σ : L2.St) (i : Nat) (v : Option V) : Same σ (σ.set i v) [i] := ⟨List.length_set, fun j hj => by
  have : i ≠ j := fun e => hj (by simp [e])
  exact List.getElem?_set_ne this⟩
theorem wipe_in : ∀ {vs : List Nat} {σ : L2.St} {i : Nat}, i ∈ vs → i < σ.length → (wipe σ vs)[i]? = some none
  | v :: vs, σ, i, h, hl => by
    unfold wipe
    by_cases e : v = i
    · subst e
      rw [List.getElem?_set_self (by rw [wipe_length]; exact hl)]
    · rw [List.getElem?_set_ne e]
      rcases List.mem_cons.mp h with h | h
      · exact absurd h.symm e
      · exact wipe_in h hl
theorem Same.wipe {σ σ' : L2.St} {vs ws : List Nat} (h : Same σ σ' vs) (hs : ∀ i ∈ vs, i ∈ ws) : wipe σ' ws = wipe σ ws := by
  apply List.ext_getElem?
  intro i
  by_cases hi : i ∈ ws
  · by_cases hl : i < σ.length
    · rw [wipe_in hi hl, wipe_in hi (by rw [h.1]; exact hl)]
    · rw [List.getElem?_eq_none (by rw [wipe_length, h.1]; omega), List.getElem?_eq_none (by rw [wipe_length]; omega)]
  · rw [wipe_out hi, wipe_out hi]
    exact h.2 i fun m => hi (hs i m)
def tP (K : PySem.W.Frag) (p : Pat) : TG := fun v σ H R => ∃ as G D ρ x ρ', Wd as K G H D ∧ Rp as K G H σ ρ ∧ Tr as K G v x ∧ bindP p x ρ = some ρ' ∧ ∀ σ', Rp as K G H σ' ρ' → Same σ σ' p.slots → R σ' H
def tPs (K : PySem.W.Frag) (ps : List Pat) : TGs := fun vs σ H R => ∃ as G D ρ xs ρ', Wd as K G H D ∧ Rp as K G H σ ρ ∧ TrS as K G vs xs ∧ bindPs ps xs ρ = some ρ' ∧ ∀ σ', Rp as K G H σ' ρ' → Same σ σ' (slotsL ps) → R σ' H
theorem Rp.put {as : List Addr} {K : PySem.W.Frag} {G H : Hp} {σ : L2.St} {ρ : Envi} (r : Rp as K G H σ ρ) (i : Nat) {v : V} {x : PV} (t : Tr as K G v x) : Rp as K G H (σ.set i (some v)) (ρ.set i (some (false, x))) where
  len := by rw [List.length_set, List.length_set]; exact r.len
  frz := fun j y h => by
    by_cases e : i = j
    · subst e
      have hl : i < ρ.length := by
        have := (List.getElem?_eq_some_iff.mp h).1
        rwa [List.length_set] at this
      rw [List.getElem?_set_self hl] at h
      cases h
      exact ⟨v, List.getElem?_set_self (by rw [r.len]; exact hl), t⟩
    · rw [List.getElem?_set_ne e] at h ⊢
      exact r.frz j y h
  own := fun j y h => by
    by_cases e : i = j
    · subst e
      have hl : i < ρ.length := by
        have := (List.getElem?_eq_some_iff.mp h).1
        rwa [List.length_set] at this
      rw [List.getElem?_set_self hl] at h
      cases h
    · rw [List.getElem?_set_ne e] at h ⊢
      exact r.own j y h
  dis := fun j k x' y a h1 h2 h3 h4 => by
    have ne : ∀ {j y}, (ρ.set i (some (false, x)))[j]? = some (some (true, y)) → i ≠ j := fun {j y} h e => by
      subst e
      have hl : i < ρ.length := by
        have := (List.getElem?_eq_some_iff.mp h).1
        rwa [List.length_set] at this
      rw [List.getElem?_set_self hl] at h
      cases h
    have n1 := ne h1
    have n2 := ne h2
    rw [List.getElem?_set_ne n1] at h1 h3
    rw [List.getElem?_set_ne n2] at h2 h4
    exact r.dis j k x' y a h1 h2 h3 h4
abbrev PP_ (X : Cx) (e : Expr) (p : Pat) : Prop := PG X e (tP X.K p)
abbrev PPs_ (X : Cx) (e : List Expr) (p : List Pat) : Prop := PGs X e (tPs X.K p)
theorem pg_imp {X : Cx} {e : Expr} {t u : TG} (h : PG X e t) (i : ∀ v σ H R, u v σ H R → t v σ H R) : PG X e u := ⟨fun pins s σ H v w R I r q => h.run pins s σ H v w R I r (i _ _ _ _ q)⟩
theorem pgs_imp {X : Cx} {e : List Expr} {t u : TGs} (h : PGs X e t) (i : ∀ v σ H R, u v σ H R → t v σ H R) : PGs X e u := ⟨fun pins s σ H v w R I r q => h.run pins s σ H v w R I r (i _ _ _ _ q)⟩
theorem p_nm {i : Nat} {x : Str} (g : Gd T Φ N sc X) (hi : N[i]? = some x) (hx : Loc sc x) (hf : X.fn x = true ∨ sc.names.lookup x = some .local := by first | exact .inl rfl | exact .inr rfl | assumption) : PP_ X (.Name x pos) (.nm i) :=
  pg_imp (pg_name (i := i) (by rw [g.n]; exact g.nd) (by rw [g.n]; exact hi) (by rw [g.sc]; exact hx) (by rw [g.sc]; exact hf)) fun v σ H R ⟨as, G, D, ρ, x', ρ', w, r, t, b, f⟩ => by
    have b' : some (ρ.set i (some (false, x'))) = some ρ' := b
    cases b'
    exact f _ (r.put i t) (Same.set σ i _)
theorem ps_nil' : PPs_ X [] [] := pgs_imp pgs_nil fun v σ H R ⟨as, G, D, ρ, xs, ρ', w, r, t, b, f⟩ => by
  cases t with
  | nil =>
    have b' : some ρ = some ρ' := b
    cases b'
    exact ⟨rfl, f σ r (Same.refl _ _)⟩
  | cons _ _ => cases b
theorem ps_cons' {es : List Expr} {pt : Pat} {ps : List Pat} (h1 : PP_ X e pt) (h2 : PPs_ X es ps) (hs : (assignEach (e :: es) X.env).map (·.2) = assign e X.env :: (assignEach es X.env).map (·.2) := by rfl) : PPs_ X (e :: es) (pt :: ps) :=
  pgs_imp (pgs_cons h1 h2 hs) fun v σ H R ⟨as, G, D, ρ, xs, ρ', w, r, t, b, f⟩ => by
    cases t with
    | nil => cases b
    | cons t ts =>
      obtain ⟨ρ1, b1, b2⟩ := Option.bind_eq_some_iff.mp b
      exact ⟨_, _, rfl, as, G, D, ρ, _, ρ1, w, r, t, b1, fun σ1 r1 s1 => ⟨as, G, D, ρ1, _, ρ', w, r1, ts, b2, fun σ2 r2 s2 => f σ2 r2 (s1.trans s2)⟩⟩
theorem bindPs_len : ∀ {ps : List Pat} {xs : List PV} {ρ ρ' : Envi}, bindPs ps xs ρ = some ρ' → xs.length = ps.length
  | [], [], _, _, _ => rfl
  | [], _ :: _, _, _, h => by cases h
  | _ :: _, [], _, _, h => by cases h
  | p :: ps, x :: xs, ρ, ρ', h => by
    obtain ⟨ρ1, _, b2⟩ := Option.bind_eq_some_iff.mp h
    rw [List.length_cons, List.length_cons, bindPs_len b2]
theorem p_tp {es : List Expr} {k : Nat} {ps : List Pat} (g : Gd T Φ N sc X) (h : PPs_ X es ps) (hn : (assignEach es X.env).length = ps.length := by rfl) (hst : (assignEach es X.env).findIdx? (·.1) = none := by rfl) : PP_ X (.Tuple es k pos) (.tp ps) :=
  pg_imp (pg_tup (n := ps.length) g.calm h hn hst) fun v σ H R ⟨as, G, D, ρ, x, ρ', w, r, t, b, f⟩ => by
    cases x with
    | tup xs =>
      cases t with
      | tup hG ts =>
        have b' : bindPs ps xs ρ = some ρ' := b
        exact ⟨_, _, rfl, .of (w.sub _ _ hG), by rw [ts.len]; exact bindPs_len b', as, G, D, ρ, xs, ρ', w, r, ts, b', f⟩
    | _ => cases b
end
end MP

/-! MP lc: list comprehensions. -/
namespace MP
open PySem PySem.Spec PyProof.Rows L2

/-! ### slots forgotten -/
theorem wipE_len (ρ : Envi) : ∀ vs : List Nat, (wipE ρ vs).length = ρ.length
  | [] => rfl
  | v :: vs => by unfold wipE; rw [List.length_set, wipE_len ρ vs]
theorem wipE_some {ρ : Envi} {i : Nat} {x : Bool × PV} : ∀ {vs : List Nat}, (wipE ρ vs)[i]? = some (some x) → ρ[i]? = some (some x) ∧ i ∉ vs
  | [], h => ⟨h, by simp⟩
  | v :: vs, h => by
    unfold wipE at h
    by_cases hi : v = i
    · subst hi
      by_cases hv : v < (wipE ρ vs).length
      · rw [List.getElem?_set_self hv] at h; cases h
      · rw [List.getElem?_eq_none (by simpa using hv)] at h; cases h
    · rw [List.getElem?_set_ne hi] at h
      obtain ⟨h1, h2⟩ := wipE_some h
      exact ⟨h1, by simp only [List.mem_cons, not_or]; exact ⟨fun e => hi e.symm, h2⟩⟩
/-- no slot holds p by itself -/
def Av (p : Addr) (σ : L2.St) (ρ : Envi) : Prop := ∀ (i : Nat) (x : PV), ρ[i]? = some (some (true, x)) → σ[i]? ≠ some (some (.ref p))
section
variable {as : List Addr} {K : PySem.W.Frag} {G H G' H' : Hp} {σ : L2.St} {ρ : Envi} {p : Addr} {D : DS}
theorem Rp.wipe (r : Rp as K G H σ ρ) (vs : List Nat) : Rp as K G H (wipe σ vs) (wipE ρ vs) where
  len := by rw [wipe_length, wipE_len]; exact r.len
  frz := fun i x h => by
    obtain ⟨h1, h2⟩ := wipE_some h
    rw [wipe_out h2]
    exact r.frz i x h1
  own := fun i x h => by
    obtain ⟨h1, h2⟩ := wipE_some h
    rw [wipe_out h2]
    exact r.own i x h1
  dis := fun i j x y a h1 h2 h3 h4 => by
    obtain ⟨h1, n1⟩ := wipE_some h1
    obtain ⟨h2, n2⟩ := wipE_some h2
    rw [wipe_out n1] at h3
    rw [wipe_out n2] at h4
    exact r.dis i j x y a h1 h2 h3 h4
theorem Av.wipe (av : Av p σ ρ) (vs : List Nat) : Av p (wipe σ vs) (wipE ρ vs) := fun i x h => by
  obtain ⟨h1, h2⟩ := wipE_some h
  rw [wipe_out h2]
  exact av i x h1
theorem Rp.av (r : Rp as K G H σ ρ) (hp : H p = none) : Av p σ ρ := fun i x h e => by
  obtain ⟨a, e1, _, _, o⟩ := r.own i x h
  rw [e] at e1
  cases e1
  exact o.some hp
mutual
theorem bindP_own : ∀ {pt : Pat} {x : PV} {ρ ρ' : Envi} {i : Nat} {y : PV}, bindP pt x ρ = some ρ' → ρ'[i]? = some (some (true, y)) → i ∉ pt.slots ∧ ρ[i]? = some (some (true, y))
  | .nm k, x, ρ, ρ', i, y, h, e => by
    have h' : some (ρ.set k (some (false, x))) = some ρ' := h
    cases h'
    by_cases hk : k = i
    · subst hk
      have hl : k < ρ.length := by
        have := (List.getElem?_eq_some_iff.mp e).1
        rwa [List.length_set] at this
      rw [List.getElem?_set_self hl] at e
      cases e
    · rw [List.getElem?_set_ne hk] at e
      exact ⟨by show i ∉ [k]; simp; exact fun z => hk z.symm, e⟩
  | .tp ps, .tup xs, ρ, ρ', i, y, h, e => bindPs_own (ps := ps) (xs := xs) h e
  | .tp _, .non, _, _, _, _, h, _ => by cases h
  | .tp _, .bl _, _, _, _, _, h, _ => by cases h
  | .tp _, .int _, _, _, _, _, h, _ => by cases h
  | .tp _, .str _, _, _, _, _, h, _ => by cases h
  | .tp _, .lst _, _, _, _, _, h, _ => by cases h
  | .tp _, .dct _ _, _, _, _, _, h, _ => by cases h
  | .tp _, .shr _, _, _, _, _, h, _ => by cases h
  | .tp _, .scr _, _, _, _, _, h, _ => by cases h
  | .tp _, .lck _, _, _, _, _, h, _ => by cases h
theorem bindPs_own : ∀ {ps : List Pat} {xs : List PV} {ρ ρ' : Envi} {i : Nat} {y : PV}, bindPs ps xs ρ = some ρ' → ρ'[i]? = some (some (true, y)) → i ∉ slotsL ps ∧ ρ[i]? = some (some (true, y))
  | [], [], ρ, ρ', i, y, h, e => by
    have h' : some ρ = some ρ' := h
    cases h'
    exact ⟨by show i ∉ []; simp, e⟩
  | [], _ :: _, _, _, _, _, h, _ => by cases h
  | _ :: _, [], _, _, _, _, h, _ => by cases h
  | p :: ps, x :: xs, ρ, ρ', i, y, h, e => by
    obtain ⟨ρ1, b1, b2⟩ := Option.bind_eq_some_iff.mp h
    obtain ⟨n2, e2⟩ := bindPs_own b2 e
    obtain ⟨n1, e1⟩ := bindP_own b1 e2
    exact ⟨by show i ∉ p.slots ++ slotsL ps; rw [List.mem_append, not_or]; exact ⟨n1, n2⟩, e1⟩
end
theorem Av.bind {σ' : L2.St} {ρ' : Envi} {pt : Pat} {x : PV} (av : Av p σ ρ) (b : bindP pt x ρ = some ρ') (s : Same σ σ' pt.slots) : Av p σ' ρ' := fun i y h e => by
  obtain ⟨n, h2⟩ := bindP_own b h
  rw [s.2 i n] at e
  exact av i y h2 e
theorem Stp.wk (st : Stp as G H G' H') : Stp (p :: as) G H G' H' := ⟨st.le, st.nw, fun b o hb h => st.kp b o (fun m => hb (List.mem_cons_of_mem _ m)) h, st.sm⟩
theorem Rp.upp (r : Rp as K G H σ ρ) (av : Av p σ ρ) (st : Stp (p :: as) G H G' H') : Rp as K G' H' σ ρ where
  len := r.len
  frz := fun i x h => by
    obtain ⟨v, e, t⟩ := r.frz i x h
    exact ⟨v, e, t.up st.le⟩
  own := fun i x h => by
    obtain ⟨a, e, g, n, o⟩ := r.own i x h
    have hs := o.some
    have np : a ≠ p := fun z => av i x h (by rw [← z]; exact e)
    refine ⟨a, e, ?_, n, ?_⟩
    · cases q : G' a with
      | none => rfl
      | some u =>
        rcases st.nw a (by rw [q]; exact fun z => nomatch z) with z | z
        · exact absurd g z
        · exact absurd z hs
    · cases q : H a with
      | none => exact absurd q hs
      | some u =>
        have := o.up (G' := G') (H' := H') st.le ((st.kp a u (by simp only [List.mem_cons, not_or]; exact ⟨np, n⟩) q).trans q.symm) []
        simpa using this
  dis := r.dis
theorem Wd.mut {o : HO} (w : Wd as K G H D) (hG : G p = none) (ha : p ∉ as) : Wd as K G (upd H p o) D where
  sub := fun b u h => by rw [upd_ne (ne_of_none h hG)]; exact w.sub b u h
  nd := w.nd
  len := w.len
  off := w.off
  sh := fun j a x h1 h2 => by
    have hne : a ≠ p := fun e => ha (by rw [← e]; exact List.mem_of_getElem? h1)
    have := (w.sh j a x h1 h2).up (G' := G) (H' := upd H p o) (Le.refl G) (upd_ne hne) []
    simpa using this
theorem Stp.mut {o : HO} (st : Stp as G H G' H') (hp : H p = none) : Stp as G H G' (upd H' p o) :=
  ⟨st.le, st.nw, fun b u hb h => by rw [upd_ne (ne_of_none h hp)]; exact st.kp b u hb h, fun b h => by
    by_cases e : b = p
    · rw [e, upd_same]; exact fun z => nomatch z
    · rw [upd_ne e]; exact st.sm b h⟩
theorem Stp.mutp {o : HO} (st : Stp (p :: as) G H G' H') : Stp (p :: as) G H G' (upd H' p o) :=
  ⟨st.le, st.nw, fun b u hb h => by
    have hne : b ≠ p := fun e => hb (by rw [e]; exact List.mem_cons_self)
    rw [upd_ne hne]; exact st.kp b u hb h, fun b h => by
    by_cases e : b = p
    · rw [e, upd_same]; exact fun z => nomatch z
    · rw [upd_ne e]; exact st.sm b h⟩
end
/-- the new list at p holds acc, since G1, H1 (where p was not) -/
structure Acc (as : List Addr) (K : PySem.W.Frag) (G1 H1 : Hp) (p : Addr) (acc : List PV) (D : DS) (G H : Hp) : Prop where
  st : Stp as G1 H1 G H
  w : Wd as K G H D
  ex : ∃ vs, H p = some (.lst vs) ∧ TrS as K G vs acc
  g : G p = none
section
variable {as : List Addr} {K : PySem.W.Frag} {G1 H1 G H G' H' : Hp} {p : Addr} {acc : List PV} {D D' : DS}
theorem Acc.start (w : Wd as K G1 H1 D) (hp : H1 p = none) : Acc as K G1 H1 p [] D G1 (upd H1 p (.lst [])) :=
  ⟨Stp.own hp, w.ownp hp, ⟨[], upd_same, .nil⟩, w.free hp⟩
theorem Acc.step (a : Acc as K G1 H1 p acc D G H) (ha : p ∉ as) (st : Stp as G H G' H') (w' : Wd as K G' H' D') : Acc as K G1 H1 p acc D' G' H' := by
  obtain ⟨vs, h1, t⟩ := a.ex
  refine ⟨a.st.trans st, w', ⟨vs, st.kp _ _ ha h1, t.up st.le⟩, ?_⟩
  cases q : G' p with
  | none => rfl
  | some o =>
    rcases st.nw p (by rw [q]; exact fun z => nomatch z) with z | z
    · exact absurd a.g z
    · rw [h1] at z; cases z
theorem Acc.app (a : Acc as K G1 H1 p acc D G H) (ha : p ∉ as) (hp : H1 p = none) {vs : List V} (hv : H p = some (.lst vs)) {v : V} {y : PV} (t : Tr as K G v y) : Acc as K G1 H1 p (acc ++ [y]) D G (upd H p (.lst (vs ++ [v]))) := by
  obtain ⟨vs', h1, t1⟩ := a.ex
  rw [hv] at h1
  cases h1
  exact ⟨a.st.mut hp, a.w.mut a.g ha, ⟨_, upd_same, t1.app (.cons t .nil)⟩, a.g⟩
end
/-! ### tests of a clause -/
def tTs (K : PySem.W.Frag) (Φ : Fns) (c : CEs) : TT := fun σ H Q => ∃ as G ρ D b D', Wd as K G H D ∧ Rp as K G H σ ρ ∧ evt Φ c ρ D = some (b, D') ∧ ∀ G' H', Stp as G H G' H' → Wd as K G' H' D' → Q b H'
abbrev PTs_ (Φ : Fns) (X : Cx) (e : List Expr) (c : CEs) : Prop := PTs X e (tTs X.K Φ c)
section
variable {T : Tb} {Φ : Fns} {N : List Str} {sc : Scope} {X : Cx} {e a b tg : Expr} {pos p : Pos}
theorem pts_imp {e : List Expr} {t u : TT} (h : PTs X e t) (i : ∀ σ H Q, u σ H Q → t σ H Q) : PTs X e u := ⟨fun pins s σ H Q I q => h.run pins s σ H Q I (i _ _ _ q)⟩
theorem ts_nil : PTs_ Φ X [] .nil := pts_imp pts_nil fun σ H Q ⟨as, G, ρ, D, y, D', w, r, ee, f⟩ => by
  have ee' : some (true, D) = some (y, D') := ee
  cases ee'
  exact f G H (Stp.refl _ _ _) w
theorem ts_one {c : CE} (h : PT_ Φ X e c) : PTs_ Φ X [e] (.cons c .nil) := pts_imp (pts_one h) fun σ H Q ⟨as, G, ρ, D, y, D', w, r, ee, f⟩ => by
  obtain ⟨⟨x, D1⟩, e1, ee⟩ := Option.bind_eq_some_iff.mp (show (ev Φ c ρ D).bind (fun r => (blOf r.1).map fun z => (z, r.2)) = some (y, D') from ee)
  obtain ⟨z, e2, ee⟩ := Option.map_eq_some_iff.mp ee
  cases ee
  have ex : x = .bl y := by
    cases x <;> first | (cases e2; rfl) | cases e2
  subst ex
  exact ⟨as, G, ρ, D, y, _, w, r, e1, fun G' H' st w' => f G' H' st w'⟩
theorem drop_cons {α : Type} {xs : List α} {i : Nat} (h : i < xs.length) : xs.drop i = xs[i] :: xs.drop (i + 1) := List.drop_eq_getElem_cons h
theorem lcF_len {f : PV → DS → Option (List PV × DS)} (hf : ∀ x D r, f x D = some r → r.1.length ≤ 1) : ∀ {xs : List PV} {D : DS} {ys : List PV} {D' : DS}, lcF f xs D = some (ys, D') → ys.length ≤ xs.length
  | [], D, ys, D', h => by
    have h' : some (([] : List PV), D) = some (ys, D') := h
    cases h'
    exact Nat.le_refl _
  | x :: xs, D, ys, D', h => by
    obtain ⟨⟨l, D1⟩, h1, h2⟩ := Option.bind_eq_some_iff.mp (show (f x D).bind (fun r => (lcF f xs r.2).bind fun q => some (r.1 ++ q.1, q.2)) = some (ys, D') from h)
    obtain ⟨⟨q, D2⟩, h3, h4⟩ := Option.bind_eq_some_iff.mp h2
    cases h4
    have q1 : l.length ≤ 1 := hf _ _ _ h1
    have q2 : q.length ≤ xs.length := lcF_len hf h3
    show (l ++ q).length ≤ _
    rw [List.length_append, List.length_cons]
    omega
/-- what a turn of a one-clause comprehension gives -/
def stp1 (Φ : Fns) (own : List Nat) (ce : CE) (pt : Pat) (ct : CEs) (ρ : Envi) : PV → DS → Option (List PV × DS) := fun x D1 =>
  (bindP pt x (wipE ρ own)).bind fun ρ1 => (evt Φ ct ρ1 D1).bind fun c => if c.1 then (ev Φ ce ρ1 c.2).map fun y => ([y.1], y.2) else some ([], c.2)
theorem stp1_len {own : List Nat} {ce : CE} {pt : Pat} {ct : CEs} {ρ : Envi} : ∀ x D r, stp1 Φ own ce pt ct ρ x D = some r → r.1.length ≤ 1 := fun x D r h => by
  obtain ⟨ρ1, _, h⟩ := Option.bind_eq_some_iff.mp h
  obtain ⟨⟨c, D1⟩, _, h⟩ := Option.bind_eq_some_iff.mp h
  cases c with
  | true =>
    obtain ⟨⟨y, D2⟩, _, h⟩ := Option.map_eq_some_iff.mp (show (ev Φ ce ρ1 D1).map (fun y => ([y.1], y.2)) = some r from h)
    subst h
    exact Nat.le_refl _
  | false =>
    have h' : some (([] : List PV), D1) = some r := h
    cases h'
    exact Nat.zero_le _
theorem wipe_wipe (σ : L2.St) (vs : List Nat) : wipe (wipe σ vs) vs = wipe σ vs := by
  apply List.ext_getElem?
  intro i
  by_cases hi : i ∈ vs
  · by_cases hl : i < σ.length
    · rw [wipe_in hi hl, wipe_in hi (by rw [wipe_length]; exact hl)]
    · rw [List.getElem?_eq_none (by rw [wipe_length, wipe_length]; omega), List.getElem?_eq_none (by rw [wipe_length]; omega)]
  · rw [wipe_out hi, wipe_out hi]
section
variable {elt iter : Expr} {ifs : List Expr} {scope : Scope} {own : List (Str × Nat)} {ce : CE} {pt : Pat} {ci : CI} {ct : CEs}
/-- one turn: the target stored, the tests, the item -/
theorem turn_1 {as : List Addr} {K : PySem.W.Frag} {G1 H1 G3 H3 : Hp} {Dl : Addr} {acc : List PV} {Di D3 : DS} {σ : L2.St} {ρ : Envi} {x : PV} {v : V} {l rest : List PV} {Nx : Hp → Prop} {own : List Nat} (hD : H1 Dl = none) (hna : Dl ∉ as)
    (hs : stp1 Φ own ce pt ct ρ x Di = some (l, D3)) (A : Acc as K G1 H1 Dl acc Di G3 H3) (r : Rp as K G3 H3 (wipe σ own) (wipE ρ own)) (t : Tr as K G3 v x) (hsl : ∀ i ∈ pt.slots, i ∈ own) (hl : (acc ++ l ++ rest).length ≤ sizeLine)
    (nx : ∀ G H, Stp (Dl :: as) G3 H3 G H → Acc as K G1 H1 Dl (acc ++ l) D3 G H → Nx H) :
    tP K pt v (wipe σ own) H3 fun σ2 H4 => wipe σ2 own = wipe σ own ∧ tTs K Φ ct σ2 H4 fun b H5 => if b = true then tE K Φ ce σ2 H5 fun y H6 => ∃ acc, H6 Dl = some (.lst acc) ∧ acc.length < sizeLine ∧ Nx (upd H6 Dl (.lst (acc ++ [y]))) else Nx H5 := by
  obtain ⟨ρ1, b1, hs⟩ := Option.bind_eq_some_iff.mp hs
  obtain ⟨⟨cb, D5⟩, b2, hs⟩ := Option.bind_eq_some_iff.mp hs
  refine ⟨as, G3, Di, wipE ρ own, x, ρ1, A.w, r, t, b1, fun σ2 r2 s2 => ⟨by rw [s2.wipe hsl, wipe_wipe], as, G3, ρ1, Di, cb, D5, A.w, r2, b2, fun G4 H4 st4 w4 => ?_⟩⟩
  have A4 := A.step hna st4 w4
  cases cb with
  | true =>
    obtain ⟨⟨y, D6⟩, b4, b5⟩ := Option.map_eq_some_iff.mp (show (ev Φ ce ρ1 D5).map (fun y => ([y.1], y.2)) = some (l, D3) from hs)
    cases b5
    show if true = true then _ else _
    rw [if_pos rfl]
    refine ⟨as, G4, ρ1, D5, y, D6, w4, r2.up st4, b4, fun yv G5 H5 st5 w5 t5 => ?_⟩
    have A5 := A4.step hna st5 w5
    obtain ⟨vs, h1, t1⟩ := A5.ex
    refine ⟨vs, h1, ?_, nx G5 _ (((st4.trans st5).wk).mutp) (A5.app hna hD h1 t5)⟩
    rw [List.length_append, List.length_append, List.length_singleton] at hl
    rw [t1.len]
    omega
  | false =>
    have hs' : some (([] : List PV), D5) = some (l, D3) := hs
    cases hs'
    show if false = true then _ else _
    rw [if_neg Bool.false_ne_true]
    rw [List.append_nil] at nx
    exact nx G4 H4 st4.wk A4
theorem lc1_imp {σ : L2.St} {H : Hp} {Q : VK} (hsl : ∀ i ∈ pt.slots, i ∈ own.map (·.2)) (h : tF X.K Φ (.lc1 (own.map (·.2)) ce pt ci ct) σ H Q) :
    tLc (tJ X.K Φ ci) (tP X.K pt) (tTs X.K Φ ct) (tE X.K Φ ce) (own.map (·.2)) σ H Q := by
  obtain ⟨as, G, ρ, D, x, D', w, r, ee, f⟩ := h
  obtain ⟨⟨xs, D1⟩, e1, ee⟩ := Option.bind_eq_some_iff.mp ee
  obtain ⟨⟨ys, D2⟩, e2, e3⟩ := Option.map_eq_some_iff.mp ee
  cases e3
  have e2 : lcF (stp1 Φ (own.map (·.2)) ce pt ct ρ) xs D1 = some (ys, D2) := e2
  refine ⟨as, G, ρ, D, xs, D1, w, r, e1, fun J G1 H1 st1 w1 hz ser Dl hDl => ?_⟩
  have hna : Dl ∉ as := w1.offp hDl
  have hys : ys.length ≤ sizeLine := Nat.le_trans (lcF_len stp1_len e2) hz
  refine ⟨fun i m H2 => m = xs.length - i ∧ i ≤ xs.length ∧ ∃ G2 Di acc rest, Acc as X.K G1 H1 Dl acc Di G2 H2 ∧ lcF (stp1 Φ (own.map (·.2)) ce pt ct ρ) (xs.drop i) Di = some (rest, D2) ∧ ys = acc ++ rest,
    ⟨xs.length, by simp, Nat.zero_le _, G1, D1, [], ys, Acc.start w1 hDl, by rw [List.drop_zero]; exact e2, rfl⟩, ?_⟩
  rintro i m H2 ⟨rfl, hi, G2, Di, acc, rest, A, hl, hy⟩
  obtain ⟨go, stop, yld⟩ := ser [] G2 H2 Di A.st (by rw [List.append_nil]; exact A.w)
  by_cases hlt : i < xs.length
  · rw [drop_cons hlt] at hl
    obtain ⟨⟨l, D3⟩, h1, h2⟩ := Option.bind_eq_some_iff.mp (show (stp1 Φ (own.map (·.2)) ce pt ct ρ xs[i] Di).bind (fun r => (lcF (stp1 Φ (own.map (·.2)) ce pt ct ρ) (xs.drop (i + 1)) r.2).bind fun q => some (r.1 ++ q.1, q.2)) = some (rest, D2) from hl)
    obtain ⟨⟨q, D4⟩, h3, h4⟩ := Option.bind_eq_some_iff.mp h2
    have e5 : l ++ q = rest := congrArg Prod.fst (Option.some.inj h4)
    have e6 : D4 = D2 := congrArg Prod.snd (Option.some.inj h4)
    subst e5 e6
    refine .inr ⟨go i hlt, fun H' => i + 1 ≤ xs.length ∧ ∃ G2 Di acc rest, Acc as X.K G1 H1 Dl acc Di G2 H' ∧ lcF (stp1 Φ (own.map (·.2)) ce pt ct ρ) (xs.drop (i + 1)) Di = some (rest, D4) ∧ ys = acc ++ rest, fun H' q => ⟨xs.length - (i + 1), by omega, rfl, q.1, q.2⟩, fun v H' hyl => ?_⟩
    obtain ⟨G3, st3, w3, t3⟩ := yld i xs[i] v H' (List.getElem?_eq_getElem hlt) hyl
    rw [List.append_nil] at st3 w3 t3
    have A3 := A.step hna st3 w3
    refine turn_1 (rest := q) hDl hna h1 A3 ((r.up (st1.trans A3.st)).wipe _) t3 hsl (by rw [List.append_assoc, ← hy]; exact hys) fun G H' _ A' => ⟨hlt, G, D3, acc ++ l, q, A', h3, by rw [hy, List.append_assoc]⟩
  · have : i = xs.length := by omega
    subst this
    rw [List.drop_length] at hl
    have hl' : some (([] : List PV), Di) = some (rest, D2) := hl
    cases hl'
    rw [List.append_nil] at hy
    subst hy
    exact .inl ⟨stop _ (Nat.le_refl _), f Dl G2 H2 (st1.trans A.st) A.w (none_back st1 hDl) A.g A.ex⟩
theorem f_lc1 (g : Gd T Φ N sc X) (hb : blkC N sc scope own = true) (hi : PJ_ Φ X tg iter ci) (hsl : ∀ i ∈ pt.slots, i ∈ own.map (·.2))
    (hp : ∀ (s : Shared) (H : Hp) (C : Addr) (cl : List (Str × Addr)) (fp : List Addr), PP_ (X.blk s H scope (compEnvC scope cl C X.env) fp) tg pt)
    (ht : ∀ (s : Shared) (H : Hp) (C : Addr) (cl : List (Str × Addr)) (fp : List Addr), PTs_ Φ (X.blk s H scope (compEnvC scope cl C X.env) fp) ifs ct)
    (he : ∀ (s : Shared) (H : Hp) (C : Addr) (cl : List (Str × Addr)) (fp : List Addr), PV_ Φ (X.blk s H scope (compEnvC scope cl C X.env) fp) elt ce) (hs : ∀ x, foldedSetIterable iter X.env x = pure x := by intro _; rfl) :
    PF_ Φ X (.ListComp elt [⟨tg, iter, ifs, 0⟩] scope pos) (.lc1 (own.map (·.2)) ce pt ci ct) := by
  exact pe_imp (pe_lc (wi := tJ X.K Φ ci) (g := tP X.K pt) (tt := tTs X.K Φ ct) (te := tE X.K Φ ce) g.calm (by rw [g.n]; exact g.nd) hi (by rw [g.n, g.sc]; exact blkOk_by hb) hp ht he hs) fun σ H Q h => lc1_imp hsl h
/-! ### two clauses -/
def stp2 (Φ : Fns) (own own2 : List Nat) (ce : CE) (pt pt2 : Pat) (ct ct2 : CEs) (ci2 : CI) (ρ : Envi) : PV → DS → Option (List PV × DS) := fun x D1 =>
  (bindP pt x (wipE ρ own)).bind fun ρ1 => (evt Φ ct ρ1 D1).bind fun c => if c.1 then (evi Φ ci2 ρ1 c.2).bind fun r2 => lcF (stp1 Φ own2 ce pt2 ct2 ρ1) r2.1 r2.2 else some ([], c.2)
theorem lc2_imp {σ : L2.St} {H : Hp} {Q : VK} {pt2 : Pat} {ci2 : CI} {ct2 : CEs} {own2 : List Nat} (hsl : ∀ i ∈ pt.slots, i ∈ own.map (·.2)) (hsl2 : ∀ i ∈ pt2.slots, i ∈ own2) (h : tF X.K Φ (.lc2 (own.map (·.2)) ce pt ci ct own2 pt2 ci2 ct2) σ H Q) :
    tLc2 (tJ X.K Φ ci) (tP X.K pt) (tTs X.K Φ ct) (tI X.K Φ ci2) (tP X.K pt2) (tTs X.K Φ ct2) (tE X.K Φ ce) (own.map (·.2)) own2 σ H Q := by
  obtain ⟨as, G, ρ, D, x, D', w, r, ee, f⟩ := h
  obtain ⟨⟨xs, D1⟩, e1, ee⟩ := Option.bind_eq_some_iff.mp ee
  obtain ⟨⟨ys, D2⟩, e2, e3⟩ := Option.bind_eq_some_iff.mp ee
  have e2 : lcF (stp2 Φ (own.map (·.2)) own2 ce pt pt2 ct ct2 ci2 ρ) xs D1 = some (ys, D2) := e2
  have e3 : (if ys.length ≤ LIM then some (PV.lst ys, D2) else none) = some (x, D') := e3
  split at e3
  case isFalse => cases e3
  rename_i hlim
  obtain rfl : PV.lst ys = x := congrArg Prod.fst (Option.some.inj e3)
  obtain rfl : D2 = D' := congrArg Prod.snd (Option.some.inj e3)
  have hys : ys.length ≤ sizeLine := line_lim hlim
  refine ⟨as, G, ρ, D, xs, D1, w, r, e1, fun J G1 H1 st1 w1 hz ser Dl hDl => ?_⟩
  have hna : Dl ∉ as := w1.offp hDl
  have r1 := r.up st1
  have av1 : Av Dl σ ρ := r1.av hDl
  refine ⟨fun i m H2 => m = xs.length - i ∧ i ≤ xs.length ∧ ∃ G2 Di acc rest, Acc as X.K G1 H1 Dl acc Di G2 H2 ∧ lcF (stp2 Φ (own.map (·.2)) own2 ce pt pt2 ct ct2 ci2 ρ) (xs.drop i) Di = some (rest, D2) ∧ ys = acc ++ rest,
    ⟨xs.length, by simp, Nat.zero_le _, G1, D1, [], ys, Acc.start w1 hDl, by rw [List.drop_zero]; exact e2, rfl⟩, ?_⟩
  rintro i m H2 ⟨rfl, hi, G2, Di, acc, rest, A, hl, hy⟩
  obtain ⟨go, stop, yld⟩ := ser [] G2 H2 Di A.st (by rw [List.append_nil]; exact A.w)
  by_cases hlt : i < xs.length
  · rw [drop_cons hlt] at hl
    obtain ⟨⟨l, D3⟩, h1, h2⟩ := Option.bind_eq_some_iff.mp (show (stp2 Φ (own.map (·.2)) own2 ce pt pt2 ct ct2 ci2 ρ xs[i] Di).bind (fun r => (lcF (stp2 Φ (own.map (·.2)) own2 ce pt pt2 ct ct2 ci2 ρ) (xs.drop (i + 1)) r.2).bind fun q => some (r.1 ++ q.1, q.2)) = some (rest, D2) from hl)
    obtain ⟨⟨q, D4⟩, h3, h4⟩ := Option.bind_eq_some_iff.mp h2
    have e5 : l ++ q = rest := congrArg Prod.fst (Option.some.inj h4)
    have e6 : D4 = D2 := congrArg Prod.snd (Option.some.inj h4)
    subst e5 e6
    refine .inr ⟨go i hlt, fun H' => i + 1 ≤ xs.length ∧ ∃ G2 Di acc rest, Acc as X.K G1 H1 Dl acc Di G2 H' ∧ lcF (stp2 Φ (own.map (·.2)) own2 ce pt pt2 ct ct2 ci2 ρ) (xs.drop (i + 1)) Di = some (rest, D4) ∧ ys = acc ++ rest, fun H' q => ⟨xs.length - (i + 1), by omega, rfl, q.1, q.2⟩, fun v H' hyl => ?_⟩
    obtain ⟨G3, st3, w3, t3⟩ := yld i xs[i] v H' (List.getElem?_eq_getElem hlt) hyl
    rw [List.append_nil] at st3 w3 t3
    have A3 := A.step hna st3 w3
    obtain ⟨ρ1, b1, hs2⟩ := Option.bind_eq_some_iff.mp h1
    obtain ⟨⟨cb, D5⟩, b2, hs2⟩ := Option.bind_eq_some_iff.mp hs2
    refine ⟨as, G3, Di, wipE ρ (own.map (·.2)), xs[i], ρ1, A3.w, (r.up (st1.trans A3.st)).wipe _, t3, b1, fun σ2 r2 s2 => ⟨by rw [s2.wipe hsl, wipe_wipe], as, G3, ρ1, Di, cb, D5, A3.w, r2, b2, fun G4 H4 st4 w4 => ?_⟩⟩
    have A4 := A3.step hna st4 w4
    have av2 : Av Dl σ2 ρ1 := (av1.wipe _).bind b1 s2
    have r4 := r2.up st4
    cases cb with
    | false =>
      have hs' : some (([] : List PV), D5) = some (l, D3) := hs2
      cases hs'
      show if false = true then _ else _
      rw [if_neg Bool.false_ne_true]
      exact ⟨hlt, G4, _, acc, q, A4, h3, hy⟩
    | true =>
      obtain ⟨⟨zs, D6⟩, b4, b5⟩ := Option.bind_eq_some_iff.mp (show (evi Φ ci2 ρ1 D5).bind (fun r2 => lcF (stp1 Φ own2 ce pt2 ct2 ρ1) r2.1 r2.2) = some (l, D3) from hs2)
      have b5 : lcF (stp1 Φ own2 ce pt2 ct2 ρ1) zs D6 = some (l, D3) := b5
      show if true = true then _ else _
      rw [if_pos rfl]
      refine ⟨as, G4, ρ1, D5, zs, D6, w4, r4, b4, fun J1 G5 H5 st5 w5 hz5 ser5 => ?_⟩
      have A5 := A4.step hna st5 w5
      have r5 := r4.up st5
      refine ⟨fun j k H6 => k = zs.length - j ∧ j ≤ zs.length ∧ ∃ G6 Dj acc1 rest1, Stp (Dl :: as) G5 H5 G6 H6 ∧ Acc as X.K G1 H1 Dl (acc ++ acc1) Dj G6 H6 ∧ lcF (stp1 Φ own2 ce pt2 ct2 ρ1) (zs.drop j) Dj = some (rest1, D3) ∧ l = acc1 ++ rest1,
        ⟨zs.length, by simp, Nat.zero_le _, G5, D6, [], l, Stp.refl _ _ _, by rw [List.append_nil]; exact A5, by rw [List.drop_zero]; exact b5, rfl⟩, ?_⟩
      rintro j k H6 ⟨rfl, hj, G6, Dj, acc1, rest1, st6, A6, hl6, hy6⟩
      obtain ⟨go6, stop6, yld6⟩ := ser5 [] G6 H6 Dj st6.le (by rw [List.append_nil]; exact A6.w)
      by_cases hlt6 : j < zs.length
      · rw [drop_cons hlt6] at hl6
        obtain ⟨⟨l7, D7⟩, h7, h8⟩ := Option.bind_eq_some_iff.mp (show (stp1 Φ own2 ce pt2 ct2 ρ1 zs[j] Dj).bind (fun r => (lcF (stp1 Φ own2 ce pt2 ct2 ρ1) (zs.drop (j + 1)) r.2).bind fun q => some (r.1 ++ q.1, q.2)) = some (rest1, D3) from hl6)
        obtain ⟨⟨q8, D8⟩, h9, h10⟩ := Option.bind_eq_some_iff.mp h8
        have e5 : l7 ++ q8 = rest1 := congrArg Prod.fst (Option.some.inj h10)
        have e6 : D8 = D3 := congrArg Prod.snd (Option.some.inj h10)
        subst e5 e6
        refine .inr ⟨go6 j hlt6, fun H' => j + 1 ≤ zs.length ∧ ∃ G6 Dj acc1 rest1, Stp (Dl :: as) G5 H5 G6 H' ∧ Acc as X.K G1 H1 Dl (acc ++ acc1) Dj G6 H' ∧ lcF (stp1 Φ own2 ce pt2 ct2 ρ1) (zs.drop (j + 1)) Dj = some (rest1, D8) ∧ l = acc1 ++ rest1, fun H' q => ⟨zs.length - (j + 1), by omega, rfl, q.1, q.2⟩, fun v H' hyl => ?_⟩
        obtain ⟨G7, st7, w7, t7⟩ := yld6 j zs[j] v H' (List.getElem?_eq_getElem hlt6) hyl
        rw [List.append_nil] at st7 w7 t7
        have A7 := A6.step hna st7 w7
        refine turn_1 (rest := q8 ++ q) hDl hna h7 A7 ((r5.upp av2 (st6.trans st7.wk)).wipe _) t7 hsl2 ?_ fun G' H' st' A' => ⟨hlt6, G', D7, acc1 ++ l7, q8, (st6.trans st7.wk).trans st', by rw [← List.append_assoc]; exact A', h9, by rw [hy6, List.append_assoc]⟩
        have : acc ++ acc1 ++ l7 ++ (q8 ++ q) = ys := by rw [hy, hy6]; simp only [List.append_assoc]
        rw [this]
        exact hys
      · have : j = zs.length := by omega
        subst this
        rw [List.drop_length] at hl6
        have hl' : some (([] : List PV), Dj) = some (rest1, D3) := hl6
        cases hl'
        rw [List.append_nil] at hy6
        subst hy6
        exact .inl ⟨stop6 _ (Nat.le_refl _), hlt, G6, _, acc ++ l, q, A6, h3, by rw [hy, List.append_assoc]⟩
  · have : i = xs.length := by omega
    subst this
    rw [List.drop_length] at hl
    have hl' : some (([] : List PV), Di) = some (rest, D2) := hl
    cases hl'
    rw [List.append_nil] at hy
    subst hy
    exact .inl ⟨stop _ (Nat.le_refl _), f Dl G2 H2 (st1.trans A.st) A.w (none_back st1 hDl) A.g A.ex⟩
theorem f_lc2 {tg2 iter2 : Expr} {ifs2 : List Expr} {pt2 : Pat} {ci2 : CI} {ct2 : CEs} {own2 : List Nat} (g : Gd T Φ N sc X) (hb : blkC N sc scope own = true) (hi : PJ_ Φ X tg iter ci) (hsl : ∀ i ∈ pt.slots, i ∈ own.map (·.2)) (hsl2 : ∀ i ∈ pt2.slots, i ∈ own2) (ho2 : ∀ i ∈ own2, i ∈ own.map (·.2))
    (hp : ∀ (s : Shared) (H : Hp) (C : Addr) (cl : List (Str × Addr)) (fp : List Addr), PP_ (X.blk s H scope (compEnvC scope cl C X.env) fp) tg pt)
    (ht : ∀ (s : Shared) (H : Hp) (C : Addr) (cl : List (Str × Addr)) (fp : List Addr), PTs_ Φ (X.blk s H scope (compEnvC scope cl C X.env) fp) ifs ct)
    (hi2 : ∀ (s : Shared) (H : Hp) (C : Addr) (cl : List (Str × Addr)) (fp : List Addr), PI_ Φ (X.blk s H scope (compEnvC scope cl C X.env) fp) tg2 iter2 ci2)
    (hp2 : ∀ (s : Shared) (H : Hp) (C : Addr) (cl : List (Str × Addr)) (fp : List Addr), PP_ (X.blk s H scope (compEnvC scope cl C X.env) fp) tg2 pt2)
    (ht2 : ∀ (s : Shared) (H : Hp) (C : Addr) (cl : List (Str × Addr)) (fp : List Addr), PTs_ Φ (X.blk s H scope (compEnvC scope cl C X.env) fp) ifs2 ct2)
    (he : ∀ (s : Shared) (H : Hp) (C : Addr) (cl : List (Str × Addr)) (fp : List Addr), PV_ Φ (X.blk s H scope (compEnvC scope cl C X.env) fp) elt ce) (hs : ∀ x, foldedSetIterable iter X.env x = pure x := by intro _; rfl) (hs1 : ∀ env x, foldedSetIterable iter2 env x = pure x := by intro _ _; rfl) :
    PF_ Φ X (.ListComp elt [⟨tg, iter, ifs, 0⟩, ⟨tg2, iter2, ifs2, 0⟩] scope pos) (.lc2 (own.map (·.2)) ce pt ci ct own2 pt2 ci2 ct2) := by
  exact pe_imp (pe_lc2 (wi := tJ X.K Φ ci) (g := tP X.K pt) (tt := tTs X.K Φ ct) (wi1 := tI X.K Φ ci2) (g1 := tP X.K pt2) (tt1 := tTs X.K Φ ct2) (te := tE X.K Φ ce) (vs1 := own2) g.calm (by rw [g.n]; exact g.nd) hi (by rw [g.n, g.sc]; exact blkOk_by hb) ho2 hp ht hi2 hp2 ht2 he hs hs1) fun σ H Q h => lc2_imp hsl hsl2 h
end
end
end MP

/-! MP st: statements keep their evaluator's promise. -/
namespace MP
open PySem PySem.Spec PyProof.Rows L2

theorem nodup_get {α : Type} : ∀ {l : List α} {i j : Nat} {x : α}, l.Nodup → l[i]? = some x → l[j]? = some x → i = j
  | [], _, _, _, _, h, _ => by simp at h
  | a :: r, 0, 0, _, _, _, _ => rfl
  | a :: r, 0, j + 1, x, n, h1, h2 => by
    simp at h1 h2
    subst h1
    exact absurd (List.mem_of_getElem? h2) (List.nodup_cons.mp n).1
  | a :: r, i + 1, 0, x, n, h1, h2 => by
    simp at h1 h2
    subst h2
    exact absurd (List.mem_of_getElem? h1) (List.nodup_cons.mp n).1
  | a :: r, i + 1, j + 1, x, n, h1, h2 => by
    simp at h1 h2
    rw [nodup_get (List.nodup_cons.mp n).2 h1 h2]
/-- the state within a def's body: as0, G0, H0 at the entry -/
structure Sti (as0 as : List Addr) (K : PySem.W.Frag) (G0 H0 G H : Hp) (σ : L2.St) (ρ : Envi) (D : DS) : Prop where
  pre : ∃ more, as = as0 ++ more
  fr : ∀ a ∈ as, a ∈ as0 ∨ H0 a = none
  w : Wd as K G H D
  r : Rp as K G H σ ρ
  pl : Pln as K G H σ ρ
  st : Stp as0 G0 H0 G H
  on : ∀ (i : Nat) (x : PV) (a : Addr), ρ[i]? = some (some (true, x)) → σ[i]? = some (some (.ref a)) → H0 a = none
/-- later: more is shared, more is told -/
def Nxt (as : List Addr) (G : Hp) (as' : List Addr) (G' : Hp) : Prop := (∃ more, as' = as ++ more) ∧ Le G G'
theorem Nxt.refl (as : List Addr) (G : Hp) : Nxt as G as G := ⟨⟨[], by simp⟩, Le.refl G⟩
theorem Nxt.trans {as as1 as2 : List Addr} {G G1 G2 : Hp} (a : Nxt as G as1 G1) (b : Nxt as1 G1 as2 G2) : Nxt as G as2 G2 := by
  obtain ⟨⟨m1, e1⟩, l1⟩ := a
  obtain ⟨⟨m2, e2⟩, l2⟩ := b
  exact ⟨⟨m1 ++ m2, by rw [e2, e1, List.append_assoc]⟩, l1.trans l2⟩
theorem Nxt.same {as : List Addr} {G G' : Hp} (l : Le G G') : Nxt as G as G' := ⟨⟨[], by simp⟩, l⟩
theorem Nxt.tr {as as' : List Addr} {G G' : Hp} {K : PySem.W.Frag} {v : V} {x : PV} (n : Nxt as G as' G') (t : Tr as K G v x) : Tr as' K G' v x := by
  obtain ⟨⟨m, rfl⟩, l⟩ := n
  exact t.mono l m
/-- what is wanted at a statement's end -/
def EndO (E : Ends) (K : PySem.W.Frag) (as : List Addr) (G : Hp) (σ : L2.St) (H : Hp) : Out → Prop
  | .nx => E.nx σ H
  | .bk => E.bk σ H
  | .ct => E.ct σ H
  | .rt x => ∀ v, Tr as K G v x → E.rt v H
def sR (K : PySem.W.Frag) (f : Envi → DS → XR) : TS := fun E σ H => ∃ as0 G0 H0 as G ρ D o ρ' D', Sti as0 as K G0 H0 G H σ ρ D ∧ f ρ D = some (o, ρ', D') ∧
  ∀ as' σ' G' H', Nxt as G as' G' → Sti as0 as' K G0 H0 G' H' σ' ρ' D' → EndO E K as' G' σ' H' o
def sS (K : PySem.W.Frag) (Φ : Fns) (c : CS) : TS := sR K (ex Φ c)
def sSs (K : PySem.W.Frag) (Φ : Fns) (c : CSs) : TS := sR K (exs Φ c)
abbrev PS_ (Φ : Fns) (X : Cx) (s : Stmt) (c : CS) : Prop := PS X s (sS X.K Φ c)
abbrev PSs_ (Φ : Fns) (X : Cx) (s : List Stmt) (c : CSs) : Prop := PSs X s (sSs X.K Φ c)
theorem ps_imp {X : Cx} {s : Stmt} {t u : TS} (h : PS X s t) (i : ∀ D σ H, u D σ H → t D σ H) : PS X s u := ⟨fun pins st σ H D I q => h.run pins st σ H D I (i _ _ _ q)⟩
theorem pss_imp {X : Cx} {s : List Stmt} {t u : TS} (h : PSs X s t) (i : ∀ D σ H, u D σ H → t D σ H) : PSs X s u := ⟨fun pins st σ H D I q => h.run pins st σ H D I (i _ _ _ q)⟩

section
variable {as0 as : List Addr} {K : PySem.W.Frag} {G0 H0 G H G' H' : Hp} {σ : L2.St} {ρ : Envi} {D D' : DS}
theorem Stp.of_in (st : Stp as0 G0 H0 G H) (fr : ∀ a ∈ as, a ∈ as0 ∨ H0 a = none) (s2 : Stp as G H G' H') : Stp as0 G0 H0 G' H' :=
  ⟨st.le.trans s2.le, fun b h => by
    rcases s2.nw b h with h | h
    · exact st.nw b h
    · right
      cases e : H0 b with
      | none => rfl
      | some o => exact absurd h (st.sm b (by rw [e]; exact fun z => nomatch z)),
   fun b o hb h => s2.kp b o (fun m => by
      rcases fr b m with z | z
      · exact hb z
      · rw [h] at z; cases z) (st.kp b o hb h),
   fun b h => s2.sm b (st.sm b h)⟩
/-- an expression has been evaluated -/
theorem Sti.adv (S : Sti as0 as K G0 H0 G H σ ρ D) (st : Stp as G H G' H') (w' : Wd as K G' H' D') : Sti as0 as K G0 H0 G' H' σ ρ D' :=
  ⟨S.pre, S.fr, w', S.r.up st, Pln.up S.r S.pl st, S.st.of_in S.fr st, S.on⟩
theorem set_get {α : Type} {l : List α} {i j : Nat} {x y : α} (h : (l.set i x)[j]? = some y) : (i = j ∧ y = x ∧ i < l.length) ∨ (i ≠ j ∧ l[j]? = some y) := by
  by_cases e : i = j
  · subst e
    have hl : i < l.length := by
      have := (List.getElem?_eq_some_iff.mp h).1
      rwa [List.length_set] at this
    rw [List.getElem?_set_self hl] at h
    cases h
    exact .inl ⟨rfl, rfl, hl⟩
  · rw [List.getElem?_set_ne e] at h
    exact .inr ⟨e, h⟩
/-- a value stored in a slot -/
theorem Sti.put (S : Sti as0 as K G0 H0 G H σ ρ D) (i : Nat) {v : V} {x : PV} (t : Tr as K G v x) : Sti as0 as K G0 H0 G H (σ.set i (some v)) (ρ.set i (some (false, x))) D :=
  ⟨S.pre, S.fr, S.w, S.r.put i t, fun j y a h1 h2 => by
    rcases set_get h1 with ⟨_, e, _⟩ | ⟨ne, h1⟩
    · cases e
    · rw [List.getElem?_set_ne ne] at h2
      exact S.pl j y a h1 h2, S.st, fun j y a h1 h2 => by
    rcases set_get h1 with ⟨_, e, _⟩ | ⟨ne, h1⟩
    · cases e
    · rw [List.getElem?_set_ne ne] at h2
      exact S.on j y a h1 h2⟩
/-- a new object stored in a slot -/
theorem Sti.putO (S : Sti as0 as K G0 H0 G H σ ρ D) (i : Nat) {p : Addr} {x : PV} (hp : H0 p = none) (hG : G p = none) (ha : p ∉ as) (ow : OwnO as K G H p x) (av : Av p σ ρ) : Sti as0 as K G0 H0 G H (σ.set i (some (.ref p))) (ρ.set i (some (true, x))) D :=
  ⟨S.pre, S.fr, S.w, ⟨by rw [List.length_set, List.length_set]; exact S.r.len, fun j y h => by
    rcases set_get h with ⟨_, e, _⟩ | ⟨ne, h⟩
    · cases e
    · rw [List.getElem?_set_ne ne]
      exact S.r.frz j y h, fun j y h => by
    rcases set_get h with ⟨e, e2, hl⟩ | ⟨ne, h⟩
    · subst e
      cases e2
      exact ⟨p, List.getElem?_set_self (by rw [S.r.len]; exact hl), hG, ha, ow.r⟩
    · rw [List.getElem?_set_ne ne]
      exact S.r.own j y h, fun j k y z a h1 h2 h3 h4 => by
    rcases set_get h1 with ⟨e1, q1, l1⟩ | ⟨n1, h1⟩
    · rcases set_get h2 with ⟨e2, _, _⟩ | ⟨n2, h2⟩
      · rw [← e1, ← e2]
      · subst e1
        rw [List.getElem?_set_self (by rw [S.r.len]; exact l1)] at h3
        rw [List.getElem?_set_ne n2] at h4
        cases h3
        exact absurd h4 (av k z h2)
    · rcases set_get h2 with ⟨e2, _, l2⟩ | ⟨n2, h2⟩
      · subst e2
        rw [List.getElem?_set_self (by rw [S.r.len]; exact l2)] at h4
        rw [List.getElem?_set_ne n1] at h3
        cases h4
        exact absurd h3 (av j y h1)
      · rw [List.getElem?_set_ne n1] at h3
        rw [List.getElem?_set_ne n2] at h4
        exact S.r.dis j k y z a h1 h2 h3 h4⟩, fun j y a h1 h2 => by
    rcases set_get h1 with ⟨e, e2, hl⟩ | ⟨ne, h1⟩
    · subst e
      rw [List.getElem?_set_self (by rw [S.r.len]; exact hl)] at h2
      cases e2
      cases h2
      exact ow
    · rw [List.getElem?_set_ne ne] at h2
      exact S.pl j y a h1 h2, S.st, fun j y a h1 h2 => by
    rcases set_get h1 with ⟨e, _, hl⟩ | ⟨ne, h1⟩
    · subst e
      rw [List.getElem?_set_self (by rw [S.r.len]; exact hl)] at h2
      cases h2
      exact hp
    · rw [List.getElem?_set_ne ne] at h2
      exact S.on j y a h1 h2⟩
theorem Sti.none0 (S : Sti as0 as K G0 H0 G H σ ρ D) {p : Addr} (hp : H p = none) : H0 p = none := by
  cases e : H0 p with
  | none => rfl
  | some o => exact absurd hp (S.st.sm p (by rw [e]; exact fun z => nomatch z))
/-- what a slot holds by itself is changed -/
theorem Sti.mutO (S : Sti as0 as K G0 H0 G H σ ρ D) {i : Nat} {x y : PV} {a : Addr} {o : HO} (h1 : ρ[i]? = some (some (true, x))) (h2 : σ[i]? = some (some (.ref a))) (ow : OwnO as K G (upd H a o) a y) :
    Sti as0 as K G0 H0 G (upd H a o) σ (ρ.set i (some (true, y))) D := by
  obtain ⟨b, e, hG, ha, oo⟩ := S.r.own i x h1
  rw [h2] at e
  cases e
  have hl : i < ρ.length := (List.getElem?_eq_some_iff.mp h1).1
  have other : ∀ {j : Nat} {z : PV} {c : Addr}, i ≠ j → ρ[j]? = some (some (true, z)) → σ[j]? = some (some (.ref c)) → c ≠ a := fun {j z c} ne q1 q2 e => by
    subst e
    exact ne (S.r.dis i j x z c h1 q1 h2 q2)
  refine ⟨S.pre, S.fr, S.w.mut hG ha, ⟨by rw [List.length_set]; exact S.r.len, fun j z h => ?_, fun j z h => ?_, fun j k z z' c q1 q2 q3 q4 => ?_⟩, fun j z c q1 q2 => ?_, S.st.mut (S.on i x a h1 h2), fun j z c q1 q2 => ?_⟩
  · rcases set_get h with ⟨_, e, _⟩ | ⟨ne, h⟩
    · cases e
    · exact S.r.frz j z h
  · rcases set_get h with ⟨e, e2, _⟩ | ⟨ne, h⟩
    · subst e
      cases e2
      exact ⟨a, h2, hG, ha, ow.r⟩
    · obtain ⟨c, e, g1, g2, oc⟩ := S.r.own j z h
      have := oc.up (G' := G) (H' := upd H a o) (Le.refl G) (upd_ne (other ne h e)) []
      exact ⟨c, e, g1, g2, by simpa using this⟩
  · rcases set_get q1 with ⟨e1, _, _⟩ | ⟨n1, q1⟩
    · rcases set_get q2 with ⟨e2, _, _⟩ | ⟨n2, q2⟩
      · rw [← e1, ← e2]
      · subst e1
        exact S.r.dis i k x z' c h1 q2 q3 q4
    · rcases set_get q2 with ⟨e2, _, _⟩ | ⟨n2, q2⟩
      · subst e2
        exact S.r.dis j i z x c q1 h1 q3 q4
      · exact S.r.dis j k z z' c q1 q2 q3 q4
  · rcases set_get q1 with ⟨e, e2, _⟩ | ⟨ne, q1⟩
    · subst e
      rw [h2] at q2
      cases q2
      cases e2
      exact ow
    · have := (S.pl j z c q1 q2).up (G' := G) (H' := upd H a o) (Le.refl G) (upd_ne (other ne q1 q2)) []
      simpa using this
  · rcases set_get q1 with ⟨e, _, _⟩ | ⟨ne, q1⟩
    · subst e
      rw [h2] at q2
      cases q2
      exact S.on i x a h1 h2
    · exact S.on j z c q1 q2
/-- a shared object is changed -/
theorem Sti.mutS (S : Sti as0 as K G0 H0 G H σ ρ D) {j : Nat} {y : PV} {a : Addr} {o : HO} (h1 : as[j]? = some a) (ow : OwnO as K G (upd H a o) a y) :
    Sti as0 as K G0 H0 G (upd H a o) σ ρ (D.set j y) := by
  have hm : a ∈ as := List.mem_of_getElem? h1
  have hG := S.w.off a hm
  have hj : j < as.length := (List.getElem?_eq_some_iff.mp h1).1
  have ndj : ∀ {k : Nat} {c : Addr}, as[k]? = some c → c = a → k = j := fun {k c} q e => by
    subst e
    exact nodup_get S.w.nd q h1
  refine ⟨S.pre, S.fr, ⟨fun b u h => by rw [upd_ne (ne_of_none h hG)]; exact S.w.sub b u h, S.w.nd, by rw [List.length_set]; exact S.w.len, S.w.off, fun k c z q1 q2 => ?_⟩, ⟨S.r.len, S.r.frz, fun k z h => ?_, S.r.dis⟩, fun k z c q1 q2 => ?_, ?_, S.on⟩
  · by_cases e : c = a
    · have := ndj q1 e
      subst this
      subst e
      rw [List.getElem?_set_self (by rw [← S.w.len]; exact hj)] at q2
      cases q2
      cases y with
      | lst xs => exact ow
      | dct t kvs => exact ow
      | _ => exact absurd ow id
    · rw [List.getElem?_set_ne (fun z => e (by rw [← z] at q1; rw [h1] at q1; exact (Option.some.inj q1).symm))] at q2
      have := (S.w.sh k c z q1 q2).up (G' := G) (H' := upd H a o) (Le.refl G) (upd_ne e) []
      simpa using this
  · obtain ⟨c, e, g1, g2, oc⟩ := S.r.own k z h
    have := oc.up (G' := G) (H' := upd H a o) (Le.refl G) (upd_ne (fun e => g2 (by rw [e]; exact hm))) []
    exact ⟨c, e, g1, g2, by simpa using this⟩
  · obtain ⟨c', e, g1, g2, oc⟩ := S.r.own k z q1
    rw [q2] at e
    cases e
    have := (S.pl k z c q1 q2).up (G' := G) (H' := upd H a o) (Le.refl G) (upd_ne (fun e => g2 (by rw [e]; exact hm))) []
    simpa using this
  · rcases S.fr a hm with z | z
    · refine ⟨S.st.le, S.st.nw, fun b u hb h => ?_, fun b h => ?_⟩
      · rw [upd_ne (fun e => hb (by rw [e]; exact z))]; exact S.st.kp b u hb h
      · by_cases e : b = a
        · rw [e, upd_same]; exact fun z => nomatch z
        · rw [upd_ne e]; exact S.st.sm b h
    · exact S.st.mut z
end
section
variable {T : Tb} {Φ : Fns} {N : List Str} {sc : Scope} {X : Cx} {e a b tg : Expr} {pos p : Pos} {c : CE}
/-! ### name = value -/
theorem asg_v {K : PySem.W.Frag} {i : Nat} {c : CE} {E : Ends} {σ : L2.St} {H : Hp} (h : sS K Φ (.asg false i c) E σ H) : tAsg (tE K Φ c) (gName i) E σ H := by
  obtain ⟨as0, G0, H0, as, G, ρ, D, o, ρ', D', S, ee, f⟩ := h
  obtain ⟨⟨x, D1⟩, e1, ee⟩ := Option.map_eq_some_iff.mp (show (ev Φ c ρ D).map (fun r => (Out.nx, ρ.set i (some (false, r.1)), r.2)) = some (o, ρ', D') from ee)
  cases ee
  exact ⟨as, G, ρ, D, x, D1, S.w, S.r, e1, fun v G' H' st w' t => f as _ G' H' (.same st.le) ((S.adv st w').put i t)⟩
theorem asg_f {K : PySem.W.Frag} {i : Nat} {c : CE} {E : Ends} {σ : L2.St} {H : Hp} (h : sS K Φ (.asg true i c) E σ H) : tAsg (tF K Φ c) (gName i) E σ H := by
  obtain ⟨as0, G0, H0, as, G, ρ, D, o, ρ', D', S, ee, f⟩ := h
  obtain ⟨⟨x, D1⟩, e1, ee⟩ := Option.map_eq_some_iff.mp (show (ev Φ c ρ D).map (fun r => (Out.nx, ρ.set i (some (true, r.1)), r.2)) = some (o, ρ', D') from ee)
  cases ee
  exact ⟨as, G, ρ, D, x, D1, S.w, S.r, e1, fun p G' H' st w' hp hG ow => f as _ G' H' (.same st.le) ((S.adv st w').putO i (S.none0 hp) hG (fun m => S.w.some m hp) ow (S.r.av hp))⟩
/-- a new object becomes shared -/
theorem Sti.share {as0 as : List Addr} {K : PySem.W.Frag} {G0 H0 G H : Hp} {σ : L2.St} {ρ : Envi} {D : DS} (S : Sti as0 as K G0 H0 G H σ ρ D) (i : Nat) {p : Addr} {x : PV} (hp : H0 p = none) (hG : G p = none) (ha : p ∉ as) (ow : OwnO as K G H p x) (av : Av p σ ρ) :
    Sti as0 (as ++ [p]) K G0 H0 G H (σ.set i (some (.ref p))) (ρ.set i (some (false, .shr D.length))) (D ++ [x]) := by
  have le := Le.refl G
  have old : ∀ {a : Addr}, H a = H a := fun {_} => rfl
  refine ⟨?_, fun a h => ?_, ⟨S.w.sub, ?_, by rw [List.length_append, List.length_append, S.w.len]; rfl, fun a h => ?_, fun j a z h1 h2 => ?_⟩, ⟨by rw [List.length_set, List.length_set]; exact S.r.len, fun j y h => ?_, fun j y h => ?_, fun j k y z a h1 h2 h3 h4 => ?_⟩, fun j y a h1 h2 => ?_, S.st, fun j y a h1 h2 => ?_⟩
  · obtain ⟨m, e⟩ := S.pre
    exact ⟨m ++ [p], by rw [e, List.append_assoc]⟩
  · rcases List.mem_append.mp h with h | h
    · exact S.fr a h
    · rw [List.mem_singleton.mp h]; exact .inr hp
  · exact List.nodup_append.mpr ⟨S.w.nd, by simp, fun a h1 b h2 e => ha (by rw [List.mem_singleton.mp h2] at e; rw [← e]; exact h1)⟩
  · rcases List.mem_append.mp h with h | h
    · exact S.w.off a h
    · rw [List.mem_singleton.mp h]; exact hG
  · by_cases hj : j < as.length
    · rw [List.getElem?_append_left hj] at h1
      rw [List.getElem?_append_left (by rw [← S.w.len]; exact hj)] at h2
      exact (S.w.sh j a z h1 h2).up le rfl [p]
    · rw [List.getElem?_append_right (by omega)] at h1
      rw [List.getElem?_append_right (by rw [← S.w.len]; omega), ← S.w.len] at h2
      have e0 : j - as.length = 0 := by
        have := (List.getElem?_eq_some_iff.mp h1).1
        simp at this
        omega
      rw [e0] at h1 h2
      cases h1
      cases h2
      have := ow.up le rfl [p]
      cases x with
      | lst xs => exact this
      | dct t kvs => exact this
      | _ => exact absurd ow id
  · rcases set_get h with ⟨e, e2, hl⟩ | ⟨ne, h⟩
    · subst e
      cases e2
      refine ⟨.ref p, List.getElem?_set_self (by rw [S.r.len]; exact hl), .shr ?_⟩
      rw [← S.w.len, List.getElem?_append_right (Nat.le_refl _), Nat.sub_self]
      rfl
    · rw [List.getElem?_set_ne ne]
      obtain ⟨v, e, t⟩ := S.r.frz j y h
      exact ⟨v, e, t.mono le [p]⟩
  · rcases set_get h with ⟨_, e, _⟩ | ⟨ne, h⟩
    · cases e
    · rw [List.getElem?_set_ne ne]
      obtain ⟨a, e, g1, g2, oo⟩ := S.r.own j y h
      refine ⟨a, e, g1, fun m => ?_, oo.up le rfl [p]⟩
      rcases List.mem_append.mp m with m | m
      · exact g2 m
      · rw [List.mem_singleton.mp m] at e
        exact av j y h e
  · rcases set_get h1 with ⟨_, e, _⟩ | ⟨n1, h1⟩
    · cases e
    · rcases set_get h2 with ⟨_, e, _⟩ | ⟨n2, h2⟩
      · cases e
      · rw [List.getElem?_set_ne n1] at h3
        rw [List.getElem?_set_ne n2] at h4
        exact S.r.dis j k y z a h1 h2 h3 h4
  · rcases set_get h1 with ⟨_, e, _⟩ | ⟨n1, h1⟩
    · cases e
    · rw [List.getElem?_set_ne n1] at h2
      exact (S.pl j y a h1 h2).up le rfl [p]
  · rcases set_get h1 with ⟨_, e, _⟩ | ⟨n1, h1⟩
    · cases e
    · rw [List.getElem?_set_ne n1] at h2
      exact S.on j y a h1 h2
theorem asg_s {K : PySem.W.Frag} {i : Nat} {c : CE} {E : Ends} {σ : L2.St} {H : Hp} (h : sS K Φ (.asgS i c) E σ H) : tAsg (tF K Φ c) (gName i) E σ H := by
  obtain ⟨as0, G0, H0, as, G, ρ, D, o, ρ', D', S, ee, f⟩ := h
  obtain ⟨⟨x, D1⟩, e1, ee⟩ := Option.map_eq_some_iff.mp (show (ev Φ c ρ D).map (fun r => (Out.nx, ρ.set i (some (false, .shr r.2.length)), r.2 ++ [r.1])) = some (o, ρ', D') from ee)
  cases ee
  exact ⟨as, G, ρ, D, x, D1, S.w, S.r, e1, fun p G' H' st w' hp hG ow => f _ _ G' H' ⟨⟨[p], rfl⟩, st.le⟩ ((S.adv st w').share i (S.none0 hp) hG (fun m => S.w.some m hp) ow (S.r.av hp))⟩
section
variable {i : Nat} {x : Str} {pos' : Pos}
theorem ps_nm {te : TE} (g : Gd T Φ N sc X) (hi : N[i]? = some x) (hx : Loc sc x) (he : PE X e te) (hs : swapsWith e (some (.Name x pos')) pos.line X.env = pure false := by rfl) (hf : X.fn x = true ∨ sc.names.lookup x = some .local := by first | exact .inl rfl | exact .inr rfl | assumption) :
    PS X (.Assign [.Name x pos'] e pos) (tAsg te (gName i)) :=
  ps_set (by rw [g.n]; exact g.nd) (by rw [g.n]; exact hi) (by rw [g.sc]; exact hx) he hs (by rw [g.sc]; exact hf)
theorem s_asg (g : Gd T Φ N sc X) (hi : N[i]? = some x) (hx : Loc sc x) (he : PV_ Φ X e c) (hs : swapsWith e (some (.Name x pos')) pos.line X.env = pure false := by rfl) (hf : X.fn x = true ∨ sc.names.lookup x = some .local := by first | exact .inl rfl | exact .inr rfl | assumption) :
    PS_ Φ X (.Assign [.Name x pos'] e pos) (.asg false i c) := ps_imp (ps_nm g hi hx he hs hf) fun _ _ _ h => asg_v h
theorem s_asgF (g : Gd T Φ N sc X) (hi : N[i]? = some x) (hx : Loc sc x) (he : PF_ Φ X e c) (hs : swapsWith e (some (.Name x pos')) pos.line X.env = pure false := by rfl) (hf : X.fn x = true ∨ sc.names.lookup x = some .local := by first | exact .inl rfl | exact .inr rfl | assumption) :
    PS_ Φ X (.Assign [.Name x pos'] e pos) (.asg true i c) := ps_imp (ps_nm g hi hx he hs hf) fun _ _ _ h => asg_f h
theorem s_asgS (g : Gd T Φ N sc X) (hi : N[i]? = some x) (hx : Loc sc x) (he : PF_ Φ X e c) (hs : swapsWith e (some (.Name x pos')) pos.line X.env = pure false := by rfl) (hf : X.fn x = true ∨ sc.names.lookup x = some .local := by first | exact .inl rfl | exact .inr rfl | assumption) :
    PS_ Φ X (.Assign [.Name x pos'] e pos) (.asgS i c) := ps_imp (ps_nm g hi hx he hs hf) fun _ _ _ h => asg_s h
end
/-! ### small statements -/
theorem s_pass : PS_ Φ X (.Pass pos) .pass := ps_imp ps_pass fun E σ H ⟨as0, G0, H0, as, G, ρ, D, o, ρ', D', S, ee, f⟩ => by
  cases ee
  exact f as σ G H (.refl _ _) S
theorem s_brk : PS_ Φ X (.Break pos) .brk := ps_imp ps_break fun E σ H ⟨as0, G0, H0, as, G, ρ, D, o, ρ', D', S, ee, f⟩ => by
  cases ee
  exact f as σ G H (.refl _ _) S
theorem s_cnt : PS_ Φ X (.Continue pos) .cnt := ps_imp ps_continue fun E σ H ⟨as0, G0, H0, as, G, ρ, D, o, ρ', D', S, ee, f⟩ => by
  cases ee
  exact f as σ G H (.refl _ _) S
theorem s_expr (he : PV_ Φ X e c) (hs : swapsWith e none pos.line X.env = pure false := by rfl) : PS_ Φ X (.Expr e pos) (.expr c) := ps_imp (ps_expr he hs) fun E σ H ⟨as0, G0, H0, as, G, ρ, D, o, ρ', D', S, ee, f⟩ => by
  obtain ⟨⟨x, D1⟩, e1, ee⟩ := Option.map_eq_some_iff.mp ee
  cases ee
  exact ⟨as, G, ρ, D, x, D1, S.w, S.r, e1, fun v G' H' st w' t => f as σ G' H' (.same st.le) (S.adv st w')⟩
theorem s_ret (he : PV_ Φ X e c) : PS_ Φ X (.Return (some e) pos) (.ret c) := ps_imp (ps_ret he) fun E σ H ⟨as0, G0, H0, as, G, ρ, D, o, ρ', D', S, ee, f⟩ => by
  obtain ⟨⟨x, D1⟩, e1, ee⟩ := Option.map_eq_some_iff.mp ee
  cases ee
  exact ⟨as, G, ρ, D, x, D1, S.w, S.r, e1, fun v G' H' st w' t => f as σ G' H' (.same st.le) (S.adv st w') v t⟩
theorem s_retN : PS_ Φ X (.Return none pos) .retN := ps_imp ps_retN fun E σ H ⟨as0, G0, H0, as, G, ρ, D, o, ρ', D', S, ee, f⟩ => by
  cases ee
  exact f as σ G H (.refl _ _) S .non .non
/-! ### blocks -/
theorem ss_nil : PSs_ Φ X [] .nil := pss_imp pss_nil fun E σ H ⟨as0, G0, H0, as, G, ρ, D, o, ρ', D', S, ee, f⟩ => by
  have ee' : some (Out.nx, ρ, D) = some (o, ρ', D') := ee
  cases ee'
  exact f as σ G H (.refl _ _) S
theorem ss_cons {st : Stmt} {r : List Stmt} {s : CS} {cs : CSs} (h1 : PS_ Φ X st s) (h2 : PSs_ Φ X r cs) : PSs_ Φ X (st :: r) (.cons s cs) := pss_imp (pss_cons h1 h2) fun E σ H ⟨as0, G0, H0, as, G, ρ, D, o, ρ', D', S, ee, f⟩ => by
  obtain ⟨⟨o1, ρ1, D1⟩, e1, e2⟩ := Option.bind_eq_some_iff.mp (show (ex Φ s ρ D).bind (fun q => match q.1 with | .nx => exs Φ cs q.2.1 q.2.2 | _ => some q) = some (o, ρ', D') from ee)
  refine ⟨as0, G0, H0, as, G, ρ, D, o1, ρ1, D1, S, e1, fun as1 σ1 G1 H1 n1 S1 => ?_⟩
  cases o1 with
  | nx =>
    exact ⟨as0, G0, H0, as1, G1, ρ1, D1, o, ρ', D', S1, e2, fun as2 σ2 G2 H2 n2 S2 => f as2 σ2 G2 H2 (n1.trans n2) S2⟩
  | rt x =>
    cases e2
    exact f as1 σ1 G1 H1 n1 S1
  | bk =>
    cases e2
    exact f as1 σ1 G1 H1 n1 S1
  | ct =>
    cases e2
    exact f as1 σ1 G1 H1 n1 S1
/-- a slot's own object is told from now on -/
theorem Sti.frz1 {as0 as : List Addr} {K : PySem.W.Frag} {G0 H0 G H : Hp} {σ : L2.St} {ρ : Envi} {D : DS} (S : Sti as0 as K G0 H0 G H σ ρ D) (i : Nat) : ∃ G', Le G G' ∧ Sti as0 as K G0 H0 G' H σ (frz1 ρ i) D := by
  unfold MP.frz1
  split
  case h_2 => exact ⟨G, Le.refl G, S⟩
  rename_i x h1
  obtain ⟨a, e, hG, ha, oo⟩ := S.r.own i x h1
  have ow := S.pl i x a h1 e
  obtain ⟨G', l, tw, w', t⟩ := tell_own S.w hG ha ow
  refine ⟨G', l, S.pre, S.fr, w', ⟨by rw [List.length_set]; exact S.r.len, fun j y h => ?_, fun j y h => ?_, fun j k y z c q1 q2 q3 q4 => ?_⟩, fun j y c q1 q2 => ?_, ⟨S.st.le.trans l, fun b hb => ?_, S.st.kp, S.st.sm⟩, fun j y c q1 q2 => ?_⟩
  · rcases set_get h with ⟨e1, e2, _⟩ | ⟨ne, h⟩
    · subst e1
      cases e2
      exact ⟨_, e, t⟩
    · obtain ⟨v, e3, t3⟩ := S.r.frz j y h
      exact ⟨v, e3, t3.up l⟩
  · rcases set_get h with ⟨_, e2, _⟩ | ⟨ne, h⟩
    · cases e2
    · obtain ⟨c, e3, g1, g2, o3⟩ := S.r.own j y h
      refine ⟨c, e3, ?_, g2, by have := o3.up (H' := H) l rfl []; simpa using this⟩
      cases q : G' c with
      | none => rfl
      | some u =>
        rcases tw c (by rw [q]; exact fun z => nomatch z) with z | z
        · exact absurd g1 z
        · subst z
          exact absurd (S.r.dis i j x y c h1 h e e3) ne
  · rcases set_get q1 with ⟨_, e2, _⟩ | ⟨n1, q1⟩
    · cases e2
    · rcases set_get q2 with ⟨_, e2, _⟩ | ⟨n2, q2⟩
      · cases e2
      · exact S.r.dis j k y z c q1 q2 q3 q4
  · rcases set_get q1 with ⟨_, e2, _⟩ | ⟨ne, q1⟩
    · cases e2
    · have := (S.pl j y c q1 q2).up (H' := H) l rfl []
      simpa using this
  · rcases tw b hb with z | z
    · exact S.st.nw b z
    · subst z
      exact .inr (S.on i x b h1 e)
  · rcases set_get q1 with ⟨_, e2, _⟩ | ⟨ne, q1⟩
    · cases e2
    · exact S.on j y c q1 q2
theorem Sti.frzL {as0 as : List Addr} {K : PySem.W.Frag} {G0 H0 H : Hp} {σ : L2.St} {D : DS} : ∀ (is : List Nat) {G : Hp} {ρ : Envi}, Sti as0 as K G0 H0 G H σ ρ D → ∃ G', Le G G' ∧ Sti as0 as K G0 H0 G' H σ (frzL ρ is) D
  | [], G, ρ, S => ⟨G, Le.refl G, S⟩
  | i :: is, G, ρ, S => by
    obtain ⟨G1, l1, S1⟩ := S.frz1 i
    obtain ⟨G2, l2, S2⟩ := S1.frzL is
    exact ⟨G2, l1.trans l2, S2⟩
theorem ss_frz {is : List Nat} {st : List Stmt} {cs : CSs} (h : PSs_ Φ X st cs) : PSs_ Φ X st (.frz is cs) := pss_imp h fun E σ H ⟨as0, G0, H0, as, G, ρ, D, o, ρ', D', S, ee, f⟩ => by
  obtain ⟨G1, l, S1⟩ := S.frzL is
  exact ⟨as0, G0, H0, as, G1, frzL ρ is, D, o, ρ', D', S1, ee, fun as' σ' G' H' n S' => f as' σ' G' H' ((Nxt.same l).trans n) S'⟩
theorem s_if {p q : List Stmt} {cp cq : CSs} (hc : PT_ Φ X e c) (ha : PSs_ Φ X p cp) (hb : PSs_ Φ X q cq) : PS_ Φ X (.If e p q pos) (.ife c cp cq) := ps_imp (ps_if hc ha hb) fun E σ H ⟨as0, G0, H0, as, G, ρ, D, o, ρ', D', S, ee, f⟩ => by
  obtain ⟨⟨x, D1⟩, e1, ee⟩ := Option.bind_eq_some_iff.mp ee
  obtain ⟨z, e2, ee⟩ := Option.bind_eq_some_iff.mp ee
  have ex : x = .bl z := by
    cases x <;> first | (cases e2; rfl) | cases e2
  subst ex
  refine ⟨as, G, ρ, D, z, D1, S.w, S.r, e1, fun G1 H1 st1 w1 => ?_⟩
  cases z with
  | true => exact ⟨as0, G0, H0, as, G1, ρ, D1, o, ρ', D', S.adv st1 w1, ee, fun as' σ' G' H' n S' => f as' σ' G' H' ((Nxt.same st1.le).trans n) S'⟩
  | false => exact ⟨as0, G0, H0, as, G1, ρ, D1, o, ρ', D', S.adv st1 w1, ee, fun as' σ' G' H' n S' => f as' σ' G' H' ((Nxt.same st1.le).trans n) S'⟩
/-! ### loops -/
theorem s_while {q : List Stmt} {cq : CSs} (g : Gd T Φ N sc X) (hc : PT_ Φ X e c) (hb : PSs_ Φ X q cq) : PS_ Φ X (.While e q [] pos) (.whl c cq) := ps_imp (ps_while (by rw [g.xe]; exact PassesOwn.never) hc hb) fun E σ H ⟨as0, G0, H0, as, G, ρ, D, o, ρ', D', S, ee, f⟩ => by
  have ee : whlL (fun ρ D => (ev Φ c ρ D).bind fun r => (blOf r.1).map fun z => (z, r.2)) (fun ρ D => exs Φ cq ρ D) WH ρ D = some (o, ρ', D') := ee
  refine ⟨fun m σ1 H1 => ∃ as1 G1 ρ1 D1, Nxt as G as1 G1 ∧ Sti as0 as1 X.K G0 H0 G1 H1 σ1 ρ1 D1 ∧ whlL (fun ρ D => (ev Φ c ρ D).bind fun r => (blOf r.1).map fun z => (z, r.2)) (fun ρ D => exs Φ cq ρ D) m ρ1 D1 = some (o, ρ', D'), ⟨WH, as, G, ρ, D, .refl _ _, S, ee⟩, ?_⟩
  rintro m σ1 H1 ⟨as1, G1, ρ1, D1, n1, S1, e1⟩
  cases m with
  | zero => cases e1
  | succ m =>
    obtain ⟨⟨z, D2⟩, e2, e3⟩ := Option.bind_eq_some_iff.mp e1
    obtain ⟨⟨x, D3⟩, e4, e5⟩ := Option.bind_eq_some_iff.mp e2
    obtain ⟨z', e6, e7⟩ := Option.map_eq_some_iff.mp e5
    have ex : x = .bl z' := by
      cases x <;> first | (cases e6; rfl) | cases e6
    subst ex
    have q1 : z' = z := congrArg Prod.fst e7
    have q2 : D3 = D2 := congrArg Prod.snd e7
    subst q1 q2
    refine ⟨as1, G1, ρ1, D1, z', D3, S1.w, S1.r, e4, fun G2 H2 st2 w2 => ?_⟩
    have S2 := S1.adv st2 w2
    have n2 := n1.trans (Nxt.same st2.le)
    cases z' with
    | false =>
      have e3' : some (Out.nx, ρ1, D3) = some (o, ρ', D') := e3
      cases e3'
      exact f as1 σ1 G2 H2 n2 S2
    | true =>
      obtain ⟨⟨o4, ρ4, D4⟩, e8, e9⟩ := Option.bind_eq_some_iff.mp (show (exs Φ cq ρ1 D3).bind (fun r => match r.1 with
        | .nx => whlL (fun ρ D => (ev Φ c ρ D).bind fun r => (blOf r.1).map fun z => (z, r.2)) (fun ρ D => exs Φ cq ρ D) m r.2.1 r.2.2
        | .ct => whlL (fun ρ D => (ev Φ c ρ D).bind fun r => (blOf r.1).map fun z => (z, r.2)) (fun ρ D => exs Φ cq ρ D) m r.2.1 r.2.2
        | .bk => some (.nx, r.2)
        | .rt v => some (.rt v, r.2)) = some (o, ρ', D') from e3)
      show if true = true then _ else _
      rw [if_pos rfl]
      refine ⟨fun σ' H' => ∃ as1 G1 ρ1 D1, Nxt as G as1 G1 ∧ Sti as0 as1 X.K G0 H0 G1 H' σ' ρ1 D1 ∧ whlL (fun ρ D => (ev Φ c ρ D).bind fun r => (blOf r.1).map fun z => (z, r.2)) (fun ρ D => exs Φ cq ρ D) m ρ1 D1 = some (o, ρ', D'), fun σ' H' h => ⟨m, Nat.lt_succ_self m, h⟩, ?_⟩
      refine ⟨as0, G0, H0, as1, G2, ρ1, D3, o4, ρ4, D4, S2, e8, fun as5 σ5 G5 H5 n5 S5 => ?_⟩
      have n6 := n2.trans n5
      cases o4 with
      | nx => exact ⟨as5, G5, ρ4, D4, n6, S5, e9⟩
      | ct => exact ⟨as5, G5, ρ4, D4, n6, S5, e9⟩
      | bk =>
        cases e9
        exact f as5 σ5 G5 H5 n6 S5
      | rt v =>
        cases e9
        exact f as5 σ5 G5 H5 n6 S5
/-- the state behind a target's store -/
theorem Sti.bind {as0 as : List Addr} {K : PySem.W.Frag} {G0 H0 G H : Hp} {σ σ' : L2.St} {ρ ρ' : Envi} {D : DS} {pt : Pat} {x : PV} (S : Sti as0 as K G0 H0 G H σ ρ D) (b : bindP pt x ρ = some ρ') (r : Rp as K G H σ' ρ') (s : Same σ σ' pt.slots) : Sti as0 as K G0 H0 G H σ' ρ' D :=
  ⟨S.pre, S.fr, S.w, r, fun j y c q1 q2 => by
    obtain ⟨n, h2⟩ := bindP_own b q1
    rw [s.2 j n] at q2
    exact S.pl j y c h2 q2, S.st, fun j y c q1 q2 => by
    obtain ⟨n, h2⟩ := bindP_own b q1
    rw [s.2 j n] at q2
    exact S.on j y c h2 q2⟩
theorem s_for {q : List Stmt} {cq : CSs} {pt : Pat} {ci : CI} (g : Gd T Φ N sc X) (hi : PI_ Φ X tg e ci) (hp : PP_ X tg pt) (hb : PSs_ Φ X q cq) (hs : ∀ x, foldedSetIterable e X.env x = pure x := by intro _; rfl) : PS_ Φ X (.For tg e q [] pos) (.for_ pt ci cq) :=
  ps_imp (ps_for (by rw [g.xe]; exact PassesOwn.never) g.calm hi hp hb hs) fun E σ H ⟨as0, G0, H0, as, G, ρ, D, o, ρ', D', S, ee, f⟩ => by
  obtain ⟨⟨xs, D1⟩, e1, e2⟩ := Option.bind_eq_some_iff.mp ee
  have e2 : forL (fun x ρ D => (bindP pt x ρ).bind fun ρ1 => exs Φ cq ρ1 D) xs ρ D1 = some (o, ρ', D') := e2
  refine ⟨as, G, ρ, D, xs, D1, S.w, S.r, e1, fun J G1 H1 st1 w1 hz ser => ?_⟩
  refine ⟨fun i m σ2 H2 => m = xs.length - i ∧ i ≤ xs.length ∧ ∃ as2 G2 ρ2 D2, Nxt as G1 as2 G2 ∧ Sti as0 as2 X.K G0 H0 G2 H2 σ2 ρ2 D2 ∧ forL (fun x ρ D => (bindP pt x ρ).bind fun ρ1 => exs Φ cq ρ1 D) (xs.drop i) ρ2 D2 = some (o, ρ', D'),
    ⟨xs.length, by simp, Nat.zero_le _, as, G1, ρ, D1, .refl _ _, S.adv st1 w1, by rw [List.drop_zero]; exact e2⟩, ?_⟩
  rintro i m σ2 H2 ⟨rfl, hi, as2, G2, ρ2, D2, n2, S2, e3⟩
  obtain ⟨⟨more, em⟩, l2⟩ := id n2
  subst em
  obtain ⟨go, stop, yld⟩ := ser more G2 H2 D2 l2 S2.w
  by_cases hlt : i < xs.length
  · rw [drop_cons hlt] at e3
    obtain ⟨⟨o4, ρ4, D4⟩, e5, e6⟩ := Option.bind_eq_some_iff.mp (show ((bindP pt xs[i] ρ2).bind fun ρ1 => exs Φ cq ρ1 D2).bind (fun r => match r.1 with
      | .nx => forL (fun x ρ D => (bindP pt x ρ).bind fun ρ1 => exs Φ cq ρ1 D) (xs.drop (i + 1)) r.2.1 r.2.2
      | .ct => forL (fun x ρ D => (bindP pt x ρ).bind fun ρ1 => exs Φ cq ρ1 D) (xs.drop (i + 1)) r.2.1 r.2.2
      | .bk => some (.nx, r.2)
      | .rt v => some (.rt v, r.2)) = some (o, ρ', D') from e3)
    obtain ⟨ρ3, b1, e7⟩ := Option.bind_eq_some_iff.mp e5
    refine .inr ⟨go i hlt, fun σ' H' => i + 1 ≤ xs.length ∧ ∃ as2 G2 ρ2 D2, Nxt as G1 as2 G2 ∧ Sti as0 as2 X.K G0 H0 G2 H' σ' ρ2 D2 ∧ forL (fun x ρ D => (bindP pt x ρ).bind fun ρ1 => exs Φ cq ρ1 D) (xs.drop (i + 1)) ρ2 D2 = some (o, ρ', D'),
      fun σ' H' h => ⟨xs.length - (i + 1), by omega, rfl, h.1, h.2⟩, fun v H3 hy => ?_⟩
    obtain ⟨G3, st3, w3, t3⟩ := yld i xs[i] v H3 (List.getElem?_eq_getElem hlt) hy
    have S3 := S2.adv st3 w3
    refine ⟨_, G3, D2, ρ2, xs[i], ρ3, w3, S3.r, t3, b1, fun σ4 r4 s4 => ?_⟩
    have S4 := S3.bind b1 r4 s4
    have n4 := n2.trans (Nxt.same st3.le)
    refine ⟨as0, G0, H0, _, G3, ρ3, D2, o4, ρ4, D4, S4, e7, fun as5 σ5 G5 H5 n5 S5 => ?_⟩
    have n6 := n4.trans n5
    cases o4 with
    | nx => exact ⟨hlt, as5, G5, ρ4, D4, n6, S5, e6⟩
    | ct => exact ⟨hlt, as5, G5, ρ4, D4, n6, S5, e6⟩
    | bk =>
      cases e6
      exact f as5 σ5 G5 H5 ((Nxt.same st1.le).trans n6) S5
    | rt v =>
      cases e6
      exact f as5 σ5 G5 H5 ((Nxt.same st1.le).trans n6) S5
  · have : i = xs.length := by omega
    subst this
    rw [List.drop_length] at e3
    have e3' : some (Out.nx, ρ2, D2) = some (o, ρ', D') := e3
    cases e3'
    exact .inl ⟨stop _ (Nat.le_refl _), f _ σ2 G2 H2 ((Nxt.same st1.le).trans n2) S2⟩
end
end MP

/-! MP su: statements that change lists and dicts; several targets. -/
namespace MP
open PySem PySem.Spec PyProof.Rows L2

section
variable {T : Tb} {Φ : Fns} {N : List Str} {sc : Scope} {X : Cx} {e a b tg k : Expr} {pos p : Pos} {c ck : CE}
/-- the slot's own list -/
theorem own_at {as0 as : List Addr} {K : PySem.W.Frag} {G0 H0 G H : Hp} {σ : L2.St} {ρ : Envi} {D : DS} (S : Sti as0 as K G0 H0 G H σ ρ D) {i : Nat} {x : PV} (h : ρ[i]? = some (some (true, x))) : ∃ a, σ[i]? = some (some (.ref a)) ∧ OwnO as K G H a x := by
  obtain ⟨a, e, _, _, _⟩ := S.r.own i x h
  exact ⟨a, e, S.pl i x a h e⟩
theorem chgO_some {f : PV → Option PV} {i : Nat} {ρ ρ' : Envi} {D D' : DS} (h : chgO f i ρ D = some (ρ', D')) : ∃ x y, ρ[i]? = some (some (true, x)) ∧ f x = some y ∧ ρ' = ρ.set i (some (true, y)) ∧ D' = D := by
  unfold chgO at h
  split at h
  · rename_i x hx
    obtain ⟨y, h1, h2⟩ := Option.map_eq_some_iff.mp h
    cases h2
    exact ⟨x, y, hx, h1, rfl, rfl⟩
  · cases h
section
variable {i : Nat} {x : Str} {apos cpos np : Pos}
theorem pv_slot (g : Gd T Φ N sc X) (hi : N[i]? = some x) (hv : Vis sc x) (hd : (x == ("__debug__" : Str)) = false := by decide) (hcd : (x == ("__classdict__" : Str)) = false := by decide) : PE X (.Name x np) (tVar i) :=
  pe_var (i := i) (by rw [g.n]; exact hi) (by rw [g.sc]; exact hv) hd hcd
theorem ev1 {Φ : Fns} {c : CE} {ρ : Envi} {D D1 : DS} {x : PV} (e1 : ev Φ c ρ D = some (x, D1)) : evs Φ (.cons c .nil) ρ D = some ([x], D1) := by simp only [evs, e1, Option.bind_some, Option.map_some]
theorem ev2 {Φ : Fns} {c c2 : CE} {ρ : Envi} {D D0 D1 : DS} {x y : PV} (e0 : ev Φ c ρ D = some (x, D0)) (e1 : ev Φ c2 ρ D0 = some (y, D1)) : evs Φ (.cons c (.cons c2 .nil)) ρ D = some ([x, y], D1) := by simp only [evs, e0, e1, Option.bind_some, Option.map_some]
/-- xs.append(e) -/
theorem s_app (g : Gd T Φ N sc X) (hi : N[i]? = some x) (hv : Vis sc x) (he : PV_ Φ X e c)
    (hbase : attributeBase (.Name x np) "append" X.env (eval (.Name x np) X.env) = eval (.Name x np) X.env := by rfl)
    (hfew : ((backTo cpos (starEach [e] X.env)).all (fun x => !x.1) && (backToKw cpos (keywordEach [] X.env)).all (fun x => x.1.isSome) && decide (([e] : List Expr).length + ([] : List Keyword).length + (if ([] : List Keyword).isEmpty then 0 else 1) < 30)) = true := by rfl)
    (hline : (apos.endLine == cpos.line) = true := by rfl) (hs : starEach [e] X.env = (false, eval e X.env) :: starEach [] X.env := by rfl) (hplain : (backTo cpos (starEach [] X.env)).any (·.1) = false := by rfl)
    (hsw : swapsWith (.Call (.Attribute (.Name x np) "append" apos) [e] [] cpos) none pos.line X.env = pure false := by rfl)
    (hd : (x == ("__debug__" : Str)) = false := by decide) (hcd : (x == ("__classdict__" : Str)) = false := by decide) : PS_ Φ X (.Expr (.Call (.Attribute (.Name x np) "append" apos) [e] [] cpos) pos) (.app i c) := by
  have hA : PA_ Φ X [e] (.cons c .nil) := a_cons he a_nil hs
  refine ps_imp (ps_expr (pe_bm PySem.F.plainAttrs_list PySem.F.slot_list_append PySem.F.type_list_append mt_append (pv_slot g hi hv hd hcd) hA hbase hfew hline hs hplain) hsw) fun E σ H ⟨as0, G0, H0, as, G, ρ, D, o, ρ', D', S, ee, f⟩ => ?_
  obtain ⟨⟨v, D1⟩, e1, ee⟩ := Option.bind_eq_some_iff.mp (show (ev Φ c ρ D).bind (fun r => (chgO (pApp r.1) i ρ r.2).map fun z => (Out.nx, z.1, z.2)) = some (o, ρ', D') from ee)
  obtain ⟨⟨ρ2, D2⟩, e2, ee⟩ := Option.map_eq_some_iff.mp ee
  cases ee
  obtain ⟨y, z, h1, h2, rfl, rfl⟩ := chgO_some e2
  obtain ⟨l, hl, ow⟩ := own_at S h1
  cases y with
  | lst xs =>
    have h2' : (if xs.length < LIM then some (PV.lst (xs ++ [v])) else none) = some z := h2
    split at h2'
    · rename_i hlim
      cases h2'
      obtain ⟨vs, hH, tv⟩ := id ow
      refine ⟨.ref l, hl, .inl ⟨rfl, vs, .of hH⟩, as, G, ρ, D, _, _, S.w, S.r, ev1 e1, fun ws G1 H1 st1 w1 t1 => ?_⟩
      have S1 := S.adv st1 w1
      cases t1 with
      | cons t1 t2 =>
        cases t2
        obtain ⟨vs2, hH2, tv2⟩ := S1.pl i _ l h1 hl
        refine ⟨l, vs2, _, rfl, rfl, hH2, by rw [tv2.len, sizeLine_eq]; have : LIM = 1000000 := rfl; omega, ?_⟩
        exact f as σ G1 _ (.same st1.le) (S1.mutO h1 hl ⟨_, upd_same, tv2.app (.cons t1 .nil)⟩)
    · cases h2'
  | _ => cases h2
/-- xs.extend(e) -/
theorem s_ext (g : Gd T Φ N sc X) (hi : N[i]? = some x) (hv : Vis sc x) (he : PV_ Φ X e c)
    (hbase : attributeBase (.Name x np) "extend" X.env (eval (.Name x np) X.env) = eval (.Name x np) X.env := by rfl)
    (hfew : ((backTo cpos (starEach [e] X.env)).all (fun x => !x.1) && (backToKw cpos (keywordEach [] X.env)).all (fun x => x.1.isSome) && decide (([e] : List Expr).length + ([] : List Keyword).length + (if ([] : List Keyword).isEmpty then 0 else 1) < 30)) = true := by rfl)
    (hline : (apos.endLine == cpos.line) = true := by rfl) (hs : starEach [e] X.env = (false, eval e X.env) :: starEach [] X.env := by rfl) (hplain : (backTo cpos (starEach [] X.env)).any (·.1) = false := by rfl)
    (hsw : swapsWith (.Call (.Attribute (.Name x np) "extend" apos) [e] [] cpos) none pos.line X.env = pure false := by rfl)
    (hd : (x == ("__debug__" : Str)) = false := by decide) (hcd : (x == ("__classdict__" : Str)) = false := by decide) : PS_ Φ X (.Expr (.Call (.Attribute (.Name x np) "extend" apos) [e] [] cpos) pos) (.ext i c) := by
  have hA : PA_ Φ X [e] (.cons c .nil) := a_cons he a_nil hs
  refine ps_imp (ps_expr (pe_bm PySem.F.plainAttrs_list PySem.F.slot_list_extend PySem.F.type_list_extend mt_extend (pv_slot g hi hv hd hcd) hA hbase hfew hline hs hplain) hsw) fun E σ H ⟨as0, G0, H0, as, G, ρ, D, o, ρ', D', S, ee, f⟩ => ?_
  obtain ⟨⟨v, D1⟩, e1, ee⟩ := Option.bind_eq_some_iff.mp (show (ev Φ c ρ D).bind (fun r => (chgO (pExt r.1) i ρ r.2).map fun z => (Out.nx, z.1, z.2)) = some (o, ρ', D') from ee)
  obtain ⟨⟨ρ2, D2⟩, e2, ee⟩ := Option.map_eq_some_iff.mp ee
  cases ee
  obtain ⟨y, z, h1, h2, rfl, rfl⟩ := chgO_some e2
  obtain ⟨l, hl, ow⟩ := own_at S h1
  cases y with
  | lst xs =>
    cases v with
    | lst ys =>
      have h2' : (if xs.length + ys.length ≤ LIM then some (PV.lst (xs ++ ys)) else none) = some z := h2
      split at h2'
      · rename_i hlim
        cases h2'
        obtain ⟨vs, hH, tv⟩ := id ow
        refine ⟨.ref l, hl, .inl ⟨rfl, vs, .of hH⟩, as, G, ρ, D, _, _, S.w, S.r, ev1 e1, fun ws G1 H1 st1 w1 t1 => ?_⟩
        have S1 := S.adv st1 w1
        cases t1 with
        | cons t1 t2 =>
          cases t2
          cases t1 with
          | lst hG ts =>
            obtain ⟨vs2, hH2, tv2⟩ := S1.pl i _ l h1 hl
            refine ⟨l, _, vs2, _, rfl, rfl, hH2, w1.sub _ _ hG, by rw [tv2.len, ts.len]; exact line_lim hlim, ?_⟩
            exact f as σ G1 _ (.same st1.le) (S1.mutO h1 hl ⟨_, upd_same, tv2.app ts⟩)
      · cases h2'
    | _ => cases h2
  | _ => cases h2
/-- xs.insert(k, e) -/
theorem s_ins (g : Gd T Φ N sc X) (hi : N[i]? = some x) (hv : Vis sc x) (hk : PV_ Φ X k ck) (he : PV_ Φ X e c)
    (hbase : attributeBase (.Name x np) "insert" X.env (eval (.Name x np) X.env) = eval (.Name x np) X.env := by rfl)
    (hfew : ((backTo cpos (starEach [k, e] X.env)).all (fun x => !x.1) && (backToKw cpos (keywordEach [] X.env)).all (fun x => x.1.isSome) && decide (([k, e] : List Expr).length + ([] : List Keyword).length + (if ([] : List Keyword).isEmpty then 0 else 1) < 30)) = true := by rfl)
    (hline : (apos.endLine == cpos.line) = true := by rfl) (hs : starEach [k, e] X.env = (false, eval k X.env) :: starEach [e] X.env := by rfl) (hs2 : starEach [e] X.env = (false, eval e X.env) :: starEach [] X.env := by rfl) (hplain : (backTo cpos (starEach [e] X.env)).any (·.1) = false := by rfl)
    (hsw : swapsWith (.Call (.Attribute (.Name x np) "insert" apos) [k, e] [] cpos) none pos.line X.env = pure false := by rfl)
    (hd : (x == ("__debug__" : Str)) = false := by decide) (hcd : (x == ("__classdict__" : Str)) = false := by decide) : PS_ Φ X (.Expr (.Call (.Attribute (.Name x np) "insert" apos) [k, e] [] cpos) pos) (.ins i ck c) := by
  have hA : PA_ Φ X [k, e] (.cons ck (.cons c .nil)) := a_cons hk (a_cons he a_nil hs2) hs
  refine ps_imp (ps_expr (pe_bm PySem.F.plainAttrs_list PySem.F.slot_list_insert PySem.F.type_list_insert mt_insert (pv_slot g hi hv hd hcd) hA hbase hfew hline hs hplain) hsw) fun E σ H ⟨as0, G0, H0, as, G, ρ, D, o, ρ', D', S, ee, f⟩ => ?_
  obtain ⟨⟨q, D0⟩, e0, ee⟩ := Option.bind_eq_some_iff.mp (show (ev Φ ck ρ D).bind (fun q => (ev Φ c ρ q.2).bind fun r => (chgO (pInsAt q.1 r.1) i ρ r.2).map fun z => (Out.nx, z.1, z.2)) = some (o, ρ', D') from ee)
  obtain ⟨⟨v, D1⟩, e1, ee⟩ := Option.bind_eq_some_iff.mp ee
  obtain ⟨⟨ρ2, D2⟩, e2, ee⟩ := Option.map_eq_some_iff.mp ee
  cases ee
  obtain ⟨y, z, h1, h2, rfl, rfl⟩ := chgO_some e2
  obtain ⟨l, hl, ow⟩ := own_at S h1
  cases y with
  | lst xs =>
    cases q with
    | int j =>
      have h2' : (if 0 ≤ j ∧ j ≤ xs.length ∧ xs.length < LIM then some (PV.lst (xs.take j.toNat ++ v :: xs.drop j.toNat)) else none) = some z := h2
      split at h2'
      · rename_i hlim
        cases h2'
        obtain ⟨vs, hH, tv⟩ := id ow
        refine ⟨.ref l, hl, .inl ⟨rfl, vs, .of hH⟩, as, G, ρ, D, [.int j, v], _, S.w, S.r, ev2 e0 e1, fun ws G1 H1 st1 w1 t1 => ?_⟩
        have S1 := S.adv st1 w1
        cases t1 with
        | cons t1 t2 =>
          cases t1
          cases t2 with
          | cons t2 t3 =>
            cases t3
            obtain ⟨vs2, hH2, tv2⟩ := S1.pl i _ l h1 hl
            have hL : LIM = 1000000 := rfl
            refine ⟨l, vs2, j, _, rfl, rfl, hH2, by rw [tv2.len, sizeLine_eq]; omega, hlim.1, by omega, ?_⟩
            refine f as σ G1 _ (.same st1.le) (S1.mutO h1 hl ⟨_, upd_same, ?_⟩)
            rw [List.append_assoc]
            exact (tv2.take _).app (.cons t2 (tv2.drop _))
      · cases h2'
    | _ => cases h2
  | _ => cases h2
theorem ints_tr {as : List Addr} {K : PySem.W.Frag} {G : Hp} {vs : List V} {xs : List PV} {ns : List Int} (t : TrS as K G vs xs) (h : mapO intOf xs = some ns) : vs = ns.map V.int := by
  have := mapO_ints h
  subst this
  exact t.toInts
theorem erase_first {ns : List Int} {n : Int} (h : n ∈ ns) : ∃ j, ns[j]? = some n ∧ (∀ m : Nat, m < j → ns[m]? ≠ some n) ∧ ns.eraseIdx j = ns.erase n := by
  induction ns with
  | nil => cases h
  | cons a r ih =>
    by_cases e : a = n
    · subst e
      exact ⟨0, rfl, fun m hm => absurd hm (Nat.not_lt_zero m), by simp⟩
    · rcases List.mem_cons.mp h with z | z
      · exact absurd z.symm e
      · obtain ⟨j, h1, h2, h3⟩ := ih z
        refine ⟨j + 1, by simpa using h1, fun m hm => ?_, ?_⟩
        · cases m with
          | zero => simpa using e
          | succ m => simpa using h2 m (by omega)
        · rw [List.eraseIdx_cons_succ, h3, List.erase_cons_tail (by simpa using e)]
/-- xs.remove(e), ints -/
theorem s_rem (g : Gd T Φ N sc X) (hi : N[i]? = some x) (hv : Vis sc x) (he : PV_ Φ X e c)
    (hbase : attributeBase (.Name x np) "remove" X.env (eval (.Name x np) X.env) = eval (.Name x np) X.env := by rfl)
    (hfew : ((backTo cpos (starEach [e] X.env)).all (fun x => !x.1) && (backToKw cpos (keywordEach [] X.env)).all (fun x => x.1.isSome) && decide (([e] : List Expr).length + ([] : List Keyword).length + (if ([] : List Keyword).isEmpty then 0 else 1) < 30)) = true := by rfl)
    (hline : (apos.endLine == cpos.line) = true := by rfl) (hs : starEach [e] X.env = (false, eval e X.env) :: starEach [] X.env := by rfl) (hplain : (backTo cpos (starEach [] X.env)).any (·.1) = false := by rfl)
    (hsw : swapsWith (.Call (.Attribute (.Name x np) "remove" apos) [e] [] cpos) none pos.line X.env = pure false := by rfl)
    (hd : (x == ("__debug__" : Str)) = false := by decide) (hcd : (x == ("__classdict__" : Str)) = false := by decide) : PS_ Φ X (.Expr (.Call (.Attribute (.Name x np) "remove" apos) [e] [] cpos) pos) (.rem i c) := by
  have hA : PA_ Φ X [e] (.cons c .nil) := a_cons he a_nil hs
  refine ps_imp (ps_expr (pe_bm PySem.F.plainAttrs_list PySem.F.slot_list_remove PySem.F.type_list_remove mt_remove (pv_slot g hi hv hd hcd) hA hbase hfew hline hs hplain) hsw) fun E σ H ⟨as0, G0, H0, as, G, ρ, D, o, ρ', D', S, ee, f⟩ => ?_
  obtain ⟨⟨v, D1⟩, e1, ee⟩ := Option.bind_eq_some_iff.mp (show (ev Φ c ρ D).bind (fun r => (chgO (pRem r.1) i ρ r.2).map fun z => (Out.nx, z.1, z.2)) = some (o, ρ', D') from ee)
  obtain ⟨⟨ρ2, D2⟩, e2, ee⟩ := Option.map_eq_some_iff.mp ee
  cases ee
  obtain ⟨y, z, h1, h2, rfl, rfl⟩ := chgO_some e2
  obtain ⟨l, hl, ow⟩ := own_at S h1
  cases y with
  | lst xs =>
    cases v with
    | int n =>
      obtain ⟨ns, h3, h4⟩ := Option.bind_eq_some_iff.mp (show (mapO intOf xs).bind (fun ns => if n ∈ ns then some (PV.lst ((ns.erase n).map .int)) else none) = some z from h2)
      split at h4
      · rename_i hmem
        cases h4
        obtain ⟨vs, hH, tv⟩ := id ow
        refine ⟨.ref l, hl, .inl ⟨rfl, vs, .of hH⟩, as, G, ρ, D, _, _, S.w, S.r, ev1 e1, fun ws G1 H1 st1 w1 t1 => ?_⟩
        have S1 := S.adv st1 w1
        cases t1 with
        | cons t1 t2 =>
          cases t2
          cases t1
          obtain ⟨vs2, hH2, tv2⟩ := S1.pl i _ l h1 hl
          have := ints_tr tv2 h3
          subst this
          obtain ⟨j, q1, q2, q3⟩ := erase_first hmem
          refine ⟨l, ns, n, j, rfl, rfl, hH2, q1, q2, ?_⟩
          rw [q3]
          exact f as σ G1 _ (.same st1.le) (S1.mutO h1 hl ⟨_, upd_same, TrS.ints _⟩)
      · cases h4
    | _ => cases h2
  | _ => cases h2
/-- target = xs.pop(), target = xs.pop(0) -/
theorem dropLast_tr {as : List Addr} {K : PySem.W.Frag} {G : Hp} {vs : List V} {xs : List PV} (t : TrS as K G vs xs) : TrS as K G vs.dropLast xs.dropLast := by
  rw [List.dropLast_eq_take, List.dropLast_eq_take, t.len]
  exact t.take _
theorem s_pop {pt : Pat} (g : Gd T Φ N sc X) (hi : N[i]? = some x) (hv : Vis sc x) (hp : PP_ X tg pt)
    (hbase : attributeBase (.Name x np) "pop" X.env (eval (.Name x np) X.env) = eval (.Name x np) X.env := by rfl) (hline : (apos.endLine == cpos.line) = true := by rfl)
    (hs : swapsWithSole [tg] (.Call (.Attribute (.Name x np) "pop" apos) [] [] cpos) pos.line X.env = pure false := by rfl) (hw : swappedStores [tg] (.Call (.Attribute (.Name x np) "pop" apos) [] [] cpos) X.env = pure none := by rfl)
    (h1 : (assignEach [tg] X.env).map (·.2) = [assign tg X.env] := by rfl)
    (hd : (x == ("__debug__" : Str)) = false := by decide) (hcd : (x == ("__classdict__" : Str)) = false := by decide) : PS_ Φ X (.Assign [tg] (.Call (.Attribute (.Name x np) "pop" apos) [] [] cpos) pos) (.pop pt i) := by
  refine ps_imp (ps_asg (pe_bm0 PySem.F.plainAttrs_list PySem.F.slot_list_pop PySem.F.type_list_pop mt_pop (pv_slot g hi hv hd hcd) hbase hline) hp hs hw h1) fun E σ H ⟨as0, G0, H0, as, G, ρ, D, o, ρ', D', S, ee, f⟩ => ?_
  have ee : (match ρ[i]? with
    | some (some (true, .lst xs)) => (xs.getLast?).bind fun y => (bindP pt y (ρ.set i (some (true, .lst xs.dropLast)))).map fun ρ1 => (Out.nx, ρ1, D)
    | _ => none) = some (o, ρ', D') := ee
  split at ee
  · rename_i xs h1
    obtain ⟨y, h2, ee⟩ := Option.bind_eq_some_iff.mp ee
    obtain ⟨ρ1, h3, ee⟩ := Option.map_eq_some_iff.mp ee
    cases ee
    obtain ⟨l, hl, vs, hH, tv⟩ := own_at S h1
    have h4 : xs[xs.length - 1]? = some y := by rw [← List.getLast?_eq_getElem?]; exact h2
    obtain ⟨v, h5, t5⟩ := tv.get h4
    refine ⟨.ref l, hl, .inl ⟨rfl, vs, .of hH⟩, l, vs, v, rfl, rfl, hH, by rw [tv.len]; exact h5, ?_⟩
    have S1 := S.mutO (y := .lst xs.dropLast) (o := .lst vs.dropLast) h1 hl ⟨_, upd_same, dropLast_tr tv⟩
    exact ⟨as, G, _, _, y, _, S1.w, S1.r, t5, h3, fun σ' r' s' => f as σ' G _ (.refl _ _) (S1.bind h3 r' s')⟩
  · cases ee
theorem s_pop0 {pt : Pat} {j : Nat} {zp : Pos} (g : Gd T Φ N sc X) (hi : N[i]? = some x) (hv : Vis sc x) (hp : PP_ X tg pt)
    (hbase : attributeBase (.Name x np) "pop" X.env (eval (.Name x np) X.env) = eval (.Name x np) X.env := by rfl)
    (hfew : ((backTo cpos (starEach [.Constant (.int 0) j zp] X.env)).all (fun x => !x.1) && (backToKw cpos (keywordEach [] X.env)).all (fun x => x.1.isSome) && decide (([.Constant (.int 0) j zp] : List Expr).length + ([] : List Keyword).length + (if ([] : List Keyword).isEmpty then 0 else 1) < 30)) = true := by rfl)
    (hline : (apos.endLine == cpos.line) = true := by rfl) (hst : starEach [.Constant (.int 0) j zp] X.env = (false, eval (.Constant (.int 0) j zp) X.env) :: starEach [] X.env := by rfl) (hplain : (backTo cpos (starEach [] X.env)).any (·.1) = false := by rfl)
    (hs : swapsWithSole [tg] (.Call (.Attribute (.Name x np) "pop" apos) [.Constant (.int 0) j zp] [] cpos) pos.line X.env = pure false := by rfl) (hw : swappedStores [tg] (.Call (.Attribute (.Name x np) "pop" apos) [.Constant (.int 0) j zp] [] cpos) X.env = pure none := by rfl)
    (h1 : (assignEach [tg] X.env).map (·.2) = [assign tg X.env] := by rfl)
    (hd : (x == ("__debug__" : Str)) = false := by decide) (hcd : (x == ("__classdict__" : Str)) = false := by decide) : PS_ Φ X (.Assign [tg] (.Call (.Attribute (.Name x np) "pop" apos) [.Constant (.int 0) j zp] [] cpos) pos) (.pop0 pt i) := by
  refine ps_imp (ps_asg (pe_bm PySem.F.plainAttrs_list PySem.F.slot_list_pop PySem.F.type_list_pop mt_popAt (pv_slot g hi hv hd hcd) (pa_cons (pe_int (i := 0)) pa_nil hst) hbase hfew hline hst hplain) hp hs hw h1) fun E σ H ⟨as0, G0, H0, as, G, ρ, D, o, ρ', D', S, ee, f⟩ => ?_
  have ee : (match ρ[i]? with
    | some (some (true, .lst (y :: xs))) => (bindP pt y (ρ.set i (some (true, .lst xs)))).map fun ρ1 => (Out.nx, ρ1, D)
    | _ => none) = some (o, ρ', D') := ee
  split at ee
  · rename_i y xs h1
    obtain ⟨ρ1, h3, ee⟩ := Option.map_eq_some_iff.mp ee
    cases ee
    obtain ⟨l, hl, vs, hH, tv⟩ := own_at S h1
    cases tv with
    | cons t0 tv =>
      rename_i v ws
      refine ⟨.ref l, hl, .inl ⟨rfl, _, .of hH⟩, l, v :: ws, 0, 0, v, rfl, rfl, hH, by omega, by omega, ?_, rfl, ?_⟩
      · unfold seqIndex?
        simp
      · have S1 := S.mutO (y := .lst xs) (o := .lst ws) h1 hl ⟨_, upd_same, tv⟩
        exact ⟨as, G, _, _, y, _, S1.w, S1.r, t0, h3, fun σ' r' s' => f as σ' G _ (.refl _ _) (S1.bind h3 r' s')⟩
  · cases ee
end
/-- a target pattern = value -/
theorem s_asgP {pt : Pat} (he : PV_ Φ X e c) (hp : PP_ X tg pt) (hs : swapsWithSole [tg] e pos.line X.env = pure false := by rfl) (hw : swappedStores [tg] e X.env = pure none := by rfl)
    (h1 : (assignEach [tg] X.env).map (·.2) = [assign tg X.env] := by rfl) : PS_ Φ X (.Assign [tg] e pos) (.asgP pt c) := ps_imp (ps_asg he hp hs hw h1) fun E σ H ⟨as0, G0, H0, as, G, ρ, D, o, ρ', D', S, ee, f⟩ => by
  obtain ⟨⟨x, D1⟩, e1, ee⟩ := Option.bind_eq_some_iff.mp ee
  obtain ⟨ρ1, e2, ee⟩ := Option.map_eq_some_iff.mp ee
  cases ee
  refine ⟨as, G, ρ, D, x, D1, S.w, S.r, e1, fun v G1 H1 st1 w1 t1 => ?_⟩
  have S1 := S.adv st1 w1
  exact ⟨as, G1, D1, ρ, x, _, w1, S1.r, t1, e2, fun σ' r' s' => f as σ' G1 H1 (.same st1.le) (S1.bind e2 r' s')⟩
/-- name op= e, ints -/
def opIp : Bo → Operator := boT
def rIp (op : Bo) : TIp := fun x y H Q => ∃ i j z, x = .int i ∧ y = .int j ∧ pIp op (.int i) (.int j) = some (.int z) ∧ Q (.int z) H
theorem ip_M (op : Bo) : PIp X (boT op) (rIp op) := by
  intro pins s σ H x y v u Q I rx ry ⟨i, j, z, ex, ey, e, q⟩
  cases op <;> first | (cases e; done) | skip
  · cases e
    exact ip_add pins s σ H x y v u Q I rx ry ⟨i, j, ex, ey, q⟩
  · cases e
    exact ip_sub pins s σ H x y v u Q I rx ry ⟨i, j, ex, ey, q⟩
theorem pIp_ints {op : Bo} {x y z : PV} (h : pIp op x y = some z) : ∃ i j k, x = .int i ∧ y = .int j ∧ z = .int k := by
  unfold pIp at h
  split at h
  · cases h; exact ⟨_, _, _, rfl, rfl, rfl⟩
  · cases h; exact ⟨_, _, _, rfl, rfl, rfl⟩
  · cases h
theorem s_aug {i : Nat} {x : Str} {op : Bo} {o : Operator} {pos' : Pos} (g : Gd T Φ N sc X) (hi : N[i]? = some x) (hx : Loc sc x) (he : PV_ Φ X e c) (ho : o = boT op := by rfl)
    (hf : X.fn x = true ∨ sc.names.lookup x = some .local := by first | exact .inl rfl | exact .inr rfl | assumption) : PS_ Φ X (.AugAssign (.Name x pos') o e pos) (.aug i op c) := by
  subst ho
  refine ps_imp (ps_aug (i := i) (by rw [g.n]; exact g.nd) (by rw [g.n]; exact hi) (by rw [g.sc]; exact hx) he (ip_M op) (by rw [g.sc]; exact hf)) fun E σ H ⟨as0, G0, H0, as, G, ρ, D, o, ρ', D', S, ee, f⟩ => ?_
  obtain ⟨y, e1, ee⟩ := Option.bind_eq_some_iff.mp (show (getS ρ i).bind (fun x => (ev Φ c ρ D).bind fun r => (pIp op x r.1).map fun z => (Out.nx, ρ.set i (some (false, z)), r.2)) = some (o, ρ', D') from ee)
  obtain ⟨⟨w, D1⟩, e2, ee⟩ := Option.bind_eq_some_iff.mp ee
  obtain ⟨z, e3, ee⟩ := Option.map_eq_some_iff.mp ee
  cases ee
  obtain ⟨a, b, k, rfl, ew, rfl⟩ := pIp_ints e3
  have ew : w = .int b := ew
  subst ew
  unfold getS at e1
  split at e1
  · rename_i z' hz
    cases e1
    obtain ⟨v, e5, t⟩ := S.r.frz i _ hz
    cases t
    refine ⟨_, e5, as, G, ρ, D, _, _, S.w, S.r, e2, fun v G1 H1 st1 w1 t1 => ?_⟩
    cases t1
    exact ⟨a, b, k, rfl, rfl, e3, f as _ G1 H1 (.same st1.le) ((S.adv st1 w1).put i (.int k))⟩
  · cases e1
/-- an item stored -/
theorem set_M (hu : X.A.units + 1 < cLine) : PSet X (fun o i v H Q => rSetL o i v H Q ∨ rSetD o i v H Q) := by
  intro pins s σ H o i v ov iv u Q I ro ri rv h
  rcases h with h | h
  · exact set_list pins s σ H o i v ov iv u Q I ro ri rv h
  · exact set_dict hu pins s σ H o i v ov iv u Q I ro ri rv h
/-- the store, by trees: at the address a stands y, y with the item is z -/
theorem put_ok {as : List Addr} {K : PySem.W.Frag} {G H : Hp} {D : DS} (w : Wd as K G H D) {a : Addr} {y kx vx z : PV} {kv v : V} (ow : OwnO as K G H a y) (tk : Tr as K G kv kx) (tv : Tr as K G v vx) (h : pSet y kx vx = some z) :
    ∃ o, OwnO as K G (upd H a o) a z ∧ ∀ Q : Hp → Prop, Q (upd H a o) → (rSetL (.ref a) kv v H Q ∨ rSetD (.ref a) kv v H Q) := by
  have hL : LIM = 1000000 := rfl
  cases y with
  | lst xs =>
    cases kx with
    | int n =>
      obtain ⟨j, h1, h2⟩ := Option.map_eq_some_iff.mp (show (MP.ixN xs.length n).map (fun j => PV.lst (xs.set j vx)) = some z from h)
      subst h2
      cases tk
      obtain ⟨vs, hH, ts⟩ := ow
      refine ⟨.lst (vs.set j v), ⟨_, upd_same, ts.set j tv⟩, fun Q q => .inl ⟨a, vs, n, j, rfl, rfl, hH, by rw [ts.len]; exact h1, q⟩⟩
    | _ => cases h
  | dct t kvs =>
    have h' : (if (isKey t kx && decide (kvs.length < LIM)) = true then some (PV.dct t (dPut kx vx kvs)) else none) = some z := h
    split at h'
    · rename_i hk
      rw [Bool.and_eq_true, decide_eq_true_eq] at hk
      cases h'
      rcases ow with ⟨rfl, ks, hH, ts⟩ | ⟨rfl, ks, hH, ts⟩
      · obtain ⟨kk, rfl⟩ := isKey0 hk.1
        have ek := tk.key
        subst ek
        exact ⟨.dK (putK ks kk v), .inl ⟨rfl, _, upd_same, ts.put kk tv⟩, fun Q q => .inr ⟨a, _, rfl, .inl ⟨ks, kk, hH, rfl, by rw [ts.len, sizeLine_eq]; omega, rfl⟩, q⟩⟩
      · obtain ⟨kk, rfl⟩ := isKeyT hk.1
        cases tk with
        | tup hG tt =>
          have ek := tt.keys
          subst ek
          exact ⟨.dT (putK ks kk v), .inr ⟨rfl, _, upd_same, ts.put kk tv⟩, fun Q q => .inr ⟨a, _, rfl, .inr ⟨ks, kk, _, hH, rfl, w.sub _ _ hG, by rw [ts.len, sizeLine_eq]; omega, rfl⟩, q⟩⟩
    · cases h'
  | _ => cases h
theorem chg_ok {as0 as : List Addr} {K : PySem.W.Frag} {G0 H0 G H : Hp} {σ : L2.St} {ρ ρ' : Envi} {D D' : DS} {f : PV → Option PV} {i : Nat} (S : Sti as0 as K G0 H0 G H σ ρ D) (h : chg f i ρ D = some (ρ', D')) (hf : ∀ x, f (.lck x) = none) :
    ∃ a x y, σ[i]? = some (some (.ref a)) ∧ OwnO as K G H a x ∧ f x = some y ∧ ∀ o, OwnO as K G (upd H a o) a y → Sti as0 as K G0 H0 G (upd H a o) σ ρ' D' := by
  unfold chg at h
  split at h
  · rename_i x hx
    obtain ⟨y, h1, h2⟩ := Option.map_eq_some_iff.mp h
    cases h2
    obtain ⟨a, e, ow⟩ := own_at S hx
    exact ⟨a, x, y, e, ow, h1, fun o ow' => S.mutO hx e ow'⟩
  · rename_i j hx
    obtain ⟨x, h0, h1⟩ := Option.bind_eq_some_iff.mp h
    obtain ⟨y, h2, h3⟩ := Option.map_eq_some_iff.mp h1
    cases h3
    obtain ⟨v, e, t⟩ := S.r.frz i _ hx
    cases t with
    | shr ha =>
      have ow := S.w.sh j _ x ha h0
      refine ⟨_, x, y, e, ?_, h2, fun o ow' => S.mutS ha ow'⟩
      cases x with
      | lck z => rw [hf] at h2; cases h2
      | lst xs => exact ow
      | dct t kvs => exact ow
      | _ => exact absurd ow id
  · cases h
theorem pSet_lck (k v x : PV) : pSet (.lck x) k v = none := rfl
/-- xs[k] = e, d[k] = e -/
theorem s_setI {i : Nat} {x : Str} {np pos' : Pos} (g : Gd T Φ N sc X) (hi : N[i]? = some x) (hv : Vis sc x) (he : PV_ Φ X e c) (hk : PV_ Φ X k ck)
    (ha : ∀ v, assign (.Subscript (.Name x np) k pos') X.env v = (do
      let ov ← holding [v] (eval (.Name x np) X.env)
      let iv ← holding [v, ov] (eval k X.env)
      standAt pos'
      holding [v, ov, iv] (setItem ov iv v)
      release [v, ov, iv] []) := by intro _; rfl)
    (hs : swapsWithSole [.Subscript (.Name x np) k pos'] e pos.line X.env = pure false := by rfl) (hw : swappedStores [.Subscript (.Name x np) k pos'] e X.env = pure none := by rfl)
    (h1 : (assignEach [.Subscript (.Name x np) k pos'] X.env).map (·.2) = [assign (.Subscript (.Name x np) k pos') X.env] := by rfl)
    (hd : (x == ("__debug__" : Str)) = false := by decide) (hcd : (x == ("__classdict__" : Str)) = false := by decide) : PS_ Φ X (.Assign [.Subscript (.Name x np) k pos'] e pos) (.setI i ck c) := by
  refine ps_imp (ps_asg he (pg_sub (pv_slot g hi hv hd hcd) hk (set_M (by have := g.un; omega)) ha) hs hw h1) fun E σ H ⟨as0, G0, H0, as, G, ρ, D, o, ρ', D', S, ee, f⟩ => ?_
  obtain ⟨⟨vx, D1⟩, e1, ee⟩ := Option.bind_eq_some_iff.mp (show (ev Φ c ρ D).bind (fun r => (ev Φ ck ρ r.2).bind fun q => (chg (fun y => pSet y q.1 r.1) i ρ q.2).map fun z => (Out.nx, z.1, z.2)) = some (o, ρ', D') from ee)
  obtain ⟨⟨kx, D2⟩, e2, ee⟩ := Option.bind_eq_some_iff.mp ee
  obtain ⟨⟨ρ2, D3⟩, e3, ee⟩ := Option.map_eq_some_iff.mp ee
  cases ee
  refine ⟨as, G, ρ, D, vx, D1, S.w, S.r, e1, fun v G1 H1 st1 w1 t1 => ?_⟩
  have S1 := S.adv st1 w1
  have slot : ∃ a, σ[i]? = some (some (.ref a)) := by
    unfold chg at e3
    split at e3
    · rename_i y hy
      obtain ⟨a, e, _⟩ := S.r.own i y hy
      exact ⟨a, e⟩
    · rename_i j hy
      obtain ⟨w, e, t⟩ := S.r.frz i _ hy
      cases t
      exact ⟨_, e⟩
    · cases e3
  obtain ⟨a, ea⟩ := slot
  refine ⟨_, ea, as, G1, ρ, D1, kx, D2, w1, S1.r, e2, fun kv G2 H2 st2 w2 t2 => ?_⟩
  have S2 := S1.adv st2 w2
  obtain ⟨a', y, z, ea', ow, hz, fin⟩ := chg_ok S2 e3 (fun x => pSet_lck _ _ x)
  rw [ea] at ea'
  cases ea'
  obtain ⟨o, ow', q⟩ := put_ok w2 ow t2 (t1.up st2.le) hz
  exact q _ (f as σ G2 _ (.same (st1.le.trans st2.le)) (fin o ow'))
/-! ### several targets -/
inductive TrXs (as : List Addr) (K : PySem.W.Frag) (G H : Hp) : List Bool → List V → List PV → List Addr → Prop
  | nil : TrXs as K G H [] [] [] []
  | val {v : V} {x : PV} {os : List Bool} {vs : List V} {xs : List PV} {ps : List Addr} : Tr as K G v x → TrXs as K G H os vs xs ps → TrXs as K G H (false :: os) (v :: vs) (x :: xs) ps
  | own {p : Addr} {x : PV} {os : List Bool} {vs : List V} {xs : List PV} {ps : List Addr} : G p = none → p ∉ as → OwnO as K G H p x → p ∉ ps → TrXs as K G H os vs xs ps → TrXs as K G H (true :: os) (.ref p :: vs) (x :: xs) (p :: ps)
theorem own_up {as : List Addr} {K : PySem.W.Frag} {G H G' H' : Hp} (st : Stp as G H G' H') {p : Addr} {x : PV} (hG : G p = none) (ha : p ∉ as) (ow : OwnO as K G H p x) : G' p = none ∧ OwnO as K G' H' p x := by
  have hs := ow.some
  refine ⟨?_, ?_⟩
  · cases q : G' p with
    | none => rfl
    | some u =>
      rcases st.nw p (by rw [q]; exact fun z => nomatch z) with z | z
      · exact absurd hG z
      · exact absurd z hs
  · cases q : H p with
    | none => exact absurd q hs
    | some u =>
      have := ow.up (G' := G') (H' := H') st.le ((st.kp p u ha q).trans q.symm) []
      simpa using this
theorem TrXs.up {as : List Addr} {K : PySem.W.Frag} {G H G' H' : Hp} (st : Stp as G H G' H') : ∀ {os : List Bool} {vs : List V} {xs : List PV} {ps : List Addr}, TrXs as K G H os vs xs ps → TrXs as K G' H' os vs xs ps
  | _, _, _, _, .nil => .nil
  | _, _, _, _, .val t r => .val (t.up st.le) (TrXs.up st r)
  | _, _, _, _, .own hG ha ow n r => .own (own_up st hG ha ow).1 ha (own_up st hG ha ow).2 n (TrXs.up st r)
theorem TrXs.some {as : List Addr} {K : PySem.W.Frag} {G H : Hp} : ∀ {os : List Bool} {vs : List V} {xs : List PV} {ps : List Addr}, TrXs as K G H os vs xs ps → ∀ p ∈ ps, H p ≠ none
  | _, _, _, _, .nil, _, h => absurd h (by simp)
  | _, _, _, _, .val _ r, p, h => TrXs.some r p h
  | _, _, _, _, .own _ _ ow _ r, p, h => by
    rcases List.mem_cons.mp h with e | h
    · rw [e]; exact ow.some
    · exact TrXs.some r p h
theorem TrXs.len {as : List Addr} {K : PySem.W.Frag} {G H : Hp} : ∀ {os : List Bool} {vs : List V} {xs : List PV} {ps : List Addr}, TrXs as K G H os vs xs ps → vs.length = xs.length
  | _, _, _, _, .nil => rfl
  | _, _, _, _, .val _ r => congrArg Nat.succ (TrXs.len r)
  | _, _, _, _, .own _ _ _ _ r => congrArg Nat.succ (TrXs.len r)
def tX (K : PySem.W.Frag) (Φ : Fns) (os : List Bool) (c : CEs) : TA := fun σ H Q => ∃ as G ρ D xs D', Wd as K G H D ∧ Rp as K G H σ ρ ∧ evs Φ c ρ D = some (xs, D') ∧ ∀ vs ps G' H', Stp as G H G' H' → Wd as K G' H' D' → TrXs as K G' H' os vs xs ps → (∀ p ∈ ps, H p = none) → Q vs H'
abbrev PX_ (Φ : Fns) (X : Cx) (e : List Expr) (os : List Bool) (c : CEs) : Prop := PA X e (tX X.K Φ os c)
theorem x_nil : PX_ Φ X [] [] .nil := pa_imp pa_nil fun σ H Q ⟨as, G, ρ, D, y, D', w, r, ee, f⟩ => by
  cases ee
  exact f [] [] G H (Stp.refl _ _ _) w .nil (fun p h => absurd h (by simp))
theorem x_val {es : List Expr} {os : List Bool} {c : CE} {cs : CEs} (ha : PV_ Φ X e c) (hr : PX_ Φ X es os cs) (hs : starEach (e :: es) X.env = (false, eval e X.env) :: starEach es X.env := by rfl) : PX_ Φ X (e :: es) (false :: os) (.cons c cs) :=
  pa_imp (pa_cons ha hr hs) fun σ H Q ⟨as, G, ρ, D, y, D', w, r, ee, f⟩ => by
    obtain ⟨⟨x, D1⟩, e1, ee⟩ := Option.bind_eq_some_iff.mp ee
    obtain ⟨⟨xs, D2⟩, e2, ee⟩ := Option.map_eq_some_iff.mp ee
    cases ee
    exact ⟨as, G, ρ, D, x, D1, w, r, e1, fun v1 G1 H1 st1 w1 t1 => ⟨as, G1, ρ, D1, xs, _, w1, r.up st1, e2, fun v2 ps G2 H2 st2 w2 t2 hn => f _ ps G2 H2 (st1.trans st2) w2 (.val (t1.up st2.le) t2) fun p hp => none_back st1 (hn p hp)⟩⟩
theorem x_own {es : List Expr} {os : List Bool} {c : CE} {cs : CEs} (ha : PF_ Φ X e c) (hr : PX_ Φ X es os cs) (hs : starEach (e :: es) X.env = (false, eval e X.env) :: starEach es X.env := by rfl) : PX_ Φ X (e :: es) (true :: os) (.cons c cs) :=
  pa_imp (pa_cons ha hr hs) fun σ H Q ⟨as, G, ρ, D, y, D', w, r, ee, f⟩ => by
    obtain ⟨⟨x, D1⟩, e1, ee⟩ := Option.bind_eq_some_iff.mp ee
    obtain ⟨⟨xs, D2⟩, e2, ee⟩ := Option.map_eq_some_iff.mp ee
    cases ee
    refine ⟨as, G, ρ, D, x, D1, w, r, e1, fun p1 G1 H1 st1 w1 hp1 hG1 ow1 => ⟨as, G1, ρ, D1, xs, _, w1, r.up st1, e2, fun v2 ps G2 H2 st2 w2 t2 hn => ?_⟩⟩
    have ha1 : p1 ∉ as := fun m => w.some m hp1
    obtain ⟨g2, o2⟩ := own_up st2 hG1 ha1 ow1
    refine f _ (p1 :: ps) G2 H2 (st1.trans st2) w2 (.own g2 ha1 o2 (fun m => ow1.some (hn p1 m)) t2) fun p hp => ?_
    rcases List.mem_cons.mp hp with e | hp
    · rw [e]; exact hp1
    · exact none_back st1 (hn p hp)
def setN (σ : L2.St) : List Nat → List V → L2.St
  | i :: is, v :: vs => setN (σ.set i (some v)) is vs
  | _, _ => σ
def nms : List Nat → List Tg
  | [] => []
  | i :: r => .nm i :: nms r
theorem Av.set {p : Addr} {σ : L2.St} {ρ : Envi} (av : Av p σ ρ) (i : Nat) {v : V} {o : Bool} {x : PV} (h : o = true → v ≠ .ref p) : Av p (σ.set i (some v)) (ρ.set i (some (o, x))) := fun j y h1 h2 => by
  rcases set_get h1 with ⟨e, e2, hl⟩ | ⟨ne, h1⟩
  · subst e
    cases e2
    rcases set_get h2 with ⟨_, e3, _⟩ | ⟨ne, _⟩
    · cases e3
      exact h rfl rfl
    · exact ne rfl
  · rw [List.getElem?_set_ne ne] at h2
    exact av j y h1 h2
/-- the values stored in their slots -/
theorem Sti.putN {as0 as : List Addr} {K : PySem.W.Frag} {G0 H0 G H : Hp} {D : DS} : ∀ {is : List Nat} {os : List Bool} {vs : List V} {xs : List PV} {ps : List Addr} {σ : L2.St} {ρ ρ' : Envi} {D' : DS}, Sti as0 as K G0 H0 G H σ ρ D → TrXs as K G H os vs xs ps → (∀ p ∈ ps, Av p σ ρ ∧ H0 p = none) →
    storeT Φ (nms is) os xs ρ D = some (ρ', D') → D' = D ∧ Sti as0 as K G0 H0 G H (setN σ is vs) ρ' D
  | [], _, _, _, _, σ, ρ, ρ', D', S, .nil, _, h => by
    have h' : some (ρ, D) = some (ρ', D') := h
    cases h'
    exact ⟨rfl, S⟩
  | [], _, _, _, _, σ, ρ, ρ', D', S, .val _ _, _, h => by cases h
  | [], _, _, _, _, σ, ρ, ρ', D', S, .own _ _ _ _ _, _, h => by cases h
  | _ :: _, _, _, _, _, σ, ρ, ρ', D', S, .nil, _, h => by cases h
  | i :: is, _, _, _, _, σ, ρ, ρ', D', S, .val (v := v) (x := x) (os := os) (xs := xs) t r, ha, h => by
    have h' : storeT Φ (nms is) os xs (ρ.set i (some (false, x))) D = some (ρ', D') := h
    have r2 := Sti.putN (is := is) (σ := σ.set i (some v)) (ρ := ρ.set i (some (false, x))) (S.put i t) r (fun p hp => ⟨(ha p hp).1.set i (o := false) (x := x) (fun z => absurd z (by decide)), (ha p hp).2⟩) h'
    exact r2
  | i :: is, _, _, _, _, σ, ρ, ρ', D', S, .own (p := p) (x := x) (os := os) (xs := xs) hG hm ow n r, ha, h => by
    have h' : storeT Φ (nms is) os xs (ρ.set i (some (true, x))) D = some (ρ', D') := h
    have hp := ha p List.mem_cons_self
    have r2 := Sti.putN (is := is) (σ := σ.set i (some (.ref p))) (ρ := ρ.set i (some (true, x))) (S.putO i hp.2 hG hm ow hp.1) r (fun q hq => ⟨(ha q (List.mem_cons_of_mem _ hq)).1.set i (fun _ z => n (by have e := V.ref.inj z; rw [e]; exact hq)), (ha q (List.mem_cons_of_mem _ hq)).2⟩) h'
    exact r2
theorem par_ok {K : PySem.W.Frag} {is : List Nat} {os : List Bool} {cs : CEs} {E : Ends} {σ : L2.St} {H : Hp} {R : List V → Hp → Prop} (h : sS K Φ (.par (nms is) os cs) E σ H)
    (hR : ∀ as0 as as' G0 H0 G1 H1 ρ xs vs ps D1, Sti as0 as K G0 H0 G1 H1 σ ρ D1 → TrXs as K G1 H1 os vs xs ps → vs.length = cs.len → (∀ p ∈ ps, Av p σ ρ ∧ H0 p = none) → (∀ G2 H2, Le G1 G2 → Sti as0 as K G0 H0 G2 H2 σ ρ D1 → TrXs as K G2 H2 os vs xs ps → E.nx (setN σ is vs) H2) → as' = as → R vs H1) : tX K Φ os cs σ H R := by
  obtain ⟨as0, G0, H0, as, G, ρ, D, o, ρ', D', S, ee, f⟩ := h
  obtain ⟨⟨xs, D1⟩, e1, ee⟩ := Option.bind_eq_some_iff.mp (show (evs Φ cs ρ D).bind (fun r => (storeT Φ (nms is) os r.1 ρ r.2).map fun q => (Out.nx, q.1, q.2)) = some (o, ρ', D') from ee)
  obtain ⟨⟨ρ2, D2⟩, e2, ee⟩ := Option.map_eq_some_iff.mp ee
  cases ee
  refine ⟨as, G, ρ, D, xs, D1, S.w, S.r, e1, fun vs ps G1 H1 st1 w1 t1 hn => ?_⟩
  have S1 := S.adv st1 w1
  have ha : ∀ p ∈ ps, Av p σ ρ ∧ H0 p = none := fun p hp => ⟨S.r.av (hn p hp), S.none0 (hn p hp)⟩
  refine hR as0 as as G0 H0 G1 H1 ρ xs vs ps D1 S1 t1 (by rw [t1.len, evs_len e1]) ha (fun G2 H2 l S2 t2 => ?_) rfl
  obtain ⟨e3, S3⟩ := Sti.putN S2 t2 ha e2
  subst e3
  exact f as _ G2 H2 (.same (st1.le.trans l)) S3
section
variable {i j l : Nat} {x y z : Str} {px py pz pt pt2 : Pos} {kt k2 : Nat} {d : Expr} {cs : CEs} {os : List Bool}
theorem s_par2 (g : Gd T Φ N sc X) (hi : N[i]? = some x) (hj : N[j]? = some y) (hx : sc.names.lookup x = some .local) (hy : sc.names.lookup y = some .local) (ha : PX_ Φ X [a, b] os cs)
    (hw : swappedStores [.Tuple [.Name x px, .Name y py] kt pt] (.Tuple [a, b] k2 pt2) X.env = pure (some [x, y]))
    (hij : i ≠ j := by decide) (hl : cs.len = 2 := by rfl) (hs : swapsWithSole [.Tuple [.Name x px, .Name y py] kt pt] (.Tuple [a, b] k2 pt2) pos.line X.env = pure false := by rfl) :
    PS_ Φ X (.Assign [.Tuple [.Name x px, .Name y py] kt pt] (.Tuple [a, b] k2 pt2) pos) (.par (nms [i, j]) os cs) :=
  ps_imp (ps_par g.calm (by rw [g.n]; exact g.nd) (by rw [g.n]; exact hi) (by rw [g.n]; exact hj) hij (by rw [g.sc]; exact hx) (by rw [g.sc]; exact hy) ha hw hs) fun E σ H h => by
    refine par_ok h fun as0 as as' G0 H0 G1 H1 ρ xs vs ps D1 S t hlen hav fin _ => ?_
    rw [hl] at hlen
    match vs, hlen with
    | [v, w], _ => exact ⟨v, w, rfl, fin G1 H1 (Le.refl _) S t⟩
theorem s_par3 (g : Gd T Φ N sc X) (hi : N[i]? = some x) (hj : N[j]? = some y) (hl' : N[l]? = some z) (hx : sc.names.lookup x = some .local) (hy : sc.names.lookup y = some .local) (hz : sc.names.lookup z = some .local) (ha : PX_ Φ X [a, b, d] os cs)
    (hw : swappedStores [.Tuple [.Name x px, .Name y py, .Name z pz] kt pt] (.Tuple [a, b, d] k2 pt2) X.env = pure (some [x, y, z]))
    (hij : i ≠ j := by decide) (hil : i ≠ l := by decide) (hjl : j ≠ l := by decide) (hl : cs.len = 3 := by rfl) (hs : swapsWithSole [.Tuple [.Name x px, .Name y py, .Name z pz] kt pt] (.Tuple [a, b, d] k2 pt2) pos.line X.env = pure false := by rfl) :
    PS_ Φ X (.Assign [.Tuple [.Name x px, .Name y py, .Name z pz] kt pt] (.Tuple [a, b, d] k2 pt2) pos) (.par (nms [i, j, l]) os cs) :=
  ps_imp (ps_par3 g.calm (by rw [g.n]; exact g.nd) (by rw [g.n]; exact hi) (by rw [g.n]; exact hj) (by rw [g.n]; exact hl') hij hil hjl (by rw [g.sc]; exact hx) (by rw [g.sc]; exact hy) (by rw [g.sc]; exact hz) ha hw hs) fun E σ H h => by
    refine par_ok h fun as0 as as' G0 H0 G1 H1 ρ xs vs ps D1 S t hlen hav fin _ => ?_
    rw [hl] at hlen
    match vs, hlen with
    | [v, w, u], _ => exact ⟨v, w, u, rfl, fin G1 H1 (Le.refl _) S t⟩
/-! the tuple built, then taken apart -/
def gNames : List Nat → TGs
  | [] => gNil
  | i :: r => gCons (gName i) (gNames r)
abbrev PN_ (X : Cx) (es : List Expr) (is : List Nat) : Prop := PGs X es (gNames is)
theorem n_nil : PN_ X [] [] := pgs_nil
theorem n_cons {es : List Expr} {is : List Nat} (g : Gd T Φ N sc X) (hi : N[i]? = some x) (hx : Loc sc x) (h2 : PN_ X es is) (hf : X.fn x = true ∨ sc.names.lookup x = some .local := by first | exact .inl rfl | exact .inr rfl | assumption)
    (hs : (assignEach (.Name x px :: es) X.env).map (·.2) = assign (.Name x px) X.env :: (assignEach es X.env).map (·.2) := by rfl) : PN_ X (.Name x px :: es) (i :: is) :=
  pgs_cons (pg_name (by rw [g.n]; exact g.nd) (by rw [g.n]; exact hi) (by rw [g.sc]; exact hx) (by rw [g.sc]; exact hf)) h2 hs
theorem gNames_ok : ∀ {is : List Nat} {vs : List V} {σ : L2.St} {H : Hp} {Q : L2.St → Hp → Prop}, vs.length = is.length → Q (setN σ is vs) H → gNames is vs σ H Q
  | [], [], σ, H, Q, _, q => ⟨rfl, q⟩
  | [], _ :: _, _, _, _, h, _ => by cases h
  | _ :: _, [], _, _, _, h, _ => by cases h
  | i :: is, v :: vs, σ, H, Q, h, q => ⟨v, vs, rfl, gNames_ok (Nat.succ.inj h) q⟩
theorem s_parN {es ts : List Expr} {is : List Nat} (g : Gd T Φ N sc X) (ht : PN_ X ts is) (ha : PX_ Φ X es os cs)
    (hlen : cs.len = is.length := by rfl) (hlim : cs.len ≤ LIM := by decide) (hn : (assignEach ts X.env).length = is.length := by rfl) (hst : (assignEach ts X.env).findIdx? (·.1) = none := by rfl)
    (hs : swapsWithSole [.Tuple ts kt pt] (.Tuple es k2 pt2) pos.line X.env = pure false := by rfl) (hw : swappedStores [.Tuple ts kt pt] (.Tuple es k2 pt2) X.env = pure none := by rfl)
    (h1 : (assignEach [.Tuple ts kt pt] X.env).map (·.2) = [assign (.Tuple ts kt pt) X.env] := by rfl) :
    PS_ Φ X (.Assign [.Tuple ts kt pt] (.Tuple es k2 pt2) pos) (.par (nms is) os cs) :=
  ps_imp (ps_asg (pe_tup ha) (pg_tup (n := is.length) g.calm ht hn hst) hs hw h1) fun E σ H h => by
    refine par_ok h fun as0 as as' G0 H0 G1 H1 ρ xs vs ps D1 S t hl2 hav fin _ => ?_
    refine ⟨by rw [hl2]; exact line_lim hlim, fun p hp => ?_⟩
    have st2 : Stp as G1 H1 G1 (upd H1 p (.tup vs)) := Stp.own hp
    refine ⟨p, vs, rfl, .of upd_same, by rw [hl2, hlen], gNames_ok (by rw [hl2, hlen]) (fin G1 _ (Le.refl _) (S.adv st2 (S.w.ownp hp)) (t.up st2))⟩
end
/-! ### name = [..] on one line -/
section
variable {i : Nat} {y : Str} {py spos : Pos} {elt iter : Expr} {ifs : List Expr} {scope : Scope} {own : List (Str × Nat)} {ce : CE} {pt : Pat} {ci : CI} {ct : CEs}
theorem s_lc1 (g : Gd T Φ N sc X) (hi0 : N[i]? = some y) (hyl : sc.names.lookup y = some .local)
    (hb : blkC N sc scope own = true) (hi : PJ_ Φ X tg iter ci) (hsl : ∀ i ∈ pt.slots, i ∈ own.map (·.2))
    (hp : ∀ (s : Shared) (H : Hp) (C : Addr) (cl : List (Str × Addr)) (fp : List Addr), PP_ (X.blk s H scope (compEnvC scope cl C X.env) fp) tg pt)
    (ht : ∀ (s : Shared) (H : Hp) (C : Addr) (cl : List (Str × Addr)) (fp : List Addr), PTs_ Φ (X.blk s H scope (compEnvC scope cl C X.env) fp) ifs ct)
    (he : ∀ (s : Shared) (H : Hp) (C : Addr) (cl : List (Str × Addr)) (fp : List Addr), PV_ Φ (X.blk s H scope (compEnvC scope cl C X.env) fp) elt ce)
    (hk : X.env.scope.kind = .function) (hl : (py.line == pos.line) = true := by rfl)
    (hna : (scope.names.any fun (n, k) => n == y && (k == .local || k == .cell)) = false := by decide +kernel) (hs : ∀ x, foldedSetIterable iter X.env x = pure x := by intro _; rfl) :
    PS X (.Assign [.Name y py] (.ListComp elt [⟨tg, iter, ifs, 0⟩] scope pos) spos) (tAsg (tF X.K Φ (.lc1 (own.map (·.2)) ce pt ci ct)) (gName i)) := by
  refine ps_imp (ps_setLc (i := i) (wi := tJ X.K Φ ci) (g := tP X.K pt) (tt := tTs X.K Φ ct) (te := tE X.K Φ ce) g.calm (by rw [g.n]; exact g.nd) (by rw [g.n]; exact hi0) (by rw [g.sc]; exact hyl)
    (sw_true hk (by rw [g.sc]; exact hyl) hl hna) hi (by rw [g.n, g.sc]; exact blkOk_by hb) hp ht he hs) fun E σ H h => lc1_imp hsl h
theorem s_lc2 {tg2 iter2 : Expr} {ifs2 : List Expr} {pt2 : Pat} {ci2 : CI} {ct2 : CEs} {own2 : List Nat} (g : Gd T Φ N sc X) (hi0 : N[i]? = some y) (hyl : sc.names.lookup y = some .local)
    (hb : blkC N sc scope own = true) (hi : PJ_ Φ X tg iter ci) (hsl : ∀ i ∈ pt.slots, i ∈ own.map (·.2)) (hsl2 : ∀ i ∈ pt2.slots, i ∈ own2) (ho2 : ∀ i ∈ own2, i ∈ own.map (·.2))
    (hp : ∀ (s : Shared) (H : Hp) (C : Addr) (cl : List (Str × Addr)) (fp : List Addr), PP_ (X.blk s H scope (compEnvC scope cl C X.env) fp) tg pt)
    (ht : ∀ (s : Shared) (H : Hp) (C : Addr) (cl : List (Str × Addr)) (fp : List Addr), PTs_ Φ (X.blk s H scope (compEnvC scope cl C X.env) fp) ifs ct)
    (hi2 : ∀ (s : Shared) (H : Hp) (C : Addr) (cl : List (Str × Addr)) (fp : List Addr), PI_ Φ (X.blk s H scope (compEnvC scope cl C X.env) fp) tg2 iter2 ci2)
    (hp2 : ∀ (s : Shared) (H : Hp) (C : Addr) (cl : List (Str × Addr)) (fp : List Addr), PP_ (X.blk s H scope (compEnvC scope cl C X.env) fp) tg2 pt2)
    (ht2 : ∀ (s : Shared) (H : Hp) (C : Addr) (cl : List (Str × Addr)) (fp : List Addr), PTs_ Φ (X.blk s H scope (compEnvC scope cl C X.env) fp) ifs2 ct2)
    (he : ∀ (s : Shared) (H : Hp) (C : Addr) (cl : List (Str × Addr)) (fp : List Addr), PV_ Φ (X.blk s H scope (compEnvC scope cl C X.env) fp) elt ce)
    (hk : X.env.scope.kind = .function) (hl : (py.line == pos.line) = true := by rfl)
    (hna : (scope.names.any fun (n, k) => n == y && (k == .local || k == .cell)) = false := by decide +kernel) (hs : ∀ x, foldedSetIterable iter X.env x = pure x := by intro _; rfl) (hs1 : ∀ env x, foldedSetIterable iter2 env x = pure x := by intro _ _; rfl) :
    PS X (.Assign [.Name y py] (.ListComp elt [⟨tg, iter, ifs, 0⟩, ⟨tg2, iter2, ifs2, 0⟩] scope pos) spos) (tAsg (tF X.K Φ (.lc2 (own.map (·.2)) ce pt ci ct own2 pt2 ci2 ct2)) (gName i)) := by
  refine ps_imp (ps_setLc2 (i := i) (wi := tJ X.K Φ ci) (g := tP X.K pt) (tt := tTs X.K Φ ct) (wi1 := tI X.K Φ ci2) (g1 := tP X.K pt2) (tt1 := tTs X.K Φ ct2) (te := tE X.K Φ ce) (vs1 := own2) g.calm (by rw [g.n]; exact g.nd) (by rw [g.n]; exact hi0) (by rw [g.sc]; exact hyl)
    (sw_true hk (by rw [g.sc]; exact hyl) hl hna) hi (by rw [g.n, g.sc]; exact blkOk_by hb) ho2 hp ht hi2 hp2 ht2 he hs hs1) fun E σ H h => lc2_imp hsl hsl2 h
/-- .. kept by the slot; told at once -/
theorem s_ofF {st : Stmt} {i : Nat} {c : CE} (h : PS X st (tAsg (tF X.K Φ c) (gName i))) : PS_ Φ X st (.asg true i c) := ps_imp h fun _ _ _ h => asg_f h
theorem s_ofS {st : Stmt} {i : Nat} {c : CE} (h : PS X st (tAsg (tF X.K Φ c) (gName i))) : PS_ Φ X st (.asgS i c) := ps_imp h fun _ _ _ h => asg_s h
theorem asg_told {K : PySem.W.Frag} {i : Nat} {c : CE} {E : Ends} {σ : L2.St} {H : Hp} (h : sS K Φ (.asg false i c) E σ H) : tAsg (tF K Φ c) (gName i) E σ H := by
  obtain ⟨as0, G0, H0, as, G, ρ, D, o, ρ', D', S, ee, f⟩ := h
  obtain ⟨⟨x, D1⟩, e1, ee⟩ := Option.map_eq_some_iff.mp (show (ev Φ c ρ D).map (fun r => (Out.nx, ρ.set i (some (false, r.1)), r.2)) = some (o, ρ', D') from ee)
  cases ee
  refine ⟨as, G, ρ, D, x, D1, S.w, S.r, e1, fun p G' H' st w' hp hG ow => ?_⟩
  obtain ⟨G2, l, tw, w2, t⟩ := tell_own w' hG (fun m => S.w.some m hp) ow
  have st2 : Stp as G H G2 H' := ⟨st.le.trans l, fun b hb => by
    rcases tw b hb with z | z
    · exact st.nw b z
    · subst z; exact .inr hp, st.kp, st.sm⟩
  exact f as _ G2 H' (.same st2.le) ((S.adv st2 w2).put i t)
theorem s_ofV {st : Stmt} {i : Nat} {c : CE} (h : PS X st (tAsg (tF X.K Φ c) (gName i))) : PS_ Φ X st (.asg false i c) := ps_imp h fun _ _ _ h => asg_told h
end
end
end MP

/-! MP fn: every def keeps its evaluator's promise. -/
namespace MP
open PySem PySem.Spec PyProof.Rows L2

section
variable {as : List Addr} {K : PySem.W.Frag} {G H : Hp}
theorem noShr_shr {n j : Nat} : noShr n (.shr j) = false := by cases n <;> rfl
theorem noShr_lck {n : Nat} {x : PV} : noShr n (.lck x) = false := by cases n <;> rfl
mutual
theorem Tr.less {more : List Addr} : ∀ {n : Nat} {v : V} {x : PV}, Tr (as ++ more) K G v x → noShr n x = true → Tr as K G v x
  | _, _, _, .non, _ => .non
  | _, _, _, .bl b, _ => .bl b
  | _, _, _, .int i, _ => .int i
  | _, _, _, .str s, _ => .str s
  | 0, _, _, .tup _ _, h => by cases h
  | 0, _, _, .lst _ _, h => by cases h
  | 0, _, _, .dK _ _, h => by cases h
  | 0, _, _, .dT _ _, h => by cases h
  | n + 1, _, _, .tup (xs := xs) g t, h => .tup g (TrS.less t (show xs.all (noShr n) = true from h))
  | n + 1, _, _, .lst (xs := xs) g t, h => .lst g (TrS.less t (show xs.all (noShr n) = true from h))
  | n + 1, _, _, .dK (kvs := kvs) g t, h => .dK g (TrK.less t (show (kvs.all fun p => noShr n p.1 && noShr n p.2) = true from h))
  | n + 1, _, _, .dT (kvs := kvs) g t, h => .dT g (TrT.less t (show (kvs.all fun p => noShr n p.1 && noShr n p.2) = true from h))
  | _, _, _, .shr _, h => by rw [noShr_shr] at h; cases h
  | _, _, _, .scr g, _ => .scr g
theorem TrS.less {more : List Addr} : ∀ {n : Nat} {v : List V} {x : List PV}, TrS (as ++ more) K G v x → x.all (noShr n) = true → TrS as K G v x
  | _, _, _, .nil, _ => .nil
  | n, _, _, .cons h t, s => by
    rw [List.all_cons, Bool.and_eq_true] at s
    exact .cons (Tr.less h s.1) (TrS.less t s.2)
theorem TrK.less {more : List Addr} : ∀ {n : Nat} {v : List (Key × V)} {x : List (PV × PV)}, TrK (as ++ more) K G v x → (x.all fun p => noShr n p.1 && noShr n p.2) = true → TrK as K G v x
  | _, _, _, .nil, _ => .nil
  | n, _, _, .cons h t, s => by
    rw [List.all_cons, Bool.and_eq_true, Bool.and_eq_true] at s
    exact .cons (Tr.less h s.1.2) (TrK.less t s.2)
theorem TrT.less {more : List Addr} : ∀ {n : Nat} {v : List (List Key × V)} {x : List (PV × PV)}, TrT (as ++ more) K G v x → (x.all fun p => noShr n p.1 && noShr n p.2) = true → TrT as K G v x
  | _, _, _, .nil, _ => .nil
  | n, _, _, .cons h t, s => by
    rw [List.all_cons, Bool.and_eq_true, Bool.and_eq_true] at s
    exact .cons (Tr.less h s.1.2) (TrT.less t s.2)
end
theorem OwnS.less {more : List Addr} {a : Addr} {x : PV} (h : OwnS (as ++ more) K G H a x) (hn : noShr DEP x = true) : OwnS as K G H a x := by
  have e : DEP = 19 + 1 := rfl
  rw [e] at hn
  cases x with
  | lck y => rw [noShr_lck] at hn; cases hn
  | lst xs =>
    obtain ⟨vs, h1, h2⟩ := h
    exact ⟨vs, h1, h2.less (show xs.all (noShr 19) = true from hn)⟩
  | dct t kvs =>
    rcases h with ⟨e, ks, h1, h2⟩ | ⟨e, ks, h1, h2⟩
    · exact .inl ⟨e, ks, h1, h2.less (show (kvs.all fun p => noShr 19 p.1 && noShr 19 p.2) = true from hn)⟩
    · exact .inr ⟨e, ks, h1, h2.less (show (kvs.all fun p => noShr 19 p.1 && noShr 19 p.2) = true from hn)⟩
  | _ => exact absurd h id
theorem Wd.less {more : List Addr} {D D0 : DS} (w : Wd (as ++ more) K G H D) (hl : as.length = D0.length) (hn : (D.take D0.length).all (noShr DEP) = true) : Wd as K G H (D.take D0.length) where
  sub := w.sub
  nd := (List.nodup_append.mp w.nd).1
  len := by
    have := w.len
    rw [List.length_append] at this
    rw [List.length_take]
    omega
  off := fun a h => w.off a (List.mem_append_left _ h)
  sh := fun j a x h1 h2 => by
    have hj : j < as.length := (List.getElem?_eq_some_iff.mp h1).1
    have h3 : D[j]? = Option.some x := by
      rw [List.getElem?_take] at h2
      split at h2
      · exact h2
      · cases h2
    exact (w.sh j a x (by rw [List.getElem?_append_left hj]; exact h1) h3).less (List.all_eq_true.mp hn x (List.mem_of_getElem? h2))
end
/-- a def of the text, and its core -/
structure DefOk (T : Tb) (defs : List Def) (K : PySem.W.Frag) (mg : Str → Option Value) (g : Nat) (x : Str) (m : Nat) : Prop where
  ex : ∃ (f : Addr) (fd : FuncData) (ps N : List Str) (qual : Str) (params : Arguments) (body : List Stmt) (scope : Scope) (kws : List (Str × V)) (cs : CSs),
    mg x = some (.ref f) ∧ FunD K x qual params body scope [] kws f fd ∧ Binds K fd ps [] ∧ FnScope N ps scope ∧ ps.length = m ∧ defs[g]? = some ⟨N.length, m, cs⟩ ∧ ∀ (Φ : Fns) (X : Cx), Gd T Φ N scope X → (∀ x, X.fn x = true) → PSs_ Φ X body cs
def Alls (T : Tb) (defs : List Def) (P : Program) (w : World) (K : PySem.W.Frag) (mg : Str → Option Value) (base : Heap) (n : Nat) : Prop :=
  ∀ (g : Nat) (x : Str) (m : Nat), T.fns[g]? = some (x, m) → ∃ (f : Addr) (fd : FuncData) (ps : List Str), mg x = some (.ref f) ∧ PySem.W.keepIn K (.ref f) = true ∧ Binds K fd ps [] ∧ FnOk P w K mg base CX0 n f fd ps (spOf K (sem defs n g) m)
theorem start_get {N : List Str} {vs : List V} {i : Nat} {v : V} (h : vs[i]? = some v) : (L2.start N vs)[i]? = some (some v) := by
  unfold L2.start
  have hl : i < vs.length := (List.getElem?_eq_some_iff.mp h).1
  rw [List.getElem?_append_left (by simpa using hl), List.getElem?_map, h]
  rfl
theorem run_ok {T : Tb} {Φ : Fns} {K : PySem.W.Frag} {N ps : List Str} {cs : CSs} {H : Hp} {Q : VK} {vs : List V} (hN : ps.length ≤ N.length) {as : List Addr} {G : Hp} {D D' : DS} {xs : List PV} {r : PV} (w : Wd as K G H D) (t : TrS as K G vs xs) (hl : vs.length = ps.length)
    (e : (Def.mk N.length ps.length cs).run Φ xs D = some (r, D')) (f : ∀ v G' H', Stp as G H G' H' → Wd as K G' H' D' → Tr as K G' v r → Q v H') : sSs K Φ cs { nx := fun _ H' => Q .non H', rt := Q } (L2.start N vs) H := by
  have hx : xs.length = ps.length := by rw [← t.len]; exact hl
  unfold Def.run at e
  rw [if_pos hx] at e
  obtain ⟨⟨o, ρ', D1⟩, e1, e⟩ := Option.bind_eq_some_iff.mp e
  obtain ⟨x, e2, e⟩ := Option.bind_eq_some_iff.mp e
  have none_own : ∀ {i : Nat} {y : PV}, (xs.map (fun x => some (false, x)) ++ List.replicate (N.length - ps.length) (none : Option (Bool × PV)))[i]? ≠ some (some (true, y)) := fun {i y} h => by
    have hm := List.mem_of_getElem? h
    rcases List.mem_append.mp hm with hm | hm
    · obtain ⟨z, _, e⟩ := List.mem_map.mp hm
      cases e
    · cases (List.mem_replicate.mp hm).2
  refine ⟨as, G, H, as, G, _, D, o, ρ', D1, ⟨⟨[], by simp⟩, fun a h => .inl h, w, ⟨?_, fun i y h => ?_, fun i y h => absurd h none_own, fun i j y z a h _ _ _ => absurd h none_own⟩, fun i y a h _ => absurd h none_own, Stp.refl _ _ _, fun i y a h _ => absurd h none_own⟩, e1, fun as' σ' G' H' n S => ?_⟩
  · unfold L2.start
    simp only [List.length_append, List.length_map, List.length_replicate]
    rw [t.len, hx]
  · have hi : i < xs.length := by
      by_cases hi : i < xs.length
      · exact hi
      · rw [List.getElem?_append_right (by simpa using hi)] at h
        have := List.mem_of_getElem? h
        cases (List.mem_replicate.mp this).2
    rw [List.getElem?_append_left (by simpa using hi), List.getElem?_map] at h
    obtain ⟨z, hz, ez⟩ := Option.map_eq_some_iff.mp h
    cases ez
    obtain ⟨v, hv, tv⟩ := t.get hz
    exact ⟨v, start_get hv, tv⟩
  · obtain ⟨⟨more, em⟩, l⟩ := n
    subst em
    have fin : ∀ v, Tr (as ++ more) K G' v x → Q v H' := fun v tv => by
      have e : (if D1.length = D.length then some (x, D1) else if (noShr DEP x && (D1.take D.length).all (noShr DEP)) = true then some (x, D1.take D.length) else none) = some (r, D') := e
      split at e
      · rename_i hlen
        cases e
        have : more = [] := by
          have h1 := S.w.len
          have h2 := w.len
          rw [List.length_append] at h1
          exact List.length_eq_zero_iff.mp (by omega)
        subst this
        have w' := S.w
        rw [List.append_nil] at w' tv
        exact f v G' H' S.st w' tv
      · split at e
        · rename_i hn
          rw [Bool.and_eq_true] at hn
          cases e
          exact f v G' H' S.st (S.w.less w.len hn.2) (tv.less hn.1)
        · cases e
    cases o with
    | nx =>
      cases e2
      exact fin .non .non
    | rt y =>
      cases e2
      exact fin
    | bk => cases e2
    | ct => cases e2
theorem all_fn {T : Tb} {defs : List Def} {P : Program} {w : World} {K : PySem.W.Frag} {mg : Str → Option Value} {base : Heap}
    (hd : ∀ (g : Nat) (x : Str) (m : Nat), T.fns[g]? = some (x, m) → DefOk T defs K mg g x m) (hfr : ∀ (j : Nat) (x : Str), T.fr[j]? = some x → mg x = none)
    (hcs : ∀ (j : Nat) (x s : Str), T.cs[j]? = some (x, s) → ∃ t, mg x = some (.str s t)) : ∀ n, Alls T defs P w K mg base n
  | 0 => fun g x m h => by
    obtain ⟨f, fd, ps, N, qual, params, body, scope, kws, cs, h1, F, b, S, hm, _, _⟩ := (hd g x m h).ex
    exact ⟨f, fd, ps, h1, F.kp, b, ⟨fun vs H Q E q => by rw [q.1, hm], fun A outer s H args us vs Q E hr e0 hb hv ⟨_, as, G, D, xs, r, D', _, _, z, _⟩ => by cases z⟩⟩
  | n + 1 => fun g x m h => by
    have ih := all_fn hd hfr hcs n (P := P) (w := w) (base := base)
    obtain ⟨f, fd, ps, N, qual, params, body, scope, kws, cs, h1, F, b, S, hm, e, hb⟩ := (hd g x m h).ex
    refine ⟨f, fd, ps, h1, F.kp, b, F.ok S (fun vs H Q E q => by rw [q.1, hm]) fun cdv A outer s H vs Q E hr ⟨hlen, as, G, D, xs, r, D', wd, t, er, fin⟩ => ⟨sSs K (sem defs n) cs, PSs.nox (hb _ _ ?_ fun _ => rfl), ?_⟩⟩
    · exact ⟨rfl, rfl, S.nd, rfl, rfl, by have := hr.un; show (A.deeper _).units + 65 < cLine; omega, fun g' x' m' h' => by
        obtain ⟨f', fd', ps', q1, q2, q3, q4⟩ := ih g' x' m' h'
        exact ⟨n, f', fd', ps', q1, q2, q3, hr, q4⟩, hfr, hcs⟩
    · have er' : (defs[g]?).bind (fun d => d.run (sem defs n) xs D) = some (r, D') := er
      rw [e] at er'
      subst hm
      have hpl : ps.length ≤ N.length := by have := congrArg List.length S.pre; rw [List.length_take] at this; omega
      exact run_ok (T := T) hpl wd t hlen er' fin
end MP

/-! MP me: isinstance, slices, d.get, displays of dicts, stores with an operator. -/
namespace MP
open PySem PySem.Spec PyProof.Rows L2

/-! ### isinstance -/
def tyS : Ty → String
  | .tint => "int" | .tbool => "bool" | .ttup => "tuple" | .tstr => "str" | .tlst => "list" | .tdct => "dict"
def tyN : PV → String
  | .non => "NoneType" | .bl _ => "bool" | .int _ => "int" | .str _ => "str" | .tup _ => "tuple" | .lst _ => "list" | .dct _ _ => "dict" | _ => ""
theorem kit_M {K : PySem.W.Frag} {t : Ty} {x : PV} {b : Bool} (h : pIs t x = some b) : PySem.W.kitOne K (.type (tyN x)) (.type (tyS t)) = some b := by
  cases t <;> cases x <;> first | (cases h; done) | (cases h; exact kit_ty (by dsimp only [tyN, tyS]; decide +kernel))
section
variable {X : Cx}
theorem kit_tr {pins : List (Addr × Obj)} {s : Shared} {σ : L2.St} {H : Hp} {as : List Addr} {G : Hp} {D : DS} {v : V} {u : Value} {x : PV} {t : Ty} {b : Bool} (I : Inv X pins σ H s) (w : Wd as X.K G H D) (r : TrR as X.K G H v x) (ru : RelV v u) (h : pIs t x = some b) :
    ∃ P : Heap → Prop, PySem.W.KitX X.K u (.type (tyN x)) P ∧ P s.heap ∧ u ≠ .builtin "__main__.__loader__#opaque" := by
  cases x with
  | non => have := r.non; subst this; cases (show u = Value.none from ru); exact ⟨_, PySem.W.kitx_none, True.intro, fun z => nomatch z⟩
  | bl y => have := r.bl; subst this; cases (show u = Value.bool y from ru); exact ⟨_, PySem.W.kitx_bool, True.intro, fun z => nomatch z⟩
  | int i => have := r.int; subst this; obtain ⟨t, q⟩ := (show ∃ t, u = Value.int i t from ru); cases q; exact ⟨_, PySem.W.kitx_int, True.intro, fun z => nomatch z⟩
  | str y => have := r.str; subst this; obtain ⟨t, q⟩ := (show ∃ t, u = Value.str y t from ru); cases q; exact ⟨_, PySem.W.kitx_str, True.intro, fun z => nomatch z⟩
  | tup xs =>
    obtain ⟨a, vs, rfl, h1, _, _⟩ := r.tup w
    cases (show u = Value.ref a from ru)
    obtain ⟨_, _, _, o, h1, h2, _⟩ := (show ObjOk X.prog X.w H s.heap a (.tup vs) from I.hok a _ h1)
    exact ⟨_, PySem.W.kitx_tuple, ⟨o, h1, h2⟩, fun z => nomatch z⟩
  | lst xs =>
    obtain ⟨a, vs, rfl, h1, _⟩ := r.lst w
    cases (show u = Value.ref a from ru)
    obtain ⟨_, _, n, _, h1⟩ := (show ObjOk X.prog X.w H s.heap a (.lst vs) from I.hok a _ h1)
    exact ⟨_, PySem.W.kitx_list, ⟨_, h1, rfl⟩, fun z => nomatch z⟩
  | dct n kvs =>
    rcases r.dct w with ⟨_, a, ks, rfl, h1, _⟩ | ⟨_, a, ks, rfl, h1, _⟩
    · cases (show u = Value.ref a from ru)
      obtain ⟨_, _, vs, _, o, es, ep, h1, h2, _⟩ := (show ObjOk X.prog X.w H s.heap a (.dK ks) from h1.ok I.hok)
      exact ⟨_, PySem.W.kitx_dict, ⟨o, h1, h2.1⟩, fun z => nomatch z⟩
    · cases (show u = Value.ref a from ru)
      obtain ⟨_, _, xs, _, o, es, ep, h1, h2, _⟩ := (show ObjOk X.prog X.w H s.heap a (.dT ks) from h1.ok I.hok)
      exact ⟨_, PySem.W.kitx_dict, ⟨o, h1, h2.1⟩, fun z => nomatch z⟩
  | shr j => cases t <;> cases h
  | scr j => cases t <;> cases h
  | lck j => cases t <;> cases h
def rIsiM (K : PySem.W.Frag) (t : Ty) : List V → Hp → VK → Prop := fun vs H Q => ∃ as G D v x b, vs = [v, .ty (tyS t)] ∧ Wd as K G H D ∧ TrR as K G H v x ∧ pIs t x = some b ∧ Q (.bl b) H
theorem call_isiM (t : Ty) : CallR X (.builtin "isinstance") (rIsiM X.K t) := by
  intro pins s σ H xs us Q I r ⟨as, G, D, v, x, b, e, w, tr, hb, q⟩
  subst e
  obtain ⟨u1, u2, rfl, r1, r2⟩ := vals2 r
  cases (show u2 = Value.type (tyS t) from r2)
  obtain ⟨P, Z, p, hx⟩ := kit_tr I w tr r1 hb
  exact PySem.W.kia_one Z I.kIn p (kit_M hb) hx fun tk => ⟨.bl b, H, I.tok tk, rfl, q⟩
end
section
variable {T : Tb} {Φ : Fns} {N : List Str} {sc : Scope} {X : Cx} {e a b tg k : Expr} {pos p p2 : Pos} {c ck ca cb : CE} {j j2 : Nat}
theorem v_isi {t : Ty} {y : Str} (g : Gd T Φ N sc X) (hg : sc.names.lookup ("isinstance" : Str) = some .globalImplicit) (hm : T.fr[j]? = some ("isinstance" : Str)) (hg2 : sc.names.lookup y = some .globalImplicit) (hm2 : T.fr[j2]? = some y) (hv : bootBuiltins y = some (.type (tyS t)))
    (ha : PO_ Φ X a ca) (hn : y ≠ "__name__" := by decide) (hd : (y == ("__debug__" : Str)) = false := by decide)
    (he : starEach [a, .Name y p2] X.env = (false, eval a X.env) :: starEach [.Name y p2] X.env := by rfl) (he2 : starEach [.Name y p2] X.env = (false, eval (.Name y p2) X.env) :: starEach [] X.env := by rfl) (hpl : (backTo pos (starEach [.Name y p2] X.env)).any (·.1) = false := by rfl) :
    PV_ Φ X (.Call (.Name "isinstance" p) [a, .Name y p2] [] pos) (.isi t ca) :=
  pe_imp (pe_callB (call_isiM t) (gl_of g hg) (g.fr j _ hm) boot_isinstance (pa_cons ha (pa_cons (pe_bltn (v := .ty (tyS t)) (gl_of g hg2) (g.fr j2 y hm2) hv rfl hn hd) pa_nil he2) he) (by decide) (by decide) he hpl) fun σ H Q ⟨as, G, ρ, D, y, D', w, r, ee, f⟩ => by
    obtain ⟨⟨x, D1⟩, e1, ee⟩ := Option.bind_eq_some_iff.mp ee
    obtain ⟨z, e2, ee⟩ := Option.map_eq_some_iff.mp ee
    cases ee
    exact ⟨as, G, ρ, D, x, _, w, r, e1, fun v G' H' st w' t1 => ⟨as, G', _, v, x, z, rfl, w', t1.r, e2, f _ G' H' st w' (.bl z)⟩⟩
/-! ### slices -/
def tPt (K : PySem.W.Frag) (Φ : Fns) (c : CEs) : TO := fun σ H Q => ∃ as G ρ D x D', Wd as K G H D ∧ Rp as K G H σ ρ ∧ evo Φ c ρ D = some (x, D') ∧ ∀ G' H', Stp as G H G' H' → Wd as K G' H' D' → Q x H'
abbrev PPt_ (Φ : Fns) (X : Cx) (e : Option Expr) (c : CEs) : Prop := PO X e (tPt X.K Φ c)
theorem po_imp {e : Option Expr} {t u : TO} (h : PO X e t) (i : ∀ σ H Q, u σ H Q → t σ H Q) : PO X e u := ⟨fun pins s σ H Q I q => h.run pins s σ H Q I (i _ _ _ q)⟩
theorem pt_none : PPt_ Φ X none .nil := po_imp po_none fun σ H Q ⟨as, G, ρ, D, y, D', w, r, ee, f⟩ => by
  have ee' : some (none, D) = some (y, D') := ee
  cases ee'
  exact f G H (Stp.refl _ _ _) w
theorem pt_some (h : PV_ Φ X e c) : PPt_ Φ X (some e) (.cons c .nil) := po_imp (po_some h) fun σ H Q ⟨as, G, ρ, D, y, D', w, r, ee, f⟩ => by
  obtain ⟨⟨x, D1⟩, e1, ee⟩ := Option.bind_eq_some_iff.mp (show (ev Φ c ρ D).bind (fun r => (intOf r.1).map fun i => (some i, r.2)) = some (y, D') from ee)
  obtain ⟨i, e2, ee⟩ := Option.map_eq_some_iff.mp ee
  cases ee
  have ex : x = .int i := by
    cases x <;> first | (cases e2; rfl) | cases e2
  subst ex
  refine ⟨as, G, ρ, D, _, _, w, r, e1, fun v G' H' st w' t => ?_⟩
  cases t
  exact ⟨i, rfl, f G' H' st w'⟩
theorem cutN_eq (n d : Nat) (o : Option Int) : cutN n d o = HT.sIx n d o := by
  cases o with
  | none => rfl
  | some i => simp only [cutN, HT.sIx]
theorem cutL_eq (xs : List V) (lo hi : Option Int) : cutL xs lo hi = cutV xs lo hi := by
  unfold cutL cutV
  rw [cutN_eq, cutN_eq]
def rSlM (K : PySem.W.Frag) : V → Option Int → Option Int → Hp → VK → Prop := fun x lo hi H Q => ∃ as G D px z, Wd as K G H D ∧ TrR as K G H x px ∧ pCut px lo hi = some z ∧ Fin_ as K G H D z Q
theorem sl_M : SlR X (rSlM X.K) := by
  intro pins s σ H x v vl vu lo hi sl Q I rx hs pl pu ⟨as, G, D, px, z, w, tx, e, f⟩
  cases px <;> try (cases e; done)
  case lst xs =>
    cases e
    obtain ⟨a, vs, rfl, h1, t1⟩ := tx.lst w
    refine sl_list pins s σ H _ v vl vu lo hi sl Q I rx hs pl pu ⟨a, vs, rfl, .of h1, fun p hp => ?_⟩
    rw [← cutL_eq]
    exact f.new w hp (.lst upd_same ((t1.cut lo hi).up (le_new (w.free hp))))
  case tup xs =>
    cases e
    obtain ⟨a, vs, rfl, h1, g1, t1⟩ := tx.tup w
    refine sl_tupA pins s σ H _ v vl vu lo hi sl Q I rx hs pl pu ⟨a, vs, rfl, .of h1, fun hw => ?_, fun _ p hp => ?_⟩
    · have e : cutL xs lo hi = xs := by
        unfold cutL
        rw [cutN_eq, cutN_eq, ← t1.len, hw.1, hw.2]
        rw [t1.len]
        simp
      rw [e] at f
      exact f.same w (.tup g1 t1)
    · rw [← cutL_eq]
      exact f.new w hp (.tup upd_same ((t1.cut lo hi).up (le_new (w.free hp))))
  case str y =>
    have e' : (if y.length ≤ LIM then some (PV.str ⟨(cutL y.cps.toList lo hi).toArray⟩) else none) = some z := e
    split at e'
    · rename_i hl
      cases e'
      have := tx.str
      subst this
      refine sl_str pins s σ H _ v vl vu lo hi sl Q I rx hs pl pu ⟨y, rfl, line_lim hl, ?_⟩
      have e2 : cutS y lo hi = ⟨(cutL y.cps.toList lo hi).toArray⟩ := by
        unfold cutS cutL
        rw [cutN_eq, cutN_eq]
        simp [Str.length]
      rw [e2]
      exact f.same w (.str _)
    · cases e'
theorem v_cut {lo hi : Option Expr} {cl cu : CEs} (ha : PO_ Φ X a ca) (hl : PPt_ Φ X lo cl) (hu : PPt_ Φ X hi cu) : PV_ Φ X (.Subscript a (.Slice lo hi none p2) pos) (.cut ca cl cu) :=
  pe_imp (pe_slice sl_M ha hl hu) fun σ H Q ⟨as, G, ρ, D, y, D', w, r, ee, f⟩ => by
    obtain ⟨⟨x, D1⟩, e1, ee⟩ := Option.bind_eq_some_iff.mp ee
    obtain ⟨⟨l, D2⟩, e2, ee⟩ := Option.bind_eq_some_iff.mp ee
    obtain ⟨⟨h, D3⟩, e3, ee⟩ := Option.bind_eq_some_iff.mp ee
    obtain ⟨z, e4, ee⟩ := Option.map_eq_some_iff.mp ee
    cases ee
    exact ⟨as, G, ρ, D, x, D1, w, r, e1, fun v1 G1 H1 st1 w1 t1 => ⟨as, G1, ρ, D1, l, D2, w1, r.up st1, e2, fun G2 H2 st2 w2 => ⟨as, G2, ρ, D2, h, _, w2, (r.up st1).up st2, e3, fun G3 H3 st3 w3 =>
      ⟨as, G3, _, x, _, w3, ((t1.up st2).up st3).r, e4, fun v G' H' st w' t => f v G' H' (((st1.trans st2).trans st3).trans st) w' t⟩⟩⟩⟩
/-- xs[::-1] of a list -/
theorem v_rev {q1 q2 q3 : Pos} {kk : Nat} (ha : PO_ Φ X a ca) (hl : True := True.intro) : PV_ Φ X (.Subscript a (.Slice none none (some (.UnaryOp .USub (.Constant (.int 1) kk q1) q2)) q3) pos) (.rev ca) :=
  pe_imp (pe_revL ha) fun σ H Q ⟨as, G, ρ, D, y, D', w, r, ee, f⟩ => by
    obtain ⟨⟨x, D1⟩, e1, ee⟩ := Option.bind_eq_some_iff.mp ee
    obtain ⟨z, e4, ee⟩ := Option.map_eq_some_iff.mp ee
    cases ee
    refine ⟨as, G, ρ, D, x, _, w, r, e1, fun v1 G1 H1 st1 w1 t1 => ?_⟩
    cases x with
    | lst xs =>
      cases e4
      obtain ⟨l, vs, rfl, h1, t2⟩ := t1.r.lst w1
      exact ⟨l, vs, rfl, .of h1, fun p hp => f _ _ _ (st1.trans (Stp.new hp (w1.free hp))) (w1.new hp) (.lst upd_same (t2.rev.up (le_new (w1.free hp))))⟩
    | _ => cases e4
/-! ### d.get -/
theorem isD_of {as : List Addr} {K : PySem.W.Frag} {G H : Hp} {D : DS} (w : Wd as K G H D) {v : V} {t : Nat} {kvs : List (PV × PV)} (h : TrR as K G H v (.dct t kvs)) : ∃ a, v = .ref a ∧ IsD H a := by
  rcases h.dct w with ⟨_, a, ks, rfl, h1, _⟩ | ⟨_, a, ks, rfl, h1, _⟩
  · exact ⟨a, rfl, .inl ⟨ks, h1⟩⟩
  · exact ⟨a, rfl, .inr ⟨ks, h1⟩⟩
theorem Stp.isD {as : List Addr} {K : PySem.W.Frag} {G H G' H' : Hp} {D : DS} : True := True.intro
/-- d.get(k, x): d a tree or a slot's own -/
theorem v_get2 {f : Expr} {cf : CE} {apos cpos : Pos} (g : Gd T Φ N sc X) (ha : PO_ Φ X a ca) (hk : PV_ Φ X k ck) (hf : PV_ Φ X f cf) (m : M2 X a "get" apos k f cpos) : PV_ Φ X (.Call (.Attribute a "get" apos) [k, f] [] cpos) (.met .get2 ca (.cons ck (.cons cf .nil))) :=
  pe_imp (pe_dget2 (by have := g.un; omega) ha hk hf m) fun σ H Q ⟨as, G, ρ, D, y, D', w, r, ee, fin⟩ => by
    obtain ⟨⟨x, D1⟩, e1, ee⟩ := Option.bind_eq_some_iff.mp ee
    obtain ⟨⟨xs, D2⟩, e2, ee⟩ := Option.bind_eq_some_iff.mp ee
    obtain ⟨z, e4, ee⟩ := Option.map_eq_some_iff.mp ee
    cases ee
    obtain ⟨⟨kx, D3⟩, e5, e6⟩ := Option.bind_eq_some_iff.mp (show (ev Φ ck ρ D1).bind (fun r => (evs Φ (.cons cf .nil) ρ r.2).map fun q => (r.1 :: q.1, q.2)) = some (xs, _) from e2)
    obtain ⟨⟨ys, D4⟩, e7, e8⟩ := Option.map_eq_some_iff.mp e6
    cases e8
    obtain ⟨⟨fx, D5⟩, e9, e10⟩ := Option.bind_eq_some_iff.mp (show (ev Φ cf ρ D3).bind (fun r => (evs Φ .nil ρ r.2).map fun q => (r.1 :: q.1, q.2)) = some (ys, _) from e7)
    obtain ⟨⟨zs, D6⟩, e11, e12⟩ := Option.map_eq_some_iff.mp e10
    have e11 : some (([] : List PV), D5) = some (zs, D6) := e11
    cases e11
    cases e12
    cases x with
    | dct t kvs =>
      have e4' : (if isKey t kx then some ((dGet kx kvs).getD fx) else none) = some _ := e4
      split at e4'
      · rename_i hkey
        cases e4'
        refine ⟨as, G, ρ, D, _, D1, w, r, e1, fun v1 G1 H1 st1 w1 t1 => ?_⟩
        obtain ⟨p, rfl, hd⟩ := isD_of w1 t1.r
        refine ⟨p, rfl, hd, as, G1, ρ, D1, kx, D3, w1, r.up st1, e5, fun v2 G2 H2 st2 w2 t2 => ⟨as, G2, ρ, D3, fx, _, w2, (r.up st1).up st2, e9, fun v3 G3 H3 st3 w3 t3 => ?_⟩⟩
        obtain ⟨q, o, eq, g', ho⟩ := dget_of w3 ((t1.up st2).up st3).r (.inl (t2.up st3.le)) hkey
        cases eq
        refine ⟨o, g', ?_⟩
        have st := (st1.trans st2).trans st3
        rcases ho with ⟨h1, h2⟩ | ⟨vv, zz, h1, h2, h3⟩
        · subst h1
          rw [h2] at fin
          exact fin _ G3 H3 st w3 t3
        · subst h1
          rw [h2] at fin
          exact fin _ G3 H3 st w3 h3
      · cases e4'
    | _ => cases e4
end
end MP

/-! set(a list of ints), with the table's order. -/
namespace L2
open PySem PySem.Spec PyProof.Rows
section
variable {P : Program} {w : World} {A : Around} {E : Value → Shared → Prop} {s : Shared}
/-- set(a list of ints), its table known (the tuple's is in the layer) -/
theorem set_of_list {l : Addr} {items : Array Value} (ns : List Int) {Q : Value → Shared → Prop} (hh : A.handled = none) (hl : s.heap.IsList l items) (hit : IntsAre items.toList ns) (hb : ns.length + 1 < scanBound)
    (h : ∀ (h' : Heap) (tk c : Nat), SetR w h' s.heap.objs.size (fun j => decide (j ∈ ns)) c → c ≤ ns.length → (∀ b o, s.heap.get? b = some o → h'.get? b = some o) → Q (.ref s.heap.objs.size) { s with heap := h', toks := tk }) :
    wpAny (model P w) A (call (.type "set") [.ref l]) Q E s := by
  have hisz : items.size = ns.length := by
    have q := IntsAre.length hit
    rw [Array.length_toList] at q
    exact q
  obtain ⟨c, tl, hmro⟩ := F.called_set.mro
  have hmade := F.called_set.made
  have hsub := F.called_set.sub
  refine wpAny_call (codeAny_of_tree ?_)
  show wpAny _ _ (callAny (.type "set") _) _ _ _
  refine wpAny_pure ⟨Code.quiet_builtin _ (by decide +kernel), codeAny_builtin F.entry_type_call ?_⟩
  rw [Around.under_plain (weight_type_call_type "set" [.ref l] []) rfl]
  have h1 := F.called_set.notType
  have h2 := F.called_set.canCreate
  have hct := F.typeCall_set_1 (.ref l)
  repeat (any_goals (first | assumption | wp_step))

  refine codeAny_mono (code_set_led1 (.ref l) (E := E) (Q₁ := fun obj s₁ => obj = .ref s.heap.objs.size ∧ s₁ = { s with heap := s.heap.push { cls := .type "set", dict := none, data := .set #[] 0 (.fresh 0 0 (!w.params.followText "set-order")) } }) ⟨rfl, rfl⟩) fun r s₁ hr => ?_
  cases r with
  | error e => exact hr
  | ok fl =>
    cases fl with
    | ret obj =>
      obtain ⟨rfl, rfl⟩ := hr
      have hS : (s.heap.push { cls := .type "set", dict := none, data := .set #[] 0 (.fresh 0 0 (!w.params.followText "set-order")) }).get? s.heap.objs.size = some { cls := .type "set", dict := none, data := .set #[] 0 (.fresh 0 0 (!w.params.followText "set-order")) } := Heap.get?_push_size _ rfl
      have hT : Shared.TypeIs { s with heap := s.heap.push { cls := .type "set", dict := none, data := .set #[] 0 (.fresh 0 0 (!w.params.followText "set-order")) } } (.ref s.heap.objs.size) "set" := ⟨_, hS, rfl⟩
      have hli := F.called_set.init.lookup
      have hbi := F.called_set.init.bind (.ref s.heap.objs.size)
      repeat (any_goals (first | assumption | wp_step))

      refine codeAny_mono (codeAny_call_builtin (R := wants (fun r s₂ => r = .none ∧ ∃ h' tk c, s₂ = { s with heap := h', toks := tk } ∧ SetR w h' s.heap.objs.size (fun j => decide (j ∈ ns)) c ∧ c ≤ ns.length ∧
          (∀ b o, s.heap.get? b = some o → h'.get? b = some o)) E) F.called_set.init.plain F.entry_set_init (check_set_init_1 hT ?_)) fun r₂ s₂ hr₂ => ?_
      · obtain ⟨ol, hol, hcl, nl, hdl⟩ := hl
        obtain ⟨ocls, odict, odata, oslots⟩ := ol
        simp only at hcl hdl
        subst hcl; subst hdl
        have hol' : (s.heap.push { cls := .type "set", dict := none, data := .set #[] 0 (.fresh 0 0 (!w.params.followText "set-order")) }).get? l = some { cls := .type "list", dict := odict, data := .seq items nl, slots := oslots } := Heap.get?_push_of_some _ hol
        have hsls := F.sub_list_set
        have hslf := F.sub_list_frozenset
        have hne : (Value.type "list" == Value.type "dict") = false := by decide
        have hl1 : (s.heap.push { cls := .type "set", dict := none, data := .set #[] 0 (.fresh 0 0 (!w.params.followText "set-order")) }).IsList l items := ⟨_, hol', rfl, nl, rfl⟩
        unfold Builtin.«set.__init__» noKeywords Builtin.Frozenset.updateFrom
        generalize hPI : pyIter = PI
        wp_walk
        subst hPI

        refine wpAny_pyIter_list hl1 ?_
        refine wpAny_bind (wpAny_runValue ?_)
        have hlS : l < s.heap.objs.size := Heap.lt_size hol
        have hh3 : A.in1.in1.in1.handled = none := by simp [hh]
        have hz1 : (s.heap.push { cls := .type "set", dict := none, data := .set #[] 0 (.fresh 0 0 (!w.params.followText "set-order")) }).objs.size = s.heap.objs.size + 1 := Heap.size_push ..
        have hneI : l ≠ (s.heap.push { cls := .type "set", dict := none, data := .set #[] 0 (.fresh 0 0 (!w.params.followText "set-order")) }).objs.size := by
          rw [Heap.size_push]; exact Nat.ne_of_lt (Nat.lt_succ_of_lt hlS)
        have hSf : s.heap.objs.size ∉ [(s.heap.push { cls := .type "set", dict := none, data := .set #[] 0 (.fresh 0 0 (!w.params.followText "set-order")) }).objs.size, l] := by
          rw [Heap.size_push]; simp only [List.mem_cons, List.mem_singleton, List.not_mem_nil, or_false, not_or]
          exact ⟨Nat.ne_of_lt (Nat.lt_succ_self _), Nat.ne_of_gt hlS⟩
        have hval : ∀ (i : Nat) (v : Value), items[i]? = some v → ∃ k t, ns[i]? = some k ∧ v = .int k t := fun i v hv => by
          have hi : i < ns.length := by rw [← hisz]; exact (Array.getElem?_eq_some_iff.mp hv).1
          obtain ⟨t, e⟩ := PyProof.Rows.IntsAre.int_at hit i v (by rw [Array.getElem?_toList]; exact hv)
          refine ⟨ns[i], t, List.getElem?_eq_getElem hi, ?_⟩
          rw [e, List.getD_eq_getElem?_getD, List.getElem?_eq_getElem hi] <;> rfl
        refine set_update_ints ((Walks.list hh3 _ l hneI items).toS) s.heap.objs.size
          hSf ns hisz hb hval (items.size - 0) 0 _ (by omega) (Nat.zero_le _)
          ⟨⟨_, Heap.get?_push_size _ rfl, rfl, rfl⟩, (hl1.push _)⟩ ?hS0 ?hR
        case hS0 =>
          have hget : ((s.heap.push { cls := .type "set", dict := none, data := .set #[] 0 (.fresh 0 0 (!w.params.followText "set-order")) }).push { cls := .type "list_iterator", data := .fields #[.ref l, .int 0 0] }).get? s.heap.objs.size
              = some { cls := .type "set", dict := none, data := .set #[] 0 (.fresh 0 0 (!w.params.followText "set-order")) } := Heap.get?_push_of_some _ hS
          exact ⟨0, Nat.le_refl 0, setR_new_at hget⟩
        case hR =>
          intro s' c' hm hc' hS'
          obtain ⟨h', g2, d', tk', os'⟩ := s'
          have eg : g2 = s.gens := hm.gens
          have ed : d' = s.drawn := hm.drawn
          have eo : os' = s.os := hm.os
          subst eg; subst ed; subst eo
          show wpAny _ _ _ _ _ _
          refine wpAny_pure ?_
          show wpAny _ _ (ret Value.none) _ _ _
          rw [hisz] at hc'
          refine wpAny_pure ⟨rfl, h', tk', c', rfl, hS', hc', fun b o e => ?_⟩
          have hb0 : b < s.heap.objs.size := Heap.lt_size e
          have hb1 : b ≠ s.heap.objs.size := Nat.ne_of_lt hb0
          have hb2 : b ≠ (s.heap.push { cls := .type "set", dict := none, data := .set #[] 0 (.fresh 0 0 (!w.params.followText "set-order")) }).objs.size := by
            rw [Heap.size_push]; exact Nat.ne_of_lt (Nat.lt_succ_of_lt hb0)
          exact hm.heap b o (by simp only [List.mem_cons, List.mem_singleton, List.not_mem_nil, or_false, not_or]; exact ⟨hb1, hb2⟩) (Heap.get?_push_of_some _ (Heap.get?_push_of_some _ e))

      · cases r₂ with
        | error e => exact hr₂
        | ok fl₂ =>
          cases fl₂ with
          | ret r =>
            obtain ⟨rfl, h', tk, c', rfl, hS', hc', hk'⟩ := hr₂
            repeat (any_goals (first | assumption | wp_step))
            exact h _ _ _ hS' hc' hk'
          | _ => exact hr₂.elim
    | _ => exact hr.elim

end
end L2

/-! MP set: sorted(set(..)) of ints. -/
namespace MP
open PySem PySem.Spec PyProof.Rows L2
theorem sorted_uniq : ∀ {xs ys : List Int}, xs.Pairwise (· < ·) → ys.Pairwise (· < ·) → (∀ k, k ∈ xs ↔ k ∈ ys) → xs = ys
  | [], [], _, _, _ => rfl
  | [], y :: ys, _, _, h => absurd ((h y).mpr List.mem_cons_self) (by simp)
  | x :: xs, [], _, _, h => absurd ((h x).mp List.mem_cons_self) (by simp)
  | x :: xs, y :: ys, hx, hy, h => by
    obtain ⟨x1, x2⟩ := List.pairwise_cons.mp hx
    obtain ⟨y1, y2⟩ := List.pairwise_cons.mp hy
    have e : x = y := by
      rcases List.mem_cons.mp ((h x).mp List.mem_cons_self) with e | m
      · exact e
      · rcases List.mem_cons.mp ((h y).mpr List.mem_cons_self) with e | m2
        · exact e.symm
        · have := y1 x m
          have := x1 y m2
          omega
    subst e
    rw [sorted_uniq x2 y2 fun k => ⟨fun m => by
      rcases List.mem_cons.mp ((h k).mp (List.mem_cons_of_mem _ m)) with e | m2
      · subst e; exact absurd (x1 k m) (Int.lt_irrefl _)
      · exact m2, fun m => by
      rcases List.mem_cons.mp ((h k).mpr (List.mem_cons_of_mem _ m)) with e | m2
      · subst e; exact absurd (y1 k m) (Int.lt_irrefl _)
      · exact m2⟩]
theorem insU_mem {x k : Int} : ∀ {r : List Int}, k ∈ insU x r ↔ k = x ∨ k ∈ r
  | [] => by simp [insU]
  | y :: r => by
    unfold insU
    split
    · simp
    · split
      · rename_i e; subst e; simp
      · rw [List.mem_cons, insU_mem, List.mem_cons]
        constructor
        · rintro (h | h | h)
          · exact .inr (.inl h)
          · exact .inl h
          · exact .inr (.inr h)
        · rintro (h | h | h)
          · exact .inr (.inl h)
          · exact .inl h
          · exact .inr (.inr h)
theorem insU_lt {x : Int} : ∀ {r : List Int}, r.Pairwise (· < ·) → (insU x r).Pairwise (· < ·)
  | [], _ => by simp [insU]
  | y :: r, h => by
    obtain ⟨h1, h2⟩ := List.pairwise_cons.mp h
    unfold insU
    split
    · rename_i hl
      refine List.pairwise_cons.mpr ⟨fun z hz => ?_, h⟩
      rcases List.mem_cons.mp hz with e | hz
      · rw [e]; exact hl
      · have := h1 z hz; omega
    · split
      · exact h
      · rename_i h3 h4
        refine List.pairwise_cons.mpr ⟨fun z hz => ?_, insU_lt h2⟩
        rcases insU_mem.mp hz with e | hz
        · rw [e]; omega
        · exact h1 z hz
theorem sset_mem {k : Int} : ∀ {ns : List Int}, k ∈ sset ns ↔ k ∈ ns
  | [] => by simp [sset]
  | n :: r => by
    show k ∈ insU n (sset r) ↔ _
    rw [insU_mem, sset_mem, List.mem_cons]
theorem sset_lt : ∀ ns : List Int, (sset ns).Pairwise (· < ·)
  | [] => List.Pairwise.nil
  | _ :: r => insU_lt (sset_lt r)
section
variable {T : Tb} {Φ : Fns} {N : List Str} {sc : Scope} {X : Cx} {a : Expr} {pos p p2 q : Pos} {ca : CE} {j j2 : Nat}
/-- the set, then what is done with it -/
theorem set_of {pins : List (Addr × Obj)} {s : Shared} {σ : L2.St} {H : Hp} {as : List Addr} {G : Hp} {D : DS} {v : V} {u : Value} {x : PV} {xs : List PV} {ns : List Int} {E : Value → Shared → Prop} {Q : Value → Shared → Prop} (hc : X.calm = true) (I : Inv X pins σ H s) (w : Wd as X.K G H D) (r : TrR as X.K G H v x) (ru : RelV v u)
    (e1 : seqOf x = some xs) (e2 : mapO intOf xs = some ns) (hb : ns.length ≤ 4000)
    (h : ∀ (h' : Heap) (tk c : Nat), SetR X.w h' s.heap.objs.size (fun j => decide (j ∈ ns)) c → Inv X pins σ H { s with heap := h', toks := tk } → Q (.ref s.heap.objs.size) { s with heap := h', toks := tk }) :
    wpAny (model X.prog X.w) X.A (call (.type "set") [u]) Q E s := by
  obtain ⟨l, vs, rfl, h1, t1⟩ := r.seq w e1
  have := ints_tr t1 e2
  subst this
  cases ru
  rcases h1 with h1 | ⟨h1, _, _⟩
  · obtain ⟨its, rv, pl, hz⟩ := I.list (.of h1)
    exact set_of_list (P := X.prog) ns (I.ok.hd hc) pl.isList (by simpa using rv.ints) (by unfold scanBound; omega) fun h' tk c hS _ hk => h h' tk c hS (I.kept hk)
  · obtain ⟨its, rv, pl, hz⟩ := I.tuple (.of h1)
    exact call_set_tupI (P := X.prog) ns (I.ok.hd hc) pl (by simpa using rv.ints) (by unfold scanBound; omega) fun h' tk c hS _ hk => h h' tk c hS (I.kept hk)
theorem f_sset (g : Gd T Φ N sc X) (hg : sc.names.lookup ("sorted" : Str) = some .globalImplicit) (hm : T.fr[j]? = some ("sorted" : Str)) (hg2 : sc.names.lookup ("set" : Str) = some .globalImplicit) (hm2 : T.fr[j2]? = some ("set" : Str)) (ha : PO_ Φ X a ca)
    (na : starEach [a] X.env = (false, eval a X.env) :: starEach [] X.env := by rfl) : PF_ Φ X (.Call (.Name "sorted" p) [.Call (.Name "set" p2) [a] [] q] [] pos) (.bi .sortedSet (.cons ca .nil)) := by
  refine ⟨fun pins s σ H Q I ⟨as, G, ρ, D, y, D', w, r, ee, f⟩ => ?_⟩
  obtain ⟨⟨ws, D1⟩, e1, ee⟩ := Option.bind_eq_some_iff.mp ee
  obtain ⟨ys, e2, ee⟩ := Option.bind_eq_some_iff.mp ee
  obtain ⟨z, e3, ee⟩ := Option.map_eq_some_iff.mp ee
  cases ee
  obtain ⟨⟨x, D2⟩, e4, e5⟩ := Option.bind_eq_some_iff.mp (show (ev Φ ca ρ D).bind (fun r => (evs Φ .nil ρ r.2).map fun q => (r.1 :: q.1, q.2)) = some (ws, _) from e1)
  obtain ⟨⟨zs, D3⟩, e6, e7⟩ := Option.map_eq_some_iff.mp e5
  have e6 : some (([] : List PV), D2) = some (zs, D3) := e6
  cases e6
  cases e7
  obtain ⟨x', e8, e9⟩ := Option.bind_eq_some_iff.mp (show (opd _ x).bind (fun y => (mapO (opd _) []).bind fun ys => some (y :: ys)) = some ys from e2)
  have e9 : some [x'] = some ys := e9
  cases e9
  obtain ⟨xs, e10, e11⟩ := Option.bind_eq_some_iff.mp (show (seqOf x').bind (fun xs => (mapO intOf xs).bind fun ns => if ns.length ≤ 4000 ∧ (sset ns).length < 64 then some (PV.lst ((sset ns).map .int)) else none) = some y from e3)
  obtain ⟨ns, e12, e13⟩ := Option.bind_eq_some_iff.mp e11
  split at e13
  case isFalse => cases e13
  rename_i hlim
  cases e13
  refine Call_ (ld_blt I (gl_of g hg) (g.fr j _ hm) (show bootBuiltins "sorted" = some (.builtin "sorted") by decide +kernel) ?_)
  refine PyProof.Rows.callWith_builtin1 (PyProof.Rows.args_cons ?_ rfl) rfl rfl
  refine Call_ (ld_blt I (gl_of g hg2) (g.fr j2 _ hm2) PyProof.Rows.boot_set ?_)
  refine PyProof.Rows.callWith_type1 (PyProof.Rows.args_cons (thn (ha.run pins s σ H (fun v H1 => ∃ G1, Stp as G H G1 H1 ∧ Wd as X.K G1 H1 _ ∧ TrO as X.K G1 H1 v x) I ⟨as, G, ρ, D, x, _, w, r, e4, fun v G1 H1 st w1 t => ⟨G1, st, w1, t⟩⟩) fun v s1 ⟨x1, H1, I1, r1, G1, st1, w1, t1⟩ => PyProof.Rows.args_nil ?_) na) na rfl
  refine set_of g.calm I1 w1 (t1.opd w1 e8) r1 e10 e12 hlim.1 fun h' tk c hS I2 => ?_
  refine PyProof.Rows.args_nil ?_
  have hc : c = (sset ns).length := by
    obtain ⟨o, es, ep, t, ho, hex, hd, hg, hnd, hmm, hb, hf, hn, hr, hl⟩ := hS
    have p1 : (es.toList.map keyOf).Perm (sset ns) := by
      refine (List.perm_ext_iff_of_nodup hnd ((sset_lt ns).imp fun {a b} h e => absurd h (by rw [e]; exact Int.lt_irrefl _))).mpr fun k => ?_
      rw [sset_mem, ← hmm k]
      exact decide_eq_true_iff
    have := p1.length_eq
    rw [List.length_map, Array.length_toList] at this
    omega
  refine sorted_set (P := X.prog) hS (I2.ok.hd g.calm) (by omega) fun s' p out c' ns' k gg oo hp hgg hi hs hmm hl => ?_
  have en : ns' = sset ns := sorted_uniq hs (sset_lt ns) fun k => by rw [hmm k, sset_mem]; exact decide_eq_true_iff
  subst en
  have hlen : ((sset ns).map V.int).length ≤ sizeLine := by rw [List.length_map, sizeLine_eq]; omega
  have hn : H1 p = none := I2.hok.fresh hp
  have J : Inv X pins σ (upd H1 p (.lst ((sset ns).map V.int))) { s1 with heap := s'.heap, gens := s'.gens, drawn := s'.drawn, toks := s'.toks } :=
    Inv.call (s := { s1 with heap := h', toks := tk }) (ch := []) I2 (Un.laid k hp hn) (I2.hok.laid k hp ⟨hlen, out.toList, c', vals_of_ints hi, hgg⟩) (by rw [gg]; exact I2.bare) (fun _ z => nomatch z)
  have e : s' = { s1 with heap := s'.heap, gens := s'.gens, drawn := s'.drawn, toks := s'.toks } := by
    cases s'
    cases s1
    cases oo
    rfl
  rw [e]
  exact ⟨.ref p, _, J, rfl, f p G1 _ (st1.trans (Stp.own hn)) (w1.ownp hn) (none_back st1 hn) (w1.free hn) ⟨_, upd_same, TrS.ints _⟩⟩
end
end MP

/-! MP mf: displays of dicts, stores with an operator. -/
namespace MP
open PySem PySem.Spec PyProof.Rows L2

section
variable {T : Tb} {Φ : Fns} {N : List Str} {sc : Scope} {X : Cx} {e a b tg k : Expr} {pos p p2 : Pos} {c ck ca cb : CE} {j j2 : Nat}
/-! ### {k: v, ..} -/
def trsOf (K : PySem.W.Frag) (Φ : Fns) : CPs → List (TE × TE)
  | .nil => []
  | .cons k v r => (tE K Φ k, tE K Φ v) :: trsOf K Φ r
abbrev PD_ (Φ : Fns) (X : Cx) (pos : Pos) (ks : List (Option Expr)) (vs : List Expr) (c : CPs) : Prop := PPs X pos ks vs (trsOf X.K Φ c)
theorem d_nil : PD_ Φ X pos [] [] .nil := pps_nil
theorem d_cons {ks : List (Option Expr)} {vs : List Expr} {cs : CPs} (hk : PV_ Φ X k ck) (hv : PV_ Φ X e c) (hr : PD_ Φ X pos ks vs cs) : PD_ Φ X pos (some k :: ks) (e :: vs) (.cons ck c cs) := pps_cons hk hv hr
def CPs.len : CPs → Nat
  | .nil => 0
  | .cons _ _ r => r.len + 1
theorem pairs_ok {K : PySem.W.Frag} : ∀ {cs : CPs} {as : List Addr} {G H : Hp} {ρ : Envi} {D D' : DS} {kvs : List (PV × PV)} {σ : L2.St} {Q : List (V × V) → Hp → Prop}, Wd as K G H D → Rp as K G H σ ρ → evd Φ cs ρ D = some (kvs, D') → (kvs.all fun p => isKey 0 p.1) = true →
    (∀ (ks : List (Key × V)) (G' H' : Hp), Stp as G H G' H' → Wd as K G' H' D' → TrK as K G' ks kvs → ks.length = cs.len → Q (ks.map fun kv => (kV kv.1, kv.2)) H') → tPairs (trsOf K Φ cs) σ H Q
  | .nil, as, G, H, ρ, D, D', kvs, σ, Q, w, r, e, _, f => by
    have e' : some (([] : List (PV × PV)), D) = some (kvs, D') := e
    cases e'
    exact f [] G H (Stp.refl _ _ _) w .nil rfl
  | .cons ck cv cs, as, G, H, ρ, D, D', kvs, σ, Q, w, r, e, hk, f => by
    obtain ⟨⟨kx, D1⟩, e1, e⟩ := Option.bind_eq_some_iff.mp (show (ev Φ ck ρ D).bind (fun x => (ev Φ cv ρ x.2).bind fun q => (evd Φ cs ρ q.2).map fun z => ((x.1, q.1) :: z.1, z.2)) = some (kvs, D') from e)
    obtain ⟨⟨vx, D2⟩, e2, e⟩ := Option.bind_eq_some_iff.mp e
    obtain ⟨⟨r2, D3⟩, e3, e⟩ := Option.map_eq_some_iff.mp e
    cases e
    rw [List.all_cons, Bool.and_eq_true] at hk
    refine ⟨as, G, ρ, D, kx, D1, w, r, e1, fun kv G1 H1 st1 w1 t1 => ⟨as, G1, ρ, D1, vx, D2, w1, r.up st1, e2, fun v G2 H2 st2 w2 t2 => ?_⟩⟩
    refine pairs_ok w2 ((r.up st1).up st2) e3 hk.2 fun ks G' H' st w' t hl => ?_
    obtain ⟨kk, ek⟩ := isKey0 hk.1
    have ek : kx = kPV kk := ek
    subst ek
    have := t1.key
    subst this
    exact f ((kk, v) :: ks) G' H' ((st1.trans st2).trans st) w' (.cons (t2.up st.le) t) (by rw [List.length_cons, hl]; rfl)
theorem f_dsp {ks : List (Option Expr)} {vs : List Expr} {cs : CPs} (h : PD_ Φ X pos ks vs cs) (hall : ks.all (·.isSome) = true := by rfl) (hl : ks.length = vs.length := by rfl) (h0 : ks ≠ [] := by exact fun z => nomatch z) (h15 : ks.length ≤ 15 := by decide) (hcl : cs.len ≤ 15 := by decide) :
    PF_ Φ X (.Dict ks vs pos) (.dsp 0 cs) :=
  pe_imp (pe_disp h hall hl h0 h15) fun σ H Q ⟨as, G, ρ, D, y, D', w, r, ee, f⟩ => by
    obtain ⟨⟨kvs, D1⟩, e1, ee⟩ := Option.bind_eq_some_iff.mp ee
    split at ee
    case isFalse => cases ee
    rename_i hk
    cases ee
    intro p hp
    have st0 : Stp as G H G (upd H p (.dK [])) := Stp.own hp
    have hna : p ∉ as := w.offp hp
    refine pairs_ok (w.ownp hp) (r.up st0) e1 hk fun ks' G' H' st w' t hl' => ?_
    have hH' : H' p = some (.dK []) := st.kp _ _ hna upd_same
    have hG' : G' p = none := by
      cases q : G' p with
      | none => rfl
      | some o =>
        rcases st.nw p (by rw [q]; exact fun z => nomatch z) with z | z
        · exact absurd (w.free hp) z
        · rw [upd_same] at z; cases z
    refine ⟨hH', ks', rfl, by rw [hl']; exact hcl, ?_⟩
    exact f p G' _ ((st0.trans st).mut hp) (w'.mut hG' hna) hp hG' (.inl ⟨rfl, _, upd_same, TrK.merge .nil t⟩)
theorem f_dnewK : PF_ Φ X (.Dict [] [] pos) (.dsp 0 .nil) :=
  pe_imp pe_dnewK fun σ H Q ⟨as, G, ρ, D, y, D', w, r, ee, f⟩ => by
    cases ee
    exact fun p hp => f p G _ (Stp.own hp) (w.ownp hp) hp (w.free hp) (.inl ⟨rfl, _, upd_same, .nil⟩)
theorem f_dnewT : PF_ Φ X (.Dict [] [] pos) (.dsp 1 .nil) :=
  pe_imp pe_dnewT fun σ H Q ⟨as, G, ρ, D, y, D', w, r, ee, f⟩ => by
    cases ee
    exact fun p hp => f p G _ (Stp.own hp) (w.ownp hp) hp (w.free hp) (.inr ⟨rfl, _, upd_same, .nil⟩)
/-! ### xs[k] op= e -/
def rGetM (K : PySem.W.Frag) : V → V → Hp → VK → Prop := fun x y H Q => ∃ as G D px py z, Wd as K G H D ∧ TrR as K G H x px ∧ isLD px = true ∧ TrR as K G H y py ∧ pIdx px py = some z ∧ ∀ v, Tr as K G v z → Q v H
theorem get_M (hu : X.A.units + 65 < cLine) : PGet X (rGetM X.K) := by
  intro pins s σ H o i ov iv Q I ro ri ⟨as, G, D, px, py, z, w, to, hld, ti, e, q⟩
  cases px with
  | lst xs =>
    cases py with
    | int n =>
      obtain ⟨jj, e1, e2⟩ := Option.bind_eq_some_iff.mp (show (MP.ixN xs.length n).bind (fun j => xs[j]?) = some z from e)
      obtain ⟨p, vs, rfl, h1, t1⟩ := to.lst w
      have := ti.int
      subst this
      cases ro
      obtain ⟨t, rfl⟩ := ri
      obtain ⟨vj, g1, g2⟩ := t1.get e2
      obtain ⟨its, r, pl, hz⟩ := I.list (.of h1)
      have he : atI vs n = some vj := by
        unfold atI
        rw [t1.len, ← ixN_eq, e1]
        exact g1
      obtain ⟨j, q1, q2, q3, q4, q5⟩ := atI_get he
      obtain ⟨w', ew, rw'⟩ := r.get q2
      have hl := r.length
      have hn := line63
      have fin : EP X pins σ Q w' s := ⟨vj, H, I, rw', q vj g2⟩
      by_cases h0 : 0 ≤ n
      · have hj : n.toNat = j := by
          rw [seqIndex_of h0 q5] at q1
          exact Option.some.inj q1
        exact wpAny_getItem_list pl.isList h0 (by omega) (by rw [hj]; simpa using ew) fin
      · have hj : (n + (its.toArray.size : Int)).toNat = j := by
          rw [seqIndex_neg (by omega) q4] at q1
          rw [List.size_toArray, ← hl]
          exact Option.some.inj q1
        exact wpAny_getItem_list_neg pl.isList (by omega) (by rw [List.size_toArray] <;> omega) (by omega) (by rw [hj]; simpa using ew) fin
    | _ => cases e
  | dct t kvs =>
    have e' : (if isKey t py then dGet py kvs else none) = some z := e
    split at e'
    · rename_i hk
      obtain ⟨p, oo, rfl, g, ho⟩ := dget_of w to ti hk
      rcases ho with ⟨h1, h2⟩ | ⟨vv, zz, h1, h2, h3⟩
      · rw [h2] at e'; cases e'
      · rw [h2] at e'
        cases e'
        subst h1
        cases ro
        exact d_getItem (by omega) I g ri fun w' s' I' rw' => ⟨vv, H, I', rw', q vv h3⟩
    · cases e'
  | _ => cases hld
theorem slot_of {as0 as : List Addr} {K : PySem.W.Frag} {G0 H0 G H : Hp} {σ : L2.St} {ρ ρ' : Envi} {D D' D0 : DS} {f : PV → Option PV} {i : Nat} (S : Sti as0 as K G0 H0 G H σ ρ D0) (h : chg f i ρ D = some (ρ', D')) :
    ∃ a x, σ[i]? = some (some (.ref a)) ∧ borS ρ i = some x ∧ TrO as K G H (.ref a) x := by
  unfold chg at h
  split at h
  · rename_i y hy
    obtain ⟨a, e, hG, ha, ow⟩ := S.r.own i y hy
    exact ⟨a, y, e, by unfold borS; rw [hy], .inr ⟨a, rfl, hG, ha, ow⟩⟩
  · rename_i jj hy
    obtain ⟨w, e, t⟩ := S.r.frz i _ hy
    cases t with
    | shr hq => exact ⟨_, _, e, by unfold borS; rw [hy], .inl (.shr hq)⟩
  · cases h
theorem s_augI {i : Nat} {x : Str} {np tpos : Pos} {op : Bo} {o : Operator} (g : Gd T Φ N sc X) (hi : N[i]? = some x) (hv : Vis sc x) (hk : PV_ Φ X k ck) (he : PV_ Φ X e c) (ho : o = boT op := by rfl)
    (ha : ∀ ov iv new, augStore k ov iv new = (do holding [new, ov, iv] (setItem ov iv new); release [new, ov, iv] []; pure .next) := by intros; rfl)
    (hd : (x == ("__debug__" : Str)) = false := by decide) (hcd : (x == ("__classdict__" : Str)) = false := by decide) : PS_ Φ X (.AugAssign (.Subscript (.Name x np) k tpos) o e pos) (.augI i ck op c) := by
  subst ho
  refine ps_imp (ps_augS (pv_slot g hi hv hd hcd) hk (get_M g.un) he (ip_M op) (set_M (by have := g.un; omega)) ha) fun E σ H ⟨as0, G0, H0, as, G, ρ, D, o, ρ', D', S, ee, f⟩ => ?_
  obtain ⟨⟨kx, D1⟩, e1, ee⟩ := Option.bind_eq_some_iff.mp (show (ev Φ ck ρ D).bind (fun q => (borS ρ i).bind fun c' => (opd q.2 c').bind fun o => (if isLD o then pIdx o q.1 else none).bind fun old => (ev Φ c ρ q.2).bind fun r => (pIp op old r.1).bind fun z =>
      (chg (fun y => pSet y q.1 z) i ρ r.2).map fun t => (Out.nx, t.1, t.2)) = some (o, ρ', D') from ee)
  obtain ⟨cx, e2, ee⟩ := Option.bind_eq_some_iff.mp ee
  obtain ⟨ox, e3, ee⟩ := Option.bind_eq_some_iff.mp ee
  obtain ⟨old, e4', ee⟩ := Option.bind_eq_some_iff.mp ee
  obtain ⟨hld, e4⟩ : isLD ox = true ∧ pIdx ox kx = some old := by
    have e : (if isLD ox = true then pIdx ox kx else none) = some old := e4'
    split at e
    · exact ⟨by assumption, e⟩
    · cases e
  obtain ⟨⟨vx, D2⟩, e5, ee⟩ := Option.bind_eq_some_iff.mp ee
  obtain ⟨z, e6, ee⟩ := Option.bind_eq_some_iff.mp ee
  obtain ⟨⟨ρ2, D3⟩, e7, ee⟩ := Option.map_eq_some_iff.mp ee
  cases ee
  obtain ⟨q, cx', ea, eb, tq⟩ := slot_of S e7
  rw [e2] at eb
  cases eb
  obtain ⟨m, n, kk, rfl, rfl', rfl⟩ := pIp_ints e6
  have rfl' : vx = .int n := rfl'
  subst rfl'
  refine ⟨_, ea, as, G, ρ, D, kx, D1, S.w, S.r, e1, fun kv G1 H1 st1 w1 t1 => ?_⟩
  have S1 := S.adv st1 w1
  refine ⟨as, G1, D1, ox, kx, .int m, w1, (tq.up st1).opd w1 e3, hld, .inl t1, e4, fun v0 t0 => ?_⟩
  cases t0
  refine ⟨as, G1, ρ, D1, .int n, D2, w1, S1.r, e5, fun v2 G2 H2 st2 w2 t2 => ?_⟩
  cases t2
  have S2 := S1.adv st2 w2
  refine ⟨m, n, kk, rfl, rfl, e6, ?_⟩
  obtain ⟨a', y, z', ea', ow, hz, fin⟩ := chg_ok S2 e7 (fun x => pSet_lck _ _ x)
  rw [ea] at ea'
  cases ea'
  obtain ⟨o, ow', q⟩ := put_ok w2 ow (t1.up st2.le) (.int kk) hz
  exact q _ (f as σ G2 _ (.same (st1.le.trans st2.le)) (fin o ow'))
end
end MP

/-! MP go: the rules as the printer takes them. -/
namespace MP
open PySem PySem.Spec PyProof.Rows L2

def visB (sc : Scope) (x : Str) : Bool := match sc.names.lookup x with
  | some .local => true
  | some .cell => true
  | some .free => true
  | _ => false
def locB (sc : Scope) (x : Str) : Bool := match sc.names.lookup x with
  | some .local => true
  | some .cell => true
  | _ => false
def isLoc (sc : Scope) (x : Str) : Bool := match sc.names.lookup x with
  | some .local => true
  | _ => false
def isGlo (sc : Scope) (x : Str) : Bool := match sc.names.lookup x with
  | some .globalImplicit => true
  | _ => false
def okN (x : Str) : Bool := !(x == ("__debug__" : Str)) && !(x == ("__classdict__" : Str)) && !decide (x = "__name__")
theorem vis_of {sc : Scope} {x : Str} (h : visB sc x = true) : Vis sc x := by
  unfold visB at h
  split at h
  · exact .inl (by assumption)
  · exact .inr (.inl (by assumption))
  · exact .inr (.inr (by assumption))
  · cases h
theorem loc_of {sc : Scope} {x : Str} (h : locB sc x = true) : Loc sc x := by
  unfold locB at h
  split at h
  · exact .inl (by assumption)
  · exact .inr (by assumption)
  · cases h
theorem isLoc_of {sc : Scope} {x : Str} (h : isLoc sc x = true) : sc.names.lookup x = some .local := by
  unfold isLoc at h
  split at h
  · assumption
  · cases h
theorem isGlo_of {sc : Scope} {x : Str} (h : isGlo sc x = true) : sc.names.lookup x = some .globalImplicit := by
  unfold isGlo at h
  split at h
  · assumption
  · cases h
theorem okN_of {x : Str} (h : okN x = true) : (x == ("__debug__" : Str)) = false ∧ (x == ("__classdict__" : Str)) = false ∧ x ≠ "__name__" := by
  unfold okN at h
  simp only [Bool.and_eq_true, Bool.not_eq_true', decide_eq_false_iff_not] at h
  exact ⟨h.1.1, h.1.2, h.2⟩
def varB (N : List Str) (sc : Scope) (i : Nat) (x : Str) : Bool := decide (N[i]? = some x) && visB sc x && okN x
def stoB (N : List Str) (sc : Scope) (i : Nat) (x : Str) : Bool := decide (N[i]? = some x) && locB sc x
def lstB (N : List Str) (sc : Scope) (i : Nat) (x : Str) : Bool := decide (N[i]? = some x) && isLoc sc x
def gloB (T : Tb) (sc : Scope) (j : Nat) (x : Str) : Bool := decide (T.fr[j]? = some x) && isGlo sc x && okN x
def fnB (T : Tb) (sc : Scope) (j m : Nat) (x : Str) : Bool := decide (T.fns[j]? = some (x, m)) && isGlo sc x && okN x
def cstB (T : Tb) (sc : Scope) (j : Nat) (x s : Str) : Bool := decide (T.cs[j]? = some (x, s)) && isGlo sc x && okN x
section
variable {T : Tb} {Φ : Fns} {N : List Str} {sc : Scope} {X : Cx} {e a b tg k f : Expr} {es : List Expr} {pos p p2 q np : Pos} {c ck ca cb cf : CE} {cs : CEs} {i j j2 : Nat} {x y : Str}
theorem varB_of (h : varB N sc i x = true) : N[i]? = some x ∧ Vis sc x ∧ (x == ("__debug__" : Str)) = false ∧ (x == ("__classdict__" : Str)) = false := by
  unfold varB at h
  simp only [Bool.and_eq_true, decide_eq_true_eq] at h
  exact ⟨h.1.1, vis_of h.1.2, (okN_of h.2).1, (okN_of h.2).2.1⟩
theorem stoB_of (h : stoB N sc i x = true) : N[i]? = some x ∧ Loc sc x := by
  unfold stoB at h
  simp only [Bool.and_eq_true, decide_eq_true_eq] at h
  exact ⟨h.1, loc_of h.2⟩
theorem lstB_of (h : lstB N sc i x = true) : N[i]? = some x ∧ sc.names.lookup x = some .local := by
  unfold lstB at h
  simp only [Bool.and_eq_true, decide_eq_true_eq] at h
  exact ⟨h.1, isLoc_of h.2⟩
theorem gloB_of (h : gloB T sc j x = true) : T.fr[j]? = some x ∧ sc.names.lookup x = some .globalImplicit ∧ (x == ("__debug__" : Str)) = false ∧ x ≠ "__name__" := by
  unfold gloB at h
  simp only [Bool.and_eq_true, decide_eq_true_eq] at h
  exact ⟨h.1.1, isGlo_of h.1.2, (okN_of h.2).1, (okN_of h.2).2.2⟩
theorem fnB_of {m : Nat} (h : fnB T sc j m x = true) : T.fns[j]? = some (x, m) ∧ sc.names.lookup x = some .globalImplicit ∧ (x == ("__debug__" : Str)) = false := by
  unfold fnB at h
  simp only [Bool.and_eq_true, decide_eq_true_eq] at h
  exact ⟨h.1.1, isGlo_of h.1.2, (okN_of h.2).1⟩
theorem cstB_of {s : Str} (h : cstB T sc j x s = true) : T.cs[j]? = some (x, s) ∧ sc.names.lookup x = some .globalImplicit ∧ (x == ("__debug__" : Str)) = false := by
  unfold cstB at h
  simp only [Bool.and_eq_true, decide_eq_true_eq] at h
  exact ⟨h.1.1, isGlo_of h.1.2, (okN_of h.2).1⟩
theorem gv (g : Gd T Φ N sc X) (h : varB N sc i x = true := by decide +kernel) : PV_ Φ X (.Name x pos) (.var i) := let ⟨h1, h2, h3, h4⟩ := varB_of h; v_var g h1 h2 h3 h4
theorem gb (g : Gd T Φ N sc X) (h : varB N sc i x = true := by decide +kernel) : PO_ Φ X (.Name x pos) (.bor i) := let ⟨h1, h2, h3, h4⟩ := varB_of h; o_bor g h1 h2 h3 h4
theorem gc {s : Str} (g : Gd T Φ N sc X) (j : Nat) (h : cstB T sc j x s = true := by decide +kernel) : PV_ Φ X (.Name x pos) (.cst x s) := let ⟨h1, h2, h3⟩ := cstB_of h; v_cst g h1 h2 h3
/-- one operand as a list -/
theorem b1 (ha : PO_ Φ X e c) (hs : starEach [e] X.env = (false, eval e X.env) :: starEach [] X.env := by rfl) : PB_ Φ X [e] (.cons c .nil) := b_cons ha b_nil hs
theorem g_len (g : Gd T Φ N sc X) (j : Nat) (ha : PO_ Φ X e c) (h : gloB T sc j "len" = true := by decide +kernel) (he : starEach [e] X.env = (false, eval e X.env) :: starEach [] X.env := by rfl) : PV_ Φ X (.Call (.Name "len" p) [e] [] pos) (.bi .len (.cons c .nil)) :=
  let ⟨h1, h2, h3, h4⟩ := gloB_of h; v_biB g bi_len h2 h1 (by decide +kernel) (b1 ha he) h4 h3 he rfl
theorem g_abs (g : Gd T Φ N sc X) (j : Nat) (ha : PO_ Φ X e c) (h : gloB T sc j "abs" = true := by decide +kernel) (he : starEach [e] X.env = (false, eval e X.env) :: starEach [] X.env := by rfl) : PV_ Φ X (.Call (.Name "abs" p) [e] [] pos) (.bi .abs (.cons c .nil)) :=
  let ⟨h1, h2, h3, h4⟩ := gloB_of h; v_biB g bi_abs h2 h1 (by decide +kernel) (b1 ha he) h4 h3 he rfl
theorem g_all (g : Gd T Φ N sc X) (j : Nat) (ha : PO_ Φ X e c) (h : gloB T sc j "all" = true := by decide +kernel) (he : starEach [e] X.env = (false, eval e X.env) :: starEach [] X.env := by rfl) : PV_ Φ X (.Call (.Name "all" p) [e] [] pos) (.bi .all (.cons c .nil)) :=
  let ⟨h1, h2, h3, h4⟩ := gloB_of h; v_biB g (bi_all g.calm) h2 h1 (by decide +kernel) (b1 ha he) h4 h3 he rfl
theorem g_any (g : Gd T Φ N sc X) (j : Nat) (ha : PO_ Φ X e c) (h : gloB T sc j "any" = true := by decide +kernel) (he : starEach [e] X.env = (false, eval e X.env) :: starEach [] X.env := by rfl) : PV_ Φ X (.Call (.Name "any" p) [e] [] pos) (.bi .any (.cons c .nil)) :=
  let ⟨h1, h2, h3, h4⟩ := gloB_of h; v_biB g (bi_any g.calm) h2 h1 (by decide +kernel) (b1 ha he) h4 h3 he rfl
theorem g_sum (g : Gd T Φ N sc X) (j : Nat) (ha : PO_ Φ X e c) (h : gloB T sc j "sum" = true := by decide +kernel) (he : starEach [e] X.env = (false, eval e X.env) :: starEach [] X.env := by rfl) : PV_ Φ X (.Call (.Name "sum" p) [e] [] pos) (.bi .sum (.cons c .nil)) :=
  let ⟨h1, h2, h3, h4⟩ := gloB_of h; v_biB g (bi_sum g.calm) h2 h1 (by decide +kernel) (b1 ha he) h4 h3 he rfl
theorem g_min (g : Gd T Φ N sc X) (j : Nat) (ha : PO_ Φ X e c) (h : gloB T sc j "min" = true := by decide +kernel) (he : starEach [e] X.env = (false, eval e X.env) :: starEach [] X.env := by rfl) : PV_ Φ X (.Call (.Name "min" p) [e] [] pos) (.bi .min (.cons c .nil)) :=
  let ⟨h1, h2, h3, h4⟩ := gloB_of h; v_biB g (bi_min g.un g.calm) h2 h1 (by decide +kernel) (b1 ha he) h4 h3 he rfl
theorem g_max (g : Gd T Φ N sc X) (j : Nat) (ha : PO_ Φ X e c) (h : gloB T sc j "max" = true := by decide +kernel) (he : starEach [e] X.env = (false, eval e X.env) :: starEach [] X.env := by rfl) : PV_ Φ X (.Call (.Name "max" p) [e] [] pos) (.bi .max (.cons c .nil)) :=
  let ⟨h1, h2, h3, h4⟩ := gloB_of h; v_biB g (bi_max g.un g.calm) h2 h1 (by decide +kernel) (b1 ha he) h4 h3 he rfl
theorem g_min2 (g : Gd T Φ N sc X) (j : Nat) (ha : PO_ Φ X a ca) (hb : PO_ Φ X b cb) (h : gloB T sc j "min" = true := by decide +kernel) (he : starEach [a, b] X.env = (false, eval a X.env) :: starEach [b] X.env := by rfl) (he2 : starEach [b] X.env = (false, eval b X.env) :: starEach [] X.env := by rfl) (hpl : (backTo pos (starEach [b] X.env)).any (·.1) = false := by rfl) :
    PV_ Φ X (.Call (.Name "min" p) [a, b] [] pos) (.bi .min (.cons ca (.cons cb .nil))) :=
  let ⟨h1, h2, h3, h4⟩ := gloB_of h; v_biB g (bi_min g.un g.calm) h2 h1 (by decide +kernel) (b_cons ha (b1 hb he2) he) h4 h3 he hpl
theorem g_max2 (g : Gd T Φ N sc X) (j : Nat) (ha : PO_ Φ X a ca) (hb : PO_ Φ X b cb) (h : gloB T sc j "max" = true := by decide +kernel) (he : starEach [a, b] X.env = (false, eval a X.env) :: starEach [b] X.env := by rfl) (he2 : starEach [b] X.env = (false, eval b X.env) :: starEach [] X.env := by rfl) (hpl : (backTo pos (starEach [b] X.env)).any (·.1) = false := by rfl) :
    PV_ Φ X (.Call (.Name "max" p) [a, b] [] pos) (.bi .max (.cons ca (.cons cb .nil))) :=
  let ⟨h1, h2, h3, h4⟩ := gloB_of h; v_biB g (bi_max g.un g.calm) h2 h1 (by decide +kernel) (b_cons ha (b1 hb he2) he) h4 h3 he hpl
theorem g_int (g : Gd T Φ N sc X) (j : Nat) (ha : PO_ Φ X e c) (h : gloB T sc j "int" = true := by decide +kernel) (he : starEach [e] X.env = (false, eval e X.env) :: starEach [] X.env := by rfl) : PV_ Φ X (.Call (.Name "int" p) [e] [] pos) (.bi .int (.cons c .nil)) :=
  let ⟨h1, h2, h3, h4⟩ := gloB_of h; v_biT g bi_int h2 h1 (by decide +kernel) (b1 ha he) h4 h3 he rfl
theorem g_tuple (g : Gd T Φ N sc X) (j : Nat) (ha : PO_ Φ X e c) (h : gloB T sc j "tuple" = true := by decide +kernel) (he : starEach [e] X.env = (false, eval e X.env) :: starEach [] X.env := by rfl) : PV_ Φ X (.Call (.Name "tuple" p) [e] [] pos) (.bi .tuple (.cons c .nil)) :=
  let ⟨h1, h2, h3, h4⟩ := gloB_of h; v_biT g bi_tuple h2 h1 (by decide +kernel) (b1 ha he) h4 h3 he rfl
theorem g_list (g : Gd T Φ N sc X) (j : Nat) (ha : PO_ Φ X e c) (h : gloB T sc j "list" = true := by decide +kernel) (he : starEach [e] X.env = (false, eval e X.env) :: starEach [] X.env := by rfl) : PF_ Φ X (.Call (.Name "list" p) [e] [] pos) (.bi .list (.cons c .nil)) :=
  let ⟨h1, h2, h3, h4⟩ := gloB_of h; f_biT g (bi_list g.calm) h2 h1 (by decide +kernel) (b1 ha he) h4 h3 he rfl
theorem g_dict (g : Gd T Φ N sc X) (j : Nat) (ha : PO_ Φ X e c) (h : gloB T sc j "dict" = true := by decide +kernel) (he : starEach [e] X.env = (false, eval e X.env) :: starEach [] X.env := by rfl) : PF_ Φ X (.Call (.Name "dict" p) [e] [] pos) (.bi .dict (.cons c .nil)) :=
  let ⟨h1, h2, h3, h4⟩ := gloB_of h; f_biT g (bi_dict g.calm) h2 h1 (by decide +kernel) (b1 ha he) h4 h3 he rfl
theorem g_sorted (g : Gd T Φ N sc X) (j : Nat) (ha : PO_ Φ X e c) (h : gloB T sc j "sorted" = true := by decide +kernel) (he : starEach [e] X.env = (false, eval e X.env) :: starEach [] X.env := by rfl) : PF_ Φ X (.Call (.Name "sorted" p) [e] [] pos) (.bi .sorted (.cons c .nil)) :=
  let ⟨h1, h2, h3, h4⟩ := gloB_of h; f_biB g (bi_sorted g.un g.calm) h2 h1 (by decide +kernel) (b1 ha he) h4 h3 he rfl
theorem g_sset (g : Gd T Φ N sc X) (j j2 : Nat) (ha : PO_ Φ X a ca) (h : gloB T sc j "sorted" = true := by decide +kernel) (h' : gloB T sc j2 "set" = true := by decide +kernel) (na : starEach [a] X.env = (false, eval a X.env) :: starEach [] X.env := by rfl) :
    PF_ Φ X (.Call (.Name "sorted" p) [.Call (.Name "set" p2) [a] [] q] [] pos) (.bi .sortedSet (.cons ca .nil)) :=
  let ⟨h1, h2, _, _⟩ := gloB_of h; let ⟨k1, k2, _, _⟩ := gloB_of h'; f_sset g h2 h1 k2 k1 ha na
theorem g_isi (t : Ty) (g : Gd T Φ N sc X) (j j2 : Nat) (ha : PO_ Φ X a ca) (hy : y = Str.ofString (tyS t) := by rfl) (h : gloB T sc j "isinstance" = true := by decide +kernel) (h' : gloB T sc j2 y = true := by decide +kernel)
    (he : starEach [a, .Name y p2] X.env = (false, eval a X.env) :: starEach [.Name y p2] X.env := by rfl) : PV_ Φ X (.Call (.Name "isinstance" p) [a, .Name y p2] [] pos) (.isi t ca) := by
  obtain ⟨h1, h2, h3, h4⟩ := gloB_of h
  obtain ⟨k1, k2, k3, k4⟩ := gloB_of h'
  have hv : bootBuiltins y = some (.type (tyS t)) := by
    subst hy
    cases t <;> decide +kernel
  exact v_isi g h2 h1 k2 k1 hv ha k4 k3 he rfl rfl
theorem g_call {m : Nat} (g : Gd T Φ N sc X) (i : Nat) (ha : PA_ Φ X (e :: es) cs) (hl : cs.len = m := by rfl) (h : fnB T sc i m x = true := by decide +kernel)
    (he : starEach (e :: es) X.env = (false, eval e X.env) :: starEach es X.env := by rfl) (hpl : (backTo pos (starEach es X.env)).any (·.1) = false := by rfl) : PV_ Φ X (.Call (.Name x p) (e :: es) [] pos) (.call i cs) :=
  let ⟨h1, h2, h3⟩ := fnB_of h; v_call g h1 h2 ha hl h3 he hpl
theorem g_get2 {apos cpos : Pos} (g : Gd T Φ N sc X) (ha : PO_ Φ X a ca) (hk : PV_ Φ X k ck) (hf : PV_ Φ X f cf)
    (base : attributeBase a "get" X.env (eval a X.env) = eval a X.env := by rfl)
    (few : ((backTo cpos (starEach [k, f] X.env)).all (fun x => !x.1) && (backToKw cpos (keywordEach [] X.env)).all (fun x => x.1.isSome) && decide (([k, f] : List Expr).length + ([] : List Keyword).length + (if ([] : List Keyword).isEmpty then 0 else 1) < 30)) = true := by rfl)
    (line : (apos.endLine == cpos.line) = true := by rfl) (trees : backTo cpos (starEach [k, f] X.env) = [(false, eval k X.env), (false, eval f X.env)] := by rfl) :
    PV_ Φ X (.Call (.Attribute a "get" apos) [k, f] [] cpos) (.met .get2 ca (.cons ck (.cons cf .nil))) := v_get2 g ha hk hf ⟨base, few, line, trees⟩
theorem gi1 (g : Gd T Φ N sc X) (j : Nat) (ha : PV_ Φ X a ca) (h : gloB T sc j "range" = true := by decide +kernel) (hs : starEach [a] X.env = [(false, eval a X.env)] := by rfl) : PI_ Φ X tg (.Call (.Name "range" p) [a] [] pos) (.rng1 ca) :=
  let ⟨h1, h2, _, _⟩ := gloB_of h; i_rng1 g h2 h1 ha hs
theorem gi2 (g : Gd T Φ N sc X) (j : Nat) (ha : PV_ Φ X a ca) (hb : PV_ Φ X b cb) (h : gloB T sc j "range" = true := by decide +kernel) (hs : starEach [a, b] X.env = [(false, eval a X.env), (false, eval b X.env)] := by rfl) (hs2 : starEach [b] X.env = [(false, eval b X.env)] := by rfl) :
    PI_ Φ X tg (.Call (.Name "range" p) [a, b] [] pos) (.rng2 ca cb) :=
  let ⟨h1, h2, _, _⟩ := gloB_of h; i_rng2 g h2 h1 ha hb hs hs2
/-- a name as a target; fn: every name's cell is its own -/
theorem gp (g : Gd T Φ N sc X) (h : stoB N sc i x = true := by decide +kernel) (hf : X.fn x = true ∨ isLoc sc x = true := by first | exact .inr (by decide +kernel) | exact .inl (by rfl)) : PP_ X (.Name x pos) (.nm i) :=
  let ⟨h1, h2⟩ := stoB_of h; p_nm g h1 h2 (hf.imp id isLoc_of)
/-! the order of the stores leans on the scope alone -/
def dE (sc : Scope) : Env := { scope := sc, locals := 0, globals := 0, cells := [] }
theorem sws_dE {ts : List Expr} {v : Expr} {env : Env} (h : env.scope = sc) : swappedStores ts v env = swappedStores ts v (dE sc) := by
  cases env
  cases h
  unfold swappedStores Env.blockKind Env.kindOf
  rfl
theorem sw_dE {v : Expr} {t : Option Expr} {l : Nat} {env : Env} (h : env.scope = sc) : swapsWith v t l env = swapsWith v t l (dE sc) := by
  cases env
  cases h
  unfold swapsWith Env.blockKind Env.kindOf
  rfl
theorem gs_asg (g : Gd T Φ N sc X) (hF : ∀ x, X.fn x = true) (he : PV_ Φ X e c) (h : stoB N sc i x = true := by decide +kernel) (hs : swapsWith e (some (.Name x np)) pos.line X.env = pure false := by rfl) : PS_ Φ X (.Assign [.Name x np] e pos) (.asg false i c) :=
  let ⟨h1, h2⟩ := stoB_of h; s_asg g h1 h2 he hs (.inl (hF x))
theorem gs_asgF (g : Gd T Φ N sc X) (hF : ∀ x, X.fn x = true) (he : PF_ Φ X e c) (h : stoB N sc i x = true := by decide +kernel) (hs : swapsWith e (some (.Name x np)) pos.line X.env = pure false := by rfl) : PS_ Φ X (.Assign [.Name x np] e pos) (.asg true i c) :=
  let ⟨h1, h2⟩ := stoB_of h; s_asgF g h1 h2 he hs (.inl (hF x))
theorem gs_asgS (g : Gd T Φ N sc X) (hF : ∀ x, X.fn x = true) (he : PF_ Φ X e c) (h : stoB N sc i x = true := by decide +kernel) (hs : swapsWith e (some (.Name x np)) pos.line X.env = pure false := by rfl) : PS_ Φ X (.Assign [.Name x np] e pos) (.asgS i c) :=
  let ⟨h1, h2⟩ := stoB_of h; s_asgS g h1 h2 he hs (.inl (hF x))
theorem gs_aug {op : Bo} {o : Operator} (g : Gd T Φ N sc X) (hF : ∀ x, X.fn x = true) (he : PV_ Φ X e c) (h : stoB N sc i x = true := by decide +kernel) (ho : o = boT op := by rfl) : PS_ Φ X (.AugAssign (.Name x np) o e pos) (.aug i op c) :=
  let ⟨h1, h2⟩ := stoB_of h; s_aug g h1 h2 he ho (.inl (hF x))
theorem gs_app {apos cpos : Pos} (g : Gd T Φ N sc X) (he : PV_ Φ X e c) (h : varB N sc i x = true := by decide +kernel)
    (hbase : attributeBase (.Name x np) "append" X.env (eval (.Name x np) X.env) = eval (.Name x np) X.env := by rfl)
    (hfew : ((backTo cpos (starEach [e] X.env)).all (fun x => !x.1) && (backToKw cpos (keywordEach [] X.env)).all (fun x => x.1.isSome) && decide (([e] : List Expr).length + ([] : List Keyword).length + (if ([] : List Keyword).isEmpty then 0 else 1) < 30)) = true := by rfl)
    (hline : (apos.endLine == cpos.line) = true := by rfl) (hs : starEach [e] X.env = (false, eval e X.env) :: starEach [] X.env := by rfl) : PS_ Φ X (.Expr (.Call (.Attribute (.Name x np) "append" apos) [e] [] cpos) pos) (.app i c) :=
  let ⟨h1, h2, h3, h4⟩ := varB_of h; s_app g h1 h2 he hbase hfew hline hs rfl rfl h3 h4
theorem gs_augI {tpos : Pos} {op : Bo} {o : Operator} (g : Gd T Φ N sc X) (hk : PV_ Φ X k ck) (he : PV_ Φ X e c) (h : varB N sc i x = true := by decide +kernel) (ho : o = boT op := by rfl)
    (ha : ∀ ov iv new, augStore k ov iv new = (do holding [new, ov, iv] (setItem ov iv new); release [new, ov, iv] []; pure .next) := by intros; rfl) : PS_ Φ X (.AugAssign (.Subscript (.Name x np) k tpos) o e pos) (.augI i ck op c) :=
  let ⟨h1, h2, h3, h4⟩ := varB_of h; s_augI g h1 h2 hk he ho ha h3 h4
theorem gs_setI {pos' : Pos} (g : Gd T Φ N sc X) (he : PV_ Φ X e c) (hk : PV_ Φ X k ck) (h : varB N sc i x = true := by decide +kernel)
    (ha : ∀ v, assign (.Subscript (.Name x np) k pos') X.env v = (do
      let ov ← holding [v] (eval (.Name x np) X.env)
      let iv ← holding [v, ov] (eval k X.env)
      standAt pos'
      holding [v, ov, iv] (setItem ov iv v)
      release [v, ov, iv] []) := by intro _; rfl)
    (hs : swapsWithSole [.Subscript (.Name x np) k pos'] e pos.line X.env = pure false := by rfl) (hw : swappedStores [.Subscript (.Name x np) k pos'] e X.env = pure none := by rfl)
    (ht : (assignEach [.Subscript (.Name x np) k pos'] X.env).map (·.2) = [assign (.Subscript (.Name x np) k pos') X.env] := by rfl) : PS_ Φ X (.Assign [.Subscript (.Name x np) k pos'] e pos) (.setI i ck c) :=
  let ⟨h1, h2, h3, h4⟩ := varB_of h; s_setI g h1 h2 he hk ha hs hw ht h3 h4
section
variable {d : Expr} {px py pz pt pt2 : Pos} {kt k2 l : Nat} {z : Str} {os : List Bool}
theorem gs_par2 (g : Gd T Φ N sc X) (ha : PX_ Φ X [a, b] os cs) (h1 : lstB N sc i x = true := by decide +kernel) (h2 : lstB N sc j y = true := by decide +kernel) (hij : i ≠ j := by decide) (hl : cs.len = 2 := by rfl)
    (hw : swappedStores [.Tuple [.Name x px, .Name y py] kt pt] (.Tuple [a, b] k2 pt2) (dE sc) = pure (some [x, y]) := by rfl)
    (hs : swapsWithSole [.Tuple [.Name x px, .Name y py] kt pt] (.Tuple [a, b] k2 pt2) pos.line X.env = pure false := by rfl) :
    PS_ Φ X (.Assign [.Tuple [.Name x px, .Name y py] kt pt] (.Tuple [a, b] k2 pt2) pos) (.par (nms [i, j]) os cs) :=
  let ⟨p1, p2⟩ := lstB_of h1; let ⟨q1, q2⟩ := lstB_of h2; s_par2 g p1 q1 p2 q2 ha (by rw [sws_dE g.sc]; exact hw) hij hl hs
theorem gs_par3 (g : Gd T Φ N sc X) (ha : PX_ Φ X [a, b, d] os cs) (h1 : lstB N sc i x = true := by decide +kernel) (h2 : lstB N sc j y = true := by decide +kernel) (h3 : lstB N sc l z = true := by decide +kernel) (hij : i ≠ j := by decide) (hil : i ≠ l := by decide) (hjl : j ≠ l := by decide) (hl : cs.len = 3 := by rfl)
    (hw : swappedStores [.Tuple [.Name x px, .Name y py, .Name z pz] kt pt] (.Tuple [a, b, d] k2 pt2) (dE sc) = pure (some [x, y, z]) := by rfl)
    (hs : swapsWithSole [.Tuple [.Name x px, .Name y py, .Name z pz] kt pt] (.Tuple [a, b, d] k2 pt2) pos.line X.env = pure false := by rfl) :
    PS_ Φ X (.Assign [.Tuple [.Name x px, .Name y py, .Name z pz] kt pt] (.Tuple [a, b, d] k2 pt2) pos) (.par (nms [i, j, l]) os cs) :=
  let ⟨p1, p2⟩ := lstB_of h1; let ⟨q1, q2⟩ := lstB_of h2; let ⟨r1, r2⟩ := lstB_of h3; s_par3 g p1 q1 r1 p2 q2 r2 ha (by rw [sws_dE g.sc]; exact hw) hij hil hjl hl hs
theorem gn {ts : List Expr} {is : List Nat} (g : Gd T Φ N sc X) (hF : ∀ x, X.fn x = true) (h2 : PN_ X ts is) (h : stoB N sc i x = true := by decide +kernel)
    (hs : (assignEach (.Name x px :: ts) X.env).map (·.2) = assign (.Name x px) X.env :: (assignEach ts X.env).map (·.2) := by rfl) : PN_ X (.Name x px :: ts) (i :: is) :=
  let ⟨h3, h4⟩ := stoB_of h; n_cons g h3 h4 h2 (.inl (hF x)) hs
theorem gs_parN {ts es : List Expr} {is : List Nat} (g : Gd T Φ N sc X) (ht : PN_ X ts is) (ha : PX_ Φ X es os cs)
    (hlen : cs.len = is.length := by rfl) (hlim : cs.len ≤ LIM := by decide) (hn : (assignEach ts X.env).length = is.length := by rfl) (hst : (assignEach ts X.env).findIdx? (·.1) = none := by rfl)
    (hs : swapsWithSole [.Tuple ts kt pt] (.Tuple es k2 pt2) pos.line X.env = pure false := by rfl) (hw : swappedStores [.Tuple ts kt pt] (.Tuple es k2 pt2) (dE sc) = pure none := by rfl)
    (h1 : (assignEach [.Tuple ts kt pt] X.env).map (·.2) = [assign (.Tuple ts kt pt) X.env] := by rfl) :
    PS_ Φ X (.Assign [.Tuple ts kt pt] (.Tuple es k2 pt2) pos) (.par (nms is) os cs) := s_parN g ht ha hlen hlim hn hst hs (by rw [sws_dE g.sc]; exact hw) h1
end
section
variable {py spos : Pos} {elt iter : Expr} {ifs : List Expr} {scope : Scope} {own : List (Str × Nat)} {ce : CE} {pt : Pat} {ci : CI} {ct : CEs}
/-- a comprehension of one clause, as an expression -/
theorem g_lc1 (own : List (Str × Nat)) (g : Gd T Φ N sc X) (hi : PJ_ Φ X tg iter ci)
    (hp : ∀ (s : Shared) (H : Hp) (C : Addr) (cl : List (Str × Addr)) (fp : List Addr), PP_ (X.blk s H scope (compEnvC scope cl C X.env) fp) tg pt)
    (ht : ∀ (s : Shared) (H : Hp) (C : Addr) (cl : List (Str × Addr)) (fp : List Addr), PTs_ Φ (X.blk s H scope (compEnvC scope cl C X.env) fp) ifs ct)
    (he : ∀ (s : Shared) (H : Hp) (C : Addr) (cl : List (Str × Addr)) (fp : List Addr), PV_ Φ (X.blk s H scope (compEnvC scope cl C X.env) fp) elt ce)
    (hb : blkC N sc scope own = true := by decide +kernel) (hsl : (pt.slots.all fun i => (own.map (·.2)).contains i) = true := by rfl) (hs : ∀ x, foldedSetIterable iter X.env x = pure x := by intro _; rfl) :
    PF_ Φ X (.ListComp elt [⟨tg, iter, ifs, 0⟩] scope pos) (.lc1 (own.map (·.2)) ce pt ci ct) :=
  f_lc1 g hb hi (fun i hi => by have := List.all_eq_true.mp hsl i hi; simpa using this) hp ht he hs
theorem g_lc1S (own : List (Str × Nat)) (g : Gd T Φ N sc X) (hi : PJ_ Φ X tg iter ci)
    (hp : ∀ (s : Shared) (H : Hp) (C : Addr) (cl : List (Str × Addr)) (fp : List Addr), PP_ (X.blk s H scope (compEnvC scope cl C X.env) fp) tg pt)
    (ht : ∀ (s : Shared) (H : Hp) (C : Addr) (cl : List (Str × Addr)) (fp : List Addr), PTs_ Φ (X.blk s H scope (compEnvC scope cl C X.env) fp) ifs ct)
    (he : ∀ (s : Shared) (H : Hp) (C : Addr) (cl : List (Str × Addr)) (fp : List Addr), PV_ Φ (X.blk s H scope (compEnvC scope cl C X.env) fp) elt ce)
    (h : lstB N sc i y = true := by decide +kernel) (hb : blkC N sc scope own = true := by decide +kernel) (hsl : (pt.slots.all fun i => (own.map (·.2)).contains i) = true := by rfl) (hk : sc.kind = .function := by rfl) (hl : (py.line == pos.line) = true := by rfl)
    (hna : (scope.names.any fun (n, k) => n == y && (k == .local || k == .cell)) = false := by decide +kernel) (hs : ∀ x, foldedSetIterable iter X.env x = pure x := by intro _; rfl) :
    PS X (.Assign [.Name y py] (.ListComp elt [⟨tg, iter, ifs, 0⟩] scope pos) spos) (tAsg (tF X.K Φ (.lc1 (own.map (·.2)) ce pt ci ct)) (gName i)) :=
  let ⟨h1, h2⟩ := lstB_of h; s_lc1 g h1 h2 hb hi (fun i hi => by have := List.all_eq_true.mp hsl i hi; simpa using this) hp ht he (by rw [g.sc]; exact hk) hl hna hs
theorem g_lc2 {tg2 iter2 : Expr} {ifs2 : List Expr} {pt2 : Pat} {ci2 : CI} {ct2 : CEs} (own : List (Str × Nat)) (own2 : List Nat) (g : Gd T Φ N sc X) (hi : PJ_ Φ X tg iter ci)
    (hp : ∀ (s : Shared) (H : Hp) (C : Addr) (cl : List (Str × Addr)) (fp : List Addr), PP_ (X.blk s H scope (compEnvC scope cl C X.env) fp) tg pt)
    (ht : ∀ (s : Shared) (H : Hp) (C : Addr) (cl : List (Str × Addr)) (fp : List Addr), PTs_ Φ (X.blk s H scope (compEnvC scope cl C X.env) fp) ifs ct)
    (hi2 : ∀ (s : Shared) (H : Hp) (C : Addr) (cl : List (Str × Addr)) (fp : List Addr), PI_ Φ (X.blk s H scope (compEnvC scope cl C X.env) fp) tg2 iter2 ci2)
    (hp2 : ∀ (s : Shared) (H : Hp) (C : Addr) (cl : List (Str × Addr)) (fp : List Addr), PP_ (X.blk s H scope (compEnvC scope cl C X.env) fp) tg2 pt2)
    (ht2 : ∀ (s : Shared) (H : Hp) (C : Addr) (cl : List (Str × Addr)) (fp : List Addr), PTs_ Φ (X.blk s H scope (compEnvC scope cl C X.env) fp) ifs2 ct2)
    (he : ∀ (s : Shared) (H : Hp) (C : Addr) (cl : List (Str × Addr)) (fp : List Addr), PV_ Φ (X.blk s H scope (compEnvC scope cl C X.env) fp) elt ce)
    (hb : blkC N sc scope own = true := by decide +kernel) (hsl : (pt.slots.all fun i => (own.map (·.2)).contains i) = true := by rfl) (hsl2 : (pt2.slots.all fun i => own2.contains i) = true := by rfl) (ho2 : (own2.all fun i => (own.map (·.2)).contains i) = true := by rfl)
    (hs : ∀ x, foldedSetIterable iter X.env x = pure x := by intro _; rfl) (hs1 : ∀ env x, foldedSetIterable iter2 env x = pure x := by intro _ _; rfl) :
    PF_ Φ X (.ListComp elt [⟨tg, iter, ifs, 0⟩, ⟨tg2, iter2, ifs2, 0⟩] scope pos) (.lc2 (own.map (·.2)) ce pt ci ct own2 pt2 ci2 ct2) :=
  f_lc2 g hb hi (fun i hi => by have := List.all_eq_true.mp hsl i hi; simpa using this) (fun i hi => by have := List.all_eq_true.mp hsl2 i hi; simpa using this) (fun i hi => by have := List.all_eq_true.mp ho2 i hi; simpa using this) hp ht hi2 hp2 ht2 he hs hs1
theorem g_lc2S {tg2 iter2 : Expr} {ifs2 : List Expr} {pt2 : Pat} {ci2 : CI} {ct2 : CEs} (own : List (Str × Nat)) (own2 : List Nat) (g : Gd T Φ N sc X) (hi : PJ_ Φ X tg iter ci)
    (hp : ∀ (s : Shared) (H : Hp) (C : Addr) (cl : List (Str × Addr)) (fp : List Addr), PP_ (X.blk s H scope (compEnvC scope cl C X.env) fp) tg pt)
    (ht : ∀ (s : Shared) (H : Hp) (C : Addr) (cl : List (Str × Addr)) (fp : List Addr), PTs_ Φ (X.blk s H scope (compEnvC scope cl C X.env) fp) ifs ct)
    (hi2 : ∀ (s : Shared) (H : Hp) (C : Addr) (cl : List (Str × Addr)) (fp : List Addr), PI_ Φ (X.blk s H scope (compEnvC scope cl C X.env) fp) tg2 iter2 ci2)
    (hp2 : ∀ (s : Shared) (H : Hp) (C : Addr) (cl : List (Str × Addr)) (fp : List Addr), PP_ (X.blk s H scope (compEnvC scope cl C X.env) fp) tg2 pt2)
    (ht2 : ∀ (s : Shared) (H : Hp) (C : Addr) (cl : List (Str × Addr)) (fp : List Addr), PTs_ Φ (X.blk s H scope (compEnvC scope cl C X.env) fp) ifs2 ct2)
    (he : ∀ (s : Shared) (H : Hp) (C : Addr) (cl : List (Str × Addr)) (fp : List Addr), PV_ Φ (X.blk s H scope (compEnvC scope cl C X.env) fp) elt ce)
    (h : lstB N sc i y = true := by decide +kernel) (hb : blkC N sc scope own = true := by decide +kernel) (hsl : (pt.slots.all fun i => (own.map (·.2)).contains i) = true := by rfl) (hsl2 : (pt2.slots.all fun i => own2.contains i) = true := by rfl) (ho2 : (own2.all fun i => (own.map (·.2)).contains i) = true := by rfl)
    (hk : sc.kind = .function := by rfl) (hl : (py.line == pos.line) = true := by rfl) (hna : (scope.names.any fun (n, k) => n == y && (k == .local || k == .cell)) = false := by decide +kernel)
    (hs : ∀ x, foldedSetIterable iter X.env x = pure x := by intro _; rfl) (hs1 : ∀ env x, foldedSetIterable iter2 env x = pure x := by intro _ _; rfl) :
    PS X (.Assign [.Name y py] (.ListComp elt [⟨tg, iter, ifs, 0⟩, ⟨tg2, iter2, ifs2, 0⟩] scope pos) spos) (tAsg (tF X.K Φ (.lc2 (own.map (·.2)) ce pt ci ct own2 pt2 ci2 ct2)) (gName i)) :=
  let ⟨h1, h2⟩ := lstB_of h
  s_lc2 g h1 h2 hb hi (fun i hi => by have := List.all_eq_true.mp hsl i hi; simpa using this) (fun i hi => by have := List.all_eq_true.mp hsl2 i hi; simpa using this) (fun i hi => by have := List.all_eq_true.mp ho2 i hi; simpa using this) hp ht hi2 hp2 ht2 he (by rw [g.sc]; exact hk) hl hna hs hs1
end
end
end MP

/-! MP ky: comprehensions over a dict's keys: the dict is locked meanwhile. -/
namespace MP
open PySem PySem.Spec PyProof.Rows L2
def LkK (σ : L2.St) (H : Hp) (i : Nat) : Prop := ∃ a od ks, σ[i]? = some (some (.ref a)) ∧ H a = some (.frz od (.dK ks))
def tJK (K : PySem.W.Frag) (Φ : Fns) (i : Nat) : TI := fun σ H R => LkK σ H i ∧ tJ K Φ (.keys i) σ H R
def reP (G : Hp) (a : Addr) (o : HO) : Hp := fun b => if b = a then (G a).map (fun _ => o) else G b
theorem reP_ne {G : Hp} {a b : Addr} {o : HO} (h : b ≠ a) : reP G a o b = G b := if_neg h
theorem reP_eq {G : Hp} {a : Addr} {o : HO} : reP G a o a = (G a).map fun _ => o := if_pos rfl
theorem kPV_tr {as : List Addr} {K : PySem.W.Frag} {G : Hp} (k : Key) : Tr as K G (kV k) (kPV k) := by
  cases k with
  | inl i => exact .int i
  | inr s => exact .str s
theorem trK_get {as : List Addr} {K : PySem.W.Frag} {G : Hp} : ∀ {ks : List (Key × V)} {kvs : List (PV × PV)}, TrK as K G ks kvs → kvs.map (·.1) = ks.map fun p => kPV p.1
  | _, _, .nil => rfl
  | _, _, .cons _ t => by rw [List.map_cons, List.map_cons, trK_get t]
section
variable {as : List Addr} {K : PySem.W.Frag} {G H G' H' : Hp} {D D' : DS} {a : Addr} {ks : List (Key × V)} {od : Obj} {σ : L2.St} {ρ : Envi}
/-- what G tells of a: nothing, or the dict -/
def Ga (G : Hp) (a : Addr) (o : HO) : Prop := G a = none ∨ G a = some o
theorem le_lock (h : Ga G a (.dK ks)) : Le G (reP G a (.frz od (.dK ks))) where
  pl := fun b o h1 h2 h3 hb => by
    have : b ≠ a := fun e => by
      subst e
      rcases h with h | h
      · rw [h] at hb; cases hb
      · rw [h] at hb; cases hb; exact h2 _ rfl
    rw [reP_ne this]; exact hb
  rd' := fun b u hn r => by
    by_cases e : b = a
    · subst e
      rcases h with h | h
      · rcases r with r | ⟨o, r⟩ <;> rw [h] at r <;> cases r
      · right
        refine ⟨od, ?_⟩
        rw [reP_eq, h]
        rcases r with r | ⟨o, r⟩ <;> rw [h] at r <;> cases r
        rfl
    · rcases r with r | ⟨o, r⟩
      · left; rw [reP_ne e]; exact r
      · right; exact ⟨o, by rw [reP_ne e]; exact r⟩
theorem le_unlock (h : Ga G a (.frz od (.dK ks))) : Le G (reP G a (.dK ks)) where
  pl := fun b o h1 h2 h3 hb => by
    have : b ≠ a := fun e => by
      subst e
      rcases h with h | h
      · rw [h] at hb; cases hb
      · rw [h] at hb; cases hb; exact h1 _ _ rfl
    rw [reP_ne this]; exact hb
  rd' := fun b u hn r => by
    by_cases e : b = a
    · subst e
      rcases h with h | h
      · rcases r with r | ⟨o, r⟩ <;> rw [h] at r <;> cases r
      · left
        rw [reP_eq, h]
        rcases r with r | ⟨o, r⟩ <;> rw [h] at r <;> cases r
        · exact absurd rfl (hn _ _)
        · rfl
    · rcases r with r | ⟨o, r⟩
      · left; rw [reP_ne e]; exact r
      · right; exact ⟨o, by rw [reP_ne e]; exact r⟩
theorem wd_re {o : HO} (w : Wd as K G H D) (ha : a ∉ as) (l : Le G (reP G a o)) : Wd as K (reP G a o) (upd H a o) D where
  sub := fun b x hb => by
    by_cases e : b = a
    · subst e
      rw [reP_eq] at hb
      obtain ⟨_, _, rfl⟩ := Option.map_eq_some_iff.mp hb
      exact upd_same
    · rw [reP_ne e] at hb
      rw [upd_ne e]; exact w.sub b x hb
  nd := w.nd
  len := w.len
  off := fun b hb => by
    have : b ≠ a := fun e => ha (by rw [← e]; exact hb)
    rw [reP_ne this]; exact w.off b hb
  sh := fun j b x h1 h2 => by
    have hne : b ≠ a := fun e => ha (by rw [← e]; exact List.mem_of_getElem? h1)
    have := (w.sh j b x h1 h2).up l (H' := upd H a o) (upd_ne hne) []
    simpa using this
theorem ownR_lock (o : OwnR as K G H a x) (hH : H a = some (.dK ks)) (l : Le G G') : OwnR as K G' (upd H a (.frz od (.dK ks))) a x := by
  cases x with
  | lst xs =>
    obtain ⟨vs, h, _⟩ := o
    rw [hH] at h; cases h
  | dct t kvs =>
    rcases o with ⟨h0, k2, h, t2⟩ | ⟨h0, k2, h, t2⟩
    · refine .inl ⟨h0, k2, .inr ⟨od, ?_⟩, t2.up l⟩
      rcases h with h | ⟨o, h⟩ <;> rw [hH] at h <;> cases h
      exact upd_same
    · rcases h with h | ⟨o, h⟩ <;> rw [hH] at h <;> cases h
  | _ => exact o
theorem rp_lock (r : Rp as K G H σ ρ) (hH : H a = some (.dK ks)) (hG : Ga G a (.dK ks)) : Rp as K (reP G a (.frz od (.dK ks))) (upd H a (.frz od (.dK ks))) σ ρ where
  len := r.len
  frz := fun i x h => by
    obtain ⟨v, e, t⟩ := r.frz i x h
    exact ⟨v, e, t.up (le_lock hG)⟩
  own := fun i x h => by
    obtain ⟨b, e, g, n, o⟩ := r.own i x h
    refine ⟨b, e, ?_, n, ?_⟩
    · by_cases e : b = a
      · subst e; rw [reP_eq, g]; rfl
      · rw [reP_ne e]; exact g
    · by_cases e : b = a
      · subst e; exact ownR_lock o hH (le_lock hG)
      · have := o.up (le_lock (od := od) hG) (H' := upd H a (.frz od (.dK ks))) (upd_ne e) []
        simpa using this
  dis := r.dis
theorem ga_back (st : Stp as (reP G a (.frz od (.dK ks))) (upd H a (.frz od (.dK ks))) G' H') (hH : H a = some (.dK ks)) (w : Wd as K G' H' D') (ha : a ∉ as) (hG : Ga G a (.dK ks)) : H' a = some (.frz od (.dK ks)) ∧ Ga G' a (.frz od (.dK ks)) := by
  have e := st.kp a _ ha upd_same
  refine ⟨e, ?_⟩
  cases q : G' a with
  | none => exact .inl q
  | some o =>
    have := w.sub a o q
    rw [e] at this
    cases this
    exact .inr q
theorem stp_unlock (st : Stp as (reP G a (.frz od (.dK ks))) (upd H a (.frz od (.dK ks))) G' H') (hH : H a = some (.dK ks)) (w : Wd as K G' H' D') (ha : a ∉ as) (hG : Ga G a (.dK ks)) : Stp as G H (reP G' a (.dK ks)) (upd H' a (.dK ks)) := by
  obtain ⟨e1, e2⟩ := ga_back st hH w ha hG
  refine ⟨((le_lock hG).trans st.le).trans (le_unlock e2), fun b hb => ?_, fun b o hb h => ?_, fun b h => ?_⟩
  · by_cases e : b = a
    · subst e
      have hb' : G' b ≠ none := fun z => hb (by rw [reP_eq, z]; rfl)
      rcases st.nw b hb' with z | z
      · left
        intro q
        exact z (by rw [reP_eq, q]; rfl)
      · rw [upd_same] at z; cases z
    · rw [reP_ne e] at hb
      rcases st.nw b hb with z | z
      · left; rw [reP_ne e] at z; exact z
      · right; rw [upd_ne e] at z; exact z
  · by_cases e : b = a
    · subst e
      rw [hH] at h; cases h; exact upd_same
    · rw [upd_ne e]
      exact st.kp b o hb (by rw [upd_ne e]; exact h)
  · by_cases e : b = a
    · subst e; rw [upd_same]; exact fun z => nomatch z
    · rw [upd_ne e]; exact st.sm b (by rw [upd_ne e]; exact h)
end
section
variable {T : Tb} {Φ : Fns} {N : List Str} {sc : Scope} {X : Cx} {e tg : Expr} {pos p np : Pos} {i : Nat} {x : Str}
theorem por {t u : TE} (h : PE X e t) (h2 : PE X e u) : PE X e (fun σ H Q => t σ H Q ∨ u σ H Q) := ⟨fun pins s σ H Q I q => by
  rcases q with q | q
  · exact h.run pins s σ H Q I q
  · exact h2.run pins s σ H Q I q⟩
/-- the dict that slot i holds -/
theorem slot_dict {as : List Addr} {K : PySem.W.Frag} {G H : Hp} {D : DS} {σ : L2.St} {ρ : Envi} {y : PV} {xs : List PV} (w : Wd as K G H D) (r : Rp as K G H σ ρ) (hy : borS ρ i = some y) (hk : keysOf y = some xs) :
    ∃ a ks kvs, y = .dct 0 kvs ∧ kvs.length ≤ LIM ∧ xs = ks.map (fun p => kPV p.1) ∧ ks.length = kvs.length ∧ σ[i]? = some (some (.ref a)) ∧ a ∉ as ∧ Rd H a (.dK ks) ∧ (G a = none ∨ G a = H a) := by
  have key : ∃ kvs, y = .dct 0 kvs ∧ kvs.length ≤ LIM ∧ xs = kvs.map (·.1) := by
    cases y with
    | dct t kvs =>
      cases t with
      | zero =>
        have h : (if kvs.length ≤ LIM then some (kvs.map (·.1)) else none) = some xs := hk
        split at h
        · rename_i hl
          exact ⟨kvs, rfl, hl, (Option.some.inj h).symm⟩
        · cases h
      | succ t => cases hk
    | _ => cases hk
  obtain ⟨kvs, rfl, hl, rfl⟩ := key
  unfold borS at hy
  cases q : ρ[i]? with
  | none => rw [q] at hy; cases hy
  | some z =>
    cases z with
    | none => rw [q] at hy; cases hy
    | some z =>
      obtain ⟨o, y'⟩ := z
      rw [q] at hy
      obtain rfl : y' = .dct 0 kvs := Option.some.inj hy
      cases o with
      | false =>
        obtain ⟨v, e, t⟩ := r.frz i _ q
        cases t with
        | dK h t2 =>
          rename_i a ks
          have hne : G a ≠ none := by
            rcases h with h | ⟨o, h⟩ <;> rw [h] <;> exact fun z => nomatch z
          have hGH : G a = H a := by
            rcases h with h | ⟨o, h⟩ <;> rw [h, w.sub _ _ h]
          refine ⟨a, ks, kvs, rfl, hl, trK_get t2, t2.len, e, fun hm => hne (w.off a hm), ?_, .inr hGH⟩
          rcases h with h | ⟨o, h⟩
          · exact .inl (w.sub _ _ h)
          · exact .inr ⟨o, w.sub _ _ h⟩
      | true =>
        obtain ⟨a, e, g, n, o⟩ := r.own i _ q
        rcases o with ⟨_, ks, h, t2⟩ | ⟨h0, _⟩
        · exact ⟨a, ks, kvs, rfl, hl, trK_get t2, t2.len, e, n, h, .inl g⟩
        · cases h0
theorem j_keys (g : Gd T Φ N sc X) (hi : N[i]? = some x) (hv : Vis sc x) (hd : (x == ("__debug__" : Str)) = false) (hcd : (x == ("__classdict__" : Str)) = false) : PI X tg (.Name x np) (tJK X.K Φ i) :=
  pi_imp (pi_keys (tg := tg) (pv_slot g hi hv hd hcd)) fun σ H R ⟨⟨a, od, ks, e1, e2⟩, as, G, ρ, D, xs, D', w, r, ee, f⟩ => by
    obtain ⟨xs', e3, e4⟩ := Option.map_eq_some_iff.mp (show ((borS ρ i).bind keysOf).map (fun xs => (xs, D)) = some (xs, D') from ee)
    cases e4
    obtain ⟨y, e5, e6⟩ := Option.bind_eq_some_iff.mp e3
    obtain ⟨b, ks2, kvs, rfl, hl, rfl, hln, e7, hna, hR, _⟩ := slot_dict w r e5 e6
    rw [e1] at e7
    cases e7
    have hk : ks2 = ks := by
      rcases hR with h | ⟨o, h⟩ <;> rw [e2] at h <;> cases h
      rfl
    subst hk
    refine ⟨_, e1, a, od, rfl, .inl ⟨ks2, e2, f _ G H (Stp.refl _ _ _) w (by rw [List.length_map, hln]; exact line_lim hl) fun more G2 H2 D2 l w2 => ?_⟩⟩
    have h2 : H2 a = some (.frz od (.dK ks2)) := l.kp a _ hna e2
    refine ⟨fun j hj => ⟨h2, by rw [List.length_map] at hj; exact hj⟩, fun j hj => ⟨h2, by rw [List.length_map] at hj; exact hj⟩, fun j z v H' hz hy => ?_⟩
    obtain ⟨rfl, k, u, q1, rfl⟩ := hy
    rw [List.getElem?_map, q1] at hz
    cases hz
    exact ⟨G2, Stp.refl _ _ _, w2, kPV_tr k⟩
section
variable {elt : Expr} {ifs : List Expr} {scope : Scope} {own : List (Str × Nat)} {ce : CE} {pt : Pat} {ct : CEs}
theorem lc1_impK {σ : L2.St} {H : Hp} {Q : VK} (hsl : ∀ i ∈ pt.slots, i ∈ own.map (·.2)) (h : tF X.K Φ (.lc1 (own.map (·.2)) ce pt (.keys i) ct) σ H Q) (lk : LkK σ H i) :
    tLc (tJK X.K Φ i) (tP X.K pt) (tTs X.K Φ ct) (tE X.K Φ ce) (own.map (·.2)) σ H Q := by
  have := lc1_imp hsl h
  unfold tLc at this ⊢
  exact ⟨lk, this⟩
theorem f_lc1K (g : Gd T Φ N sc X) (hb : blkC N sc scope own = true) (hi : N[i]? = some x) (hv : Vis sc x) (hd : (x == ("__debug__" : Str)) = false) (hcd : (x == ("__classdict__" : Str)) = false) (hsl : ∀ i ∈ pt.slots, i ∈ own.map (·.2))
    (hp : ∀ (s : Shared) (H : Hp) (C : Addr) (cl : List (Str × Addr)) (fp : List Addr), PP_ (X.blk s H scope (compEnvC scope cl C X.env) fp) tg pt)
    (ht : ∀ (s : Shared) (H : Hp) (C : Addr) (cl : List (Str × Addr)) (fp : List Addr), PTs_ Φ (X.blk s H scope (compEnvC scope cl C X.env) fp) ifs ct)
    (he : ∀ (s : Shared) (H : Hp) (C : Addr) (cl : List (Str × Addr)) (fp : List Addr), PV_ Φ (X.blk s H scope (compEnvC scope cl C X.env) fp) elt ce) (hs : ∀ y, foldedSetIterable (.Name x np) X.env y = pure y := by intro _; rfl) :
    PF_ Φ X (.ListComp elt [⟨tg, .Name x np, ifs, 0⟩] scope pos) (.lc1 (own.map (·.2)) ce pt (.keys i) ct) := by
  have h0 := pe_lc (pos := pos) (wi := tJK X.K Φ i) (g := tP X.K pt) (tt := tTs X.K Φ ct) (te := tE X.K Φ ce) g.calm (by rw [g.n]; exact g.nd) (j_keys (np := np) g hi hv hd hcd) (by rw [g.n, g.sc]; exact blkOk_by hb) hp ht he hs
  refine pe_imp (por h0 (pe_lock h0)) fun σ H Q h => ?_
  obtain ⟨as, G, ρ, D, z, D', w, r, ee, f⟩ := id h
  obtain ⟨⟨xs, D1⟩, e1, _⟩ := Option.bind_eq_some_iff.mp ee
  obtain ⟨xs', e3, e4⟩ := Option.map_eq_some_iff.mp (show ((borS ρ i).bind keysOf).map (fun xs => (xs, D)) = some (xs, D1) from e1)
  cases e4
  obtain ⟨y, e5, e6⟩ := Option.bind_eq_some_iff.mp e3
  obtain ⟨a, ks, kvs, rfl, hl, rfl, hln, e7, hna, hR, hG0⟩ := slot_dict w r e5 e6
  rcases hR with hH | ⟨od, hH⟩
  · right
    have hG : Ga G a (.dK ks) := by
      rcases hG0 with z | z
      · exact .inl z
      · exact .inr (z.trans hH)
    refine ⟨a, .dK ks, hH, True.intro, fun od => lc1_impK hsl ⟨as, _, ρ, D, z, D', wd_re w hna (le_lock (od := od) hG), rp_lock r hH hG, ee, fun p G' H' st w' hp hp2 o => ?_⟩ ⟨a, od, ks, e7, upd_same⟩⟩
    obtain ⟨e8, e9⟩ := ga_back st hH w' hna hG
    have hpa : p ≠ a := fun e => by rw [e, upd_same] at hp; cases hp
    refine ⟨e8, f p _ _ (stp_unlock st hH w' hna hG) (wd_re w' hna (le_unlock e9)) (by rw [upd_ne hpa] at hp; exact hp) (by rw [reP_ne hpa]; exact hp2) ?_⟩
    have := o.up (le_unlock e9) (H' := upd H' a (.dK ks)) (upd_ne hpa) []
    simpa using this
  · left
    exact lc1_impK hsl h ⟨a, od, ks, e7, hH⟩
theorem g_lc1K (own : List (Str × Nat)) (g : Gd T Φ N sc X) (i : Nat)
    (hp : ∀ (s : Shared) (H : Hp) (C : Addr) (cl : List (Str × Addr)) (fp : List Addr), PP_ (X.blk s H scope (compEnvC scope cl C X.env) fp) tg pt)
    (ht : ∀ (s : Shared) (H : Hp) (C : Addr) (cl : List (Str × Addr)) (fp : List Addr), PTs_ Φ (X.blk s H scope (compEnvC scope cl C X.env) fp) ifs ct)
    (he : ∀ (s : Shared) (H : Hp) (C : Addr) (cl : List (Str × Addr)) (fp : List Addr), PV_ Φ (X.blk s H scope (compEnvC scope cl C X.env) fp) elt ce)
    (h : varB N sc i x = true := by decide +kernel) (hb : blkC N sc scope own = true := by decide +kernel) (hsl : (pt.slots.all fun i => (own.map (·.2)).contains i) = true := by rfl) (hs : ∀ y, foldedSetIterable (.Name x np) X.env y = pure y := by intro _; rfl) :
    PF_ Φ X (.ListComp elt [⟨tg, .Name x np, ifs, 0⟩] scope pos) (.lc1 (own.map (·.2)) ce pt (.keys i) ct) :=
  let ⟨h1, h2, h3, h4⟩ := varB_of h; f_lc1K g hb h1 h2 h3 h4 (fun i hi => by have := List.all_eq_true.mp hsl i hi; simpa using this) hp ht he hs
end
end
end MP

/-! MP en: enumerate of tuples. -/
namespace PySem
open Sem (wp)
theorem mp_enumerate_newB {v : Value} {o : Obj} {H : Heap → Prop} (B : Begins v o H) :
    Meets (Builtin.«enumerate.__new__» ⟨[.type "enumerate", v], []⟩) (fun _ R s => H s.heap ∧
      R (.ok (.ret (.ref (s.heap.push o).objs.size))) { s with heap := (s.heap.push o).push { cls := .type "enumerate", data := .fields #[.none, .bool false, .ref s.heap.objs.size, rawInt 0, .none, .none] } }) :=
  .of_wp fun prog w A R s h => by
    obtain ⟨hp, g, d, tk, os⟩ := s; obtain ⟨h1, h⟩ := h
    have hsub := sub_enumerate
    have q1 : ∀ {A' : Around} {E : Value → Shared → Prop} {Q : Value → Shared → Prop}, Q (.ref hp.objs.size) ⟨hp.push o, g, d, tk, os⟩ → wpAny (model prog w) A' (pyIter v) Q E ⟨hp, g, d, tk, os⟩ :=
      fun q => B.iter prog w _ _ ⟨hp, g, d, tk, os⟩ _ h1 q
    wp_walk using q1
    refine wpAny_stack_any fun st => wpAny_pure ?_
    split
    · rename_i c _ _ _ _ _
      cases (c == Value.type "enumerate")
      · wp_walk using q1
        exact ⟨_, rfl, h⟩
      · wp_walk using q1
        exact ⟨_, rfl, h⟩
    · wp_walk using q1
      exact ⟨_, rfl, h⟩
section
variable {prog : Program} {w : World} {A : Around} {E : Value → Shared → Prop} {s : Shared}
theorem mp_enum1 {v : Value} {o : Obj} {H : Heap → Prop} {Q : Value → Shared → Prop} (B : Begins v o H) (h1 : H s.heap)
    (h : ∀ h', IsEnum h' (s.heap.objs.size + 1) s.heap.objs.size 0 .none → h'.get? s.heap.objs.size = some o → h'.objs.size = s.heap.objs.size + 2 →
      (∀ b o, s.heap.get? b = some o → h'.get? b = some o) → Q (.ref (s.heap.objs.size + 1)) { s with heap := h' }) :
    wpAny (model prog w) A (call (.type "enumerate") [v]) Q E s := by
  refine callType_new F.called_enumerate (by decide) (F.typeCall_enumerate_1 _) (F.newCall_enumerate_1 _) (fun obj => F.args_object_init_2 obj _) F.entry_enumerate_new
    (mp_enumerate_newB B) ⟨h1, ?_⟩
  have hz : (s.heap.push o).objs.size = s.heap.objs.size + 1 := Heap.size_push ..
  show _ ∧ _
  rw [hz]
  have he : IsEnum ((s.heap.push o).push { cls := .type "enumerate", data := .fields #[.none, .bool false, .ref s.heap.objs.size, rawInt 0, .none, .none] }) (s.heap.objs.size + 1) s.heap.objs.size 0 .none := by
    have := Heap.get?_push_size (s.heap.push o) (o := { cls := .type "enumerate", data := .fields #[.none, .bool false, .ref s.heap.objs.size, rawInt 0, .none, .none] }) rfl
    rw [hz] at this; exact this
  refine ⟨⟨_, he, rfl⟩, h _ he (Heap.get?_push_of_some _ (Heap.get?_push_size _ B.free)) (by rw [Heap.size_push, hz]) fun b o x => Heap.get?_push_of_some _ (Heap.get?_push_of_some _ x)⟩
end
end PySem
namespace MP
open PySem PySem.Spec PyProof.Rows L2
/-- the tuple at a, each item in a new pair -/
def IteT (K : PySem.W.Frag) (a : Addr) : It :=
  ⟨fun i H => ∃ (xs : List V) (x : V), SqT K H a xs ∧ xs[i]? = some x, fun i H v H' => ∃ T x, v = .ref T ∧ H T = none ∧ H' = upd H T (.tup [.int (i : Nat), x]) ∧ ∀ xs, SqT K H a xs → xs[i]? = some x, fun i H => ∃ xs : List V, SqT K H a xs ∧ xs.length ≤ i⟩
theorem turn_enumT {P : Program} {w : World} {K : PySem.W.Frag} {elts : List Expr} {kk : Nat} {tpos : Pos} (a e it : Addr) (hne : e ≠ it) (hea : e ≠ a) (hia : a ≠ it) :
    Turn P w K (.Tuple elts kk tpos) (IteT K a) [e, it] e (fun i h => (∃ old, IsEnum h e it ((i : Nat) : Int) old) ∧ h.IsTupleIter it a i) where
  mem := by simp
  obj := fun i h st b hb => by
    obtain ⟨⟨old, he⟩, ⟨o, ho, hc, hd⟩⟩ := st
    have e' : b = e ∨ b = it := by simpa using hb
    rcases e' with z | z
    · rw [z]; exact ⟨_, he, fun v q => nomatch q⟩
    · rw [z]; exact ⟨o, ho, fun v q => by rw [hd] at q; cases q⟩
  keep := fun i h h' st k => let ⟨⟨old, he⟩, hi⟩ := st; ⟨⟨old, k e (by simp) _ he⟩, hi.at fun o q => k it (by simp) o q⟩
  item := by
    intro X hP hw hK hc i pins s σ H E I hf st hg
    subst hP hw hK
    obtain ⟨⟨old, he⟩, hit⟩ := st
    obtain ⟨xs, x, hq, hx⟩ := hg
    obtain ⟨its, rv, p, hz⟩ := I.tuple hq
    obtain ⟨u, hu, ru⟩ := rv.get hx
    have hel : e < s.heap.objs.size := Heap.lt_size he
    have hil : it < s.heap.objs.size := by obtain ⟨_, q, _⟩ := hit; exact Heap.lt_size q
    have hlt : i < its.toArray.size := by
      have := (List.getElem?_eq_some_iff.mp hu).1
      simpa using this
    refine wpAny_pyNext_enum_itemD (Draws.tuple (A := X.A.in1) (I.ok.hd hc) it a hia its.toArray) he ⟨hit, p⟩ hlt hne (by simp [hne, hea]) fun x' h' tk hP ho hs' hT hsz hk => ?_
    have hxu : x' = u := by
      have h1 : its.toArray[i]? = some x' := hP
      rw [List.getElem?_toArray, hu] at h1
      exact (Option.some.inj h1).symm
    subst hxu
    refine ⟨_, rfl, wpAny_letOwnedTupleGo_enum (s := { s with heap := h', toks := tk + 1 }) ho fun h'' he' sb => ?_⟩
    have hT2 : h''.get? s.heap.objs.size = some { cls := .type "tuple", data := .seq #[.int i tk, x'] } := (sb.2 _ (Nat.ne_of_gt hel)).trans hT
    have new : ObjOk X.prog X.w (upd H s.heap.objs.size (.tup [.int (i : Nat), x])) h'' s.heap.objs.size (.tup [.int (i : Nat), x]) :=
      ⟨by show 2 ≤ sizeLine; decide, [.int i tk, x'], .cons ⟨_, rfl⟩ (.cons ru .nil), ⟨_, hT2, rfl, _, rfl⟩⟩
    have I1 : Inv X pins σ (upd H s.heap.objs.size (.tup [.int (i : Nat), x])) { s with heap := h'', toks := tk + 1 } :=
      I.turnedNew (ch := [e, it]) (fun b ob hb q => (sb.2 b (fun z => hb (by simp [z]))).trans (hk b ob (fun z => hb (by simp [z])) (fun z => hb (by simp [z])) q)) hf (Nat.le_refl _) new
    refine ⟨.ref s.heap.objs.size, _, I1, rfl, ⟨_, x, rfl, I.hok.fresh (Nat.le_refl _), rfl, fun ys hy => by rw [I.tuple_inj hy hq]; exact hx⟩, ⟨⟨x', ?_⟩, hs'.1.at fun o q => (sb.2 it (Ne.symm hne)).trans q⟩, fun b hb => ?_⟩
    · have e1 : ((i + 1 : Nat) : Int) = (i : Int) + 1 := by omega
      rw [e1]; exact he'
    · have hb' : b < s.heap.objs.size := by
        have e' : b = e ∨ b = it := by simpa using hb
        rcases e' with z | z
        · rw [z]; exact hel
        · rw [z]; exact hil
      rw [upd_ne (Nat.ne_of_lt hb')]
      exact (hf b hb).1
  done := by
    intro X hP hw hK hc i pins s σ H E I hf st hg
    subst hP hw hK
    obtain ⟨⟨old, he⟩, hit⟩ := st
    obtain ⟨xs, hq, hx⟩ := hg
    obtain ⟨its, rv, p, hz⟩ := I.tuple hq
    obtain ⟨f0, f1, f2, f3, f4, f5⟩ := hf it (by simp)
    have hl := rv.length
    have nn : its.toArray[i]? = none := by simp; omega
    have hT : s.TypeIs (.ref e) "enumerate" := ⟨_, he, rfl⟩
    unfold pyNext
    refine wpAny_bind (wpAny_attempt (wpAny_callSpecial?_slot (name := Str.ofString "__next__") hT F.slot_enumerate_next
      (wpAny_call_entry F.slot_enumerate_next hT F.entry_enumerate_next ?_ (F.args_enumerate_next_1 _))))
    show wpAny _ _ (field (.ref e) 2 >>= _) _ _ _
    refine wpAny_bind (wpAny_field he rfl (x := .ref it) rfl ?_)
    refine wpAny_bind (wpAny_nextOf_tuple_end (I.ok.hd hc) hit p nn fun h' x he' hx' => ?_)
    obtain ⟨o, ho, hc'⟩ := hx'
    refine wpAny_bind (wpAny_isInstance (T := "StopIteration") (b := true) ⟨o, ho, hc'⟩ isSubtype_stop ?_)
    exact wpAny_pure ⟨rfl, I.turned (t' := s.toks) (fun b o hb q => he' b o hb q) f0 f1 f3 f4 f5⟩
  self := fun A i s Q E st h => let ⟨⟨_, he⟩, _⟩ := st; wpAny_pyIter_enum he h
def iEnumA (K : PySem.W.Frag) (ta : TA) : TI := fun σ H R => ta σ H fun vs H1 => ∃ a xs, vs = [.ref a] ∧ ((SqL K H1 a xs ∧ R (Ite K a) H1) ∨ (SqT K H1 a xs ∧ R (IteT K a) H1))
theorem pi_enumA {X : Cx} {e : Expr} {ta : TA} {p pos tpos : Pos} {elts : List Expr} {kk : Nat} (hg : Gl X "enumerate") (hm : X.mg "enumerate" = none) (ha : PA X [e] ta) (hs : starEach [e] X.env = [(false, eval e X.env)] := by rfl) :
    PI X (.Tuple elts kk tpos) (.Call (.Name "enumerate" p) [e] [] pos) (iEnumA X.K ta) := by
  refine ⟨fun pins s σ H R I h => ?_⟩
  refine Call_ (ld_blt I hg hm boot_enumerate (PyProof.Rows.callWith_type1 (thn (ha.run pos pins s σ H _ I h) fun us s1 ⟨vs, H1, I1, r1, q1⟩ => ?_) hs rfl))
  obtain ⟨a, xs, ex, q1⟩ := q1
  subst ex
  cases r1 with
  | cons r rr =>
    cases rr
    cases r
    have fresh2 : ∀ b, b ∈ [s1.heap.objs.size + 1, s1.heap.objs.size] → FpOk X pins H1 b := fun b hb => by
      have e' : b = s1.heap.objs.size + 1 ∨ b = s1.heap.objs.size := by simpa using hb
      have hle : s1.heap.objs.size ≤ b := by
        rcases e' with z | z
        · rw [z]; exact Nat.le_add_right _ _
        · rw [z]; exact Nat.le_refl _
      exact I1.fpOk hle (I1.hok.fresh hle)
    rcases q1 with ⟨hq, q⟩ | ⟨hq, q⟩
    · obtain ⟨its, rv, p', hz⟩ := I1.list hq
      refine call_enumerate_list p'.isList fun h' he hit hsz hk => wpAny_pyIter_enum he ?_
      have I2 : Inv X pins σ H1 { s1 with heap := h' } := I1.kept (t' := s1.toks) hk
      exact ⟨s1.heap.objs.size + 1, [s1.heap.objs.size + 1, s1.heap.objs.size], _, _, H1, rfl, I2, turn_enum a (s1.heap.objs.size + 1) s1.heap.objs.size, ⟨⟨.none, he⟩, hit, Nat.succ_ne_self _⟩, fresh2, q⟩
    · obtain ⟨its, rv, p', hz⟩ := I1.tuple hq
      obtain ⟨o1, ho1, _⟩ := id p'
      have la := Heap.lt_size ho1
      refine mp_enum1 (begins_tuple a its.toArray) p' fun h' he hit hsz hk => wpAny_pyIter_enum he ?_
      have I2 : Inv X pins σ H1 { s1 with heap := h' } := I1.kept (t' := s1.toks) hk
      exact ⟨s1.heap.objs.size + 1, [s1.heap.objs.size + 1, s1.heap.objs.size], _, _, H1, rfl, I2, turn_enumT a (s1.heap.objs.size + 1) s1.heap.objs.size (Nat.succ_ne_self _) (Nat.ne_of_gt (Nat.lt_succ_of_lt la)) (Nat.ne_of_lt la), ⟨⟨.none, he⟩, ⟨_, hit, rfl, rfl⟩⟩, fresh2, q⟩

/-! ### series of new pairs -/
theorem enumL_get {xs : List PV} {i : Nat} {x : PV} (h : (enumL xs)[i]? = some x) : ∃ y, xs[i]? = some y ∧ x = .tup [.int (i : Nat), y] := by
  unfold enumL at h
  rw [List.getElem?_zipWith] at h
  by_cases hi : i < xs.length
  · rw [List.getElem?_range hi, List.getElem?_eq_getElem hi] at h
    exact ⟨xs[i], List.getElem?_eq_getElem hi, (Option.some.inj h).symm⟩
  · rw [List.getElem?_eq_none (by omega : xs.length ≤ i)] at h
    cases hr : (List.range xs.length)[i]? <;> rw [hr] at h <;> cases h
theorem enumL_len (xs : List PV) : (enumL xs).length = xs.length := by simp [enumL]
section
variable {as : List Addr} {K : PySem.W.Frag} {G H : Hp} {D : DS}
theorem ser_enumL {a : Addr} {vs : List V} {xs : List PV} {L : Hp → Hp → Prop} (hl : ∀ (more : List Addr) (G2 H2 : Hp) (D2 : DS), L G2 H2 → Wd (as ++ more) K G2 H2 D2 → SqL K H2 a vs ∧ TrS (as ++ more) K G2 vs xs) : Ser (Ite K a) as K (enumL xs) L := fun more G2 H2 D2 l w => by
  obtain ⟨sq, t⟩ := hl more G2 H2 D2 l w
  have e := t.len
  refine ⟨fun i hi => ⟨vs, vs[i]'(by rw [enumL_len] at hi; omega), sq, List.getElem?_eq_getElem (by rw [enumL_len] at hi; omega)⟩, fun i hi => ⟨vs, sq, by rw [enumL_len] at hi; omega⟩, fun i x v H' hx hy => ?_⟩
  obtain ⟨T, u, rfl, hT, rfl, hy⟩ := hy
  obtain ⟨y, e1, rfl⟩ := enumL_get hx
  obtain ⟨v', e2, t1⟩ := t.get e1
  have := hy vs sq
  rw [e2] at this
  cases this
  have st := Stp.new (as := as ++ more) (o := .tup [.int (i : Nat), u]) hT (w.free hT)
  exact ⟨_, st, w.new hT, .tup upd_same (.cons (.int _) (.cons (t1.up st.le) .nil))⟩
theorem ser_enumT {a : Addr} {vs : List V} {xs : List PV} {L : Hp → Hp → Prop} (hl : ∀ (more : List Addr) (G2 H2 : Hp) (D2 : DS), L G2 H2 → Wd (as ++ more) K G2 H2 D2 → SqT K H2 a vs ∧ TrS (as ++ more) K G2 vs xs) : Ser (IteT K a) as K (enumL xs) L := fun more G2 H2 D2 l w => by
  obtain ⟨sq, t⟩ := hl more G2 H2 D2 l w
  have e := t.len
  refine ⟨fun i hi => ⟨vs, vs[i]'(by rw [enumL_len] at hi; omega), sq, List.getElem?_eq_getElem (by rw [enumL_len] at hi; omega)⟩, fun i hi => ⟨vs, sq, by rw [enumL_len] at hi; omega⟩, fun i x v H' hx hy => ?_⟩
  obtain ⟨T, u, rfl, hT, rfl, hy⟩ := hy
  obtain ⟨y, e1, rfl⟩ := enumL_get hx
  obtain ⟨v', e2, t1⟩ := t.get e1
  have := hy vs sq
  rw [e2] at this
  cases this
  have st := Stp.new (as := as ++ more) (o := .tup [.int (i : Nat), u]) hT (w.free hT)
  exact ⟨_, st, w.new hT, .tup upd_same (.cons (.int _) (.cons (t1.up st.le) .nil))⟩
end
section
variable {T : Tb} {Φ : Fns} {N : List Str} {sc : Scope} {X : Cx} {e a b tg : Expr} {pos p tpos : Pos} {j kk : Nat} {ca cb : CE} {elts : List Expr}
theorem i_enum (g : Gd T Φ N sc X) (hg : sc.names.lookup ("enumerate" : Str) = some .globalImplicit) (hm : T.fr[j]? = some ("enumerate" : Str)) (ha : PV_ Φ X a ca) (hs : starEach [a] X.env = [(false, eval a X.env)] := by rfl) : PI_ Φ X (.Tuple elts kk tpos) (.Call (.Name "enumerate" p) [a] [] pos) (.enum ca) := by
  have hA : PA_ Φ X [a] (.cons ca .nil) := a_cons ha a_nil hs
  have hP := pi_strong (pi_enumA (p := p) (pos := pos) (tpos := tpos) (elts := elts) (kk := kk) (gl_of g hg) (g.fr j _ hm) hA hs)
  refine pi_imp hP fun σ H R ⟨as, G, ρ, D, xs, D', w, r, ee, f⟩ => ?_
  obtain ⟨⟨x, D1⟩, e1, ee⟩ := Option.bind_eq_some_iff.mp ee
  obtain ⟨ys, e2, ee⟩ := Option.map_eq_some_iff.mp ee
  cases ee
  refine ⟨as, G, ρ, D, [x], D1, w, r, by simp only [evs, e1, Option.bind_some, Option.map_some], fun vs G' H' st w' t => ?_⟩
  cases t with
  | cons t1 t2 =>
    cases t2
    cases x with
    | lst zs =>
      cases e2
      cases t1 with
      | lst hG ts => exact ⟨_, _, rfl, .inl ⟨.of (w'.sub _ _ hG), fun sz => f _ G' H' st w' (by rw [enumL_len, ← ts.len]; exact sz.1 _ _ (.of (w'.sub _ _ hG))) (ser_enumL fun more G2 H2 D2 l w2 => ⟨.of (w2.sub _ _ (l.lst hG)), ts.mono l more⟩)⟩⟩
    | tup zs =>
      cases e2
      cases t1 with
      | tup hG ts => exact ⟨_, _, rfl, .inr ⟨.of (w'.sub _ _ hG), fun sz => f _ G' H' st w' (by rw [enumL_len, ← ts.len]; exact sz.2 _ _ (.of (w'.sub _ _ hG))) (ser_enumT fun more G2 H2 D2 l w2 => ⟨.of (w2.sub _ _ (l.tup hG)), ts.mono l more⟩)⟩⟩
    | _ => cases e2
/-! ### zip -/
theorem zipL_get {xs ys : List PV} {i : Nat} {x : PV} (h : (zipL xs ys)[i]? = some x) : ∃ y z, xs[i]? = some y ∧ ys[i]? = some z ∧ x = .tup [y, z] := by
  unfold zipL at h
  rw [List.getElem?_zipWith] at h
  cases h1 : xs[i]? with
  | none => rw [h1] at h; cases h
  | some y =>
    cases h2 : ys[i]? with
    | none => rw [h1, h2] at h; cases h
    | some z => rw [h1, h2] at h; exact ⟨y, z, rfl, rfl, (Option.some.inj h).symm⟩
theorem zipL_len (xs ys : List PV) : (zipL xs ys).length = min xs.length ys.length := by simp [zipL]
theorem ser_zip {as : List Addr} {K : PySem.W.Frag} {a b : Addr} {us vs : List V} {xs ys : List PV} {L : Hp → Hp → Prop} (hl : ∀ (more : List Addr) (G2 H2 : Hp) (D2 : DS), L G2 H2 → Wd (as ++ more) K G2 H2 D2 → SqL K H2 a us ∧ SqL K H2 b vs ∧ TrS (as ++ more) K G2 us xs ∧ TrS (as ++ more) K G2 vs ys) : Ser (Itz K a b) as K (zipL xs ys) L := fun more G2 H2 D2 l w => by
  obtain ⟨sq, sq2, t, t2⟩ := hl more G2 H2 D2 l w
  have e := t.len
  have e2 := t2.len
  refine ⟨fun i hi => ⟨us, vs, us[i]'(by rw [zipL_len] at hi; omega), vs[i]'(by rw [zipL_len] at hi; omega), sq, sq2, List.getElem?_eq_getElem (by rw [zipL_len] at hi; omega), List.getElem?_eq_getElem (by rw [zipL_len] at hi; omega)⟩, fun i hi => ⟨us, vs, sq, sq2, by rw [zipL_len] at hi; omega⟩, fun i x v H' hx hy => ?_⟩
  obtain ⟨T, u, v, rfl, hT, rfl, hy, hy2⟩ := hy
  obtain ⟨y, z, q1, q2, rfl⟩ := zipL_get hx
  obtain ⟨u', e3, t3⟩ := t.get q1
  obtain ⟨v', e4, t4⟩ := t2.get q2
  have := hy us sq
  rw [e3] at this
  cases this
  have := hy2 vs sq2
  rw [e4] at this
  cases this
  have st := Stp.new (as := as ++ more) (o := .tup [u, v]) hT (w.free hT)
  exact ⟨_, st, w.new hT, .tup upd_same (.cons (t3.up st.le) (.cons (t4.up st.le) .nil))⟩
theorem ser_zipT {as : List Addr} {K : PySem.W.Frag} {a b : Addr} {us vs : List V} {xs ys : List PV} {L : Hp → Hp → Prop} (hl : ∀ (more : List Addr) (G2 H2 : Hp) (D2 : DS), L G2 H2 → Wd (as ++ more) K G2 H2 D2 → SqT K H2 a us ∧ SqT K H2 b vs ∧ TrS (as ++ more) K G2 us xs ∧ TrS (as ++ more) K G2 vs ys) : Ser (RZ.ItzT K a b) as K (zipL xs ys) L := fun more G2 H2 D2 l w => by
  obtain ⟨sq, sq2, t, t2⟩ := hl more G2 H2 D2 l w
  have e := t.len
  have e2 := t2.len
  refine ⟨fun i hi => ⟨us, vs, us[i]'(by rw [zipL_len] at hi; omega), vs[i]'(by rw [zipL_len] at hi; omega), sq, sq2, List.getElem?_eq_getElem (by rw [zipL_len] at hi; omega), List.getElem?_eq_getElem (by rw [zipL_len] at hi; omega)⟩, fun i hi => ⟨us, vs, sq, sq2, by rw [zipL_len] at hi; omega⟩, fun i x v H' hx hy => ?_⟩
  obtain ⟨T, u, v, rfl, hT, rfl, hy, hy2⟩ := hy
  obtain ⟨y, z, q1, q2, rfl⟩ := zipL_get hx
  obtain ⟨u', e3, t3⟩ := t.get q1
  obtain ⟨v', e4, t4⟩ := t2.get q2
  have := hy us sq
  rw [e3] at this
  cases this
  have := hy2 vs sq2
  rw [e4] at this
  cases this
  have st := Stp.new (as := as ++ more) (o := .tup [u, v]) hT (w.free hT)
  exact ⟨_, st, w.new hT, .tup upd_same (.cons (t3.up st.le) (.cons (t4.up st.le) .nil))⟩
theorem i_zip (g : Gd T Φ N sc X) (hg : sc.names.lookup ("zip" : Str) = some .globalImplicit) (hm : T.fr[j]? = some ("zip" : Str)) (ha : PV_ Φ X a ca) (hb : PV_ Φ X b cb)
    (hs : starEach [a, b] X.env = (false, eval a X.env) :: starEach [b] X.env := by rfl) (hs2 : starEach [b] X.env = (false, eval b X.env) :: starEach [] X.env := by rfl) (hpl : (backTo pos (starEach [b] X.env)).any (·.1) = false := by rfl) :
    PI_ Φ X (.Tuple elts kk tpos) (.Call (.Name "zip" p) [a, b] [] pos) (.zip ca cb) := by
  have hA : PA_ Φ X [a, b] (.cons ca (.cons cb .nil)) := a_cons ha (a_cons hb a_nil hs2) hs
  have hP := pi_strong (RZ.pi_zipA (p := p) (pos := pos) (tpos := tpos) (elts := elts) (kk := kk) (gl_of g hg) (g.fr j _ hm) hA hs hpl)
  refine pi_imp hP fun σ H R ⟨as, G, ρ, D, xs, D', w, r, ee, f⟩ => ?_
  obtain ⟨⟨x, D1⟩, e1, ee⟩ := Option.bind_eq_some_iff.mp ee
  obtain ⟨⟨y, D2⟩, e3, ee⟩ := Option.bind_eq_some_iff.mp ee
  obtain ⟨zx, e2, ee⟩ := Option.map_eq_some_iff.mp ee
  cases ee
  refine ⟨as, G, ρ, D, [x, y], D2, w, r, by simp only [evs, e1, e3, Option.bind_some, Option.map_some], fun vs G' H' st w' t => ?_⟩
  cases t with
  | cons t1 t2 =>
    cases t2 with
    | cons t2 t3 =>
      cases t3
      cases x with
      | lst xs =>
        cases y with
        | lst ys =>
          cases e2
          cases t1 with
          | lst hG ts =>
            cases t2 with
            | lst hG2 ts2 => exact ⟨_, _, _, _, rfl, .inl ⟨.of (w'.sub _ _ hG), .of (w'.sub _ _ hG2), fun sz => f _ G' H' st w' (by
                have := sz.1 _ _ (.of (w'.sub _ _ hG))
                rw [zipL_len, ← ts.len]; exact Nat.le_trans (Nat.min_le_left _ _) this) (ser_zip fun more G2 H2 D2 l w2 => ⟨.of (w2.sub _ _ (l.lst hG)), .of (w2.sub _ _ (l.lst hG2)), ts.mono l more, ts2.mono l more⟩)⟩⟩
        | _ => cases e2
      | tup xs =>
        cases y with
        | tup ys =>
          cases e2
          cases t1 with
          | tup hG ts =>
            cases t2 with
            | tup hG2 ts2 => exact ⟨_, _, _, _, rfl, .inr ⟨.of (w'.sub _ _ hG), .of (w'.sub _ _ hG2), fun sz => f _ G' H' st w' (by
                have := sz.2 _ _ (.of (w'.sub _ _ hG))
                rw [zipL_len, ← ts.len]; exact Nat.le_trans (Nat.min_le_left _ _) this) (ser_zipT fun more G2 H2 D2 l w2 => ⟨.of (w2.sub _ _ (l.tup hG)), .of (w2.sub _ _ (l.tup hG2)), ts.mono l more, ts2.mono l more⟩)⟩⟩
        | _ => cases e2
      | _ => cases e2
end
end MP

/-! MP ge: more rules as the printer takes them. -/
namespace MP
open PySem PySem.Spec PyProof.Rows L2
section
variable {T : Tb} {Φ : Fns} {N : List Str} {sc : Scope} {X : Cx} {e a b k f tg : Expr} {pos p np : Pos} {i : Nat} {x : Str} {c ck ca cb : CE}
theorem gs_ext {apos cpos : Pos} (g : Gd T Φ N sc X) (he : PV_ Φ X e c) (h : varB N sc i x = true := by decide +kernel)
    (hbase : attributeBase (.Name x np) "extend" X.env (eval (.Name x np) X.env) = eval (.Name x np) X.env := by rfl)
    (hfew : ((backTo cpos (starEach [e] X.env)).all (fun x => !x.1) && (backToKw cpos (keywordEach [] X.env)).all (fun x => x.1.isSome) && decide (([e] : List Expr).length + ([] : List Keyword).length + (if ([] : List Keyword).isEmpty then 0 else 1) < 30)) = true := by rfl)
    (hline : (apos.endLine == cpos.line) = true := by rfl) (hs : starEach [e] X.env = (false, eval e X.env) :: starEach [] X.env := by rfl) : PS_ Φ X (.Expr (.Call (.Attribute (.Name x np) "extend" apos) [e] [] cpos) pos) (.ext i c) :=
  let ⟨h1, h2, h3, h4⟩ := varB_of h; s_ext g h1 h2 he hbase hfew hline hs rfl rfl h3 h4
theorem gs_ins {apos cpos : Pos} (g : Gd T Φ N sc X) (hk : PV_ Φ X k ck) (he : PV_ Φ X e c) (h : varB N sc i x = true := by decide +kernel)
    (hbase : attributeBase (.Name x np) "insert" X.env (eval (.Name x np) X.env) = eval (.Name x np) X.env := by rfl)
    (hfew : ((backTo cpos (starEach [k, e] X.env)).all (fun x => !x.1) && (backToKw cpos (keywordEach [] X.env)).all (fun x => x.1.isSome) && decide (([k, e] : List Expr).length + ([] : List Keyword).length + (if ([] : List Keyword).isEmpty then 0 else 1) < 30)) = true := by rfl)
    (hline : (apos.endLine == cpos.line) = true := by rfl) (hs : starEach [k, e] X.env = (false, eval k X.env) :: starEach [e] X.env := by rfl) (hs2 : starEach [e] X.env = (false, eval e X.env) :: starEach [] X.env := by rfl) (hplain : (backTo cpos (starEach [e] X.env)).any (·.1) = false := by rfl) : PS_ Φ X (.Expr (.Call (.Attribute (.Name x np) "insert" apos) [k, e] [] cpos) pos) (.ins i ck c) :=
  let ⟨h1, h2, h3, h4⟩ := varB_of h; s_ins g h1 h2 hk he hbase hfew hline hs hs2 hplain rfl h3 h4
theorem gs_rem {apos cpos : Pos} (g : Gd T Φ N sc X) (he : PV_ Φ X e c) (h : varB N sc i x = true := by decide +kernel)
    (hbase : attributeBase (.Name x np) "remove" X.env (eval (.Name x np) X.env) = eval (.Name x np) X.env := by rfl)
    (hfew : ((backTo cpos (starEach [e] X.env)).all (fun x => !x.1) && (backToKw cpos (keywordEach [] X.env)).all (fun x => x.1.isSome) && decide (([e] : List Expr).length + ([] : List Keyword).length + (if ([] : List Keyword).isEmpty then 0 else 1) < 30)) = true := by rfl)
    (hline : (apos.endLine == cpos.line) = true := by rfl) (hs : starEach [e] X.env = (false, eval e X.env) :: starEach [] X.env := by rfl) : PS_ Φ X (.Expr (.Call (.Attribute (.Name x np) "remove" apos) [e] [] cpos) pos) (.rem i c) :=
  let ⟨h1, h2, h3, h4⟩ := varB_of h; s_rem g h1 h2 he hbase hfew hline hs rfl rfl h3 h4
theorem gs_pop {apos cpos : Pos} {pt : Pat} (g : Gd T Φ N sc X) (hp : PP_ X tg pt) (h : varB N sc i x = true := by decide +kernel)
    (hbase : attributeBase (.Name x np) "pop" X.env (eval (.Name x np) X.env) = eval (.Name x np) X.env := by rfl) (hline : (apos.endLine == cpos.line) = true := by rfl)
    (hs : swapsWithSole [tg] (.Call (.Attribute (.Name x np) "pop" apos) [] [] cpos) pos.line X.env = pure false := by rfl) (hw : swappedStores [tg] (.Call (.Attribute (.Name x np) "pop" apos) [] [] cpos) X.env = pure none := by rfl)
    (h1 : (assignEach [tg] X.env).map (·.2) = [assign tg X.env] := by rfl) : PS_ Φ X (.Assign [tg] (.Call (.Attribute (.Name x np) "pop" apos) [] [] cpos) pos) (.pop pt i) :=
  let ⟨q1, q2, q3, q4⟩ := varB_of h; s_pop g q1 q2 hp hbase hline hs hw h1 q3 q4
theorem gs_pop0 {apos cpos zp : Pos} {j : Nat} {pt : Pat} (g : Gd T Φ N sc X) (hp : PP_ X tg pt) (h : varB N sc i x = true := by decide +kernel)
    (hbase : attributeBase (.Name x np) "pop" X.env (eval (.Name x np) X.env) = eval (.Name x np) X.env := by rfl)
    (hfew : ((backTo cpos (starEach [.Constant (.int 0) j zp] X.env)).all (fun x => !x.1) && (backToKw cpos (keywordEach [] X.env)).all (fun x => x.1.isSome) && decide (([.Constant (.int 0) j zp] : List Expr).length + ([] : List Keyword).length + (if ([] : List Keyword).isEmpty then 0 else 1) < 30)) = true := by rfl)
    (hline : (apos.endLine == cpos.line) = true := by rfl) (hst : starEach [.Constant (.int 0) j zp] X.env = (false, eval (.Constant (.int 0) j zp) X.env) :: starEach [] X.env := by rfl)
    (hs : swapsWithSole [tg] (.Call (.Attribute (.Name x np) "pop" apos) [.Constant (.int 0) j zp] [] cpos) pos.line X.env = pure false := by rfl) (hw : swappedStores [tg] (.Call (.Attribute (.Name x np) "pop" apos) [.Constant (.int 0) j zp] [] cpos) X.env = pure none := by rfl)
    (h1 : (assignEach [tg] X.env).map (·.2) = [assign tg X.env] := by rfl) : PS_ Φ X (.Assign [tg] (.Call (.Attribute (.Name x np) "pop" apos) [.Constant (.int 0) j zp] [] cpos) pos) (.pop0 pt i) :=
  let ⟨q1, q2, q3, q4⟩ := varB_of h; s_pop0 g q1 q2 hp hbase hfew hline hst rfl hs hw h1 q3 q4
theorem gie {elts : List Expr} {kk : Nat} {tpos : Pos} (g : Gd T Φ N sc X) (j : Nat) (ha : PV_ Φ X a ca) (h : gloB T sc j "enumerate" = true := by decide +kernel) (hs : starEach [a] X.env = [(false, eval a X.env)] := by rfl) : PI_ Φ X (.Tuple elts kk tpos) (.Call (.Name "enumerate" p) [a] [] pos) (.enum ca) :=
  let ⟨h1, h2, _, _⟩ := gloB_of h; i_enum g h2 h1 ha hs
theorem giz {elts : List Expr} {kk : Nat} {tpos : Pos} (g : Gd T Φ N sc X) (j : Nat) (ha : PV_ Φ X a ca) (hb : PV_ Φ X b cb) (h : gloB T sc j "zip" = true := by decide +kernel)
    (hs : starEach [a, b] X.env = (false, eval a X.env) :: starEach [b] X.env := by rfl) (hs2 : starEach [b] X.env = (false, eval b X.env) :: starEach [] X.env := by rfl) (hpl : (backTo pos (starEach [b] X.env)).any (·.1) = false := by rfl) :
    PI_ Φ X (.Tuple elts kk tpos) (.Call (.Name "zip" p) [a, b] [] pos) (.zip ca cb) :=
  let ⟨h1, h2, _, _⟩ := gloB_of h; i_zip g h2 h1 ha hb hs hs2 hpl
/-! ### list(range(n)), tuple(range(n)) -/
theorem one_int {ρ : Envi} {D D' : DS} {ca : CE} {y : PV} {bi : Bi} (hbi : ∀ z x, pBi bi [x] = some z → ∃ n, x = .int n) (ee : ev Φ (.bi bi (.cons ca .nil)) ρ D = some (y, D')) : ∃ x n, ev Φ ca ρ D = some (x, D') ∧ opd D' x = some (.int n) ∧ pBi bi [.int n] = some y := by
  obtain ⟨⟨ws, D1⟩, e1, ee⟩ := Option.bind_eq_some_iff.mp ee
  obtain ⟨ys, e2, ee⟩ := Option.bind_eq_some_iff.mp ee
  obtain ⟨z, e3, ee⟩ := Option.map_eq_some_iff.mp ee
  cases ee
  obtain ⟨⟨x, D2⟩, e4, e5⟩ := Option.bind_eq_some_iff.mp (show (ev Φ ca ρ D).bind (fun r => (evs Φ .nil ρ r.2).map fun q => (r.1 :: q.1, q.2)) = some (ws, _) from e1)
  obtain ⟨⟨zs, D3⟩, e6, e7⟩ := Option.map_eq_some_iff.mp e5
  have e6 : some (([] : List PV), D2) = some (zs, D3) := e6
  cases e6
  cases e7
  obtain ⟨x', e8, e9⟩ := Option.bind_eq_some_iff.mp (show (opd _ x).bind (fun y => (mapO (opd _) []).bind fun ys => some (y :: ys)) = some ys from e2)
  have e9 : some [x'] = some ys := e9
  cases e9
  obtain ⟨n, rfl⟩ := hbi _ _ e3
  exact ⟨x, n, e4, e8, e3⟩
theorem opd_int' {as : List Addr} {K : PySem.W.Frag} {G H : Hp} {D : DS} {x : PV} {n : Int} (w : Wd as K G H D) (h : opd D x = some (.int n)) : x = .int n := by
  cases x with
  | shr j =>
    exfalso
    obtain ⟨y, h1, h2⟩ := Option.map_eq_some_iff.mp (show (D[j]?).map _ = some (PV.int n) from h)
    have hj := (List.getElem?_eq_some_iff.mp h1).1
    have ha : as[j]? = some (as[j]'(by rw [w.len]; exact hj)) := List.getElem?_eq_getElem _
    have o := w.sh j _ y ha h1
    cases y with
    | lck z =>
      have : z = .int n := h2
      subst this
      exact o
    | int z => exact o
    | _ => cases h2
  | _ => first | exact Option.some.inj h | cases h
theorem f_lrg {q : Pos} (g : Gd T Φ N sc X) (j j2 : Nat) (ha : PV_ Φ X a ca) (h : gloB T sc j "list" = true := by decide +kernel) (h' : gloB T sc j2 "range" = true := by decide +kernel) {p2 : Pos}
    (na : starEach [a] X.env = (false, eval a X.env) :: starEach [] X.env := by rfl) (na2 : starEach [.Call (.Name "range" p2) [a] [] q] X.env = (false, eval (.Call (.Name "range" p2) [a] [] q) X.env) :: starEach [] X.env := by rfl) :
    PF_ Φ X (.Call (.Name "list" p) [.Call (.Name "range" p2) [a] [] q] [] pos) (.bi .listRange (.cons ca .nil)) := by
  obtain ⟨h1, h2, _, _⟩ := gloB_of h
  obtain ⟨k1, k2, _, _⟩ := gloB_of h'
  refine pe_imp (pe_listRg (p := p) g.calm (gl_of g h2) (g.fr j _ h1) (prg_1 (p := p2) (pos := q) (gl_of g k2) (g.fr j2 _ k1) ha na) na2) fun σ H Q ⟨as, G, ρ, D, y, D', w, r, ee, f⟩ => ?_
  obtain ⟨x, n, e1, e2, e3⟩ := one_int (fun z x hz => by
    cases x <;> first | exact ⟨_, rfl⟩ | cases hz) ee
  refine ⟨as, G, ρ, D, x, D', w, r, e1, fun v G1 H1 st1 w1 t1 => ?_⟩
  obtain rfl := opd_int' w1 e2
  cases t1
  have e3' : (if n ≤ LIM ∧ -LIM ≤ n then some (PV.lst ((List.range n.toNat).map fun (k : Nat) => .int k)) else none) = some y := e3
  split at e3'
  case isFalse => cases e3'
  rename_i hl
  cases e3'
  have hL : ((LIM : Nat) : Int) = 1000000 := rfl
  refine ⟨n, rfl, ⟨by omega, by omega, by omega, by omega, by omega⟩, fun p hp => f p G1 _ (st1.trans (Stp.own hp)) (w1.ownp hp) (none_back st1 hp) (w1.free hp) ⟨_, upd_same, ?_⟩⟩
  have : rgV 0 n = (List.range n.toNat).map fun (k : Nat) => V.int k := by
    unfold rgV; simp
  rw [this]
  have t := TrS.ints (as := as) (K := X.K) (G := G1) ((List.range n.toNat).map fun (k : Nat) => (k : Int))
  rw [List.map_map, List.map_map] at t
  exact t

end
end MP

/-! MP hd: a def of the text, for the head. -/
namespace MP
open PySem PySem.Spec PyProof.Rows L2

theorem fn_step {T : Tb} {defs : List Def} {P : Program} {w : World} {K : PySem.W.Frag} {mg : Str → Option Value} {base : Heap} {n : Nat} (ih : Alls T defs P w K mg base n)
    (hfr : ∀ (j : Nat) (x : Str), T.fr[j]? = some x → mg x = none) (hcs : ∀ (j : Nat) (x s : Str), T.cs[j]? = some (x, s) → ∃ t, mg x = some (.str s t))
    {g : Nat} {f : Addr} {fd : FuncData} {ps N : List Str} {x qual : Str} {params : Arguments} {body : List Stmt} {scope : Scope} {kws : List (Str × V)} {cs : CSs} (F : FunD K x qual params body scope [] kws f fd) (S : FnScope N ps scope)
    (e : defs[g]? = some ⟨N.length, ps.length, cs⟩) (hb : ∀ (Φ : Fns) (X : Cx), Gd T Φ N scope X → (∀ x, X.fn x = true) → PSs_ Φ X body cs) : FnOk P w K mg base CX0 (n + 1) f fd ps (spOf K (sem defs (n + 1) g) ps.length) := by
  refine F.ok S (fun vs H Q E q => q.1) fun cdv A outer s H vs Q E hr ⟨hlen, as, G, D, xs, r, D', wd, t, er, fin⟩ => ⟨sSs K (sem defs n) cs, PSs.nox (hb _ _ ?_ fun _ => rfl), ?_⟩
  · exact ⟨rfl, rfl, S.nd, rfl, rfl, by have := hr.un; show (A.deeper _).units + 65 < cLine; omega, fun g' x' m' h' => by
      obtain ⟨f', fd', ps', q1, q2, q3, q4⟩ := ih g' x' m' h'
      exact ⟨n, f', fd', ps', q1, q2, q3, hr, q4⟩, hfr, hcs⟩
  · have er' : (defs[g]?).bind (fun d => d.run (sem defs n) xs D) = some (r, D') := er
    rw [e] at er'
    have hpl : ps.length ≤ N.length := by have := congrArg List.length S.pre; rw [List.length_take] at this; omega
    exact run_ok (T := T) hpl wd t hlen er' fin
/-- a law: true at every script -/
theorem law_sp {K : PySem.W.Frag} {φ : List PV → DS → Option (PV × DS)} {n : Nat} (h : ∀ ns : List Int, ns.length ≤ n → ∃ D, φ [.scr ns] [] = some (.bl true, D)) (H : Hp) (a : Addr) (ns : List Int) (hl : ns.length ≤ n) (ho : Only H) (hS : SqL K H a (ns.map V.int)) :
    spOf K φ 1 [.ref a] H (fun v _ => v = .bl true) fun _ _ _ => False := by
  obtain ⟨D, e⟩ := h ns hl
  refine ⟨rfl, [], H, [], [.scr ns], .bl true, D, ⟨fun _ _ h => h, List.nodup_nil, rfl, fun a h => absurd h (by simp), fun j a x h => by simp at h⟩, .cons (.scr hS) .nil, e, fun v G' H' _ _ t => ?_⟩
  cases t
  rfl
end MP

namespace MP.K13
open PySem PySem.Spec PyProof.Rows L2 MP
def pw_ : Program := PySem.Challenge.pw_toolslent_k13_service_between_loans
def top (i : Nat) : Stmt := (PySem.Challenge.pw_toolslent_k13_service_between_loans).main.body.getD i (.Pass ⟨0, 0, 0, 0⟩)
def TT : Tb := { fns := [("is_number", 1), ("is_from", 2), ("is_tuple_of", 2), ("all_rows", 1), ("are_uses", 1), ("gaps_of", 2), ("hours_along", 1), ("is_served", 5), ("fewest_services", 4), ("has_room", 3), ("least_most", 4), ("wear_after", 4), ("best_places", 6), ("broken_by", 5), ("shared_bench", 2), ("is_free", 4), ("renewed_sets", 2), ("cheapest_plan", 2), ("next_service", 3), ("_law_draws", 2), ("_law_next", 2), ("_law_pick", 2), ("_law_alike", 2), ("_law_room", 4), ("_law_served", 5), ("_law_sets", 1), ("_law_wear", 4), ("_law_joined", 1), ("_law_since", 2), ("_law_judged", 1), ("law", 1)], fr := ["abs", "all", "bool", "enumerate", "int", "isinstance", "len", "list", "max", "min", "range", "sorted", "str", "sum", "tuple", "zip"], cs := [] }
def N_f_is_number : List Str := [("thing" : Str)]
def c_f_is_number : CSs := (.cons (.ret (.and_ (.cons (.isi .tint (.var 0)) (.cons (.not_ (.isi .tbool (.var 0))) .nil))))
 .nil)
theorem w_f_is_number {Φ : Fns} {X : Cx} (g : Gd TT Φ N_f_is_number (defScope (top 1)) X) (hF : ∀ x, X.fn x = true) : PSs_ Φ X (defBody (top 1)) c_f_is_number := (ss_cons (s_ret (v_and (g_isi .tint g 5 4 (v_o (gv g))) (v_and1 (v_not (g_isi .tbool g 5 2 (v_o (gv g)))))))
 ss_nil)
def N_f_is_from : List Str := [("thing" : Str), ("least" : Str)]
def c_f_is_from : CSs := (.cons (.ret (.and_ (.cons (.call 0 (.cons (.var 0) .nil)) (.cons (.cmp .ge (.var 0) (.var 1)) .nil))))
 .nil)
theorem w_f_is_from {Φ : Fns} {X : Cx} (g : Gd TT Φ N_f_is_from (defScope (top 2)) X) (hF : ∀ x, X.fn x = true) : PSs_ Φ X (defBody (top 2)) c_f_is_from := (ss_cons (s_ret (v_and (g_call g 0 (a_cons (gv g) a_nil)) (v_and1 (v_cmp (op := .ge) g (v_o (gv g)) (v_o (gv g))))))
 ss_nil)
def N_f_is_tuple_of : List Str := [("thing" : Str), ("many" : Str)]
def c_f_is_tuple_of : CSs := (.cons (.ret (.and_ (.cons (.isi .ttup (.var 0)) (.cons (.cmp .eq (.bi .len (.cons (.var 0) .nil)) (.var 1)) .nil))))
 .nil)
theorem w_f_is_tuple_of {Φ : Fns} {X : Cx} (g : Gd TT Φ N_f_is_tuple_of (defScope (top 3)) X) (hF : ∀ x, X.fn x = true) : PSs_ Φ X (defBody (top 3)) c_f_is_tuple_of := (ss_cons (s_ret (v_and (g_isi .ttup g 5 14 (v_o (gv g))) (v_and1 (v_cmp (op := .eq) g (v_o (g_len g 6 (v_o (gv g)))) (v_o (gv g))))))
 ss_nil)
def N_f_all_rows : List Str := [("sizes" : Str), ("rows" : Str), ("size" : Str), ("row" : Str), ("k" : Str)]
def c_f_all_rows : CSs := (.cons (.asg false 1 (.lst (.cons (.tup .nil) .nil)))
 (.cons (.for_ (.nm 2) (.over (.var 0)) (.cons (.asg false 1 (.lc2 [3, 4] (.bin .add (.var 3) (.tup (.cons (.var 4) .nil))) (.nm 3) (.over (.var 1)) .nil [4] (.nm 4) (.rng1 (.var 2)) .nil))
 .nil))
 (.cons (.ret (.var 1))
 .nil)))
theorem w_f_all_rows {Φ : Fns} {X : Cx} (g : Gd TT Φ N_f_all_rows (defScope (top 4)) X) (hF : ∀ x, X.fn x = true) : PSs_ Φ X (defBody (top 4)) c_f_all_rows := (ss_cons (gs_asg g hF (f_v (f_lst (a_cons (v_tup a_nil) a_nil))))
 (ss_cons (s_for g (i_over (gv g)) (gp g (hf := .inl (hF _))) (ss_cons (s_ofV (g_lc2S [("row", 3), ("k", 4)] [4] g (i_j (i_over (gv g))) (fun s1 H1 C1 l1 f1 => (gp (Gd.blk g s1 H1 _ C1 l1 f1))) (fun s1 H1 C1 l1 f1 => ts_nil) (fun s1 H1 C1 l1 f1 => (gi1 (Gd.blk g s1 H1 _ C1 l1 f1) 10 (gv (Gd.blk g s1 H1 _ C1 l1 f1)))) (fun s1 H1 C1 l1 f1 => (gp (Gd.blk g s1 H1 _ C1 l1 f1))) (fun s1 H1 C1 l1 f1 => ts_nil) (fun s1 H1 C1 l1 f1 => (v_bin (op := .add) (v_o (gv (Gd.blk g s1 H1 _ C1 l1 f1))) (v_o (v_tup (a_cons (gv (Gd.blk g s1 H1 _ C1 l1 f1)) a_nil)))))))
 ss_nil))
 (ss_cons (s_ret (gv g))
 ss_nil)))
def N_f_are_uses : List Str := [("thing" : Str), ("k" : Str), ("one" : Str)]
def c_f_are_uses : CSs := (.cons (.ife (.or_ (.cons (.not_ (.isi .ttup (.var 0))) (.cons (.not_ (.bi .all (.cons (.lc1 [2] (.call 2 (.cons (.var 2) (.cons (.int 3) .nil))) (.nm 2) (.over (.var 0)) .nil) .nil))) .nil))) (.cons (.ret (.bl false))
 .nil) .nil)
 (.cons (.ife (.not_ (.bi .all (.cons (.lc1 [2] (.and_ (.cons (.call 1 (.cons (.idx (.var 2) (.int 0)) (.cons (.int 0) .nil))) (.cons (.call 1 (.cons (.idx (.var 2) (.int 1)) (.cons (.int 0) .nil))) (.cons (.call 1 (.cons (.idx (.var 2) (.int 2)) (.cons (.int 0) .nil))) (.cons (.cmp .lt (.idx (.var 2) (.int 0)) (.idx (.var 2) (.int 1))) .nil))))) (.nm 2) (.over (.var 0)) .nil) .nil))) (.cons (.ret (.bl false))
 .nil) .nil)
 (.cons (.ret (.bi .all (.cons (.lc1 [1] (.cmp .le (.idx (.idx (.var 0) (.var 1)) (.int 1)) (.idx (.idx (.var 0) (.bin .add (.var 1) (.int 1))) (.int 0))) (.nm 1) (.rng1 (.bin .sub (.bi .len (.cons (.var 0) .nil)) (.int 1))) .nil) .nil)))
 .nil)))
theorem w_f_are_uses {Φ : Fns} {X : Cx} (g : Gd TT Φ N_f_are_uses (defScope (top 6)) X) (hF : ∀ x, X.fn x = true) : PSs_ Φ X (defBody (top 6)) c_f_are_uses := (ss_cons (s_if (w_t (w_or (t_not (t_val (g_isi .ttup g 5 14 (v_o (gv g))))) (w_or1 (t_not (t_val (g_all g 1 (v_o (f_v (g_lc1 [("one", 2)] g (i_j (i_over (gv g))) (fun s1 H1 C1 l1 f1 => (gp (Gd.blk g s1 H1 _ C1 l1 f1))) (fun s1 H1 C1 l1 f1 => ts_nil) (fun s1 H1 C1 l1 f1 => (g_call (Gd.blk g s1 H1 _ C1 l1 f1) 2 (a_cons (gv (Gd.blk g s1 H1 _ C1 l1 f1)) (a_cons v_int a_nil))))))))))))) (ss_cons (s_ret v_bl)
 ss_nil) ss_nil)
 (ss_cons (s_if (t_not (t_val (g_all g 1 (v_o (f_v (g_lc1 [("one", 2)] g (i_j (i_over (gv g))) (fun s1 H1 C1 l1 f1 => (gp (Gd.blk g s1 H1 _ C1 l1 f1))) (fun s1 H1 C1 l1 f1 => ts_nil) (fun s1 H1 C1 l1 f1 => (v_and (g_call (Gd.blk g s1 H1 _ C1 l1 f1) 1 (a_cons (v_idx (Gd.blk g s1 H1 _ C1 l1 f1) (v_o (gv (Gd.blk g s1 H1 _ C1 l1 f1))) (v_o v_int)) (a_cons v_int a_nil))) (v_and (g_call (Gd.blk g s1 H1 _ C1 l1 f1) 1 (a_cons (v_idx (Gd.blk g s1 H1 _ C1 l1 f1) (v_o (gv (Gd.blk g s1 H1 _ C1 l1 f1))) (v_o v_int)) (a_cons v_int a_nil))) (v_and (g_call (Gd.blk g s1 H1 _ C1 l1 f1) 1 (a_cons (v_idx (Gd.blk g s1 H1 _ C1 l1 f1) (v_o (gv (Gd.blk g s1 H1 _ C1 l1 f1))) (v_o v_int)) (a_cons v_int a_nil))) (v_and1 (v_cmp (op := .lt) (Gd.blk g s1 H1 _ C1 l1 f1) (v_o (v_idx (Gd.blk g s1 H1 _ C1 l1 f1) (v_o (gv (Gd.blk g s1 H1 _ C1 l1 f1))) (v_o v_int))) (v_o (v_idx (Gd.blk g s1 H1 _ C1 l1 f1) (v_o (gv (Gd.blk g s1 H1 _ C1 l1 f1))) (v_o v_int))))))))))))))) (ss_cons (s_ret v_bl)
 ss_nil) ss_nil)
 (ss_cons (s_ret (g_all g 1 (v_o (f_v (g_lc1 [("k", 1)] g (i_j (gi1 g 10 (v_bin (op := .sub) (v_o (g_len g 6 (v_o (gv g)))) (v_o v_int)))) (fun s1 H1 C1 l1 f1 => (gp (Gd.blk g s1 H1 _ C1 l1 f1))) (fun s1 H1 C1 l1 f1 => ts_nil) (fun s1 H1 C1 l1 f1 => (v_cmp (op := .le) (Gd.blk g s1 H1 _ C1 l1 f1) (v_o (v_idx (Gd.blk g s1 H1 _ C1 l1 f1) (v_o (v_idx (Gd.blk g s1 H1 _ C1 l1 f1) (v_o (gv (Gd.blk g s1 H1 _ C1 l1 f1))) (v_o (gv (Gd.blk g s1 H1 _ C1 l1 f1))))) (v_o v_int))) (v_o (v_idx (Gd.blk g s1 H1 _ C1 l1 f1) (v_o (v_idx (Gd.blk g s1 H1 _ C1 l1 f1) (v_o (gv (Gd.blk g s1 H1 _ C1 l1 f1))) (v_o (v_bin (op := .add) (v_o (gv (Gd.blk g s1 H1 _ C1 l1 f1))) (v_o v_int))))) (v_o v_int))))))))))
 ss_nil)))
def N_f_gaps_of : List Str := [("uses" : Str), ("last" : Str), ("found" : Str), ("at" : Str), ("begin" : Str), ("end" : Str), ("_" : Str)]
def c_f_gaps_of : CSs := (.cons (.par (nms [2, 3]) [true, false] (.cons (.lst .nil) (.cons (.int 0) .nil)))
 (.cons (.for_ (.tp [(.nm 4), (.nm 5), (.nm 6)]) (.over (.var 0)) (.cons (.ext 2 (.ite (.cmp .lt (.var 3) (.bi .min (.cons (.var 4) (.cons (.bin .add (.var 1) (.int 1)) .nil)))) (.lst (.cons (.tup (.cons (.var 3) (.cons (.bi .min (.cons (.var 4) (.cons (.bin .add (.var 1) (.int 1)) .nil))) .nil))) .nil)) (.lst .nil)))
 (.cons (.asg false 3 (.bi .max (.cons (.var 3) (.cons (.var 5) .nil))))
 .nil)))
 (.cons (.ret (.bi .tuple (.cons (.bin .add (.bor 2) (.ite (.cmp .le (.var 3) (.var 1)) (.lst (.cons (.tup (.cons (.var 3) (.cons (.bin .add (.var 1) (.int 1)) .nil))) .nil)) (.lst .nil))) .nil)))
 .nil)))
theorem w_f_gaps_of {Φ : Fns} {X : Cx} (g : Gd TT Φ N_f_gaps_of (defScope (top 7)) X) (hF : ∀ x, X.fn x = true) : PSs_ Φ X (defBody (top 7)) c_f_gaps_of := (ss_cons (gs_par2 g (x_own (f_lst a_nil) (x_val v_int x_nil)))
 (ss_cons (s_for g (i_over (gv g)) (p_tp g (ps_cons' (gp g (hf := .inl (hF _))) (ps_cons' (gp g (hf := .inl (hF _))) (ps_cons' (gp g (hf := .inl (hF _))) ps_nil')))) (ss_cons (gs_ext g (v_ite (t_cmp (op := .lt) g (v_o (gv g)) (v_o (g_min2 g 9 (v_o (gv g)) (v_o (v_bin (op := .add) (v_o (gv g)) (v_o v_int)))))) (f_v (f_lst (a_cons (v_tup (a_cons (gv g) (a_cons (g_min2 g 9 (v_o (gv g)) (v_o (v_bin (op := .add) (v_o (gv g)) (v_o v_int)))) a_nil))) a_nil))) (f_v (f_lst a_nil))))
 (ss_cons (gs_asg g hF (g_max2 g 8 (v_o (gv g)) (v_o (gv g))))
 ss_nil)))
 (ss_cons (s_ret (g_tuple g 14 (v_o (v_bin (op := .add) (gb g) (v_o (v_ite (t_cmp (op := .le) g (v_o (gv g)) (v_o (gv g))) (f_v (f_lst (a_cons (v_tup (a_cons (gv g) (a_cons (v_bin (op := .add) (v_o (gv g)) (v_o v_int)) a_nil))) a_nil))) (f_v (f_lst a_nil))))))))
 ss_nil)))
def N_f_hours_along : List Str := [("uses" : Str), ("found" : Str), ("now" : Str), ("_" : Str), ("hours" : Str)]
def c_f_hours_along : CSs := (.cons (.par (nms [1, 2]) [true, false] (.cons (.lst .nil) (.cons (.int 0) .nil)))
 (.cons (.for_ (.tp [(.nm 3), (.nm 3), (.nm 4)]) (.over (.var 0)) (.cons (.aug 2 .add (.var 4))
 (.cons (.app 1 (.var 2))
 .nil)))
 (.cons (.ret (.bi .tuple (.cons (.bor 1) .nil)))
 .nil)))
theorem w_f_hours_along {Φ : Fns} {X : Cx} (g : Gd TT Φ N_f_hours_along (defScope (top 8)) X) (hF : ∀ x, X.fn x = true) : PSs_ Φ X (defBody (top 8)) c_f_hours_along := (ss_cons (gs_par2 g (x_own (f_lst a_nil) (x_val v_int x_nil)))
 (ss_cons (s_for g (i_over (gv g)) (p_tp g (ps_cons' (gp g (hf := .inl (hF _))) (ps_cons' (gp g (hf := .inl (hF _))) (ps_cons' (gp g (hf := .inl (hF _))) ps_nil')))) (ss_cons (gs_aug (op := .add) g hF (gv g))
 (ss_cons (gs_app g (gv g))
 ss_nil)))
 (ss_cons (s_ret (g_tuple g 14 (gb g)))
 ss_nil)))
def N_f_is_served : List Str := [("uses" : Str), ("places" : Str), ("most" : Str), ("long" : Str), ("last" : Str), ("k" : Str), ("now" : Str), ("begin" : Str), ("end" : Str)]
def c_f_is_served : CSs := (.cons (.for_ (.nm 5) (.over (.var 1)) (.cons (.asg false 7 (.ite (.cmp .ge (.var 5) (.int 0)) (.idx (.idx (.var 0) (.var 5)) (.int 1)) (.int 0)))
 (.cons (.asg false 8 (.ite (.cmp .lt (.bin .add (.var 5) (.int 1)) (.bi .len (.cons (.var 0) .nil))) (.idx (.idx (.var 0) (.bin .add (.var 5) (.int 1))) (.int 0)) (.bin .add (.var 4) (.int 1))))
 (.cons (.ife (.cmp .lt (.bin .sub (.var 8) (.var 7)) (.var 3)) (.cons (.ret (.bl false))
 .nil) .nil)
 .nil))))
 (.cons (.asg false 6 (.int 0))
 (.cons (.for_ (.nm 5) (.rng1 (.bi .len (.cons (.var 0) .nil))) (.cons (.aug 6 .add (.idx (.idx (.var 0) (.var 5)) (.int 2)))
 (.cons (.ife (.cmp .gt (.var 6) (.var 2)) (.cons (.ret (.bl false))
 .nil) .nil)
 (.cons (.asg false 6 (.ite (.cmp .in_ (.var 5) (.var 1)) (.int 0) (.var 6)))
 .nil))))
 (.cons (.ret (.bl true))
 .nil))))
theorem w_f_is_served {Φ : Fns} {X : Cx} (g : Gd TT Φ N_f_is_served (defScope (top 9)) X) (hF : ∀ x, X.fn x = true) : PSs_ Φ X (defBody (top 9)) c_f_is_served := (ss_cons (s_for g (i_over (gv g)) (gp g (hf := .inl (hF _))) (ss_cons (gs_asg g hF (v_ite (t_cmp (op := .ge) g (v_o (gv g)) (v_o v_int)) (v_idx g (v_o (v_idx g (v_o (gv g)) (v_o (gv g)))) (v_o v_int)) v_int))
 (ss_cons (gs_asg g hF (v_ite (t_cmp (op := .lt) g (v_o (v_bin (op := .add) (v_o (gv g)) (v_o v_int))) (v_o (g_len g 6 (v_o (gv g))))) (v_idx g (v_o (v_idx g (v_o (gv g)) (v_o (v_bin (op := .add) (v_o (gv g)) (v_o v_int))))) (v_o v_int)) (v_bin (op := .add) (v_o (gv g)) (v_o v_int))))
 (ss_cons (s_if (t_cmp (op := .lt) g (v_o (v_bin (op := .sub) (v_o (gv g)) (v_o (gv g)))) (v_o (gv g))) (ss_cons (s_ret v_bl)
 ss_nil) ss_nil)
 ss_nil))))
 (ss_cons (gs_asg g hF v_int)
 (ss_cons (s_for g (gi1 g 10 (g_len g 6 (v_o (gv g)))) (gp g (hf := .inl (hF _))) (ss_cons (gs_aug (op := .add) g hF (v_idx g (v_o (v_idx g (v_o (gv g)) (v_o (gv g)))) (v_o v_int)))
 (ss_cons (s_if (t_cmp (op := .gt) g (v_o (gv g)) (v_o (gv g))) (ss_cons (s_ret v_bl)
 ss_nil) ss_nil)
 (ss_cons (gs_asg g hF (v_ite (t_cmp (op := .in_) g (v_o (gv g)) (v_o (gv g))) v_int (gv g)))
 ss_nil))))
 (ss_cons (s_ret v_bl)
 ss_nil))))
def N_f_fewest_services : List Str := [("uses" : Str), ("most" : Str), ("long" : Str), ("last" : Str), ("able" : Str), ("j" : Str), ("rows" : Str), ("k" : Str), ("good" : Str), ("i" : Str), ("inner" : Str), ("row" : Str), ("_" : Str), ("hours" : Str)]
def c_f_fewest_services : CSs := (.cons (.asg false 4 (.call 9 (.cons (.var 0) (.cons (.var 2) (.cons (.var 3) .nil)))))
 (.cons (.for_ (.nm 5) (.rng1 (.bi .len (.cons (.var 0) .nil))) (.cons (.for_ (.nm 9) (.rng1 (.bin .add (.var 5) (.int 1))) (.cons (.asg false 10 (.lc1 [7] (.var 7) (.nm 7) (.over (.var 4)) (.cons (.chn .le .lt (.var 9) (.var 7) (.var 5)) .nil)))
 (.cons (.ife (.and_ (.cons (.cmp .eq (.var 10) (.lst .nil)) (.cons (.cmp .gt (.bi .sum (.cons (.lc1 [12, 13] (.var 13) (.tp [(.nm 12), (.nm 12), (.nm 13)]) (.over (.cut (.var 0) (.cons (.var 9) .nil) (.cons (.bin .add (.var 5) (.int 1)) .nil))) .nil) .nil)) (.var 1)) .nil))) (.cons (.ret (.tup (.cons (.str "no") (.cons (.var 9) (.cons (.var 5) .nil)))))
 .nil) .nil)
 .nil)))
 .nil))
 (.cons (.asg false 6 (.lst (.cons (.tup .nil) .nil)))
 (.cons (.for_ (.nm 7) (.over (.var 4)) (.cons (.asg false 6 (.bin .add (.var 6) (.lc1 [11] (.bin .add (.var 11) (.tup (.cons (.var 7) .nil))) (.nm 11) (.over (.var 6)) .nil)))
 .nil))
 (.cons (.asg false 8 (.lc1 [11] (.tup (.cons (.bi .len (.cons (.var 11) .nil)) (.cons (.var 11) .nil))) (.nm 11) (.over (.var 6)) (.cons (.call 7 (.cons (.var 0) (.cons (.var 11) (.cons (.var 1) (.cons (.var 2) (.cons (.var 3) .nil)))))) .nil)))
 (.cons (.ret (.tup (.cons (.str "yes") (.cons (.idx (.bi .min (.cons (.var 8) .nil)) (.int 1)) .nil))))
 .nil))))))
theorem w_f_fewest_services {Φ : Fns} {X : Cx} (g : Gd TT Φ N_f_fewest_services (defScope (top 10)) X) (hF : ∀ x, X.fn x = true) : PSs_ Φ X (defBody (top 10)) c_f_fewest_services := (ss_cons (gs_asg g hF (g_call g 9 (a_cons (gv g) (a_cons (gv g) (a_cons (gv g) a_nil)))))
 (ss_cons (s_for g (gi1 g 10 (g_len g 6 (v_o (gv g)))) (gp g (hf := .inl (hF _))) (ss_cons (s_for g (gi1 g 10 (v_bin (op := .add) (v_o (gv g)) (v_o v_int))) (gp g (hf := .inl (hF _))) (ss_cons (s_ofV (g_lc1S [("k", 7)] g (i_j (i_over (gv g))) (fun s1 H1 C1 l1 f1 => (gp (Gd.blk g s1 H1 _ C1 l1 f1))) (fun s1 H1 C1 l1 f1 => (ts_one (t_chn (op := .le) (op2 := .lt) (Gd.blk g s1 H1 _ C1 l1 f1) (v_o (gv (Gd.blk g s1 H1 _ C1 l1 f1))) (v_o (gv (Gd.blk g s1 H1 _ C1 l1 f1))) (v_o (gv (Gd.blk g s1 H1 _ C1 l1 f1)))))) (fun s1 H1 C1 l1 f1 => (gv (Gd.blk g s1 H1 _ C1 l1 f1)))))
 (ss_cons (s_if (w_t (w_and (t_cmp (op := .eq) g (v_o (gv g)) (v_o (f_v (f_lst a_nil)))) (w_and1 (t_cmp (op := .gt) g (v_o (g_sum g 13 (v_o (f_v (g_lc1 [("_", 12), ("hours", 13)] g (i_j (i_over (v_cut (v_o (gv g)) (pt_some (gv g)) (pt_some (v_bin (op := .add) (v_o (gv g)) (v_o v_int)))))) (fun s1 H1 C1 l1 f1 => (p_tp (Gd.blk g s1 H1 _ C1 l1 f1) (ps_cons' (gp (Gd.blk g s1 H1 _ C1 l1 f1)) (ps_cons' (gp (Gd.blk g s1 H1 _ C1 l1 f1)) (ps_cons' (gp (Gd.blk g s1 H1 _ C1 l1 f1)) ps_nil'))))) (fun s1 H1 C1 l1 f1 => ts_nil) (fun s1 H1 C1 l1 f1 => (gv (Gd.blk g s1 H1 _ C1 l1 f1)))))))) (v_o (gv g)))))) (ss_cons (s_ret (v_tup (a_cons v_str (a_cons (gv g) (a_cons (gv g) a_nil)))))
 ss_nil) ss_nil)
 ss_nil)))
 ss_nil))
 (ss_cons (gs_asg g hF (f_v (f_lst (a_cons (v_tup a_nil) a_nil))))
 (ss_cons (s_for g (i_over (gv g)) (gp g (hf := .inl (hF _))) (ss_cons (gs_asg g hF (v_bin (op := .add) (v_o (gv g)) (v_o (f_v (g_lc1 [("row", 11)] g (i_j (i_over (gv g))) (fun s1 H1 C1 l1 f1 => (gp (Gd.blk g s1 H1 _ C1 l1 f1))) (fun s1 H1 C1 l1 f1 => ts_nil) (fun s1 H1 C1 l1 f1 => (v_bin (op := .add) (v_o (gv (Gd.blk g s1 H1 _ C1 l1 f1))) (v_o (v_tup (a_cons (gv (Gd.blk g s1 H1 _ C1 l1 f1)) a_nil))))))))))
 ss_nil))
 (ss_cons (s_ofV (g_lc1S [("row", 11)] g (i_j (i_over (gv g))) (fun s1 H1 C1 l1 f1 => (gp (Gd.blk g s1 H1 _ C1 l1 f1))) (fun s1 H1 C1 l1 f1 => (ts_one (t_val (g_call (Gd.blk g s1 H1 _ C1 l1 f1) 7 (a_cons (gv (Gd.blk g s1 H1 _ C1 l1 f1)) (a_cons (gv (Gd.blk g s1 H1 _ C1 l1 f1)) (a_cons (gv (Gd.blk g s1 H1 _ C1 l1 f1)) (a_cons (gv (Gd.blk g s1 H1 _ C1 l1 f1)) (a_cons (gv (Gd.blk g s1 H1 _ C1 l1 f1)) a_nil))))))))) (fun s1 H1 C1 l1 f1 => (v_tup (a_cons (g_len (Gd.blk g s1 H1 _ C1 l1 f1) 6 (v_o (gv (Gd.blk g s1 H1 _ C1 l1 f1)))) (a_cons (gv (Gd.blk g s1 H1 _ C1 l1 f1)) a_nil))))))
 (ss_cons (s_ret (v_tup (a_cons v_str (a_cons (v_idx g (v_o (g_min g 9 (v_o (gv g)))) (v_o v_int)) a_nil))))
 ss_nil))))))
def N_f_has_room : List Str := [("uses" : Str), ("long" : Str), ("last" : Str), ("whole" : Str), ("k" : Str), ("own" : Str)]
def c_f_has_room : CSs := (.cons (.asg false 3 (.bi .sum (.cons (.lc1 [5] (.idx (.var 5) (.int 2)) (.nm 5) (.over (.var 0)) .nil) .nil)))
 (.cons (.ret (.lc1 [4] (.var 4) (.nm 4) (.rng1 (.bi .len (.cons (.var 0) .nil))) (.cons (.call 7 (.cons (.var 0) (.cons (.tup (.cons (.var 4) .nil)) (.cons (.var 3) (.cons (.var 1) (.cons (.var 2) .nil)))))) .nil)))
 .nil))
theorem w_f_has_room {Φ : Fns} {X : Cx} (g : Gd TT Φ N_f_has_room (defScope (top 11)) X) (hF : ∀ x, X.fn x = true) : PSs_ Φ X (defBody (top 11)) c_f_has_room := (ss_cons (gs_asg g hF (g_sum g 13 (v_o (f_v (g_lc1 [("own", 5)] g (i_j (i_over (gv g))) (fun s1 H1 C1 l1 f1 => (gp (Gd.blk g s1 H1 _ C1 l1 f1))) (fun s1 H1 C1 l1 f1 => ts_nil) (fun s1 H1 C1 l1 f1 => (v_idx (Gd.blk g s1 H1 _ C1 l1 f1) (v_o (gv (Gd.blk g s1 H1 _ C1 l1 f1))) (v_o v_int))))))))
 (ss_cons (s_ret (f_v (g_lc1 [("k", 4)] g (i_j (gi1 g 10 (g_len g 6 (v_o (gv g))))) (fun s1 H1 C1 l1 f1 => (gp (Gd.blk g s1 H1 _ C1 l1 f1))) (fun s1 H1 C1 l1 f1 => (ts_one (t_val (g_call (Gd.blk g s1 H1 _ C1 l1 f1) 7 (a_cons (gv (Gd.blk g s1 H1 _ C1 l1 f1)) (a_cons (v_tup (a_cons (gv (Gd.blk g s1 H1 _ C1 l1 f1)) a_nil)) (a_cons (gv (Gd.blk g s1 H1 _ C1 l1 f1)) (a_cons (gv (Gd.blk g s1 H1 _ C1 l1 f1)) (a_cons (gv (Gd.blk g s1 H1 _ C1 l1 f1)) a_nil))))))))) (fun s1 H1 C1 l1 f1 => (gv (Gd.blk g s1 H1 _ C1 l1 f1))))))
 ss_nil))
def N_f_least_most : List Str := [("uses" : Str), ("many" : Str), ("long" : Str), ("last" : Str), ("most" : Str), ("told" : Str), ("own" : Str)]
def c_f_least_most : CSs := (.cons (.for_ (.nm 4) (.rng1 (.bin .add (.bi .sum (.cons (.lc1 [6] (.idx (.var 6) (.int 2)) (.nm 6) (.over (.var 0)) .nil) .nil)) (.int 1))) (.cons (.asg false 5 (.call 8 (.cons (.var 0) (.cons (.var 4) (.cons (.var 2) (.cons (.var 3) .nil))))))
 (.cons (.ife (.and_ (.cons (.cmp .eq (.idx (.var 5) (.int 0)) (.str "yes")) (.cons (.cmp .le (.bi .len (.cons (.idx (.var 5) (.int 1)) .nil)) (.var 1)) .nil))) (.cons (.ret (.var 4))
 .nil) .nil)
 .nil)))
 (.cons (.ret .non)
 .nil))
theorem w_f_least_most {Φ : Fns} {X : Cx} (g : Gd TT Φ N_f_least_most (defScope (top 12)) X) (hF : ∀ x, X.fn x = true) : PSs_ Φ X (defBody (top 12)) c_f_least_most := (ss_cons (s_for g (gi1 g 10 (v_bin (op := .add) (v_o (g_sum g 13 (v_o (f_v (g_lc1 [("own", 6)] g (i_j (i_over (gv g))) (fun s1 H1 C1 l1 f1 => (gp (Gd.blk g s1 H1 _ C1 l1 f1))) (fun s1 H1 C1 l1 f1 => ts_nil) (fun s1 H1 C1 l1 f1 => (v_idx (Gd.blk g s1 H1 _ C1 l1 f1) (v_o (gv (Gd.blk g s1 H1 _ C1 l1 f1))) (v_o v_int)))))))) (v_o v_int))) (gp g (hf := .inl (hF _))) (ss_cons (gs_asg g hF (g_call g 8 (a_cons (gv g) (a_cons (gv g) (a_cons (gv g) (a_cons (gv g) a_nil))))))
 (ss_cons (s_if (w_t (w_and (t_cmp (op := .eq) g (v_o (v_idx g (v_o (gv g)) (v_o v_int))) (v_o v_str)) (w_and1 (t_cmp (op := .le) g (v_o (g_len g 6 (v_o (v_idx g (v_o (gv g)) (v_o v_int))))) (v_o (gv g)))))) (ss_cons (s_ret (gv g))
 ss_nil) ss_nil)
 ss_nil)))
 (ss_cons (s_ret v_non)
 ss_nil))
def N_f_wear_after : List Str := [("uses" : Str), ("places" : Str), ("each" : Str), ("gain" : Str), ("found" : Str), ("now" : Str), ("k" : Str), ("_" : Str), ("hours" : Str)]
def c_f_wear_after : CSs := (.cons (.par (nms [4, 5]) [true, false] (.cons (.lst .nil) (.cons (.int 0) .nil)))
 (.cons (.for_ (.tp [(.nm 6), (.tp [(.nm 7), (.nm 7), (.nm 8)])]) (.enum (.var 0)) (.cons (.aug 5 .add (.bin .mul (.var 2) (.var 8)))
 (.cons (.app 4 (.var 5))
 (.cons (.asg false 5 (.ite (.cmp .in_ (.var 6) (.var 1)) (.bi .max (.cons (.int 0) (.cons (.bin .sub (.var 5) (.var 3)) .nil))) (.var 5)))
 .nil))))
 (.cons (.ret (.bi .tuple (.cons (.bor 4) .nil)))
 .nil)))
theorem w_f_wear_after {Φ : Fns} {X : Cx} (g : Gd TT Φ N_f_wear_after (defScope (top 13)) X) (hF : ∀ x, X.fn x = true) : PSs_ Φ X (defBody (top 13)) c_f_wear_after := (ss_cons (gs_par2 g (x_own (f_lst a_nil) (x_val v_int x_nil)))
 (ss_cons (s_for g (gie g 3 (gv g)) (p_tp g (ps_cons' (gp g (hf := .inl (hF _))) (ps_cons' (p_tp g (ps_cons' (gp g (hf := .inl (hF _))) (ps_cons' (gp g (hf := .inl (hF _))) (ps_cons' (gp g (hf := .inl (hF _))) ps_nil')))) ps_nil'))) (ss_cons (gs_aug (op := .add) g hF (v_bin (op := .mul) (v_o (gv g)) (v_o (gv g))))
 (ss_cons (gs_app g (gv g))
 (ss_cons (gs_asg g hF (v_ite (t_cmp (op := .in_) g (v_o (gv g)) (v_o (gv g))) (g_max2 g 8 (v_o v_int) (v_o (v_bin (op := .sub) (v_o (gv g)) (v_o (gv g))))) (gv g)))
 ss_nil))))
 (ss_cons (s_ret (g_tuple g 14 (gb g)))
 ss_nil)))
def N_f_best_places : List Str := [("uses" : Str), ("many" : Str), ("each" : Str), ("gain" : Str), ("long" : Str), ("last" : Str), ("rows" : Str), ("k" : Str), ("found" : Str), ("row" : Str)]
def c_f_best_places : CSs := (.cons (.asg false 6 (.lst (.cons (.tup .nil) .nil)))
 (.cons (.for_ (.nm 7) (.over (.call 9 (.cons (.var 0) (.cons (.var 4) (.cons (.var 5) .nil))))) (.cons (.asg false 6 (.bin .add (.var 6) (.lc1 [9] (.bin .add (.var 9) (.tup (.cons (.var 7) .nil))) (.nm 9) (.over (.var 6)) (.cons (.cmp .lt (.bi .len (.cons (.var 9) .nil)) (.var 1)) .nil))))
 .nil))
 (.cons (.asg false 8 (.lc1 [9] (.tup (.cons (.bi .max (.cons (.bin .add (.tup (.cons (.int 0) .nil)) (.call 11 (.cons (.var 0) (.cons (.var 9) (.cons (.var 2) (.cons (.var 3) .nil)))))) .nil)) (.cons (.bi .len (.cons (.var 9) .nil)) (.cons (.var 9) .nil)))) (.nm 9) (.over (.var 6)) .nil))
 (.cons (.ret (.tup (.cons (.idx (.bi .min (.cons (.var 8) .nil)) (.int 0)) (.cons (.idx (.bi .min (.cons (.var 8) .nil)) (.int 2)) .nil))))
 .nil))))
theorem w_f_best_places {Φ : Fns} {X : Cx} (g : Gd TT Φ N_f_best_places (defScope (top 14)) X) (hF : ∀ x, X.fn x = true) : PSs_ Φ X (defBody (top 14)) c_f_best_places := (ss_cons (gs_asg g hF (f_v (f_lst (a_cons (v_tup a_nil) a_nil))))
 (ss_cons (s_for g (i_over (g_call g 9 (a_cons (gv g) (a_cons (gv g) (a_cons (gv g) a_nil))))) (gp g (hf := .inl (hF _))) (ss_cons (gs_asg g hF (v_bin (op := .add) (v_o (gv g)) (v_o (f_v (g_lc1 [("row", 9)] g (i_j (i_over (gv g))) (fun s1 H1 C1 l1 f1 => (gp (Gd.blk g s1 H1 _ C1 l1 f1))) (fun s1 H1 C1 l1 f1 => (ts_one (t_cmp (op := .lt) (Gd.blk g s1 H1 _ C1 l1 f1) (v_o (g_len (Gd.blk g s1 H1 _ C1 l1 f1) 6 (v_o (gv (Gd.blk g s1 H1 _ C1 l1 f1))))) (v_o (gv (Gd.blk g s1 H1 _ C1 l1 f1)))))) (fun s1 H1 C1 l1 f1 => (v_bin (op := .add) (v_o (gv (Gd.blk g s1 H1 _ C1 l1 f1))) (v_o (v_tup (a_cons (gv (Gd.blk g s1 H1 _ C1 l1 f1)) a_nil))))))))))
 ss_nil))
 (ss_cons (s_ofV (g_lc1S [("row", 9)] g (i_j (i_over (gv g))) (fun s1 H1 C1 l1 f1 => (gp (Gd.blk g s1 H1 _ C1 l1 f1))) (fun s1 H1 C1 l1 f1 => ts_nil) (fun s1 H1 C1 l1 f1 => (v_tup (a_cons (g_max (Gd.blk g s1 H1 _ C1 l1 f1) 8 (v_o (v_bin (op := .add) (v_o (v_tup (a_cons v_int a_nil))) (v_o (g_call (Gd.blk g s1 H1 _ C1 l1 f1) 11 (a_cons (gv (Gd.blk g s1 H1 _ C1 l1 f1)) (a_cons (gv (Gd.blk g s1 H1 _ C1 l1 f1)) (a_cons (gv (Gd.blk g s1 H1 _ C1 l1 f1)) (a_cons (gv (Gd.blk g s1 H1 _ C1 l1 f1)) a_nil))))))))) (a_cons (g_len (Gd.blk g s1 H1 _ C1 l1 f1) 6 (v_o (gv (Gd.blk g s1 H1 _ C1 l1 f1)))) (a_cons (gv (Gd.blk g s1 H1 _ C1 l1 f1)) a_nil)))))))
 (ss_cons (s_ret (v_tup (a_cons (v_idx g (v_o (g_min g 9 (v_o (gv g)))) (v_o v_int)) (a_cons (v_idx g (v_o (g_min g 9 (v_o (gv g)))) (v_o v_int)) a_nil))))
 ss_nil))))
def N_f_broken_by : List Str := [("uses" : Str), ("places" : Str), ("each" : Str), ("gain" : Str), ("limit" : Str), ("rows" : Str), ("able" : Str), ("k" : Str)]
def c_f_broken_by : CSs := (.cons (.asg false 5 (.call 11 (.cons (.var 0) (.cons (.var 1) (.cons (.var 2) (.cons (.var 3) .nil))))))
 (.cons (.asg false 6 (.lc1 [7] (.var 7) (.nm 7) (.rng1 (.bi .len (.cons (.var 5) .nil))) (.cons (.cmp .gt (.idx (.var 5) (.var 7)) (.var 4)) .nil)))
 (.cons (.ret (.ite (.cmp .ne (.var 6) (.lst .nil)) (.idx (.var 6) (.int 0)) .non))
 .nil)))
theorem w_f_broken_by {Φ : Fns} {X : Cx} (g : Gd TT Φ N_f_broken_by (defScope (top 15)) X) (hF : ∀ x, X.fn x = true) : PSs_ Φ X (defBody (top 15)) c_f_broken_by := (ss_cons (gs_asg g hF (g_call g 11 (a_cons (gv g) (a_cons (gv g) (a_cons (gv g) (a_cons (gv g) a_nil))))))
 (ss_cons (s_ofV (g_lc1S [("k", 7)] g (i_j (gi1 g 10 (g_len g 6 (v_o (gv g))))) (fun s1 H1 C1 l1 f1 => (gp (Gd.blk g s1 H1 _ C1 l1 f1))) (fun s1 H1 C1 l1 f1 => (ts_one (t_cmp (op := .gt) (Gd.blk g s1 H1 _ C1 l1 f1) (v_o (v_idx (Gd.blk g s1 H1 _ C1 l1 f1) (v_o (gv (Gd.blk g s1 H1 _ C1 l1 f1))) (v_o (gv (Gd.blk g s1 H1 _ C1 l1 f1))))) (v_o (gv (Gd.blk g s1 H1 _ C1 l1 f1)))))) (fun s1 H1 C1 l1 f1 => (gv (Gd.blk g s1 H1 _ C1 l1 f1)))))
 (ss_cons (s_ret (v_ite (t_cmp (op := .ne) g (v_o (gv g)) (v_o (f_v (f_lst a_nil)))) (v_idx g (v_o (gv g)) (v_o v_int)) v_non))
 ss_nil)))
def N_f_shared_bench : List Str := [("gaps" : Str), ("longs" : Str), ("rows" : Str), ("spans" : Str), ("long" : Str), ("days" : Str), ("day" : Str), ("row" : Str), ("begin" : Str), ("end" : Str)]
def c_f_shared_bench : CSs := (.cons (.asg false 2 (.lst (.cons (.tup .nil) .nil)))
 (.cons (.for_ (.tp [(.nm 3), (.nm 4)]) (.zip (.var 0) (.var 1)) (.cons (.asg false 5 (.lc2 [8, 9, 6] (.var 6) (.tp [(.nm 8), (.nm 9)]) (.over (.var 3)) .nil [6] (.nm 6) (.rng2 (.var 8) (.bin .add (.bin .sub (.var 9) (.var 4)) (.int 1))) .nil))
 (.cons (.asg false 2 (.lc2 [7, 6] (.bin .add (.var 7) (.tup (.cons (.var 6) .nil))) (.nm 7) (.over (.var 2)) .nil [6] (.nm 6) (.over (.bi .sorted (.cons (.var 5) .nil))) (.cons (.call 15 (.cons (.var 7) (.cons (.var 1) (.cons (.var 6) (.cons (.var 4) .nil))))) .nil)))
 (.cons (.ife (.cmp .eq (.var 2) (.lst .nil)) (.cons (.ret (.tup (.cons (.str "no") .nil)))
 .nil) .nil)
 .nil))))
 (.cons (.ret (.tup (.cons (.str "yes") (.cons (.idx (.var 2) (.int 0)) .nil))))
 .nil)))
theorem w_f_shared_bench {Φ : Fns} {X : Cx} (g : Gd TT Φ N_f_shared_bench (defScope (top 16)) X) (hF : ∀ x, X.fn x = true) : PSs_ Φ X (defBody (top 16)) c_f_shared_bench := (ss_cons (gs_asg g hF (f_v (f_lst (a_cons (v_tup a_nil) a_nil))))
 (ss_cons (s_for g (giz g 15 (gv g) (gv g)) (p_tp g (ps_cons' (gp g (hf := .inl (hF _))) (ps_cons' (gp g (hf := .inl (hF _))) ps_nil'))) (ss_cons (gs_asg g hF (f_v (g_lc2 [("begin", 8), ("end", 9), ("day", 6)] [6] g (i_j (i_over (gv g))) (fun s1 H1 C1 l1 f1 => (p_tp (Gd.blk g s1 H1 _ C1 l1 f1) (ps_cons' (gp (Gd.blk g s1 H1 _ C1 l1 f1)) (ps_cons' (gp (Gd.blk g s1 H1 _ C1 l1 f1)) ps_nil')))) (fun s1 H1 C1 l1 f1 => ts_nil) (fun s1 H1 C1 l1 f1 => (gi2 (Gd.blk g s1 H1 _ C1 l1 f1) 10 (gv (Gd.blk g s1 H1 _ C1 l1 f1)) (v_bin (op := .add) (v_o (v_bin (op := .sub) (v_o (gv (Gd.blk g s1 H1 _ C1 l1 f1))) (v_o (gv (Gd.blk g s1 H1 _ C1 l1 f1))))) (v_o v_int)))) (fun s1 H1 C1 l1 f1 => (gp (Gd.blk g s1 H1 _ C1 l1 f1))) (fun s1 H1 C1 l1 f1 => ts_nil) (fun s1 H1 C1 l1 f1 => (gv (Gd.blk g s1 H1 _ C1 l1 f1))))) (hs := by rw [sw_dE g.sc]; rfl))
 (ss_cons (s_ofV (g_lc2S [("row", 7), ("day", 6)] [6] g (i_j (i_over (gv g))) (fun s1 H1 C1 l1 f1 => (gp (Gd.blk g s1 H1 _ C1 l1 f1))) (fun s1 H1 C1 l1 f1 => ts_nil) (fun s1 H1 C1 l1 f1 => (i_over (f_v (g_sorted (Gd.blk g s1 H1 _ C1 l1 f1) 11 (v_o (gv (Gd.blk g s1 H1 _ C1 l1 f1))))))) (fun s1 H1 C1 l1 f1 => (gp (Gd.blk g s1 H1 _ C1 l1 f1))) (fun s1 H1 C1 l1 f1 => (ts_one (t_val (g_call (Gd.blk g s1 H1 _ C1 l1 f1) 15 (a_cons (gv (Gd.blk g s1 H1 _ C1 l1 f1)) (a_cons (gv (Gd.blk g s1 H1 _ C1 l1 f1)) (a_cons (gv (Gd.blk g s1 H1 _ C1 l1 f1)) (a_cons (gv (Gd.blk g s1 H1 _ C1 l1 f1)) a_nil)))))))) (fun s1 H1 C1 l1 f1 => (v_bin (op := .add) (v_o (gv (Gd.blk g s1 H1 _ C1 l1 f1))) (v_o (v_tup (a_cons (gv (Gd.blk g s1 H1 _ C1 l1 f1)) a_nil)))))))
 (ss_cons (s_if (t_cmp (op := .eq) g (v_o (gv g)) (v_o (f_v (f_lst a_nil)))) (ss_cons (s_ret (v_tup (a_cons v_str a_nil)))
 ss_nil) ss_nil)
 ss_nil))))
 (ss_cons (s_ret (v_tup (a_cons v_str (a_cons (v_idx g (v_o (gv g)) (v_o v_int)) a_nil))))
 ss_nil)))
def N_f_is_free : List Str := [("row" : Str), ("longs" : Str), ("day" : Str), ("long" : Str), ("own" : Str), ("other" : Str)]
def c_f_is_free : CSs := (.cons (.ret (.bi .all (.cons (.lc1 [4, 5] (.or_ (.cons (.cmp .le (.bin .add (.var 2) (.var 3)) (.var 4)) (.cons (.cmp .le (.bin .add (.var 4) (.var 5)) (.var 2)) .nil))) (.tp [(.nm 4), (.nm 5)]) (.zip (.var 0) (.var 1)) .nil) .nil)))
 .nil)
theorem w_f_is_free {Φ : Fns} {X : Cx} (g : Gd TT Φ N_f_is_free (defScope (top 17)) X) (hF : ∀ x, X.fn x = true) : PSs_ Φ X (defBody (top 17)) c_f_is_free := (ss_cons (s_ret (g_all g 1 (v_o (f_v (g_lc1 [("own", 4), ("other", 5)] g (i_j (giz g 15 (gv g) (gv g))) (fun s1 H1 C1 l1 f1 => (p_tp (Gd.blk g s1 H1 _ C1 l1 f1) (ps_cons' (gp (Gd.blk g s1 H1 _ C1 l1 f1)) (ps_cons' (gp (Gd.blk g s1 H1 _ C1 l1 f1)) ps_nil')))) (fun s1 H1 C1 l1 f1 => ts_nil) (fun s1 H1 C1 l1 f1 => (v_or (v_cmp (op := .le) (Gd.blk g s1 H1 _ C1 l1 f1) (v_o (v_bin (op := .add) (v_o (gv (Gd.blk g s1 H1 _ C1 l1 f1))) (v_o (gv (Gd.blk g s1 H1 _ C1 l1 f1))))) (v_o (gv (Gd.blk g s1 H1 _ C1 l1 f1)))) (v_or1 (v_cmp (op := .le) (Gd.blk g s1 H1 _ C1 l1 f1) (v_o (v_bin (op := .add) (v_o (gv (Gd.blk g s1 H1 _ C1 l1 f1))) (v_o (gv (Gd.blk g s1 H1 _ C1 l1 f1))))) (v_o (gv (Gd.blk g s1 H1 _ C1 l1 f1))))))))))))
 ss_nil)
def N_f_renewed_sets : List Str := [("lives" : Str), ("need" : Str), ("life" : Str)]
def c_f_renewed_sets : CSs := (.cons (.ret (.bi .tuple (.cons (.lc1 [2] (.neg (.bin .div (.neg (.var 1)) (.var 2))) (.nm 2) (.over (.var 0)) .nil) .nil)))
 .nil)
theorem w_f_renewed_sets {Φ : Fns} {X : Cx} (g : Gd TT Φ N_f_renewed_sets (defScope (top 18)) X) (hF : ∀ x, X.fn x = true) : PSs_ Φ X (defBody (top 18)) c_f_renewed_sets := (ss_cons (s_ret (g_tuple g 14 (v_o (f_v (g_lc1 [("life", 2)] g (i_j (i_over (gv g))) (fun s1 H1 C1 l1 f1 => (gp (Gd.blk g s1 H1 _ C1 l1 f1))) (fun s1 H1 C1 l1 f1 => ts_nil) (fun s1 H1 C1 l1 f1 => (v_neg (v_o (v_bin (op := .div) (v_o (v_neg (v_o (gv (Gd.blk g s1 H1 _ C1 l1 f1))))) (v_o (gv (Gd.blk g s1 H1 _ C1 l1 f1))))))))))))
 ss_nil)
def N_f_cheapest_plan : List Str := [("need" : Str), ("kinds" : Str), ("sizes" : Str), ("rows" : Str), ("row" : Str), ("days" : Str), ("_" : Str), ("many" : Str), ("cost" : Str)]
def c_f_cheapest_plan : CSs := (.cons (.asg false 2 (.lc1 [5, 6] (.bin .add (.neg (.bin .div (.neg (.var 0)) (.var 5))) (.int 1)) (.tp [(.nm 5), (.nm 6)]) (.over (.var 1)) .nil))
 (.cons (.asg true 3 (.lst .nil))
 (.cons (.for_ (.nm 4) (.over (.call 3 (.cons (.var 2) .nil))) (.cons (.ife (.cmp .ge (.bi .sum (.cons (.lc1 [7, 5, 6] (.bin .mul (.var 7) (.var 5)) (.tp [(.nm 7), (.tp [(.nm 5), (.nm 6)])]) (.zip (.var 4) (.var 1)) .nil) .nil)) (.var 0)) (.cons (.app 3 (.tup (.cons (.bi .sum (.cons (.lc1 [7, 6, 8] (.bin .mul (.var 7) (.var 8)) (.tp [(.nm 7), (.tp [(.nm 6), (.nm 8)])]) (.zip (.var 4) (.var 1)) .nil) .nil)) (.cons (.var 4) .nil))))
 .nil) .nil)
 .nil))
 (.cons (.ret (.bi .min (.cons (.bor 3) .nil)))
 .nil))))
theorem w_f_cheapest_plan {Φ : Fns} {X : Cx} (g : Gd TT Φ N_f_cheapest_plan (defScope (top 19)) X) (hF : ∀ x, X.fn x = true) : PSs_ Φ X (defBody (top 19)) c_f_cheapest_plan := (ss_cons (s_ofV (g_lc1S [("days", 5), ("_", 6)] g (i_j (i_over (gv g))) (fun s1 H1 C1 l1 f1 => (p_tp (Gd.blk g s1 H1 _ C1 l1 f1) (ps_cons' (gp (Gd.blk g s1 H1 _ C1 l1 f1)) (ps_cons' (gp (Gd.blk g s1 H1 _ C1 l1 f1)) ps_nil')))) (fun s1 H1 C1 l1 f1 => ts_nil) (fun s1 H1 C1 l1 f1 => (v_bin (op := .add) (v_o (v_neg (v_o (v_bin (op := .div) (v_o (v_neg (v_o (gv (Gd.blk g s1 H1 _ C1 l1 f1))))) (v_o (gv (Gd.blk g s1 H1 _ C1 l1 f1))))))) (v_o v_int)))))
 (ss_cons (gs_asgF g hF (f_lst a_nil))
 (ss_cons (s_for g (i_over (g_call g 3 (a_cons (gv g) a_nil))) (gp g (hf := .inl (hF _))) (ss_cons (s_if (t_cmp (op := .ge) g (v_o (g_sum g 13 (v_o (f_v (g_lc1 [("many", 7), ("days", 5), ("_", 6)] g (i_j (giz g 15 (gv g) (gv g))) (fun s1 H1 C1 l1 f1 => (p_tp (Gd.blk g s1 H1 _ C1 l1 f1) (ps_cons' (gp (Gd.blk g s1 H1 _ C1 l1 f1)) (ps_cons' (p_tp (Gd.blk g s1 H1 _ C1 l1 f1) (ps_cons' (gp (Gd.blk g s1 H1 _ C1 l1 f1)) (ps_cons' (gp (Gd.blk g s1 H1 _ C1 l1 f1)) ps_nil'))) ps_nil')))) (fun s1 H1 C1 l1 f1 => ts_nil) (fun s1 H1 C1 l1 f1 => (v_bin (op := .mul) (v_o (gv (Gd.blk g s1 H1 _ C1 l1 f1))) (v_o (gv (Gd.blk g s1 H1 _ C1 l1 f1)))))))))) (v_o (gv g))) (ss_cons (gs_app g (v_tup (a_cons (g_sum g 13 (v_o (f_v (g_lc1 [("many", 7), ("_", 6), ("cost", 8)] g (i_j (giz g 15 (gv g) (gv g))) (fun s1 H1 C1 l1 f1 => (p_tp (Gd.blk g s1 H1 _ C1 l1 f1) (ps_cons' (gp (Gd.blk g s1 H1 _ C1 l1 f1)) (ps_cons' (p_tp (Gd.blk g s1 H1 _ C1 l1 f1) (ps_cons' (gp (Gd.blk g s1 H1 _ C1 l1 f1)) (ps_cons' (gp (Gd.blk g s1 H1 _ C1 l1 f1)) ps_nil'))) ps_nil')))) (fun s1 H1 C1 l1 f1 => ts_nil) (fun s1 H1 C1 l1 f1 => (v_bin (op := .mul) (v_o (gv (Gd.blk g s1 H1 _ C1 l1 f1))) (v_o (gv (Gd.blk g s1 H1 _ C1 l1 f1))))))))) (a_cons (gv g) a_nil))))
 ss_nil) ss_nil)
 ss_nil))
 (ss_cons (s_ret (g_min g 9 (gb g)))
 ss_nil))))
def N_f_next_service : List Str := [("uses" : Str), ("places" : Str), ("most" : Str), ("now" : Str), ("k" : Str), ("_" : Str), ("hours" : Str)]
def c_f_next_service : CSs := (.cons (.asg false 3 (.int 0))
 (.cons (.for_ (.tp [(.nm 4), (.tp [(.nm 5), (.nm 5), (.nm 6)])]) (.enum (.var 0)) (.cons (.asg false 3 (.ite (.cmp .in_ (.var 4) (.var 1)) (.int 0) (.bin .add (.var 3) (.var 6))))
 .nil))
 (.cons (.ret (.bin .sub (.var 2) (.var 3)))
 .nil)))
theorem w_f_next_service {Φ : Fns} {X : Cx} (g : Gd TT Φ N_f_next_service (defScope (top 20)) X) (hF : ∀ x, X.fn x = true) : PSs_ Φ X (defBody (top 20)) c_f_next_service := (ss_cons (gs_asg g hF v_int)
 (ss_cons (s_for g (gie g 3 (gv g)) (p_tp g (ps_cons' (gp g (hf := .inl (hF _))) (ps_cons' (p_tp g (ps_cons' (gp g (hf := .inl (hF _))) (ps_cons' (gp g (hf := .inl (hF _))) (ps_cons' (gp g (hf := .inl (hF _))) ps_nil')))) ps_nil'))) (ss_cons (gs_asg g hF (v_ite (t_cmp (op := .in_) g (v_o (gv g)) (v_o (gv g))) v_int (v_bin (op := .add) (v_o (gv g)) (v_o (gv g)))))
 ss_nil))
 (ss_cons (s_ret (v_bin (op := .sub) (v_o (gv g)) (v_o (gv g))))
 ss_nil)))
def N_f__law_draws : List Str := [("script" : Str), ("many" : Str), ("draws" : Str), ("mixed" : Str), ("k" : Str), ("cell" : Str), ("rest" : Str), ("turn" : Str)]
def c_f__law_draws : CSs := (.cons (.asg true 2 (.lst .nil))
 (.cons (.asg false 3 (.int 7))
 (.cons (.for_ (.nm 4) (.rng1 (.bi .len (.cons (.var 0) .nil))) (.cons (.asg false 5 (.bi .abs (.cons (.bi .int (.cons (.idx (.var 0) (.var 4)) .nil)) .nil)))
 (.cons (.asg false 3 (.bin .mod (.bi .int (.cons (.bin .add (.bin .add (.bin .mul (.var 3) (.int 48271)) (.bin .mod (.var 5) (.int 1000003))) (.var 4)) .nil)) (.int 65537)))
 (.cons (.asg false 6 (.int 0))
 (.cons (.ife (.cmp .ge (.var 5) (.bin .pow (.int 10) (.int 18))) (.cons (.asg false 6 (.var 5))
 .nil) (.cons (.app 2 (.bin .mod (.bi .int (.cons (.var 5) .nil)) (.int 997)))
 (.cons (.app 2 (.bin .mod (.bin .mod (.bi .int (.cons (.bin .add (.bin .mul (.var 3) (.int 69621)) (.int 5)) .nil)) (.int 65521)) (.int 997)))
 .nil)))
 (.cons (.for_ (.nm 7) (.rng1 (.int 60)) (.cons (.ife (.cmp .gt (.var 6) (.int 0)) (.cons (.app 2 (.bin .mod (.bi .int (.cons (.var 6) .nil)) (.int 997)))
 (.cons (.asg false 6 (.bin .div (.var 6) (.int 997)))
 .nil)) .nil)
 .nil))
 .nil))))))
 (.cons (.for_ (.nm 4) (.rng1 (.var 1)) (.cons (.asg false 3 (.bin .mod (.bi .int (.cons (.bin .add (.bin .add (.bin .mul (.var 3) (.int 16807)) (.var 4)) (.int 1)) .nil)) (.int 65537)))
 (.cons (.app 2 (.bin .mod (.bi .int (.cons (.var 3) .nil)) (.int 997)))
 .nil)))
 (.cons (.ret (.cut (.bor 2) .nil (.cons (.var 1) .nil)))
 .nil)))))
theorem w_f__law_draws {Φ : Fns} {X : Cx} (g : Gd TT Φ N_f__law_draws (defScope (top 22)) X) (hF : ∀ x, X.fn x = true) : PSs_ Φ X (defBody (top 22)) c_f__law_draws := (ss_cons (gs_asgF g hF (f_lst a_nil))
 (ss_cons (gs_asg g hF v_int)
 (ss_cons (s_for g (gi1 g 10 (g_len g 6 (v_o (gv g)))) (gp g (hf := .inl (hF _))) (ss_cons (gs_asg g hF (g_abs g 0 (v_o (g_int g 4 (v_o (v_idx g (v_o (gv g)) (v_o (gv g))))))))
 (ss_cons (gs_asg g hF (v_bin (op := .mod) (v_o (g_int g 4 (v_o (v_bin (op := .add) (v_o (v_bin (op := .add) (v_o (v_bin (op := .mul) (v_o (gv g)) (v_o v_int))) (v_o (v_bin (op := .mod) (v_o (gv g)) (v_o v_int))))) (v_o (gv g)))))) (v_o v_int)))
 (ss_cons (gs_asg g hF v_int)
 (ss_cons (s_if (t_cmp (op := .ge) g (v_o (gv g)) (v_o (v_bin (op := .pow) (v_o v_int) (v_o v_int)))) (ss_cons (gs_asg g hF (gv g))
 ss_nil) (ss_cons (gs_app g (v_bin (op := .mod) (v_o (g_int g 4 (v_o (gv g)))) (v_o v_int)))
 (ss_cons (gs_app g (v_bin (op := .mod) (v_o (v_bin (op := .mod) (v_o (g_int g 4 (v_o (v_bin (op := .add) (v_o (v_bin (op := .mul) (v_o (gv g)) (v_o v_int))) (v_o v_int))))) (v_o v_int))) (v_o v_int)))
 ss_nil)))
 (ss_cons (s_for g (gi1 g 10 v_int) (gp g (hf := .inl (hF _))) (ss_cons (s_if (t_cmp (op := .gt) g (v_o (gv g)) (v_o v_int)) (ss_cons (gs_app g (v_bin (op := .mod) (v_o (g_int g 4 (v_o (gv g)))) (v_o v_int)))
 (ss_cons (gs_asg g hF (v_bin (op := .div) (v_o (gv g)) (v_o v_int)))
 ss_nil)) ss_nil)
 ss_nil))
 ss_nil))))))
 (ss_cons (s_for g (gi1 g 10 (gv g)) (gp g (hf := .inl (hF _))) (ss_cons (gs_asg g hF (v_bin (op := .mod) (v_o (g_int g 4 (v_o (v_bin (op := .add) (v_o (v_bin (op := .add) (v_o (v_bin (op := .mul) (v_o (gv g)) (v_o v_int))) (v_o (gv g)))) (v_o v_int))))) (v_o v_int)))
 (ss_cons (gs_app g (v_bin (op := .mod) (v_o (g_int g 4 (v_o (gv g)))) (v_o v_int)))
 ss_nil)))
 (ss_cons (s_ret (v_cut (gb g) pt_none (pt_some (gv g))))
 ss_nil)))))
def N_f__law_next : List Str := [("w" : Str), ("many" : Str)]
def c_f__law_next : CSs := (.cons (.augI 0 (.str "at") .add (.int 1))
 (.cons (.ife (.cmp .gt (.idx (.var 0) (.str "at")) (.bi .len (.cons (.idx (.var 0) (.str "draws")) .nil))) (.cons (.ret (.int 0))
 .nil) .nil)
 (.cons (.ret (.bin .mod (.bi .int (.cons (.idx (.idx (.var 0) (.str "draws")) (.bin .sub (.idx (.var 0) (.str "at")) (.int 1))) .nil)) (.var 1)))
 .nil)))
theorem w_f__law_next {Φ : Fns} {X : Cx} (g : Gd TT Φ N_f__law_next (defScope (top 23)) X) (hF : ∀ x, X.fn x = true) : PSs_ Φ X (defBody (top 23)) c_f__law_next := (ss_cons (gs_augI (op := .add) g v_str v_int)
 (ss_cons (s_if (t_cmp (op := .gt) g (v_o (v_idx g (v_o (gv g)) (v_o v_str))) (v_o (g_len g 6 (v_o (v_idx g (v_o (gv g)) (v_o v_str)))))) (ss_cons (s_ret v_int)
 ss_nil) ss_nil)
 (ss_cons (s_ret (v_bin (op := .mod) (v_o (g_int g 4 (v_o (v_idx g (v_o (v_idx g (v_o (gv g)) (v_o v_str))) (v_o (v_bin (op := .sub) (v_o (v_idx g (v_o (gv g)) (v_o v_str))) (v_o v_int))))))) (v_o (gv g))))
 ss_nil)))
def N_f__law_pick : List Str := [("w" : Str), ("rows" : Str)]
def c_f__law_pick : CSs := (.cons (.ret (.idx (.var 1) (.call 20 (.cons (.var 0) (.cons (.bi .len (.cons (.var 1) .nil)) .nil)))))
 .nil)
theorem w_f__law_pick {Φ : Fns} {X : Cx} (g : Gd TT Φ N_f__law_pick (defScope (top 24)) X) (hF : ∀ x, X.fn x = true) : PSs_ Φ X (defBody (top 24)) c_f__law_pick := (ss_cons (s_ret (v_idx g (v_o (gv g)) (v_o (g_call g 20 (a_cons (gv g) (a_cons (g_len g 6 (v_o (gv g))) a_nil))))))
 ss_nil)
def N_f__law_alike : List Str := [("given" : Str), ("due" : Str), ("k" : Str)]
def c_f__law_alike : CSs := (.cons (.ife (.isi .ttup (.var 1)) (.cons (.ife (.or_ (.cons (.not_ (.isi .ttup (.var 0))) (.cons (.cmp .ne (.bi .len (.cons (.var 0) .nil)) (.bi .len (.cons (.var 1) .nil))) .nil))) (.cons (.ret (.bl false))
 .nil) .nil)
 (.cons (.ret (.cmp .eq (.lc1 [2] (.var 2) (.nm 2) (.rng1 (.bi .len (.cons (.var 1) .nil))) (.cons (.not_ (.call 22 (.cons (.idx (.var 0) (.var 2)) (.cons (.idx (.var 1) (.var 2)) .nil)))) .nil)) (.lst .nil)))
 .nil)) .nil)
 (.cons (.ife (.cmp .is_ (.var 1) .non) (.cons (.ret (.cmp .is_ (.var 0) .non))
 .nil) .nil)
 (.cons (.ife (.isi .tbool (.var 1)) (.cons (.ret (.and_ (.cons (.isi .tbool (.var 0)) (.cons (.cmp .eq (.var 0) (.var 1)) .nil))))
 .nil) .nil)
 (.cons (.ife (.isi .tint (.var 1)) (.cons (.ret (.and_ (.cons (.isi .tint (.var 0)) (.cons (.not_ (.isi .tbool (.var 0))) (.cons (.cmp .eq (.var 0) (.var 1)) .nil)))))
 .nil) .nil)
 (.cons (.ret (.and_ (.cons (.isi .tstr (.var 0)) (.cons (.cmp .eq (.var 0) (.var 1)) .nil))))
 .nil)))))
theorem w_f__law_alike {Φ : Fns} {X : Cx} (g : Gd TT Φ N_f__law_alike (defScope (top 25)) X) (hF : ∀ x, X.fn x = true) : PSs_ Φ X (defBody (top 25)) c_f__law_alike := (ss_cons (s_if (t_val (g_isi .ttup g 5 14 (v_o (gv g)))) (ss_cons (s_if (w_t (w_or (t_not (t_val (g_isi .ttup g 5 14 (v_o (gv g))))) (w_or1 (t_cmp (op := .ne) g (v_o (g_len g 6 (v_o (gv g)))) (v_o (g_len g 6 (v_o (gv g)))))))) (ss_cons (s_ret v_bl)
 ss_nil) ss_nil)
 (ss_cons (s_ret (v_cmp (op := .eq) g (v_o (f_v (g_lc1 [("k", 2)] g (i_j (gi1 g 10 (g_len g 6 (v_o (gv g))))) (fun s1 H1 C1 l1 f1 => (gp (Gd.blk g s1 H1 _ C1 l1 f1))) (fun s1 H1 C1 l1 f1 => (ts_one (t_not (t_val (g_call (Gd.blk g s1 H1 _ C1 l1 f1) 22 (a_cons (v_idx (Gd.blk g s1 H1 _ C1 l1 f1) (v_o (gv (Gd.blk g s1 H1 _ C1 l1 f1))) (v_o (gv (Gd.blk g s1 H1 _ C1 l1 f1)))) (a_cons (v_idx (Gd.blk g s1 H1 _ C1 l1 f1) (v_o (gv (Gd.blk g s1 H1 _ C1 l1 f1))) (v_o (gv (Gd.blk g s1 H1 _ C1 l1 f1)))) a_nil))))))) (fun s1 H1 C1 l1 f1 => (gv (Gd.blk g s1 H1 _ C1 l1 f1)))))) (v_o (f_v (f_lst a_nil)))))
 ss_nil)) ss_nil)
 (ss_cons (s_if (t_cmp (op := .is_) g (v_o (gv g)) (v_o v_non)) (ss_cons (s_ret (v_cmp (op := .is_) g (v_o (gv g)) (v_o v_non)))
 ss_nil) ss_nil)
 (ss_cons (s_if (t_val (g_isi .tbool g 5 2 (v_o (gv g)))) (ss_cons (s_ret (v_and (g_isi .tbool g 5 2 (v_o (gv g))) (v_and1 (v_cmp (op := .eq) g (v_o (gv g)) (v_o (gv g))))))
 ss_nil) ss_nil)
 (ss_cons (s_if (t_val (g_isi .tint g 5 4 (v_o (gv g)))) (ss_cons (s_ret (v_and (g_isi .tint g 5 4 (v_o (gv g))) (v_and (v_not (g_isi .tbool g 5 2 (v_o (gv g)))) (v_and1 (v_cmp (op := .eq) g (v_o (gv g)) (v_o (gv g)))))))
 ss_nil) ss_nil)
 (ss_cons (s_ret (v_and (g_isi .tstr g 5 12 (v_o (gv g))) (v_and1 (v_cmp (op := .eq) g (v_o (gv g)) (v_o (gv g))))))
 ss_nil)))))
def N_f__law_room : List Str := [("uses" : Str), ("k" : Str), ("long" : Str), ("last" : Str), ("begin" : Str), ("end" : Str)]
def c_f__law_room : CSs := (.cons (.asg false 4 (.ite (.cmp .ge (.var 1) (.int 0)) (.idx (.idx (.var 0) (.var 1)) (.int 1)) (.int 0)))
 (.cons (.asg false 5 (.ite (.cmp .lt (.bin .add (.var 1) (.int 1)) (.bi .len (.cons (.var 0) .nil))) (.idx (.idx (.var 0) (.bin .add (.var 1) (.int 1))) (.int 0)) (.bin .add (.var 3) (.int 1))))
 (.cons (.ret (.cmp .ge (.bin .sub (.var 5) (.var 4)) (.var 2)))
 .nil)))
theorem w_f__law_room {Φ : Fns} {X : Cx} (g : Gd TT Φ N_f__law_room (defScope (top 26)) X) (hF : ∀ x, X.fn x = true) : PSs_ Φ X (defBody (top 26)) c_f__law_room := (ss_cons (gs_asg g hF (v_ite (t_cmp (op := .ge) g (v_o (gv g)) (v_o v_int)) (v_idx g (v_o (v_idx g (v_o (gv g)) (v_o (gv g)))) (v_o v_int)) v_int))
 (ss_cons (gs_asg g hF (v_ite (t_cmp (op := .lt) g (v_o (v_bin (op := .add) (v_o (gv g)) (v_o v_int))) (v_o (g_len g 6 (v_o (gv g))))) (v_idx g (v_o (v_idx g (v_o (gv g)) (v_o (v_bin (op := .add) (v_o (gv g)) (v_o v_int))))) (v_o v_int)) (v_bin (op := .add) (v_o (gv g)) (v_o v_int))))
 (ss_cons (s_ret (v_cmp (op := .ge) g (v_o (v_bin (op := .sub) (v_o (gv g)) (v_o (gv g)))) (v_o (gv g))))
 ss_nil)))
def N_f__law_served : List Str := [("uses" : Str), ("places" : Str), ("most" : Str), ("long" : Str), ("last" : Str), ("now" : Str), ("k" : Str)]
def c_f__law_served : CSs := (.cons (.asg false 5 (.int 0))
 (.cons (.for_ (.nm 6) (.rng1 (.bi .len (.cons (.var 0) .nil))) (.cons (.aug 5 .add (.idx (.idx (.var 0) (.var 6)) (.int 2)))
 (.cons (.ife (.cmp .gt (.var 5) (.var 2)) (.cons (.ret (.bl false))
 .nil) .nil)
 (.cons (.asg false 5 (.ite (.cmp .in_ (.var 6) (.var 1)) (.int 0) (.var 5)))
 .nil))))
 (.cons (.ret (.cmp .eq (.lc1 [6] (.var 6) (.nm 6) (.over (.var 1)) (.cons (.not_ (.call 23 (.cons (.var 0) (.cons (.var 6) (.cons (.var 3) (.cons (.var 4) .nil)))))) .nil)) (.lst .nil)))
 .nil)))
theorem w_f__law_served {Φ : Fns} {X : Cx} (g : Gd TT Φ N_f__law_served (defScope (top 27)) X) (hF : ∀ x, X.fn x = true) : PSs_ Φ X (defBody (top 27)) c_f__law_served := (ss_cons (gs_asg g hF v_int)
 (ss_cons (s_for g (gi1 g 10 (g_len g 6 (v_o (gv g)))) (gp g (hf := .inl (hF _))) (ss_cons (gs_aug (op := .add) g hF (v_idx g (v_o (v_idx g (v_o (gv g)) (v_o (gv g)))) (v_o v_int)))
 (ss_cons (s_if (t_cmp (op := .gt) g (v_o (gv g)) (v_o (gv g))) (ss_cons (s_ret v_bl)
 ss_nil) ss_nil)
 (ss_cons (gs_asg g hF (v_ite (t_cmp (op := .in_) g (v_o (gv g)) (v_o (gv g))) v_int (gv g)))
 ss_nil))))
 (ss_cons (s_ret (v_cmp (op := .eq) g (v_o (f_v (g_lc1 [("k", 6)] g (i_j (i_over (gv g))) (fun s1 H1 C1 l1 f1 => (gp (Gd.blk g s1 H1 _ C1 l1 f1))) (fun s1 H1 C1 l1 f1 => (ts_one (t_not (t_val (g_call (Gd.blk g s1 H1 _ C1 l1 f1) 23 (a_cons (gv (Gd.blk g s1 H1 _ C1 l1 f1)) (a_cons (gv (Gd.blk g s1 H1 _ C1 l1 f1)) (a_cons (gv (Gd.blk g s1 H1 _ C1 l1 f1)) (a_cons (gv (Gd.blk g s1 H1 _ C1 l1 f1)) a_nil))))))))) (fun s1 H1 C1 l1 f1 => (gv (Gd.blk g s1 H1 _ C1 l1 f1)))))) (v_o (f_v (f_lst a_nil)))))
 ss_nil)))
def N_f__law_sets : List Str := [("many" : Str), ("found" : Str), ("k" : Str), ("key" : Str), ("own" : Str)]
def c_f__law_sets : CSs := (.cons (.asg false 1 (.lst (.cons (.tup .nil) .nil)))
 (.cons (.for_ (.nm 2) (.rng1 (.var 0)) (.cons (.asg false 1 (.bin .add (.var 1) (.lc1 [4] (.bin .add (.var 4) (.tup (.cons (.var 2) .nil))) (.nm 4) (.over (.var 1)) .nil)))
 .nil))
 (.cons (.ret (.lc1 [3] (.idx (.var 3) (.int 1)) (.nm 3) (.over (.bi .sorted (.cons (.lc1 [4] (.tup (.cons (.bi .len (.cons (.var 4) .nil)) (.cons (.var 4) .nil))) (.nm 4) (.over (.var 1)) .nil) .nil))) .nil))
 .nil)))
theorem w_f__law_sets {Φ : Fns} {X : Cx} (g : Gd TT Φ N_f__law_sets (defScope (top 28)) X) (hF : ∀ x, X.fn x = true) : PSs_ Φ X (defBody (top 28)) c_f__law_sets := (ss_cons (gs_asg g hF (f_v (f_lst (a_cons (v_tup a_nil) a_nil))))
 (ss_cons (s_for g (gi1 g 10 (gv g)) (gp g (hf := .inl (hF _))) (ss_cons (gs_asg g hF (v_bin (op := .add) (v_o (gv g)) (v_o (f_v (g_lc1 [("own", 4)] g (i_j (i_over (gv g))) (fun s1 H1 C1 l1 f1 => (gp (Gd.blk g s1 H1 _ C1 l1 f1))) (fun s1 H1 C1 l1 f1 => ts_nil) (fun s1 H1 C1 l1 f1 => (v_bin (op := .add) (v_o (gv (Gd.blk g s1 H1 _ C1 l1 f1))) (v_o (v_tup (a_cons (gv (Gd.blk g s1 H1 _ C1 l1 f1)) a_nil))))))))))
 ss_nil))
 (ss_cons (s_ret (f_v (g_lc1 [("key", 3)] g (i_j (i_over (f_v (g_sorted g 11 (v_o (f_v (g_lc1 [("own", 4)] g (i_j (i_over (gv g))) (fun s1 H1 C1 l1 f1 => (gp (Gd.blk g s1 H1 _ C1 l1 f1))) (fun s1 H1 C1 l1 f1 => ts_nil) (fun s1 H1 C1 l1 f1 => (v_tup (a_cons (g_len (Gd.blk g s1 H1 _ C1 l1 f1) 6 (v_o (gv (Gd.blk g s1 H1 _ C1 l1 f1)))) (a_cons (gv (Gd.blk g s1 H1 _ C1 l1 f1)) a_nil))))))))))) (fun s1 H1 C1 l1 f1 => (gp (Gd.blk g s1 H1 _ C1 l1 f1))) (fun s1 H1 C1 l1 f1 => ts_nil) (fun s1 H1 C1 l1 f1 => (v_idx (Gd.blk g s1 H1 _ C1 l1 f1) (v_o (gv (Gd.blk g s1 H1 _ C1 l1 f1))) (v_o v_int))))))
 ss_nil)))
def N_f__law_wear : List Str := [("uses" : Str), ("places" : Str), ("each" : Str), ("gain" : Str), ("k" : Str), ("found" : Str), ("now" : Str)]
def c_f__law_wear : CSs := (.cons (.par (nms [5, 6]) [false, false] (.cons (.lst .nil) (.cons (.int 0) .nil)))
 (.cons (.for_ (.nm 4) (.rng1 (.bi .len (.cons (.var 0) .nil))) (.cons (.aug 6 .add (.bin .mul (.var 2) (.idx (.idx (.var 0) (.var 4)) (.int 2))))
 (.cons (.par (nms [5, 6]) [false, false] (.cons (.bin .add (.var 5) (.lst (.cons (.var 6) .nil))) (.cons (.ite (.cmp .in_ (.var 4) (.var 1)) (.bi .max (.cons (.int 0) (.cons (.bin .sub (.var 6) (.var 3)) .nil))) (.var 6)) .nil)))
 .nil)))
 (.cons (.ret (.bi .tuple (.cons (.var 5) .nil)))
 .nil)))
theorem w_f__law_wear {Φ : Fns} {X : Cx} (g : Gd TT Φ N_f__law_wear (defScope (top 29)) X) (hF : ∀ x, X.fn x = true) : PSs_ Φ X (defBody (top 29)) c_f__law_wear := (ss_cons (gs_par2 g (x_val (f_v (f_lst a_nil)) (x_val v_int x_nil)))
 (ss_cons (s_for g (gi1 g 10 (g_len g 6 (v_o (gv g)))) (gp g (hf := .inl (hF _))) (ss_cons (gs_aug (op := .add) g hF (v_bin (op := .mul) (v_o (gv g)) (v_o (v_idx g (v_o (v_idx g (v_o (gv g)) (v_o (gv g)))) (v_o v_int)))))
 (ss_cons (gs_par2 g (x_val (v_bin (op := .add) (v_o (gv g)) (v_o (f_v (f_lst (a_cons (gv g) a_nil))))) (x_val (v_ite (t_cmp (op := .in_) g (v_o (gv g)) (v_o (gv g))) (g_max2 g 8 (v_o v_int) (v_o (v_bin (op := .sub) (v_o (gv g)) (v_o (gv g))))) (gv g)) x_nil)))
 ss_nil)))
 (ss_cons (s_ret (g_tuple g 14 (v_o (gv g))))
 ss_nil)))
def N_f__law_joined : List Str := [("spans" : Str), ("found" : Str), ("begin" : Str), ("end" : Str)]
def c_f__law_joined : CSs := (.cons (.asg false 1 (.lst .nil))
 (.cons (.for_ (.tp [(.nm 2), (.nm 3)]) (.over (.var 0)) (.cons (.asg false 1 (.ite (.and_ (.cons (.cmp .ne (.var 1) (.lst .nil)) (.cons (.cmp .eq (.idx (.idx (.var 1) (.neg (.int 1))) (.int 1)) (.var 2)) .nil))) (.bin .add (.cut (.var 1) .nil (.cons (.neg (.int 1)) .nil)) (.lst (.cons (.tup (.cons (.idx (.idx (.var 1) (.neg (.int 1))) (.int 0)) (.cons (.var 3) .nil))) .nil))) (.bin .add (.var 1) (.lst (.cons (.tup (.cons (.var 2) (.cons (.var 3) .nil))) .nil)))))
 .nil))
 (.cons (.ret (.bi .tuple (.cons (.var 1) .nil)))
 .nil)))
theorem w_f__law_joined {Φ : Fns} {X : Cx} (g : Gd TT Φ N_f__law_joined (defScope (top 30)) X) (hF : ∀ x, X.fn x = true) : PSs_ Φ X (defBody (top 30)) c_f__law_joined := (ss_cons (gs_asg g hF (f_v (f_lst a_nil)))
 (ss_cons (s_for g (i_over (gv g)) (p_tp g (ps_cons' (gp g (hf := .inl (hF _))) (ps_cons' (gp g (hf := .inl (hF _))) ps_nil'))) (ss_cons (gs_asg g hF (v_ite (w_t (w_and (t_cmp (op := .ne) g (v_o (gv g)) (v_o (f_v (f_lst a_nil)))) (w_and1 (t_cmp (op := .eq) g (v_o (v_idx g (v_o (v_idx g (v_o (gv g)) (v_o (v_neg (v_o v_int))))) (v_o v_int))) (v_o (gv g)))))) (v_bin (op := .add) (v_o (v_cut (v_o (gv g)) pt_none (pt_some (v_neg (v_o v_int))))) (v_o (f_v (f_lst (a_cons (v_tup (a_cons (v_idx g (v_o (v_idx g (v_o (gv g)) (v_o (v_neg (v_o v_int))))) (v_o v_int)) (a_cons (gv g) a_nil))) a_nil))))) (v_bin (op := .add) (v_o (gv g)) (v_o (f_v (f_lst (a_cons (v_tup (a_cons (gv g) (a_cons (gv g) a_nil))) a_nil)))))))
 ss_nil))
 (ss_cons (s_ret (g_tuple g 14 (v_o (gv g))))
 ss_nil)))
def N_f__law_since : List Str := [("uses" : Str), ("some" : Str), ("now" : Str), ("k" : Str)]
def c_f__law_since : CSs := (.cons (.asg false 2 (.int 0))
 (.cons (.for_ (.nm 3) (.rng1 (.bi .len (.cons (.var 0) .nil))) (.cons (.asg false 2 (.ite (.cmp .in_ (.var 3) (.var 1)) (.int 0) (.bin .add (.var 2) (.idx (.idx (.var 0) (.var 3)) (.int 2)))))
 .nil))
 (.cons (.ret (.var 2))
 .nil)))
theorem w_f__law_since {Φ : Fns} {X : Cx} (g : Gd TT Φ N_f__law_since (defScope (top 31)) X) (hF : ∀ x, X.fn x = true) : PSs_ Φ X (defBody (top 31)) c_f__law_since := (ss_cons (gs_asg g hF v_int)
 (ss_cons (s_for g (gi1 g 10 (g_len g 6 (v_o (gv g)))) (gp g (hf := .inl (hF _))) (ss_cons (gs_asg g hF (v_ite (t_cmp (op := .in_) g (v_o (gv g)) (v_o (gv g))) v_int (v_bin (op := .add) (v_o (gv g)) (v_o (v_idx g (v_o (v_idx g (v_o (gv g)) (v_o (gv g)))) (v_o v_int))))))
 ss_nil))
 (ss_cons (s_ret (gv g))
 ss_nil)))
def N_f__law_judged : List Str := [("uses" : Str), ("bad" : Str)]
def c_f__law_judged : CSs := (.cons (.ife (.not_ (.call 22 (.cons (.tup (.cons (.call 4 (.cons (.var 0) .nil)) (.cons (.call 15 (.cons (.tup (.cons (.int 0) (.cons (.int 5) .nil))) (.cons (.tup (.cons (.int 2) (.cons (.int 1) .nil))) (.cons (.int 2) (.cons (.int 3) .nil))))) (.cons (.call 15 (.cons (.tup (.cons (.int 0) (.cons (.int 5) .nil))) (.cons (.tup (.cons (.int 2) (.cons (.int 1) .nil))) (.cons (.int 2) (.cons (.int 4) .nil))))) .nil)))) (.cons (.tup (.cons (.bl true) (.cons (.bl true) (.cons (.bl false) .nil)))) .nil)))) (.cons (.ret (.bl false))
 .nil) .nil)
 (.cons (.ret (.cmp .eq (.lc1 [1] (.var 1) (.nm 1) (.over (.tup (.cons (.bi .list (.cons (.var 0) .nil)) (.cons .non (.cons (.tup (.cons (.tup (.cons (.int 1) (.cons (.int 1) (.cons (.int 0) .nil)))) .nil)) (.cons (.tup (.cons (.tup (.cons (.int 2) (.cons (.int 1) (.cons (.int 0) .nil)))) .nil)) (.cons (.tup (.cons (.tup (.cons (.int 0) (.cons (.int 2) (.cons (.int 1) .nil)))) (.cons (.tup (.cons (.int 1) (.cons (.int 3) (.cons (.int 1) .nil)))) .nil))) (.cons (.tup (.cons (.tup (.cons (.neg (.int 1)) (.cons (.int 1) (.cons (.int 0) .nil)))) .nil)) (.cons (.tup (.cons (.tup (.cons (.int 0) (.cons (.int 1) (.cons (.neg (.int 1)) .nil)))) .nil)) (.cons (.tup (.cons (.tup (.cons (.int 0) (.cons (.int 1) .nil))) .nil)) (.cons (.tup (.cons (.tup (.cons (.int 0) (.cons (.bl true) (.cons (.int 1) .nil)))) .nil)) (.cons (.tup (.cons (.tup (.cons (.int 0) (.cons (.int 1) (.cons .non .nil)))) .nil)) (.cons (.tup (.cons (.int 3) .nil)) .nil))))))))))))) (.cons (.not_ (.call 22 (.cons (.call 4 (.cons (.var 1) .nil)) (.cons (.bl false) .nil)))) .nil)) (.lst .nil)))
 .nil))
theorem w_f__law_judged {Φ : Fns} {X : Cx} (g : Gd TT Φ N_f__law_judged (defScope (top 32)) X) (hF : ∀ x, X.fn x = true) : PSs_ Φ X (defBody (top 32)) c_f__law_judged := (ss_cons (s_if (t_not (t_val (g_call g 22 (a_cons (v_tup (a_cons (g_call g 4 (a_cons (gv g) a_nil)) (a_cons (g_call g 15 (a_cons (v_tup (a_cons v_int (a_cons v_int a_nil))) (a_cons (v_tup (a_cons v_int (a_cons v_int a_nil))) (a_cons v_int (a_cons v_int a_nil))))) (a_cons (g_call g 15 (a_cons (v_tup (a_cons v_int (a_cons v_int a_nil))) (a_cons (v_tup (a_cons v_int (a_cons v_int a_nil))) (a_cons v_int (a_cons v_int a_nil))))) a_nil)))) (a_cons (v_tup (a_cons v_bl (a_cons v_bl (a_cons v_bl a_nil)))) a_nil))))) (ss_cons (s_ret v_bl)
 ss_nil) ss_nil)
 (ss_cons (s_ret (v_cmp (op := .eq) g (v_o (f_v (g_lc1 [("bad", 1)] g (i_j (i_over (v_tup (a_cons (f_v (g_list g 7 (v_o (gv g)))) (a_cons v_non (a_cons (v_tup (a_cons (v_tup (a_cons v_int (a_cons v_int (a_cons v_int a_nil)))) a_nil)) (a_cons (v_tup (a_cons (v_tup (a_cons v_int (a_cons v_int (a_cons v_int a_nil)))) a_nil)) (a_cons (v_tup (a_cons (v_tup (a_cons v_int (a_cons v_int (a_cons v_int a_nil)))) (a_cons (v_tup (a_cons v_int (a_cons v_int (a_cons v_int a_nil)))) a_nil))) (a_cons (v_tup (a_cons (v_tup (a_cons (v_neg (v_o v_int)) (a_cons v_int (a_cons v_int a_nil)))) a_nil)) (a_cons (v_tup (a_cons (v_tup (a_cons v_int (a_cons v_int (a_cons (v_neg (v_o v_int)) a_nil)))) a_nil)) (a_cons (v_tup (a_cons (v_tup (a_cons v_int (a_cons v_int a_nil))) a_nil)) (a_cons (v_tup (a_cons (v_tup (a_cons v_int (a_cons v_bl (a_cons v_int a_nil)))) a_nil)) (a_cons (v_tup (a_cons (v_tup (a_cons v_int (a_cons v_int (a_cons v_non a_nil)))) a_nil)) (a_cons (v_tup (a_cons v_int a_nil)) a_nil)))))))))))))) (fun s1 H1 C1 l1 f1 => (gp (Gd.blk g s1 H1 _ C1 l1 f1))) (fun s1 H1 C1 l1 f1 => (ts_one (t_not (t_val (g_call (Gd.blk g s1 H1 _ C1 l1 f1) 22 (a_cons (g_call (Gd.blk g s1 H1 _ C1 l1 f1) 4 (a_cons (gv (Gd.blk g s1 H1 _ C1 l1 f1)) a_nil)) (a_cons v_bl a_nil))))))) (fun s1 H1 C1 l1 f1 => (gv (Gd.blk g s1 H1 _ C1 l1 f1)))))) (v_o (f_v (f_lst a_nil)))))
 ss_nil))
def N_f_law : List Str := [("script" : Str), ("w" : Str), ("turn" : Str), ("k" : Str), ("spans" : Str), ("own" : Str), ("some" : Str), ("able" : Str), ("bars" : Str), ("j" : Str), ("many" : Str), ("hours" : Str), ("wear" : Str), ("above" : Str), ("rows" : Str), ("gaps" : Str), ("a" : Str), ("told" : Str), ("uses" : Str), ("at" : Str), ("begin" : Str), ("last" : Str), ("most" : Str), ("long" : Str), ("each" : Str), ("gain" : Str), ("limit" : Str), ("longs" : Str), ("days" : Str), ("longer" : Str), ("row" : Str), ("lives" : Str), ("need" : Str), ("kinds" : Str), ("best" : Str), ("rest" : Str), ("b" : Str), ("day" : Str), ("n" : Str), ("i" : Str), ("use" : Str), ("life" : Str), ("span" : Str)]
def c_f_law : CSs := (.cons (.asgS 1 (.dsp 0 (.cons (.str "draws") (.call 19 (.cons (.var 0) (.cons (.int 500) .nil))) (.cons (.str "at") (.int 0) .nil))))
 (.cons (.for_ (.nm 2) (.rng1 (.int 7)) (.cons (.par (nms [18, 19]) [true, false] (.cons (.lst .nil) (.cons (.int 0) .nil)))
 (.cons (.for_ (.nm 3) (.rng1 (.call 20 (.cons (.var 1) (.cons (.int 6) .nil)))) (.cons (.asg false 20 (.bin .add (.var 19) (.call 20 (.cons (.var 1) (.cons (.int 4) .nil)))))
 (.cons (.asg false 19 (.bin .add (.bin .add (.var 20) (.int 1)) (.call 20 (.cons (.var 1) (.cons (.int 3) .nil)))))
 (.cons (.app 18 (.tup (.cons (.var 20) (.cons (.var 19) (.cons (.call 20 (.cons (.var 1) (.cons (.int 6) .nil))) .nil)))))
 .nil))))
 (.cons (.par (nms [18, 21, 22, 23]) [false, false, false, false] (.cons (.bi .tuple (.cons (.bor 18) .nil)) (.cons (.call 20 (.cons (.var 1) (.cons (.int 30) .nil))) (.cons (.call 20 (.cons (.var 1) (.cons (.int 12) .nil))) (.cons (.bin .add (.int 1) (.call 20 (.cons (.var 1) (.cons (.int 3) .nil)))) .nil)))))
 (.cons (.asg false 4 (.lst .nil))
 (.cons (.for_ (.nm 5) (.over (.lc1 [37] (.var 37) (.nm 37) (.rng1 (.bin .add (.var 21) (.int 1))) (.cons (.cmp .eq (.lc1 [40] (.var 40) (.nm 40) (.over (.bor 18)) (.cons (.chn .le .lt (.idx (.var 40) (.int 0)) (.var 37) (.idx (.var 40) (.int 1))) .nil)) (.lst .nil)) .nil))) (.cons (.asg false 4 (.ite (.and_ (.cons (.cmp .ne (.var 4) (.lst .nil)) (.cons (.cmp .eq (.idx (.idx (.var 4) (.neg (.int 1))) (.int 1)) (.var 5)) .nil))) (.bin .add (.cut (.var 4) .nil (.cons (.neg (.int 1)) .nil)) (.lst (.cons (.tup (.cons (.idx (.idx (.var 4) (.neg (.int 1))) (.int 0)) (.cons (.bin .add (.var 5) (.int 1)) .nil))) .nil))) (.bin .add (.var 4) (.lst (.cons (.tup (.cons (.var 5) (.cons (.bin .add (.var 5) (.int 1)) .nil))) .nil)))))
 .nil))
 (.frz [18] (.cons (.ife (.not_ (.call 22 (.cons (.call 6 (.cons (.var 18) .nil)) (.cons (.bi .tuple (.cons (.lc1 [3] (.bi .sum (.cons (.lc1 [40] (.idx (.var 40) (.int 2)) (.nm 40) (.over (.cut (.bor 18) .nil (.cons (.bin .add (.var 3) (.int 1)) .nil))) .nil) .nil)) (.nm 3) (.rng1 (.bi .len (.cons (.bor 18) .nil))) .nil) .nil)) .nil)))) (.cons (.ret (.bl false))
 .nil) .nil)
 (.frz [18] (.cons (.ife (.not_ (.call 22 (.cons (.call 27 (.cons (.call 5 (.cons (.var 18) (.cons (.var 21) .nil))) .nil)) (.cons (.bi .tuple (.cons (.var 4) .nil)) .nil)))) (.cons (.ret (.bl false))
 .nil) .nil)
 (.cons (.asg false 6 (.bi .tuple (.cons (.lc1 [3] (.var 3) (.nm 3) (.rng2 (.neg (.int 1)) (.bi .len (.cons (.bor 18) .nil))) (.cons (.cmp .eq (.call 20 (.cons (.var 1) (.cons (.int 3) .nil))) (.int 0)) .nil)) .nil)))
 (.frz [18] (.cons (.ife (.not_ (.call 22 (.cons (.call 7 (.cons (.var 18) (.cons (.var 6) (.cons (.var 22) (.cons (.var 23) (.cons (.var 21) .nil)))))) (.cons (.call 24 (.cons (.var 18) (.cons (.var 6) (.cons (.var 22) (.cons (.var 23) (.cons (.var 21) .nil)))))) .nil)))) (.cons (.ret (.bl false))
 .nil) .nil)
 (.frz [18] (.cons (.asg false 7 (.lc1 [5] (.var 5) (.nm 5) (.over (.call 25 (.cons (.bi .len (.cons (.bor 18) .nil)) .nil))) (.cons (.call 24 (.cons (.var 18) (.cons (.var 5) (.cons (.var 22) (.cons (.var 23) (.cons (.var 21) .nil)))))) .nil)))
 (.cons (.asg false 8 (.lst .nil))
 (.cons (.for_ (.nm 9) (.rng1 (.bi .len (.cons (.bor 18) .nil))) (.frz [18] (.cons (.asg false 8 (.bin .add (.var 8) (.lc1 [39] (.tup (.cons (.var 39) (.cons (.var 9) .nil))) (.nm 39) (.rng1 (.bin .add (.var 9) (.int 1))) (.cons (.and_ (.cons (.cmp .gt (.bi .sum (.cons (.lc1 [40] (.idx (.var 40) (.int 2)) (.nm 40) (.over (.cut (.bor 18) (.cons (.var 39) .nil) (.cons (.bin .add (.var 9) (.int 1)) .nil))) .nil) .nil)) (.var 22)) (.cons (.cmp .eq (.lc1 [3] (.var 3) (.nm 3) (.rng2 (.var 39) (.var 9)) (.cons (.call 23 (.cons (.var 18) (.cons (.var 3) (.cons (.var 23) (.cons (.var 21) .nil))))) .nil)) (.lst .nil)) .nil))) .nil))))
 .nil)))
 (.frz [18] (.cons (.ife (.or_ (.cons (.cmp .ne (.cmp .eq (.var 7) (.lst .nil)) (.cmp .ne (.var 8) (.lst .nil))) (.cons (.not_ (.call 22 (.cons (.call 8 (.cons (.var 18) (.cons (.var 22) (.cons (.var 23) (.cons (.var 21) .nil))))) (.cons (.ite (.cmp .ne (.var 7) (.lst .nil)) (.tup (.cons (.str "yes") (.cons (.idx (.var 7) (.int 0)) .nil))) (.bin .add (.tup (.cons (.str "no") .nil)) (.idx (.var 8) (.int 0)))) .nil)))) .nil))) (.cons (.ret (.bl false))
 .nil) .nil)
 (.cons (.asg false 10 (.call 20 (.cons (.var 1) (.cons (.int 3) .nil))))
 (.frz [18] (.cons (.asg false 11 (.lc1 [38] (.var 38) (.nm 38) (.rng1 (.bin .add (.bi .sum (.cons (.lc1 [40] (.idx (.var 40) (.int 2)) (.nm 40) (.over (.bor 18)) .nil) .nil)) (.int 1))) (.cons (.cmp .ne (.lc1 [5] (.var 5) (.nm 5) (.over (.call 25 (.cons (.bi .len (.cons (.bor 18) .nil)) .nil))) (.cons (.and_ (.cons (.cmp .le (.bi .len (.cons (.var 5) .nil)) (.var 10)) (.cons (.call 24 (.cons (.var 18) (.cons (.var 5) (.cons (.var 38) (.cons (.var 23) (.cons (.var 21) .nil)))))) .nil))) .nil)) (.lst .nil)) .nil)))
 (.frz [18] (.cons (.ife (.not_ (.call 22 (.cons (.tup (.cons (.call 10 (.cons (.var 18) (.cons (.var 10) (.cons (.var 23) (.cons (.var 21) .nil))))) (.cons (.call 18 (.cons (.var 18) (.cons (.var 6) (.cons (.var 22) .nil)))) .nil))) (.cons (.tup (.cons (.idx (.var 11) (.int 0)) (.cons (.bin .sub (.var 22) (.call 28 (.cons (.var 18) (.cons (.var 6) .nil)))) .nil))) .nil)))) (.cons (.ret (.bl false))
 .nil) .nil)
 (.cons (.par (nms [24, 25, 26]) [false, false, false] (.cons (.bin .add (.int 1) (.call 20 (.cons (.var 1) (.cons (.int 3) .nil)))) (.cons (.call 20 (.cons (.var 1) (.cons (.int 9) .nil))) (.cons (.call 20 (.cons (.var 1) (.cons (.int 20) .nil))) .nil))))
 (.frz [18] (.cons (.asg false 12 (.call 26 (.cons (.var 18) (.cons (.var 6) (.cons (.var 24) (.cons (.var 25) .nil))))))
 (.cons (.asg false 13 (.lc1 [3] (.var 3) (.nm 3) (.rng1 (.bi .len (.cons (.bor 18) .nil))) (.cons (.cmp .gt (.idx (.var 12) (.var 3)) (.var 26)) .nil)))
 (.frz [18] (.cons (.asg false 14 (.lc1 [5] (.tup (.cons (.bi .max (.cons (.bin .add (.tup (.cons (.int 0) .nil)) (.call 26 (.cons (.var 18) (.cons (.var 5) (.cons (.var 24) (.cons (.var 25) .nil)))))) .nil)) (.cons (.bi .len (.cons (.var 5) .nil)) (.cons (.var 5) .nil)))) (.nm 5) (.over (.call 25 (.cons (.bi .len (.cons (.bor 18) .nil)) .nil))) (.cons (.and_ (.cons (.cmp .le (.bi .len (.cons (.var 5) .nil)) (.var 10)) (.cons (.cmp .eq (.lc1 [3] (.var 3) (.nm 3) (.over (.var 5)) (.cons (.not_ (.call 23 (.cons (.var 18) (.cons (.var 3) (.cons (.var 23) (.cons (.var 21) .nil)))))) .nil)) (.lst .nil)) .nil))) .nil)))
 (.frz [18] (.cons (.ife (.not_ (.call 22 (.cons (.tup (.cons (.call 11 (.cons (.var 18) (.cons (.var 6) (.cons (.var 24) (.cons (.var 25) .nil))))) (.cons (.call 13 (.cons (.var 18) (.cons (.var 6) (.cons (.var 24) (.cons (.var 25) (.cons (.var 26) .nil)))))) .nil))) (.cons (.tup (.cons (.var 12) (.cons (.ite (.cmp .ne (.var 13) (.lst .nil)) (.idx (.var 13) (.int 0)) .non) .nil))) .nil)))) (.cons (.ret (.bl false))
 .nil) .nil)
 (.frz [18] (.cons (.ife (.not_ (.call 22 (.cons (.call 12 (.cons (.var 18) (.cons (.var 10) (.cons (.var 24) (.cons (.var 25) (.cons (.var 23) (.cons (.var 21) .nil))))))) (.cons (.tup (.cons (.idx (.bi .min (.cons (.var 14) .nil)) (.int 0)) (.cons (.idx (.bi .min (.cons (.var 14) .nil)) (.int 2)) .nil))) .nil)))) (.cons (.ret (.bl false))
 .nil) .nil)
 (.cons (.asg false 15 (.bi .tuple (.cons (.lc1 [3] (.bi .tuple (.cons (.cut (.lc1 [20] (.tup (.cons (.var 20) (.cons (.bin .add (.bin .add (.var 20) (.int 1)) (.call 20 (.cons (.var 1) (.cons (.int 4) .nil)))) .nil))) (.nm 20) (.over (.tup (.cons (.call 20 (.cons (.var 1) (.cons (.int 4) .nil))) (.cons (.bin .add (.int 6) (.call 20 (.cons (.var 1) (.cons (.int 3) .nil)))) .nil)))) .nil) .nil (.cons (.bin .add (.int 1) (.call 20 (.cons (.var 1) (.cons (.int 2) .nil)))) .nil)) .nil)) (.nm 3) (.rng1 (.call 20 (.cons (.var 1) (.cons (.int 4) .nil)))) .nil) .nil)))
 (.cons (.par (nms [27, 14]) [false, false] (.cons (.bi .tuple (.cons (.lc1 [5] (.bin .add (.int 1) (.call 20 (.cons (.var 1) (.cons (.int 3) .nil)))) (.nm 5) (.over (.var 15)) .nil) .nil)) (.cons (.lst (.cons (.tup .nil) .nil)) .nil)))
 (.cons (.for_ (.nm 3) (.rng1 (.bi .len (.cons (.var 15) .nil))) (.cons (.asg false 28 (.bi .sorted (.cons (.lc1 [37] (.var 37) (.nm 37) (.rng1 (.int 20)) (.cons (.cmp .ne (.lc1 [42] (.var 42) (.nm 42) (.over (.idx (.var 15) (.var 3))) (.cons (.and_ (.cons (.cmp .le (.idx (.var 42) (.int 0)) (.var 37)) (.cons (.cmp .le (.bin .add (.var 37) (.idx (.var 27) (.var 3))) (.idx (.var 42) (.int 1))) .nil))) .nil)) (.lst .nil)) .nil)) .nil)))
 (.cons (.asg false 29 (.lst .nil))
 (.cons (.for_ (.nm 30) (.over (.var 14)) (.cons (.asg false 29 (.bin .add (.var 29) (.lc1 [37] (.bin .add (.var 30) (.tup (.cons (.var 37) .nil))) (.nm 37) (.over (.var 28)) (.cons (.cmp .eq (.lc1 [9] (.var 9) (.nm 9) (.rng1 (.var 3)) (.cons (.and_ (.cons (.cmp .lt (.var 37) (.bin .add (.idx (.var 30) (.var 9)) (.idx (.var 27) (.var 9)))) (.cons (.cmp .lt (.idx (.var 30) (.var 9)) (.bin .add (.var 37) (.idx (.var 27) (.var 3)))) .nil))) .nil)) (.lst .nil)) .nil))))
 .nil))
 (.cons (.asg false 14 (.var 29))
 .nil)))))
 (.cons (.ife (.not_ (.call 22 (.cons (.call 14 (.cons (.var 15) (.cons (.var 27) .nil))) (.cons (.ite (.cmp .ne (.var 14) (.lst .nil)) (.tup (.cons (.str "yes") (.cons (.idx (.var 14) (.int 0)) .nil))) (.tup (.cons (.str "no") .nil))) .nil)))) (.cons (.ret (.bl false))
 .nil) .nil)
 (.cons (.par (nms [31, 32]) [false, false] (.cons (.bi .tuple (.cons (.lc1 [3] (.bin .add (.int 1) (.call 20 (.cons (.var 1) (.cons (.int 7) .nil)))) (.nm 3) (.rng1 (.call 20 (.cons (.var 1) (.cons (.int 4) .nil)))) .nil) .nil)) (.cons (.call 20 (.cons (.var 1) (.cons (.int 30) .nil))) .nil)))
 (.cons (.par (nms [33, 34]) [false, false] (.cons (.bi .tuple (.cons (.lc1 [3] (.tup (.cons (.bin .add (.int 1) (.call 20 (.cons (.var 1) (.cons (.int 9) .nil)))) (.cons (.call 20 (.cons (.var 1) (.cons (.int 9) .nil))) .nil))) (.nm 3) (.rng1 (.bin .add (.int 1) (.call 20 (.cons (.var 1) (.cons (.int 2) .nil))))) .nil) .nil)) (.cons (.lst .nil) .nil)))
 (.cons (.for_ (.nm 16) (.rng1 (.int 31)) (.cons (.asg false 35 (.bi .max (.cons (.int 0) (.cons (.bin .sub (.var 32) (.bin .mul (.var 16) (.idx (.idx (.var 33) (.int 0)) (.int 0)))) .nil))))
 (.cons (.asg false 36 (.ite (.cmp .gt (.bi .len (.cons (.var 33) .nil)) (.int 1)) (.bin .div (.bin .sub (.bin .add (.var 35) (.idx (.idx (.var 33) (.neg (.int 1))) (.int 0))) (.int 1)) (.idx (.idx (.var 33) (.neg (.int 1))) (.int 0))) (.int 0)))
 (.cons (.asg false 34 (.bin .add (.var 34) (.ite (.or_ (.cons (.cmp .eq (.var 35) (.int 0)) (.cons (.cmp .gt (.bi .len (.cons (.var 33) .nil)) (.int 1)) .nil))) (.lst (.cons (.tup (.cons (.bin .add (.bin .mul (.var 16) (.idx (.idx (.var 33) (.int 0)) (.int 1))) (.bin .mul (.var 36) (.idx (.idx (.var 33) (.neg (.int 1))) (.int 1)))) (.cons (.cut (.tup (.cons (.var 16) (.cons (.var 36) .nil))) .nil (.cons (.bi .len (.cons (.var 33) .nil)) .nil)) .nil))) .nil)) (.lst .nil))))
 .nil))))
 (.cons (.asg false 17 (.call 17 (.cons (.var 32) (.cons (.var 33) .nil))))
 (.cons (.ife (.or_ (.cons (.not_ (.call 22 (.cons (.call 16 (.cons (.var 31) (.cons (.var 32) .nil))) (.cons (.bi .tuple (.cons (.lc1 [41] (.bin .div (.bin .sub (.bin .add (.var 32) (.var 41)) (.int 1)) (.var 41)) (.nm 41) (.over (.var 31)) .nil) .nil)) .nil)))) (.cons (.not_ (.isi .ttup (.var 17))) (.cons (.not_ (.call 22 (.cons (.idx (.var 17) (.int 0)) (.cons (.idx (.bi .min (.cons (.var 34) .nil)) (.int 0)) .nil)))) .nil)))) (.cons (.ret (.bl false))
 .nil) .nil)
 (.frz [18] (.cons (.ife (.not_ (.call 29 (.cons (.var 18) .nil))) (.cons (.ret (.bl false))
 .nil) .nil)
 .nil)))))))))))))))))))))))))))))))))))))))))))))
 (.cons (.ret (.bl true))
 .nil)))
theorem w_f_law {Φ : Fns} {X : Cx} (g : Gd TT Φ N_f_law (defScope (top 33)) X) (hF : ∀ x, X.fn x = true) : PSs_ Φ X (defBody (top 33)) c_f_law := (ss_cons (gs_asgS g hF (f_dsp (d_cons v_str (g_call g 19 (a_cons (gv g) (a_cons v_int a_nil))) (d_cons v_str v_int d_nil))))
 (ss_cons (s_for g (gi1 g 10 v_int) (gp g (hf := .inl (hF _))) (ss_cons (gs_parN g (gn g hF (gn g hF n_nil)) (x_own (f_lst a_nil) (x_val v_int x_nil)))
 (ss_cons (s_for g (gi1 g 10 (g_call g 20 (a_cons (gv g) (a_cons v_int a_nil)))) (gp g (hf := .inl (hF _))) (ss_cons (gs_asg g hF (v_bin (op := .add) (v_o (gv g)) (v_o (g_call g 20 (a_cons (gv g) (a_cons v_int a_nil))))))
 (ss_cons (gs_asg g hF (v_bin (op := .add) (v_o (v_bin (op := .add) (v_o (gv g)) (v_o v_int))) (v_o (g_call g 20 (a_cons (gv g) (a_cons v_int a_nil))))))
 (ss_cons (gs_app g (v_tup (a_cons (gv g) (a_cons (gv g) (a_cons (g_call g 20 (a_cons (gv g) (a_cons v_int a_nil))) a_nil)))))
 ss_nil))))
 (ss_cons (gs_parN g (gn g hF (gn g hF (gn g hF (gn g hF n_nil)))) (x_val (g_tuple g 14 (gb g)) (x_val (g_call g 20 (a_cons (gv g) (a_cons v_int a_nil))) (x_val (g_call g 20 (a_cons (gv g) (a_cons v_int a_nil))) (x_val (v_bin (op := .add) (v_o v_int) (v_o (g_call g 20 (a_cons (gv g) (a_cons v_int a_nil))))) x_nil)))))
 (ss_cons (gs_asg g hF (f_v (f_lst a_nil)))
 (ss_cons (s_for g (i_over (f_v (g_lc1 [("day", 37)] g (i_j (gi1 g 10 (v_bin (op := .add) (v_o (gv g)) (v_o v_int)))) (fun s1 H1 C1 l1 f1 => (gp (Gd.blk g s1 H1 _ C1 l1 f1))) (fun s1 H1 C1 l1 f1 => (ts_one (t_cmp (op := .eq) (Gd.blk g s1 H1 _ C1 l1 f1) (v_o (f_v (g_lc1 [("use", 40)] (Gd.blk g s1 H1 _ C1 l1 f1) (j_over (gb (Gd.blk g s1 H1 _ C1 l1 f1))) (fun s2 H2 C2 l2 f2 => (gp (Gd.blk (Gd.blk g s1 H1 _ C1 l1 f1) s2 H2 _ C2 l2 f2))) (fun s2 H2 C2 l2 f2 => (ts_one (t_chn (op := .le) (op2 := .lt) (Gd.blk (Gd.blk g s1 H1 _ C1 l1 f1) s2 H2 _ C2 l2 f2) (v_o (v_idx (Gd.blk (Gd.blk g s1 H1 _ C1 l1 f1) s2 H2 _ C2 l2 f2) (v_o (gv (Gd.blk (Gd.blk g s1 H1 _ C1 l1 f1) s2 H2 _ C2 l2 f2))) (v_o v_int))) (v_o (gv (Gd.blk (Gd.blk g s1 H1 _ C1 l1 f1) s2 H2 _ C2 l2 f2))) (v_o (v_idx (Gd.blk (Gd.blk g s1 H1 _ C1 l1 f1) s2 H2 _ C2 l2 f2) (v_o (gv (Gd.blk (Gd.blk g s1 H1 _ C1 l1 f1) s2 H2 _ C2 l2 f2))) (v_o v_int)))))) (fun s2 H2 C2 l2 f2 => (gv (Gd.blk (Gd.blk g s1 H1 _ C1 l1 f1) s2 H2 _ C2 l2 f2)))))) (v_o (f_v (f_lst a_nil)))))) (fun s1 H1 C1 l1 f1 => (gv (Gd.blk g s1 H1 _ C1 l1 f1)))))) (gp g (hf := .inl (hF _))) (ss_cons (gs_asg g hF (v_ite (w_t (w_and (t_cmp (op := .ne) g (v_o (gv g)) (v_o (f_v (f_lst a_nil)))) (w_and1 (t_cmp (op := .eq) g (v_o (v_idx g (v_o (v_idx g (v_o (gv g)) (v_o (v_neg (v_o v_int))))) (v_o v_int))) (v_o (gv g)))))) (v_bin (op := .add) (v_o (v_cut (v_o (gv g)) pt_none (pt_some (v_neg (v_o v_int))))) (v_o (f_v (f_lst (a_cons (v_tup (a_cons (v_idx g (v_o (v_idx g (v_o (gv g)) (v_o (v_neg (v_o v_int))))) (v_o v_int)) (a_cons (v_bin (op := .add) (v_o (gv g)) (v_o v_int)) a_nil))) a_nil))))) (v_bin (op := .add) (v_o (gv g)) (v_o (f_v (f_lst (a_cons (v_tup (a_cons (gv g) (a_cons (v_bin (op := .add) (v_o (gv g)) (v_o v_int)) a_nil))) a_nil)))))))
 ss_nil))
 (ss_frz (ss_cons (s_if (t_not (t_val (g_call g 22 (a_cons (g_call g 6 (a_cons (gv g) a_nil)) (a_cons (g_tuple g 14 (v_o (f_v (g_lc1 [("k", 3)] g (i_j (gi1 g 10 (g_len g 6 (gb g)))) (fun s1 H1 C1 l1 f1 => (gp (Gd.blk g s1 H1 _ C1 l1 f1))) (fun s1 H1 C1 l1 f1 => ts_nil) (fun s1 H1 C1 l1 f1 => (g_sum (Gd.blk g s1 H1 _ C1 l1 f1) 13 (v_o (f_v (g_lc1 [("use", 40)] (Gd.blk g s1 H1 _ C1 l1 f1) (i_j (i_over (v_cut (gb (Gd.blk g s1 H1 _ C1 l1 f1)) pt_none (pt_some (v_bin (op := .add) (v_o (gv (Gd.blk g s1 H1 _ C1 l1 f1))) (v_o v_int)))))) (fun s2 H2 C2 l2 f2 => (gp (Gd.blk (Gd.blk g s1 H1 _ C1 l1 f1) s2 H2 _ C2 l2 f2))) (fun s2 H2 C2 l2 f2 => ts_nil) (fun s2 H2 C2 l2 f2 => (v_idx (Gd.blk (Gd.blk g s1 H1 _ C1 l1 f1) s2 H2 _ C2 l2 f2) (v_o (gv (Gd.blk (Gd.blk g s1 H1 _ C1 l1 f1) s2 H2 _ C2 l2 f2))) (v_o v_int)))))))))))) a_nil))))) (ss_cons (s_ret v_bl)
 ss_nil) ss_nil)
 (ss_frz (ss_cons (s_if (t_not (t_val (g_call g 22 (a_cons (g_call g 27 (a_cons (g_call g 5 (a_cons (gv g) (a_cons (gv g) a_nil))) a_nil)) (a_cons (g_tuple g 14 (v_o (gv g))) a_nil))))) (ss_cons (s_ret v_bl)
 ss_nil) ss_nil)
 (ss_cons (gs_asg g hF (g_tuple g 14 (v_o (f_v (g_lc1 [("k", 3)] g (i_j (gi2 g 10 (v_neg (v_o v_int)) (g_len g 6 (gb g)))) (fun s1 H1 C1 l1 f1 => (gp (Gd.blk g s1 H1 _ C1 l1 f1))) (fun s1 H1 C1 l1 f1 => (ts_one (t_cmp (op := .eq) (Gd.blk g s1 H1 _ C1 l1 f1) (v_o (g_call (Gd.blk g s1 H1 _ C1 l1 f1) 20 (a_cons (gv (Gd.blk g s1 H1 _ C1 l1 f1)) (a_cons v_int a_nil)))) (v_o v_int)))) (fun s1 H1 C1 l1 f1 => (gv (Gd.blk g s1 H1 _ C1 l1 f1))))))))
 (ss_frz (ss_cons (s_if (t_not (t_val (g_call g 22 (a_cons (g_call g 7 (a_cons (gv g) (a_cons (gv g) (a_cons (gv g) (a_cons (gv g) (a_cons (gv g) a_nil)))))) (a_cons (g_call g 24 (a_cons (gv g) (a_cons (gv g) (a_cons (gv g) (a_cons (gv g) (a_cons (gv g) a_nil)))))) a_nil))))) (ss_cons (s_ret v_bl)
 ss_nil) ss_nil)
 (ss_frz (ss_cons (s_ofV (g_lc1S [("own", 5)] g (i_j (i_over (g_call g 25 (a_cons (g_len g 6 (gb g)) a_nil)))) (fun s1 H1 C1 l1 f1 => (gp (Gd.blk g s1 H1 _ C1 l1 f1))) (fun s1 H1 C1 l1 f1 => (ts_one (t_val (g_call (Gd.blk g s1 H1 _ C1 l1 f1) 24 (a_cons (gv (Gd.blk g s1 H1 _ C1 l1 f1)) (a_cons (gv (Gd.blk g s1 H1 _ C1 l1 f1)) (a_cons (gv (Gd.blk g s1 H1 _ C1 l1 f1)) (a_cons (gv (Gd.blk g s1 H1 _ C1 l1 f1)) (a_cons (gv (Gd.blk g s1 H1 _ C1 l1 f1)) a_nil))))))))) (fun s1 H1 C1 l1 f1 => (gv (Gd.blk g s1 H1 _ C1 l1 f1)))))
 (ss_cons (gs_asg g hF (f_v (f_lst a_nil)))
 (ss_cons (s_for g (gi1 g 10 (g_len g 6 (gb g))) (gp g (hf := .inl (hF _))) (ss_frz (ss_cons (gs_asg g hF (v_bin (op := .add) (v_o (gv g)) (v_o (f_v (g_lc1 [("i", 39)] g (i_j (gi1 g 10 (v_bin (op := .add) (v_o (gv g)) (v_o v_int)))) (fun s1 H1 C1 l1 f1 => (gp (Gd.blk g s1 H1 _ C1 l1 f1))) (fun s1 H1 C1 l1 f1 => (ts_one (w_t (w_and (t_cmp (op := .gt) (Gd.blk g s1 H1 _ C1 l1 f1) (v_o (g_sum (Gd.blk g s1 H1 _ C1 l1 f1) 13 (v_o (f_v (g_lc1 [("use", 40)] (Gd.blk g s1 H1 _ C1 l1 f1) (i_j (i_over (v_cut (gb (Gd.blk g s1 H1 _ C1 l1 f1)) (pt_some (gv (Gd.blk g s1 H1 _ C1 l1 f1))) (pt_some (v_bin (op := .add) (v_o (gv (Gd.blk g s1 H1 _ C1 l1 f1))) (v_o v_int)))))) (fun s2 H2 C2 l2 f2 => (gp (Gd.blk (Gd.blk g s1 H1 _ C1 l1 f1) s2 H2 _ C2 l2 f2))) (fun s2 H2 C2 l2 f2 => ts_nil) (fun s2 H2 C2 l2 f2 => (v_idx (Gd.blk (Gd.blk g s1 H1 _ C1 l1 f1) s2 H2 _ C2 l2 f2) (v_o (gv (Gd.blk (Gd.blk g s1 H1 _ C1 l1 f1) s2 H2 _ C2 l2 f2))) (v_o v_int)))))))) (v_o (gv (Gd.blk g s1 H1 _ C1 l1 f1)))) (w_and1 (t_cmp (op := .eq) (Gd.blk g s1 H1 _ C1 l1 f1) (v_o (f_v (g_lc1 [("k", 3)] (Gd.blk g s1 H1 _ C1 l1 f1) (i_j (gi2 (Gd.blk g s1 H1 _ C1 l1 f1) 10 (gv (Gd.blk g s1 H1 _ C1 l1 f1)) (gv (Gd.blk g s1 H1 _ C1 l1 f1)))) (fun s2 H2 C2 l2 f2 => (gp (Gd.blk (Gd.blk g s1 H1 _ C1 l1 f1) s2 H2 _ C2 l2 f2))) (fun s2 H2 C2 l2 f2 => (ts_one (t_val (g_call (Gd.blk (Gd.blk g s1 H1 _ C1 l1 f1) s2 H2 _ C2 l2 f2) 23 (a_cons (gv (Gd.blk (Gd.blk g s1 H1 _ C1 l1 f1) s2 H2 _ C2 l2 f2)) (a_cons (gv (Gd.blk (Gd.blk g s1 H1 _ C1 l1 f1) s2 H2 _ C2 l2 f2)) (a_cons (gv (Gd.blk (Gd.blk g s1 H1 _ C1 l1 f1) s2 H2 _ C2 l2 f2)) (a_cons (gv (Gd.blk (Gd.blk g s1 H1 _ C1 l1 f1) s2 H2 _ C2 l2 f2)) a_nil)))))))) (fun s2 H2 C2 l2 f2 => (gv (Gd.blk (Gd.blk g s1 H1 _ C1 l1 f1) s2 H2 _ C2 l2 f2)))))) (v_o (f_v (f_lst a_nil))))))))) (fun s1 H1 C1 l1 f1 => (v_tup (a_cons (gv (Gd.blk g s1 H1 _ C1 l1 f1)) (a_cons (gv (Gd.blk g s1 H1 _ C1 l1 f1)) a_nil)))))))))
 ss_nil)))
 (ss_frz (ss_cons (s_if (w_t (w_or (t_cmp (op := .ne) g (v_o (v_cmp (op := .eq) g (v_o (gv g)) (v_o (f_v (f_lst a_nil))))) (v_o (v_cmp (op := .ne) g (v_o (gv g)) (v_o (f_v (f_lst a_nil)))))) (w_or1 (t_not (t_val (g_call g 22 (a_cons (g_call g 8 (a_cons (gv g) (a_cons (gv g) (a_cons (gv g) (a_cons (gv g) a_nil))))) (a_cons (v_ite (t_cmp (op := .ne) g (v_o (gv g)) (v_o (f_v (f_lst a_nil)))) (v_tup (a_cons v_str (a_cons (v_idx g (v_o (gv g)) (v_o v_int)) a_nil))) (v_bin (op := .add) (v_o (v_tup (a_cons v_str a_nil))) (v_o (v_idx g (v_o (gv g)) (v_o v_int))))) a_nil)))))))) (ss_cons (s_ret v_bl)
 ss_nil) ss_nil)
 (ss_cons (gs_asg g hF (g_call g 20 (a_cons (gv g) (a_cons v_int a_nil))))
 (ss_frz (ss_cons (s_ofV (g_lc1S [("n", 38)] g (i_j (gi1 g 10 (v_bin (op := .add) (v_o (g_sum g 13 (v_o (f_v (g_lc1 [("use", 40)] g (j_over (gb g)) (fun s1 H1 C1 l1 f1 => (gp (Gd.blk g s1 H1 _ C1 l1 f1))) (fun s1 H1 C1 l1 f1 => ts_nil) (fun s1 H1 C1 l1 f1 => (v_idx (Gd.blk g s1 H1 _ C1 l1 f1) (v_o (gv (Gd.blk g s1 H1 _ C1 l1 f1))) (v_o v_int)))))))) (v_o v_int)))) (fun s1 H1 C1 l1 f1 => (gp (Gd.blk g s1 H1 _ C1 l1 f1))) (fun s1 H1 C1 l1 f1 => (ts_one (t_cmp (op := .ne) (Gd.blk g s1 H1 _ C1 l1 f1) (v_o (f_v (g_lc1 [("own", 5)] (Gd.blk g s1 H1 _ C1 l1 f1) (i_j (i_over (g_call (Gd.blk g s1 H1 _ C1 l1 f1) 25 (a_cons (g_len (Gd.blk g s1 H1 _ C1 l1 f1) 6 (gb (Gd.blk g s1 H1 _ C1 l1 f1))) a_nil)))) (fun s2 H2 C2 l2 f2 => (gp (Gd.blk (Gd.blk g s1 H1 _ C1 l1 f1) s2 H2 _ C2 l2 f2))) (fun s2 H2 C2 l2 f2 => (ts_one (w_t (w_and (t_cmp (op := .le) (Gd.blk (Gd.blk g s1 H1 _ C1 l1 f1) s2 H2 _ C2 l2 f2) (v_o (g_len (Gd.blk (Gd.blk g s1 H1 _ C1 l1 f1) s2 H2 _ C2 l2 f2) 6 (v_o (gv (Gd.blk (Gd.blk g s1 H1 _ C1 l1 f1) s2 H2 _ C2 l2 f2))))) (v_o (gv (Gd.blk (Gd.blk g s1 H1 _ C1 l1 f1) s2 H2 _ C2 l2 f2)))) (w_and1 (t_val (g_call (Gd.blk (Gd.blk g s1 H1 _ C1 l1 f1) s2 H2 _ C2 l2 f2) 24 (a_cons (gv (Gd.blk (Gd.blk g s1 H1 _ C1 l1 f1) s2 H2 _ C2 l2 f2)) (a_cons (gv (Gd.blk (Gd.blk g s1 H1 _ C1 l1 f1) s2 H2 _ C2 l2 f2)) (a_cons (gv (Gd.blk (Gd.blk g s1 H1 _ C1 l1 f1) s2 H2 _ C2 l2 f2)) (a_cons (gv (Gd.blk (Gd.blk g s1 H1 _ C1 l1 f1) s2 H2 _ C2 l2 f2)) (a_cons (gv (Gd.blk (Gd.blk g s1 H1 _ C1 l1 f1) s2 H2 _ C2 l2 f2)) a_nil)))))))))))) (fun s2 H2 C2 l2 f2 => (gv (Gd.blk (Gd.blk g s1 H1 _ C1 l1 f1) s2 H2 _ C2 l2 f2)))))) (v_o (f_v (f_lst a_nil)))))) (fun s1 H1 C1 l1 f1 => (gv (Gd.blk g s1 H1 _ C1 l1 f1)))))
 (ss_frz (ss_cons (s_if (t_not (t_val (g_call g 22 (a_cons (v_tup (a_cons (g_call g 10 (a_cons (gv g) (a_cons (gv g) (a_cons (gv g) (a_cons (gv g) a_nil))))) (a_cons (g_call g 18 (a_cons (gv g) (a_cons (gv g) (a_cons (gv g) a_nil)))) a_nil))) (a_cons (v_tup (a_cons (v_idx g (v_o (gv g)) (v_o v_int)) (a_cons (v_bin (op := .sub) (v_o (gv g)) (v_o (g_call g 28 (a_cons (gv g) (a_cons (gv g) a_nil))))) a_nil))) a_nil))))) (ss_cons (s_ret v_bl)
 ss_nil) ss_nil)
 (ss_cons (gs_parN g (gn g hF (gn g hF (gn g hF n_nil))) (x_val (v_bin (op := .add) (v_o v_int) (v_o (g_call g 20 (a_cons (gv g) (a_cons v_int a_nil))))) (x_val (g_call g 20 (a_cons (gv g) (a_cons v_int a_nil))) (x_val (g_call g 20 (a_cons (gv g) (a_cons v_int a_nil))) x_nil))))
 (ss_frz (ss_cons (gs_asg g hF (g_call g 26 (a_cons (gv g) (a_cons (gv g) (a_cons (gv g) (a_cons (gv g) a_nil))))))
 (ss_cons (s_ofV (g_lc1S [("k", 3)] g (i_j (gi1 g 10 (g_len g 6 (gb g)))) (fun s1 H1 C1 l1 f1 => (gp (Gd.blk g s1 H1 _ C1 l1 f1))) (fun s1 H1 C1 l1 f1 => (ts_one (t_cmp (op := .gt) (Gd.blk g s1 H1 _ C1 l1 f1) (v_o (v_idx (Gd.blk g s1 H1 _ C1 l1 f1) (v_o (gv (Gd.blk g s1 H1 _ C1 l1 f1))) (v_o (gv (Gd.blk g s1 H1 _ C1 l1 f1))))) (v_o (gv (Gd.blk g s1 H1 _ C1 l1 f1)))))) (fun s1 H1 C1 l1 f1 => (gv (Gd.blk g s1 H1 _ C1 l1 f1)))))
 (ss_frz (ss_cons (s_ofV (g_lc1S [("own", 5)] g (i_j (i_over (g_call g 25 (a_cons (g_len g 6 (gb g)) a_nil)))) (fun s1 H1 C1 l1 f1 => (gp (Gd.blk g s1 H1 _ C1 l1 f1))) (fun s1 H1 C1 l1 f1 => (ts_one (w_t (w_and (t_cmp (op := .le) (Gd.blk g s1 H1 _ C1 l1 f1) (v_o (g_len (Gd.blk g s1 H1 _ C1 l1 f1) 6 (v_o (gv (Gd.blk g s1 H1 _ C1 l1 f1))))) (v_o (gv (Gd.blk g s1 H1 _ C1 l1 f1)))) (w_and1 (t_cmp (op := .eq) (Gd.blk g s1 H1 _ C1 l1 f1) (v_o (f_v (g_lc1 [("k", 3)] (Gd.blk g s1 H1 _ C1 l1 f1) (i_j (i_over (gv (Gd.blk g s1 H1 _ C1 l1 f1)))) (fun s2 H2 C2 l2 f2 => (gp (Gd.blk (Gd.blk g s1 H1 _ C1 l1 f1) s2 H2 _ C2 l2 f2))) (fun s2 H2 C2 l2 f2 => (ts_one (t_not (t_val (g_call (Gd.blk (Gd.blk g s1 H1 _ C1 l1 f1) s2 H2 _ C2 l2 f2) 23 (a_cons (gv (Gd.blk (Gd.blk g s1 H1 _ C1 l1 f1) s2 H2 _ C2 l2 f2)) (a_cons (gv (Gd.blk (Gd.blk g s1 H1 _ C1 l1 f1) s2 H2 _ C2 l2 f2)) (a_cons (gv (Gd.blk (Gd.blk g s1 H1 _ C1 l1 f1) s2 H2 _ C2 l2 f2)) (a_cons (gv (Gd.blk (Gd.blk g s1 H1 _ C1 l1 f1) s2 H2 _ C2 l2 f2)) a_nil))))))))) (fun s2 H2 C2 l2 f2 => (gv (Gd.blk (Gd.blk g s1 H1 _ C1 l1 f1) s2 H2 _ C2 l2 f2)))))) (v_o (f_v (f_lst a_nil))))))))) (fun s1 H1 C1 l1 f1 => (v_tup (a_cons (g_max (Gd.blk g s1 H1 _ C1 l1 f1) 8 (v_o (v_bin (op := .add) (v_o (v_tup (a_cons v_int a_nil))) (v_o (g_call (Gd.blk g s1 H1 _ C1 l1 f1) 26 (a_cons (gv (Gd.blk g s1 H1 _ C1 l1 f1)) (a_cons (gv (Gd.blk g s1 H1 _ C1 l1 f1)) (a_cons (gv (Gd.blk g s1 H1 _ C1 l1 f1)) (a_cons (gv (Gd.blk g s1 H1 _ C1 l1 f1)) a_nil))))))))) (a_cons (g_len (Gd.blk g s1 H1 _ C1 l1 f1) 6 (v_o (gv (Gd.blk g s1 H1 _ C1 l1 f1)))) (a_cons (gv (Gd.blk g s1 H1 _ C1 l1 f1)) a_nil)))))))
 (ss_frz (ss_cons (s_if (t_not (t_val (g_call g 22 (a_cons (v_tup (a_cons (g_call g 11 (a_cons (gv g) (a_cons (gv g) (a_cons (gv g) (a_cons (gv g) a_nil))))) (a_cons (g_call g 13 (a_cons (gv g) (a_cons (gv g) (a_cons (gv g) (a_cons (gv g) (a_cons (gv g) a_nil)))))) a_nil))) (a_cons (v_tup (a_cons (gv g) (a_cons (v_ite (t_cmp (op := .ne) g (v_o (gv g)) (v_o (f_v (f_lst a_nil)))) (v_idx g (v_o (gv g)) (v_o v_int)) v_non) a_nil))) a_nil))))) (ss_cons (s_ret v_bl)
 ss_nil) ss_nil)
 (ss_frz (ss_cons (s_if (t_not (t_val (g_call g 22 (a_cons (g_call g 12 (a_cons (gv g) (a_cons (gv g) (a_cons (gv g) (a_cons (gv g) (a_cons (gv g) (a_cons (gv g) a_nil))))))) (a_cons (v_tup (a_cons (v_idx g (v_o (g_min g 9 (v_o (gv g)))) (v_o v_int)) (a_cons (v_idx g (v_o (g_min g 9 (v_o (gv g)))) (v_o v_int)) a_nil))) a_nil))))) (ss_cons (s_ret v_bl)
 ss_nil) ss_nil)
 (ss_cons (gs_asg g hF (g_tuple g 14 (v_o (f_v (g_lc1 [("k", 3)] g (i_j (gi1 g 10 (g_call g 20 (a_cons (gv g) (a_cons v_int a_nil))))) (fun s1 H1 C1 l1 f1 => (gp (Gd.blk g s1 H1 _ C1 l1 f1))) (fun s1 H1 C1 l1 f1 => ts_nil) (fun s1 H1 C1 l1 f1 => (g_tuple (Gd.blk g s1 H1 _ C1 l1 f1) 14 (v_o (v_cut (v_o (f_v (g_lc1 [("begin", 20)] (Gd.blk g s1 H1 _ C1 l1 f1) (i_j (i_over (v_tup (a_cons (g_call (Gd.blk g s1 H1 _ C1 l1 f1) 20 (a_cons (gv (Gd.blk g s1 H1 _ C1 l1 f1)) (a_cons v_int a_nil))) (a_cons (v_bin (op := .add) (v_o v_int) (v_o (g_call (Gd.blk g s1 H1 _ C1 l1 f1) 20 (a_cons (gv (Gd.blk g s1 H1 _ C1 l1 f1)) (a_cons v_int a_nil))))) a_nil))))) (fun s2 H2 C2 l2 f2 => (gp (Gd.blk (Gd.blk g s1 H1 _ C1 l1 f1) s2 H2 _ C2 l2 f2))) (fun s2 H2 C2 l2 f2 => ts_nil) (fun s2 H2 C2 l2 f2 => (v_tup (a_cons (gv (Gd.blk (Gd.blk g s1 H1 _ C1 l1 f1) s2 H2 _ C2 l2 f2)) (a_cons (v_bin (op := .add) (v_o (v_bin (op := .add) (v_o (gv (Gd.blk (Gd.blk g s1 H1 _ C1 l1 f1) s2 H2 _ C2 l2 f2))) (v_o v_int))) (v_o (g_call (Gd.blk (Gd.blk g s1 H1 _ C1 l1 f1) s2 H2 _ C2 l2 f2) 20 (a_cons (gv (Gd.blk (Gd.blk g s1 H1 _ C1 l1 f1) s2 H2 _ C2 l2 f2)) (a_cons v_int a_nil))))) a_nil))))))) pt_none (pt_some (v_bin (op := .add) (v_o v_int) (v_o (g_call (Gd.blk g s1 H1 _ C1 l1 f1) 20 (a_cons (gv (Gd.blk g s1 H1 _ C1 l1 f1)) (a_cons v_int a_nil)))))))))))))))
 (ss_cons (gs_parN g (gn g hF (gn g hF n_nil)) (x_val (g_tuple g 14 (v_o (f_v (g_lc1 [("own", 5)] g (i_j (i_over (gv g))) (fun s1 H1 C1 l1 f1 => (gp (Gd.blk g s1 H1 _ C1 l1 f1))) (fun s1 H1 C1 l1 f1 => ts_nil) (fun s1 H1 C1 l1 f1 => (v_bin (op := .add) (v_o v_int) (v_o (g_call (Gd.blk g s1 H1 _ C1 l1 f1) 20 (a_cons (gv (Gd.blk g s1 H1 _ C1 l1 f1)) (a_cons v_int a_nil)))))))))) (x_val (f_v (f_lst (a_cons (v_tup a_nil) a_nil))) x_nil)))
 (ss_cons (s_for g (gi1 g 10 (g_len g 6 (v_o (gv g)))) (gp g (hf := .inl (hF _))) (ss_cons (gs_asg g hF (f_v (g_sorted g 11 (v_o (f_v (g_lc1 [("day", 37)] g (i_j (gi1 g 10 v_int)) (fun s1 H1 C1 l1 f1 => (gp (Gd.blk g s1 H1 _ C1 l1 f1))) (fun s1 H1 C1 l1 f1 => (ts_one (t_cmp (op := .ne) (Gd.blk g s1 H1 _ C1 l1 f1) (v_o (f_v (g_lc1 [("span", 42)] (Gd.blk g s1 H1 _ C1 l1 f1) (i_j (i_over (v_idx (Gd.blk g s1 H1 _ C1 l1 f1) (v_o (gv (Gd.blk g s1 H1 _ C1 l1 f1))) (v_o (gv (Gd.blk g s1 H1 _ C1 l1 f1)))))) (fun s2 H2 C2 l2 f2 => (gp (Gd.blk (Gd.blk g s1 H1 _ C1 l1 f1) s2 H2 _ C2 l2 f2))) (fun s2 H2 C2 l2 f2 => (ts_one (w_t (w_and (t_cmp (op := .le) (Gd.blk (Gd.blk g s1 H1 _ C1 l1 f1) s2 H2 _ C2 l2 f2) (v_o (v_idx (Gd.blk (Gd.blk g s1 H1 _ C1 l1 f1) s2 H2 _ C2 l2 f2) (v_o (gv (Gd.blk (Gd.blk g s1 H1 _ C1 l1 f1) s2 H2 _ C2 l2 f2))) (v_o v_int))) (v_o (gv (Gd.blk (Gd.blk g s1 H1 _ C1 l1 f1) s2 H2 _ C2 l2 f2)))) (w_and1 (t_cmp (op := .le) (Gd.blk (Gd.blk g s1 H1 _ C1 l1 f1) s2 H2 _ C2 l2 f2) (v_o (v_bin (op := .add) (v_o (gv (Gd.blk (Gd.blk g s1 H1 _ C1 l1 f1) s2 H2 _ C2 l2 f2))) (v_o (v_idx (Gd.blk (Gd.blk g s1 H1 _ C1 l1 f1) s2 H2 _ C2 l2 f2) (v_o (gv (Gd.blk (Gd.blk g s1 H1 _ C1 l1 f1) s2 H2 _ C2 l2 f2))) (v_o (gv (Gd.blk (Gd.blk g s1 H1 _ C1 l1 f1) s2 H2 _ C2 l2 f2))))))) (v_o (v_idx (Gd.blk (Gd.blk g s1 H1 _ C1 l1 f1) s2 H2 _ C2 l2 f2) (v_o (gv (Gd.blk (Gd.blk g s1 H1 _ C1 l1 f1) s2 H2 _ C2 l2 f2))) (v_o v_int))))))))) (fun s2 H2 C2 l2 f2 => (gv (Gd.blk (Gd.blk g s1 H1 _ C1 l1 f1) s2 H2 _ C2 l2 f2)))))) (v_o (f_v (f_lst a_nil)))))) (fun s1 H1 C1 l1 f1 => (gv (Gd.blk g s1 H1 _ C1 l1 f1)))))))))
 (ss_cons (gs_asg g hF (f_v (f_lst a_nil)))
 (ss_cons (s_for g (i_over (gv g)) (gp g (hf := .inl (hF _))) (ss_cons (gs_asg g hF (v_bin (op := .add) (v_o (gv g)) (v_o (f_v (g_lc1 [("day", 37)] g (i_j (i_over (gv g))) (fun s1 H1 C1 l1 f1 => (gp (Gd.blk g s1 H1 _ C1 l1 f1))) (fun s1 H1 C1 l1 f1 => (ts_one (t_cmp (op := .eq) (Gd.blk g s1 H1 _ C1 l1 f1) (v_o (f_v (g_lc1 [("j", 9)] (Gd.blk g s1 H1 _ C1 l1 f1) (i_j (gi1 (Gd.blk g s1 H1 _ C1 l1 f1) 10 (gv (Gd.blk g s1 H1 _ C1 l1 f1)))) (fun s2 H2 C2 l2 f2 => (gp (Gd.blk (Gd.blk g s1 H1 _ C1 l1 f1) s2 H2 _ C2 l2 f2))) (fun s2 H2 C2 l2 f2 => (ts_one (w_t (w_and (t_cmp (op := .lt) (Gd.blk (Gd.blk g s1 H1 _ C1 l1 f1) s2 H2 _ C2 l2 f2) (v_o (gv (Gd.blk (Gd.blk g s1 H1 _ C1 l1 f1) s2 H2 _ C2 l2 f2))) (v_o (v_bin (op := .add) (v_o (v_idx (Gd.blk (Gd.blk g s1 H1 _ C1 l1 f1) s2 H2 _ C2 l2 f2) (v_o (gv (Gd.blk (Gd.blk g s1 H1 _ C1 l1 f1) s2 H2 _ C2 l2 f2))) (v_o (gv (Gd.blk (Gd.blk g s1 H1 _ C1 l1 f1) s2 H2 _ C2 l2 f2))))) (v_o (v_idx (Gd.blk (Gd.blk g s1 H1 _ C1 l1 f1) s2 H2 _ C2 l2 f2) (v_o (gv (Gd.blk (Gd.blk g s1 H1 _ C1 l1 f1) s2 H2 _ C2 l2 f2))) (v_o (gv (Gd.blk (Gd.blk g s1 H1 _ C1 l1 f1) s2 H2 _ C2 l2 f2)))))))) (w_and1 (t_cmp (op := .lt) (Gd.blk (Gd.blk g s1 H1 _ C1 l1 f1) s2 H2 _ C2 l2 f2) (v_o (v_idx (Gd.blk (Gd.blk g s1 H1 _ C1 l1 f1) s2 H2 _ C2 l2 f2) (v_o (gv (Gd.blk (Gd.blk g s1 H1 _ C1 l1 f1) s2 H2 _ C2 l2 f2))) (v_o (gv (Gd.blk (Gd.blk g s1 H1 _ C1 l1 f1) s2 H2 _ C2 l2 f2))))) (v_o (v_bin (op := .add) (v_o (gv (Gd.blk (Gd.blk g s1 H1 _ C1 l1 f1) s2 H2 _ C2 l2 f2))) (v_o (v_idx (Gd.blk (Gd.blk g s1 H1 _ C1 l1 f1) s2 H2 _ C2 l2 f2) (v_o (gv (Gd.blk (Gd.blk g s1 H1 _ C1 l1 f1) s2 H2 _ C2 l2 f2))) (v_o (gv (Gd.blk (Gd.blk g s1 H1 _ C1 l1 f1) s2 H2 _ C2 l2 f2))))))))))))) (fun s2 H2 C2 l2 f2 => (gv (Gd.blk (Gd.blk g s1 H1 _ C1 l1 f1) s2 H2 _ C2 l2 f2)))))) (v_o (f_v (f_lst a_nil)))))) (fun s1 H1 C1 l1 f1 => (v_bin (op := .add) (v_o (gv (Gd.blk g s1 H1 _ C1 l1 f1))) (v_o (v_tup (a_cons (gv (Gd.blk g s1 H1 _ C1 l1 f1)) a_nil))))))))))
 ss_nil))
 (ss_cons (gs_asg g hF (gv g))
 ss_nil)))))
 (ss_cons (s_if (t_not (t_val (g_call g 22 (a_cons (g_call g 14 (a_cons (gv g) (a_cons (gv g) a_nil))) (a_cons (v_ite (t_cmp (op := .ne) g (v_o (gv g)) (v_o (f_v (f_lst a_nil)))) (v_tup (a_cons v_str (a_cons (v_idx g (v_o (gv g)) (v_o v_int)) a_nil))) (v_tup (a_cons v_str a_nil))) a_nil))))) (ss_cons (s_ret v_bl)
 ss_nil) ss_nil)
 (ss_cons (gs_parN g (gn g hF (gn g hF n_nil)) (x_val (g_tuple g 14 (v_o (f_v (g_lc1 [("k", 3)] g (i_j (gi1 g 10 (g_call g 20 (a_cons (gv g) (a_cons v_int a_nil))))) (fun s1 H1 C1 l1 f1 => (gp (Gd.blk g s1 H1 _ C1 l1 f1))) (fun s1 H1 C1 l1 f1 => ts_nil) (fun s1 H1 C1 l1 f1 => (v_bin (op := .add) (v_o v_int) (v_o (g_call (Gd.blk g s1 H1 _ C1 l1 f1) 20 (a_cons (gv (Gd.blk g s1 H1 _ C1 l1 f1)) (a_cons v_int a_nil)))))))))) (x_val (g_call g 20 (a_cons (gv g) (a_cons v_int a_nil))) x_nil)))
 (ss_cons (gs_par2 g (x_val (g_tuple g 14 (v_o (f_v (g_lc1 [("k", 3)] g (i_j (gi1 g 10 (v_bin (op := .add) (v_o v_int) (v_o (g_call g 20 (a_cons (gv g) (a_cons v_int a_nil))))))) (fun s1 H1 C1 l1 f1 => (gp (Gd.blk g s1 H1 _ C1 l1 f1))) (fun s1 H1 C1 l1 f1 => ts_nil) (fun s1 H1 C1 l1 f1 => (v_tup (a_cons (v_bin (op := .add) (v_o v_int) (v_o (g_call (Gd.blk g s1 H1 _ C1 l1 f1) 20 (a_cons (gv (Gd.blk g s1 H1 _ C1 l1 f1)) (a_cons v_int a_nil))))) (a_cons (g_call (Gd.blk g s1 H1 _ C1 l1 f1) 20 (a_cons (gv (Gd.blk g s1 H1 _ C1 l1 f1)) (a_cons v_int a_nil))) a_nil)))))))) (x_val (f_v (f_lst a_nil)) x_nil)))
 (ss_cons (s_for g (gi1 g 10 v_int) (gp g (hf := .inl (hF _))) (ss_cons (gs_asg g hF (g_max2 g 8 (v_o v_int) (v_o (v_bin (op := .sub) (v_o (gv g)) (v_o (v_bin (op := .mul) (v_o (gv g)) (v_o (v_idx g (v_o (v_idx g (v_o (gv g)) (v_o v_int))) (v_o v_int)))))))))
 (ss_cons (gs_asg g hF (v_ite (t_cmp (op := .gt) g (v_o (g_len g 6 (v_o (gv g)))) (v_o v_int)) (v_bin (op := .div) (v_o (v_bin (op := .sub) (v_o (v_bin (op := .add) (v_o (gv g)) (v_o (v_idx g (v_o (v_idx g (v_o (gv g)) (v_o (v_neg (v_o v_int))))) (v_o v_int))))) (v_o v_int))) (v_o (v_idx g (v_o (v_idx g (v_o (gv g)) (v_o (v_neg (v_o v_int))))) (v_o v_int)))) v_int))
 (ss_cons (gs_asg g hF (v_bin (op := .add) (v_o (gv g)) (v_o (v_ite (w_t (w_or (t_cmp (op := .eq) g (v_o (gv g)) (v_o v_int)) (w_or1 (t_cmp (op := .gt) g (v_o (g_len g 6 (v_o (gv g)))) (v_o v_int))))) (f_v (f_lst (a_cons (v_tup (a_cons (v_bin (op := .add) (v_o (v_bin (op := .mul) (v_o (gv g)) (v_o (v_idx g (v_o (v_idx g (v_o (gv g)) (v_o v_int))) (v_o v_int))))) (v_o (v_bin (op := .mul) (v_o (gv g)) (v_o (v_idx g (v_o (v_idx g (v_o (gv g)) (v_o (v_neg (v_o v_int))))) (v_o v_int)))))) (a_cons (v_cut (v_o (v_tup (a_cons (gv g) (a_cons (gv g) a_nil)))) pt_none (pt_some (g_len g 6 (v_o (gv g))))) a_nil))) a_nil))) (f_v (f_lst a_nil))))))
 ss_nil))))
 (ss_cons (gs_asg g hF (g_call g 17 (a_cons (gv g) (a_cons (gv g) a_nil))))
 (ss_cons (s_if (w_t (w_or (t_not (t_val (g_call g 22 (a_cons (g_call g 16 (a_cons (gv g) (a_cons (gv g) a_nil))) (a_cons (g_tuple g 14 (v_o (f_v (g_lc1 [("life", 41)] g (i_j (i_over (gv g))) (fun s1 H1 C1 l1 f1 => (gp (Gd.blk g s1 H1 _ C1 l1 f1))) (fun s1 H1 C1 l1 f1 => ts_nil) (fun s1 H1 C1 l1 f1 => (v_bin (op := .div) (v_o (v_bin (op := .sub) (v_o (v_bin (op := .add) (v_o (gv (Gd.blk g s1 H1 _ C1 l1 f1))) (v_o (gv (Gd.blk g s1 H1 _ C1 l1 f1))))) (v_o v_int))) (v_o (gv (Gd.blk g s1 H1 _ C1 l1 f1))))))))) a_nil))))) (w_or (t_not (t_val (g_isi .ttup g 5 14 (v_o (gv g))))) (w_or1 (t_not (t_val (g_call g 22 (a_cons (v_idx g (v_o (gv g)) (v_o v_int)) (a_cons (v_idx g (v_o (g_min g 9 (v_o (gv g)))) (v_o v_int)) a_nil))))))))) (ss_cons (s_ret v_bl)
 ss_nil) ss_nil)
 (ss_frz (ss_cons (s_if (t_not (t_val (g_call g 29 (a_cons (gv g) a_nil)))) (ss_cons (s_ret v_bl)
 ss_nil) ss_nil)
 ss_nil)))))))))))))))))))))))))))))))))))))))))))))
 (ss_cons (s_ret v_bl)
 ss_nil)))
def DD : List Def := [⟨1, 1, c_f_is_number⟩, ⟨2, 2, c_f_is_from⟩, ⟨2, 2, c_f_is_tuple_of⟩, ⟨5, 1, c_f_all_rows⟩, ⟨3, 1, c_f_are_uses⟩, ⟨7, 2, c_f_gaps_of⟩, ⟨5, 1, c_f_hours_along⟩, ⟨9, 5, c_f_is_served⟩, ⟨14, 4, c_f_fewest_services⟩, ⟨6, 3, c_f_has_room⟩, ⟨7, 4, c_f_least_most⟩, ⟨9, 4, c_f_wear_after⟩, ⟨10, 6, c_f_best_places⟩, ⟨8, 5, c_f_broken_by⟩, ⟨10, 2, c_f_shared_bench⟩, ⟨6, 4, c_f_is_free⟩, ⟨3, 2, c_f_renewed_sets⟩, ⟨9, 2, c_f_cheapest_plan⟩, ⟨7, 3, c_f_next_service⟩, ⟨8, 2, c_f__law_draws⟩, ⟨2, 2, c_f__law_next⟩, ⟨2, 2, c_f__law_pick⟩, ⟨3, 2, c_f__law_alike⟩, ⟨6, 4, c_f__law_room⟩, ⟨7, 5, c_f__law_served⟩, ⟨5, 1, c_f__law_sets⟩, ⟨7, 4, c_f__law_wear⟩, ⟨4, 1, c_f__law_joined⟩, ⟨4, 2, c_f__law_since⟩, ⟨2, 1, c_f__law_judged⟩, ⟨43, 1, c_f_law⟩]
theorem r_f_is_number (n : Nat) (args : List PV) (D : DS) : sem DD (n + 1) 0 args D = (Def.mk 1 1 c_f_is_number).run (sem DD n) args D := rfl
theorem r_f_is_from (n : Nat) (args : List PV) (D : DS) : sem DD (n + 1) 1 args D = (Def.mk 2 2 c_f_is_from).run (sem DD n) args D := rfl
theorem r_f_is_tuple_of (n : Nat) (args : List PV) (D : DS) : sem DD (n + 1) 2 args D = (Def.mk 2 2 c_f_is_tuple_of).run (sem DD n) args D := rfl
theorem r_f_all_rows (n : Nat) (args : List PV) (D : DS) : sem DD (n + 1) 3 args D = (Def.mk 5 1 c_f_all_rows).run (sem DD n) args D := rfl
theorem r_f_are_uses (n : Nat) (args : List PV) (D : DS) : sem DD (n + 1) 4 args D = (Def.mk 3 1 c_f_are_uses).run (sem DD n) args D := rfl
theorem r_f_gaps_of (n : Nat) (args : List PV) (D : DS) : sem DD (n + 1) 5 args D = (Def.mk 7 2 c_f_gaps_of).run (sem DD n) args D := rfl
theorem r_f_hours_along (n : Nat) (args : List PV) (D : DS) : sem DD (n + 1) 6 args D = (Def.mk 5 1 c_f_hours_along).run (sem DD n) args D := rfl
theorem r_f_is_served (n : Nat) (args : List PV) (D : DS) : sem DD (n + 1) 7 args D = (Def.mk 9 5 c_f_is_served).run (sem DD n) args D := rfl
theorem r_f_fewest_services (n : Nat) (args : List PV) (D : DS) : sem DD (n + 1) 8 args D = (Def.mk 14 4 c_f_fewest_services).run (sem DD n) args D := rfl
theorem r_f_has_room (n : Nat) (args : List PV) (D : DS) : sem DD (n + 1) 9 args D = (Def.mk 6 3 c_f_has_room).run (sem DD n) args D := rfl
theorem r_f_least_most (n : Nat) (args : List PV) (D : DS) : sem DD (n + 1) 10 args D = (Def.mk 7 4 c_f_least_most).run (sem DD n) args D := rfl
theorem r_f_wear_after (n : Nat) (args : List PV) (D : DS) : sem DD (n + 1) 11 args D = (Def.mk 9 4 c_f_wear_after).run (sem DD n) args D := rfl
theorem r_f_best_places (n : Nat) (args : List PV) (D : DS) : sem DD (n + 1) 12 args D = (Def.mk 10 6 c_f_best_places).run (sem DD n) args D := rfl
theorem r_f_broken_by (n : Nat) (args : List PV) (D : DS) : sem DD (n + 1) 13 args D = (Def.mk 8 5 c_f_broken_by).run (sem DD n) args D := rfl
theorem r_f_shared_bench (n : Nat) (args : List PV) (D : DS) : sem DD (n + 1) 14 args D = (Def.mk 10 2 c_f_shared_bench).run (sem DD n) args D := rfl
theorem r_f_is_free (n : Nat) (args : List PV) (D : DS) : sem DD (n + 1) 15 args D = (Def.mk 6 4 c_f_is_free).run (sem DD n) args D := rfl
theorem r_f_renewed_sets (n : Nat) (args : List PV) (D : DS) : sem DD (n + 1) 16 args D = (Def.mk 3 2 c_f_renewed_sets).run (sem DD n) args D := rfl
theorem r_f_cheapest_plan (n : Nat) (args : List PV) (D : DS) : sem DD (n + 1) 17 args D = (Def.mk 9 2 c_f_cheapest_plan).run (sem DD n) args D := rfl
theorem r_f_next_service (n : Nat) (args : List PV) (D : DS) : sem DD (n + 1) 18 args D = (Def.mk 7 3 c_f_next_service).run (sem DD n) args D := rfl
theorem r_f__law_draws (n : Nat) (args : List PV) (D : DS) : sem DD (n + 1) 19 args D = (Def.mk 8 2 c_f__law_draws).run (sem DD n) args D := rfl
theorem r_f__law_next (n : Nat) (args : List PV) (D : DS) : sem DD (n + 1) 20 args D = (Def.mk 2 2 c_f__law_next).run (sem DD n) args D := rfl
theorem r_f__law_pick (n : Nat) (args : List PV) (D : DS) : sem DD (n + 1) 21 args D = (Def.mk 2 2 c_f__law_pick).run (sem DD n) args D := rfl
theorem r_f__law_alike (n : Nat) (args : List PV) (D : DS) : sem DD (n + 1) 22 args D = (Def.mk 3 2 c_f__law_alike).run (sem DD n) args D := rfl
theorem r_f__law_room (n : Nat) (args : List PV) (D : DS) : sem DD (n + 1) 23 args D = (Def.mk 6 4 c_f__law_room).run (sem DD n) args D := rfl
theorem r_f__law_served (n : Nat) (args : List PV) (D : DS) : sem DD (n + 1) 24 args D = (Def.mk 7 5 c_f__law_served).run (sem DD n) args D := rfl
theorem r_f__law_sets (n : Nat) (args : List PV) (D : DS) : sem DD (n + 1) 25 args D = (Def.mk 5 1 c_f__law_sets).run (sem DD n) args D := rfl
theorem r_f__law_wear (n : Nat) (args : List PV) (D : DS) : sem DD (n + 1) 26 args D = (Def.mk 7 4 c_f__law_wear).run (sem DD n) args D := rfl
theorem r_f__law_joined (n : Nat) (args : List PV) (D : DS) : sem DD (n + 1) 27 args D = (Def.mk 4 1 c_f__law_joined).run (sem DD n) args D := rfl
theorem r_f__law_since (n : Nat) (args : List PV) (D : DS) : sem DD (n + 1) 28 args D = (Def.mk 4 2 c_f__law_since).run (sem DD n) args D := rfl
theorem r_f__law_judged (n : Nat) (args : List PV) (D : DS) : sem DD (n + 1) 29 args D = (Def.mk 2 1 c_f__law_judged).run (sem DD n) args D := rfl
theorem r_f_law (n : Nat) (args : List PV) (D : DS) : sem DD (n + 1) 30 args D = (Def.mk 43 1 c_f_law).run (sem DD n) args D := rfl
theorem sc_f_is_number : FnScope N_f_is_number [("thing" : Str)] (defScope (top 1)) := ⟨rfl, rfl, rfl, by decide +kernel, rfl, by decide +kernel, by decide +kernel⟩
def D_f_is_number : He.DefD := ⟨("is_number", none), "is_number", "is_number", defArgs (top 1), defBody (top 1), defScope (top 1), [], []⟩
theorem b_f_is_number {K : PySem.W.Frag} {f : Addr} {fd : FuncData} (F : FunD K "is_number" "is_number" (defArgs (top 1)) (defBody (top 1)) (defScope (top 1)) [] [] f fd) : Binds K fd [("thing" : Str)] [] := F.bindsN fun _ _ _ _ _ _ us hl => match us, hl with | [_], _ => rfl
theorem ok_f_is_number {K : PySem.W.Frag} {mg : Str → Option Value} {f : Addr} {fd : FuncData} (h : mg "is_number" = some (.ref f)) (F : FunD K "is_number" "is_number" (defArgs (top 1)) (defBody (top 1)) (defScope (top 1)) [] [] f fd) : DefOk TT DD K mg 0 "is_number" 1 := ⟨f, fd, [("thing" : Str)], N_f_is_number, _, _, _, _, [], c_f_is_number, h, F, b_f_is_number F, sc_f_is_number, rfl, rfl, fun Φ X g hF => w_f_is_number g hF⟩
theorem sc_f_is_from : FnScope N_f_is_from [("thing" : Str), ("least" : Str)] (defScope (top 2)) := ⟨rfl, rfl, rfl, by decide +kernel, rfl, by decide +kernel, by decide +kernel⟩
def D_f_is_from : He.DefD := ⟨("is_from", none), "is_from", "is_from", defArgs (top 2), defBody (top 2), defScope (top 2), [], []⟩
theorem b_f_is_from {K : PySem.W.Frag} {f : Addr} {fd : FuncData} (F : FunD K "is_from" "is_from" (defArgs (top 2)) (defBody (top 2)) (defScope (top 2)) [] [] f fd) : Binds K fd [("thing" : Str), ("least" : Str)] [] := F.bindsN fun _ _ _ _ _ _ us hl => match us, hl with | [_, _], _ => rfl
theorem ok_f_is_from {K : PySem.W.Frag} {mg : Str → Option Value} {f : Addr} {fd : FuncData} (h : mg "is_from" = some (.ref f)) (F : FunD K "is_from" "is_from" (defArgs (top 2)) (defBody (top 2)) (defScope (top 2)) [] [] f fd) : DefOk TT DD K mg 1 "is_from" 2 := ⟨f, fd, [("thing" : Str), ("least" : Str)], N_f_is_from, _, _, _, _, [], c_f_is_from, h, F, b_f_is_from F, sc_f_is_from, rfl, rfl, fun Φ X g hF => w_f_is_from g hF⟩
theorem sc_f_is_tuple_of : FnScope N_f_is_tuple_of [("thing" : Str), ("many" : Str)] (defScope (top 3)) := ⟨rfl, rfl, rfl, by decide +kernel, rfl, by decide +kernel, by decide +kernel⟩
def D_f_is_tuple_of : He.DefD := ⟨("is_tuple_of", none), "is_tuple_of", "is_tuple_of", defArgs (top 3), defBody (top 3), defScope (top 3), [], []⟩
theorem b_f_is_tuple_of {K : PySem.W.Frag} {f : Addr} {fd : FuncData} (F : FunD K "is_tuple_of" "is_tuple_of" (defArgs (top 3)) (defBody (top 3)) (defScope (top 3)) [] [] f fd) : Binds K fd [("thing" : Str), ("many" : Str)] [] := F.bindsN fun _ _ _ _ _ _ us hl => match us, hl with | [_, _], _ => rfl
theorem ok_f_is_tuple_of {K : PySem.W.Frag} {mg : Str → Option Value} {f : Addr} {fd : FuncData} (h : mg "is_tuple_of" = some (.ref f)) (F : FunD K "is_tuple_of" "is_tuple_of" (defArgs (top 3)) (defBody (top 3)) (defScope (top 3)) [] [] f fd) : DefOk TT DD K mg 2 "is_tuple_of" 2 := ⟨f, fd, [("thing" : Str), ("many" : Str)], N_f_is_tuple_of, _, _, _, _, [], c_f_is_tuple_of, h, F, b_f_is_tuple_of F, sc_f_is_tuple_of, rfl, rfl, fun Φ X g hF => w_f_is_tuple_of g hF⟩
theorem sc_f_all_rows : FnScope N_f_all_rows [("sizes" : Str)] (defScope (top 4)) := ⟨rfl, rfl, rfl, by decide +kernel, rfl, by decide +kernel, by decide +kernel⟩
def D_f_all_rows : He.DefD := ⟨("all_rows", none), "all_rows", "all_rows", defArgs (top 4), defBody (top 4), defScope (top 4), [], []⟩
theorem b_f_all_rows {K : PySem.W.Frag} {f : Addr} {fd : FuncData} (F : FunD K "all_rows" "all_rows" (defArgs (top 4)) (defBody (top 4)) (defScope (top 4)) [] [] f fd) : Binds K fd [("sizes" : Str)] [] := F.bindsN fun _ _ _ _ _ _ us hl => match us, hl with | [_], _ => rfl
theorem ok_f_all_rows {K : PySem.W.Frag} {mg : Str → Option Value} {f : Addr} {fd : FuncData} (h : mg "all_rows" = some (.ref f)) (F : FunD K "all_rows" "all_rows" (defArgs (top 4)) (defBody (top 4)) (defScope (top 4)) [] [] f fd) : DefOk TT DD K mg 3 "all_rows" 1 := ⟨f, fd, [("sizes" : Str)], N_f_all_rows, _, _, _, _, [], c_f_all_rows, h, F, b_f_all_rows F, sc_f_all_rows, rfl, rfl, fun Φ X g hF => w_f_all_rows g hF⟩
theorem sc_f_are_uses : FnScope N_f_are_uses [("thing" : Str)] (defScope (top 6)) := ⟨rfl, rfl, rfl, by decide +kernel, rfl, by decide +kernel, by decide +kernel⟩
def D_f_are_uses : He.DefD := ⟨("are_uses", none), "are_uses", "are_uses", defArgs (top 6), defBody (top 6), defScope (top 6), [], []⟩
theorem b_f_are_uses {K : PySem.W.Frag} {f : Addr} {fd : FuncData} (F : FunD K "are_uses" "are_uses" (defArgs (top 6)) (defBody (top 6)) (defScope (top 6)) [] [] f fd) : Binds K fd [("thing" : Str)] [] := F.bindsN fun _ _ _ _ _ _ us hl => match us, hl with | [_], _ => rfl
theorem ok_f_are_uses {K : PySem.W.Frag} {mg : Str → Option Value} {f : Addr} {fd : FuncData} (h : mg "are_uses" = some (.ref f)) (F : FunD K "are_uses" "are_uses" (defArgs (top 6)) (defBody (top 6)) (defScope (top 6)) [] [] f fd) : DefOk TT DD K mg 4 "are_uses" 1 := ⟨f, fd, [("thing" : Str)], N_f_are_uses, _, _, _, _, [], c_f_are_uses, h, F, b_f_are_uses F, sc_f_are_uses, rfl, rfl, fun Φ X g hF => w_f_are_uses g hF⟩
theorem sc_f_gaps_of : FnScope N_f_gaps_of [("uses" : Str), ("last" : Str)] (defScope (top 7)) := ⟨rfl, rfl, rfl, by decide +kernel, rfl, by decide +kernel, by decide +kernel⟩
def D_f_gaps_of : He.DefD := ⟨("gaps_of", none), "gaps_of", "gaps_of", defArgs (top 7), defBody (top 7), defScope (top 7), [], []⟩
theorem b_f_gaps_of {K : PySem.W.Frag} {f : Addr} {fd : FuncData} (F : FunD K "gaps_of" "gaps_of" (defArgs (top 7)) (defBody (top 7)) (defScope (top 7)) [] [] f fd) : Binds K fd [("uses" : Str), ("last" : Str)] [] := F.bindsN fun _ _ _ _ _ _ us hl => match us, hl with | [_, _], _ => rfl
theorem ok_f_gaps_of {K : PySem.W.Frag} {mg : Str → Option Value} {f : Addr} {fd : FuncData} (h : mg "gaps_of" = some (.ref f)) (F : FunD K "gaps_of" "gaps_of" (defArgs (top 7)) (defBody (top 7)) (defScope (top 7)) [] [] f fd) : DefOk TT DD K mg 5 "gaps_of" 2 := ⟨f, fd, [("uses" : Str), ("last" : Str)], N_f_gaps_of, _, _, _, _, [], c_f_gaps_of, h, F, b_f_gaps_of F, sc_f_gaps_of, rfl, rfl, fun Φ X g hF => w_f_gaps_of g hF⟩
theorem sc_f_hours_along : FnScope N_f_hours_along [("uses" : Str)] (defScope (top 8)) := ⟨rfl, rfl, rfl, by decide +kernel, rfl, by decide +kernel, by decide +kernel⟩
def D_f_hours_along : He.DefD := ⟨("hours_along", none), "hours_along", "hours_along", defArgs (top 8), defBody (top 8), defScope (top 8), [], []⟩
theorem b_f_hours_along {K : PySem.W.Frag} {f : Addr} {fd : FuncData} (F : FunD K "hours_along" "hours_along" (defArgs (top 8)) (defBody (top 8)) (defScope (top 8)) [] [] f fd) : Binds K fd [("uses" : Str)] [] := F.bindsN fun _ _ _ _ _ _ us hl => match us, hl with | [_], _ => rfl
theorem ok_f_hours_along {K : PySem.W.Frag} {mg : Str → Option Value} {f : Addr} {fd : FuncData} (h : mg "hours_along" = some (.ref f)) (F : FunD K "hours_along" "hours_along" (defArgs (top 8)) (defBody (top 8)) (defScope (top 8)) [] [] f fd) : DefOk TT DD K mg 6 "hours_along" 1 := ⟨f, fd, [("uses" : Str)], N_f_hours_along, _, _, _, _, [], c_f_hours_along, h, F, b_f_hours_along F, sc_f_hours_along, rfl, rfl, fun Φ X g hF => w_f_hours_along g hF⟩
theorem sc_f_is_served : FnScope N_f_is_served [("uses" : Str), ("places" : Str), ("most" : Str), ("long" : Str), ("last" : Str)] (defScope (top 9)) := ⟨rfl, rfl, rfl, by decide +kernel, rfl, by decide +kernel, by decide +kernel⟩
def D_f_is_served : He.DefD := ⟨("is_served", none), "is_served", "is_served", defArgs (top 9), defBody (top 9), defScope (top 9), [], []⟩
theorem b_f_is_served {K : PySem.W.Frag} {f : Addr} {fd : FuncData} (F : FunD K "is_served" "is_served" (defArgs (top 9)) (defBody (top 9)) (defScope (top 9)) [] [] f fd) : Binds K fd [("uses" : Str), ("places" : Str), ("most" : Str), ("long" : Str), ("last" : Str)] [] := F.bindsN fun _ _ _ _ _ _ us hl => match us, hl with | [_, _, _, _, _], _ => rfl
theorem ok_f_is_served {K : PySem.W.Frag} {mg : Str → Option Value} {f : Addr} {fd : FuncData} (h : mg "is_served" = some (.ref f)) (F : FunD K "is_served" "is_served" (defArgs (top 9)) (defBody (top 9)) (defScope (top 9)) [] [] f fd) : DefOk TT DD K mg 7 "is_served" 5 := ⟨f, fd, [("uses" : Str), ("places" : Str), ("most" : Str), ("long" : Str), ("last" : Str)], N_f_is_served, _, _, _, _, [], c_f_is_served, h, F, b_f_is_served F, sc_f_is_served, rfl, rfl, fun Φ X g hF => w_f_is_served g hF⟩
theorem sc_f_fewest_services : FnScope N_f_fewest_services [("uses" : Str), ("most" : Str), ("long" : Str), ("last" : Str)] (defScope (top 10)) := ⟨rfl, rfl, rfl, by decide +kernel, rfl, by decide +kernel, by decide +kernel⟩
def D_f_fewest_services : He.DefD := ⟨("fewest_services", none), "fewest_services", "fewest_services", defArgs (top 10), defBody (top 10), defScope (top 10), [], []⟩
theorem b_f_fewest_services {K : PySem.W.Frag} {f : Addr} {fd : FuncData} (F : FunD K "fewest_services" "fewest_services" (defArgs (top 10)) (defBody (top 10)) (defScope (top 10)) [] [] f fd) : Binds K fd [("uses" : Str), ("most" : Str), ("long" : Str), ("last" : Str)] [] := F.bindsN fun _ _ _ _ _ _ us hl => match us, hl with | [_, _, _, _], _ => rfl
theorem ok_f_fewest_services {K : PySem.W.Frag} {mg : Str → Option Value} {f : Addr} {fd : FuncData} (h : mg "fewest_services" = some (.ref f)) (F : FunD K "fewest_services" "fewest_services" (defArgs (top 10)) (defBody (top 10)) (defScope (top 10)) [] [] f fd) : DefOk TT DD K mg 8 "fewest_services" 4 := ⟨f, fd, [("uses" : Str), ("most" : Str), ("long" : Str), ("last" : Str)], N_f_fewest_services, _, _, _, _, [], c_f_fewest_services, h, F, b_f_fewest_services F, sc_f_fewest_services, rfl, rfl, fun Φ X g hF => w_f_fewest_services g hF⟩
theorem sc_f_has_room : FnScope N_f_has_room [("uses" : Str), ("long" : Str), ("last" : Str)] (defScope (top 11)) := ⟨rfl, rfl, rfl, by decide +kernel, rfl, by decide +kernel, by decide +kernel⟩
def D_f_has_room : He.DefD := ⟨("has_room", none), "has_room", "has_room", defArgs (top 11), defBody (top 11), defScope (top 11), [], []⟩
theorem b_f_has_room {K : PySem.W.Frag} {f : Addr} {fd : FuncData} (F : FunD K "has_room" "has_room" (defArgs (top 11)) (defBody (top 11)) (defScope (top 11)) [] [] f fd) : Binds K fd [("uses" : Str), ("long" : Str), ("last" : Str)] [] := F.bindsN fun _ _ _ _ _ _ us hl => match us, hl with | [_, _, _], _ => rfl
theorem ok_f_has_room {K : PySem.W.Frag} {mg : Str → Option Value} {f : Addr} {fd : FuncData} (h : mg "has_room" = some (.ref f)) (F : FunD K "has_room" "has_room" (defArgs (top 11)) (defBody (top 11)) (defScope (top 11)) [] [] f fd) : DefOk TT DD K mg 9 "has_room" 3 := ⟨f, fd, [("uses" : Str), ("long" : Str), ("last" : Str)], N_f_has_room, _, _, _, _, [], c_f_has_room, h, F, b_f_has_room F, sc_f_has_room, rfl, rfl, fun Φ X g hF => w_f_has_room g hF⟩
theorem sc_f_least_most : FnScope N_f_least_most [("uses" : Str), ("many" : Str), ("long" : Str), ("last" : Str)] (defScope (top 12)) := ⟨rfl, rfl, rfl, by decide +kernel, rfl, by decide +kernel, by decide +kernel⟩
def D_f_least_most : He.DefD := ⟨("least_most", none), "least_most", "least_most", defArgs (top 12), defBody (top 12), defScope (top 12), [], []⟩
theorem b_f_least_most {K : PySem.W.Frag} {f : Addr} {fd : FuncData} (F : FunD K "least_most" "least_most" (defArgs (top 12)) (defBody (top 12)) (defScope (top 12)) [] [] f fd) : Binds K fd [("uses" : Str), ("many" : Str), ("long" : Str), ("last" : Str)] [] := F.bindsN fun _ _ _ _ _ _ us hl => match us, hl with | [_, _, _, _], _ => rfl
theorem ok_f_least_most {K : PySem.W.Frag} {mg : Str → Option Value} {f : Addr} {fd : FuncData} (h : mg "least_most" = some (.ref f)) (F : FunD K "least_most" "least_most" (defArgs (top 12)) (defBody (top 12)) (defScope (top 12)) [] [] f fd) : DefOk TT DD K mg 10 "least_most" 4 := ⟨f, fd, [("uses" : Str), ("many" : Str), ("long" : Str), ("last" : Str)], N_f_least_most, _, _, _, _, [], c_f_least_most, h, F, b_f_least_most F, sc_f_least_most, rfl, rfl, fun Φ X g hF => w_f_least_most g hF⟩
theorem sc_f_wear_after : FnScope N_f_wear_after [("uses" : Str), ("places" : Str), ("each" : Str), ("gain" : Str)] (defScope (top 13)) := ⟨rfl, rfl, rfl, by decide +kernel, rfl, by decide +kernel, by decide +kernel⟩
def D_f_wear_after : He.DefD := ⟨("wear_after", none), "wear_after", "wear_after", defArgs (top 13), defBody (top 13), defScope (top 13), [], []⟩
theorem b_f_wear_after {K : PySem.W.Frag} {f : Addr} {fd : FuncData} (F : FunD K "wear_after" "wear_after" (defArgs (top 13)) (defBody (top 13)) (defScope (top 13)) [] [] f fd) : Binds K fd [("uses" : Str), ("places" : Str), ("each" : Str), ("gain" : Str)] [] := F.bindsN fun _ _ _ _ _ _ us hl => match us, hl with | [_, _, _, _], _ => rfl
theorem ok_f_wear_after {K : PySem.W.Frag} {mg : Str → Option Value} {f : Addr} {fd : FuncData} (h : mg "wear_after" = some (.ref f)) (F : FunD K "wear_after" "wear_after" (defArgs (top 13)) (defBody (top 13)) (defScope (top 13)) [] [] f fd) : DefOk TT DD K mg 11 "wear_after" 4 := ⟨f, fd, [("uses" : Str), ("places" : Str), ("each" : Str), ("gain" : Str)], N_f_wear_after, _, _, _, _, [], c_f_wear_after, h, F, b_f_wear_after F, sc_f_wear_after, rfl, rfl, fun Φ X g hF => w_f_wear_after g hF⟩
theorem sc_f_best_places : FnScope N_f_best_places [("uses" : Str), ("many" : Str), ("each" : Str), ("gain" : Str), ("long" : Str), ("last" : Str)] (defScope (top 14)) := ⟨rfl, rfl, rfl, by decide +kernel, rfl, by decide +kernel, by decide +kernel⟩
def D_f_best_places : He.DefD := ⟨("best_places", none), "best_places", "best_places", defArgs (top 14), defBody (top 14), defScope (top 14), [], []⟩
theorem b_f_best_places {K : PySem.W.Frag} {f : Addr} {fd : FuncData} (F : FunD K "best_places" "best_places" (defArgs (top 14)) (defBody (top 14)) (defScope (top 14)) [] [] f fd) : Binds K fd [("uses" : Str), ("many" : Str), ("each" : Str), ("gain" : Str), ("long" : Str), ("last" : Str)] [] := F.bindsN fun _ _ _ _ _ _ us hl => match us, hl with | [_, _, _, _, _, _], _ => rfl
theorem ok_f_best_places {K : PySem.W.Frag} {mg : Str → Option Value} {f : Addr} {fd : FuncData} (h : mg "best_places" = some (.ref f)) (F : FunD K "best_places" "best_places" (defArgs (top 14)) (defBody (top 14)) (defScope (top 14)) [] [] f fd) : DefOk TT DD K mg 12 "best_places" 6 := ⟨f, fd, [("uses" : Str), ("many" : Str), ("each" : Str), ("gain" : Str), ("long" : Str), ("last" : Str)], N_f_best_places, _, _, _, _, [], c_f_best_places, h, F, b_f_best_places F, sc_f_best_places, rfl, rfl, fun Φ X g hF => w_f_best_places g hF⟩
theorem sc_f_broken_by : FnScope N_f_broken_by [("uses" : Str), ("places" : Str), ("each" : Str), ("gain" : Str), ("limit" : Str)] (defScope (top 15)) := ⟨rfl, rfl, rfl, by decide +kernel, rfl, by decide +kernel, by decide +kernel⟩
def D_f_broken_by : He.DefD := ⟨("broken_by", none), "broken_by", "broken_by", defArgs (top 15), defBody (top 15), defScope (top 15), [], []⟩
theorem b_f_broken_by {K : PySem.W.Frag} {f : Addr} {fd : FuncData} (F : FunD K "broken_by" "broken_by" (defArgs (top 15)) (defBody (top 15)) (defScope (top 15)) [] [] f fd) : Binds K fd [("uses" : Str), ("places" : Str), ("each" : Str), ("gain" : Str), ("limit" : Str)] [] := F.bindsN fun _ _ _ _ _ _ us hl => match us, hl with | [_, _, _, _, _], _ => rfl
theorem ok_f_broken_by {K : PySem.W.Frag} {mg : Str → Option Value} {f : Addr} {fd : FuncData} (h : mg "broken_by" = some (.ref f)) (F : FunD K "broken_by" "broken_by" (defArgs (top 15)) (defBody (top 15)) (defScope (top 15)) [] [] f fd) : DefOk TT DD K mg 13 "broken_by" 5 := ⟨f, fd, [("uses" : Str), ("places" : Str), ("each" : Str), ("gain" : Str), ("limit" : Str)], N_f_broken_by, _, _, _, _, [], c_f_broken_by, h, F, b_f_broken_by F, sc_f_broken_by, rfl, rfl, fun Φ X g hF => w_f_broken_by g hF⟩
theorem sc_f_shared_bench : FnScope N_f_shared_bench [("gaps" : Str), ("longs" : Str)] (defScope (top 16)) := ⟨rfl, rfl, rfl, by decide +kernel, rfl, by decide +kernel, by decide +kernel⟩
def D_f_shared_bench : He.DefD := ⟨("shared_bench", none), "shared_bench", "shared_bench", defArgs (top 16), defBody (top 16), defScope (top 16), [], []⟩
theorem b_f_shared_bench {K : PySem.W.Frag} {f : Addr} {fd : FuncData} (F : FunD K "shared_bench" "shared_bench" (defArgs (top 16)) (defBody (top 16)) (defScope (top 16)) [] [] f fd) : Binds K fd [("gaps" : Str), ("longs" : Str)] [] := F.bindsN fun _ _ _ _ _ _ us hl => match us, hl with | [_, _], _ => rfl
theorem ok_f_shared_bench {K : PySem.W.Frag} {mg : Str → Option Value} {f : Addr} {fd : FuncData} (h : mg "shared_bench" = some (.ref f)) (F : FunD K "shared_bench" "shared_bench" (defArgs (top 16)) (defBody (top 16)) (defScope (top 16)) [] [] f fd) : DefOk TT DD K mg 14 "shared_bench" 2 := ⟨f, fd, [("gaps" : Str), ("longs" : Str)], N_f_shared_bench, _, _, _, _, [], c_f_shared_bench, h, F, b_f_shared_bench F, sc_f_shared_bench, rfl, rfl, fun Φ X g hF => w_f_shared_bench g hF⟩
theorem sc_f_is_free : FnScope N_f_is_free [("row" : Str), ("longs" : Str), ("day" : Str), ("long" : Str)] (defScope (top 17)) := ⟨rfl, rfl, rfl, by decide +kernel, rfl, by decide +kernel, by decide +kernel⟩
def D_f_is_free : He.DefD := ⟨("is_free", none), "is_free", "is_free", defArgs (top 17), defBody (top 17), defScope (top 17), [], []⟩
theorem b_f_is_free {K : PySem.W.Frag} {f : Addr} {fd : FuncData} (F : FunD K "is_free" "is_free" (defArgs (top 17)) (defBody (top 17)) (defScope (top 17)) [] [] f fd) : Binds K fd [("row" : Str), ("longs" : Str), ("day" : Str), ("long" : Str)] [] := F.bindsN fun _ _ _ _ _ _ us hl => match us, hl with | [_, _, _, _], _ => rfl
theorem ok_f_is_free {K : PySem.W.Frag} {mg : Str → Option Value} {f : Addr} {fd : FuncData} (h : mg "is_free" = some (.ref f)) (F : FunD K "is_free" "is_free" (defArgs (top 17)) (defBody (top 17)) (defScope (top 17)) [] [] f fd) : DefOk TT DD K mg 15 "is_free" 4 := ⟨f, fd, [("row" : Str), ("longs" : Str), ("day" : Str), ("long" : Str)], N_f_is_free, _, _, _, _, [], c_f_is_free, h, F, b_f_is_free F, sc_f_is_free, rfl, rfl, fun Φ X g hF => w_f_is_free g hF⟩
theorem sc_f_renewed_sets : FnScope N_f_renewed_sets [("lives" : Str), ("need" : Str)] (defScope (top 18)) := ⟨rfl, rfl, rfl, by decide +kernel, rfl, by decide +kernel, by decide +kernel⟩
def D_f_renewed_sets : He.DefD := ⟨("renewed_sets", none), "renewed_sets", "renewed_sets", defArgs (top 18), defBody (top 18), defScope (top 18), [], []⟩
theorem b_f_renewed_sets {K : PySem.W.Frag} {f : Addr} {fd : FuncData} (F : FunD K "renewed_sets" "renewed_sets" (defArgs (top 18)) (defBody (top 18)) (defScope (top 18)) [] [] f fd) : Binds K fd [("lives" : Str), ("need" : Str)] [] := F.bindsN fun _ _ _ _ _ _ us hl => match us, hl with | [_, _], _ => rfl
theorem ok_f_renewed_sets {K : PySem.W.Frag} {mg : Str → Option Value} {f : Addr} {fd : FuncData} (h : mg "renewed_sets" = some (.ref f)) (F : FunD K "renewed_sets" "renewed_sets" (defArgs (top 18)) (defBody (top 18)) (defScope (top 18)) [] [] f fd) : DefOk TT DD K mg 16 "renewed_sets" 2 := ⟨f, fd, [("lives" : Str), ("need" : Str)], N_f_renewed_sets, _, _, _, _, [], c_f_renewed_sets, h, F, b_f_renewed_sets F, sc_f_renewed_sets, rfl, rfl, fun Φ X g hF => w_f_renewed_sets g hF⟩
theorem sc_f_cheapest_plan : FnScope N_f_cheapest_plan [("need" : Str), ("kinds" : Str)] (defScope (top 19)) := ⟨rfl, rfl, rfl, by decide +kernel, rfl, by decide +kernel, by decide +kernel⟩
def D_f_cheapest_plan : He.DefD := ⟨("cheapest_plan", none), "cheapest_plan", "cheapest_plan", defArgs (top 19), defBody (top 19), defScope (top 19), [], []⟩
theorem b_f_cheapest_plan {K : PySem.W.Frag} {f : Addr} {fd : FuncData} (F : FunD K "cheapest_plan" "cheapest_plan" (defArgs (top 19)) (defBody (top 19)) (defScope (top 19)) [] [] f fd) : Binds K fd [("need" : Str), ("kinds" : Str)] [] := F.bindsN fun _ _ _ _ _ _ us hl => match us, hl with | [_, _], _ => rfl
theorem ok_f_cheapest_plan {K : PySem.W.Frag} {mg : Str → Option Value} {f : Addr} {fd : FuncData} (h : mg "cheapest_plan" = some (.ref f)) (F : FunD K "cheapest_plan" "cheapest_plan" (defArgs (top 19)) (defBody (top 19)) (defScope (top 19)) [] [] f fd) : DefOk TT DD K mg 17 "cheapest_plan" 2 := ⟨f, fd, [("need" : Str), ("kinds" : Str)], N_f_cheapest_plan, _, _, _, _, [], c_f_cheapest_plan, h, F, b_f_cheapest_plan F, sc_f_cheapest_plan, rfl, rfl, fun Φ X g hF => w_f_cheapest_plan g hF⟩
theorem sc_f_next_service : FnScope N_f_next_service [("uses" : Str), ("places" : Str), ("most" : Str)] (defScope (top 20)) := ⟨rfl, rfl, rfl, by decide +kernel, rfl, by decide +kernel, by decide +kernel⟩
def D_f_next_service : He.DefD := ⟨("next_service", none), "next_service", "next_service", defArgs (top 20), defBody (top 20), defScope (top 20), [], []⟩
theorem b_f_next_service {K : PySem.W.Frag} {f : Addr} {fd : FuncData} (F : FunD K "next_service" "next_service" (defArgs (top 20)) (defBody (top 20)) (defScope (top 20)) [] [] f fd) : Binds K fd [("uses" : Str), ("places" : Str), ("most" : Str)] [] := F.bindsN fun _ _ _ _ _ _ us hl => match us, hl with | [_, _, _], _ => rfl
theorem ok_f_next_service {K : PySem.W.Frag} {mg : Str → Option Value} {f : Addr} {fd : FuncData} (h : mg "next_service" = some (.ref f)) (F : FunD K "next_service" "next_service" (defArgs (top 20)) (defBody (top 20)) (defScope (top 20)) [] [] f fd) : DefOk TT DD K mg 18 "next_service" 3 := ⟨f, fd, [("uses" : Str), ("places" : Str), ("most" : Str)], N_f_next_service, _, _, _, _, [], c_f_next_service, h, F, b_f_next_service F, sc_f_next_service, rfl, rfl, fun Φ X g hF => w_f_next_service g hF⟩
theorem sc_f__law_draws : FnScope N_f__law_draws [("script" : Str), ("many" : Str)] (defScope (top 22)) := ⟨rfl, rfl, rfl, by decide +kernel, rfl, by decide +kernel, by decide +kernel⟩
def D_f__law_draws : He.DefD := ⟨("_law_draws", none), "_law_draws", "_law_draws", defArgs (top 22), defBody (top 22), defScope (top 22), [], []⟩
theorem b_f__law_draws {K : PySem.W.Frag} {f : Addr} {fd : FuncData} (F : FunD K "_law_draws" "_law_draws" (defArgs (top 22)) (defBody (top 22)) (defScope (top 22)) [] [] f fd) : Binds K fd [("script" : Str), ("many" : Str)] [] := F.bindsN fun _ _ _ _ _ _ us hl => match us, hl with | [_, _], _ => rfl
theorem ok_f__law_draws {K : PySem.W.Frag} {mg : Str → Option Value} {f : Addr} {fd : FuncData} (h : mg "_law_draws" = some (.ref f)) (F : FunD K "_law_draws" "_law_draws" (defArgs (top 22)) (defBody (top 22)) (defScope (top 22)) [] [] f fd) : DefOk TT DD K mg 19 "_law_draws" 2 := ⟨f, fd, [("script" : Str), ("many" : Str)], N_f__law_draws, _, _, _, _, [], c_f__law_draws, h, F, b_f__law_draws F, sc_f__law_draws, rfl, rfl, fun Φ X g hF => w_f__law_draws g hF⟩
theorem sc_f__law_next : FnScope N_f__law_next [("w" : Str), ("many" : Str)] (defScope (top 23)) := ⟨rfl, rfl, rfl, by decide +kernel, rfl, by decide +kernel, by decide +kernel⟩
def D_f__law_next : He.DefD := ⟨("_law_next", none), "_law_next", "_law_next", defArgs (top 23), defBody (top 23), defScope (top 23), [], []⟩
theorem b_f__law_next {K : PySem.W.Frag} {f : Addr} {fd : FuncData} (F : FunD K "_law_next" "_law_next" (defArgs (top 23)) (defBody (top 23)) (defScope (top 23)) [] [] f fd) : Binds K fd [("w" : Str), ("many" : Str)] [] := F.bindsN fun _ _ _ _ _ _ us hl => match us, hl with | [_, _], _ => rfl
theorem ok_f__law_next {K : PySem.W.Frag} {mg : Str → Option Value} {f : Addr} {fd : FuncData} (h : mg "_law_next" = some (.ref f)) (F : FunD K "_law_next" "_law_next" (defArgs (top 23)) (defBody (top 23)) (defScope (top 23)) [] [] f fd) : DefOk TT DD K mg 20 "_law_next" 2 := ⟨f, fd, [("w" : Str), ("many" : Str)], N_f__law_next, _, _, _, _, [], c_f__law_next, h, F, b_f__law_next F, sc_f__law_next, rfl, rfl, fun Φ X g hF => w_f__law_next g hF⟩
theorem sc_f__law_pick : FnScope N_f__law_pick [("w" : Str), ("rows" : Str)] (defScope (top 24)) := ⟨rfl, rfl, rfl, by decide +kernel, rfl, by decide +kernel, by decide +kernel⟩
def D_f__law_pick : He.DefD := ⟨("_law_pick", none), "_law_pick", "_law_pick", defArgs (top 24), defBody (top 24), defScope (top 24), [], []⟩
theorem b_f__law_pick {K : PySem.W.Frag} {f : Addr} {fd : FuncData} (F : FunD K "_law_pick" "_law_pick" (defArgs (top 24)) (defBody (top 24)) (defScope (top 24)) [] [] f fd) : Binds K fd [("w" : Str), ("rows" : Str)] [] := F.bindsN fun _ _ _ _ _ _ us hl => match us, hl with | [_, _], _ => rfl
theorem ok_f__law_pick {K : PySem.W.Frag} {mg : Str → Option Value} {f : Addr} {fd : FuncData} (h : mg "_law_pick" = some (.ref f)) (F : FunD K "_law_pick" "_law_pick" (defArgs (top 24)) (defBody (top 24)) (defScope (top 24)) [] [] f fd) : DefOk TT DD K mg 21 "_law_pick" 2 := ⟨f, fd, [("w" : Str), ("rows" : Str)], N_f__law_pick, _, _, _, _, [], c_f__law_pick, h, F, b_f__law_pick F, sc_f__law_pick, rfl, rfl, fun Φ X g hF => w_f__law_pick g hF⟩
theorem sc_f__law_alike : FnScope N_f__law_alike [("given" : Str), ("due" : Str)] (defScope (top 25)) := ⟨rfl, rfl, rfl, by decide +kernel, rfl, by decide +kernel, by decide +kernel⟩
def D_f__law_alike : He.DefD := ⟨("_law_alike", none), "_law_alike", "_law_alike", defArgs (top 25), defBody (top 25), defScope (top 25), [], []⟩
theorem b_f__law_alike {K : PySem.W.Frag} {f : Addr} {fd : FuncData} (F : FunD K "_law_alike" "_law_alike" (defArgs (top 25)) (defBody (top 25)) (defScope (top 25)) [] [] f fd) : Binds K fd [("given" : Str), ("due" : Str)] [] := F.bindsN fun _ _ _ _ _ _ us hl => match us, hl with | [_, _], _ => rfl
theorem ok_f__law_alike {K : PySem.W.Frag} {mg : Str → Option Value} {f : Addr} {fd : FuncData} (h : mg "_law_alike" = some (.ref f)) (F : FunD K "_law_alike" "_law_alike" (defArgs (top 25)) (defBody (top 25)) (defScope (top 25)) [] [] f fd) : DefOk TT DD K mg 22 "_law_alike" 2 := ⟨f, fd, [("given" : Str), ("due" : Str)], N_f__law_alike, _, _, _, _, [], c_f__law_alike, h, F, b_f__law_alike F, sc_f__law_alike, rfl, rfl, fun Φ X g hF => w_f__law_alike g hF⟩
theorem sc_f__law_room : FnScope N_f__law_room [("uses" : Str), ("k" : Str), ("long" : Str), ("last" : Str)] (defScope (top 26)) := ⟨rfl, rfl, rfl, by decide +kernel, rfl, by decide +kernel, by decide +kernel⟩
def D_f__law_room : He.DefD := ⟨("_law_room", none), "_law_room", "_law_room", defArgs (top 26), defBody (top 26), defScope (top 26), [], []⟩
theorem b_f__law_room {K : PySem.W.Frag} {f : Addr} {fd : FuncData} (F : FunD K "_law_room" "_law_room" (defArgs (top 26)) (defBody (top 26)) (defScope (top 26)) [] [] f fd) : Binds K fd [("uses" : Str), ("k" : Str), ("long" : Str), ("last" : Str)] [] := F.bindsN fun _ _ _ _ _ _ us hl => match us, hl with | [_, _, _, _], _ => rfl
theorem ok_f__law_room {K : PySem.W.Frag} {mg : Str → Option Value} {f : Addr} {fd : FuncData} (h : mg "_law_room" = some (.ref f)) (F : FunD K "_law_room" "_law_room" (defArgs (top 26)) (defBody (top 26)) (defScope (top 26)) [] [] f fd) : DefOk TT DD K mg 23 "_law_room" 4 := ⟨f, fd, [("uses" : Str), ("k" : Str), ("long" : Str), ("last" : Str)], N_f__law_room, _, _, _, _, [], c_f__law_room, h, F, b_f__law_room F, sc_f__law_room, rfl, rfl, fun Φ X g hF => w_f__law_room g hF⟩
theorem sc_f__law_served : FnScope N_f__law_served [("uses" : Str), ("places" : Str), ("most" : Str), ("long" : Str), ("last" : Str)] (defScope (top 27)) := ⟨rfl, rfl, rfl, by decide +kernel, rfl, by decide +kernel, by decide +kernel⟩
def D_f__law_served : He.DefD := ⟨("_law_served", none), "_law_served", "_law_served", defArgs (top 27), defBody (top 27), defScope (top 27), [], []⟩
theorem b_f__law_served {K : PySem.W.Frag} {f : Addr} {fd : FuncData} (F : FunD K "_law_served" "_law_served" (defArgs (top 27)) (defBody (top 27)) (defScope (top 27)) [] [] f fd) : Binds K fd [("uses" : Str), ("places" : Str), ("most" : Str), ("long" : Str), ("last" : Str)] [] := F.bindsN fun _ _ _ _ _ _ us hl => match us, hl with | [_, _, _, _, _], _ => rfl
theorem ok_f__law_served {K : PySem.W.Frag} {mg : Str → Option Value} {f : Addr} {fd : FuncData} (h : mg "_law_served" = some (.ref f)) (F : FunD K "_law_served" "_law_served" (defArgs (top 27)) (defBody (top 27)) (defScope (top 27)) [] [] f fd) : DefOk TT DD K mg 24 "_law_served" 5 := ⟨f, fd, [("uses" : Str), ("places" : Str), ("most" : Str), ("long" : Str), ("last" : Str)], N_f__law_served, _, _, _, _, [], c_f__law_served, h, F, b_f__law_served F, sc_f__law_served, rfl, rfl, fun Φ X g hF => w_f__law_served g hF⟩
theorem sc_f__law_sets : FnScope N_f__law_sets [("many" : Str)] (defScope (top 28)) := ⟨rfl, rfl, rfl, by decide +kernel, rfl, by decide +kernel, by decide +kernel⟩
def D_f__law_sets : He.DefD := ⟨("_law_sets", none), "_law_sets", "_law_sets", defArgs (top 28), defBody (top 28), defScope (top 28), [], []⟩
theorem b_f__law_sets {K : PySem.W.Frag} {f : Addr} {fd : FuncData} (F : FunD K "_law_sets" "_law_sets" (defArgs (top 28)) (defBody (top 28)) (defScope (top 28)) [] [] f fd) : Binds K fd [("many" : Str)] [] := F.bindsN fun _ _ _ _ _ _ us hl => match us, hl with | [_], _ => rfl
theorem ok_f__law_sets {K : PySem.W.Frag} {mg : Str → Option Value} {f : Addr} {fd : FuncData} (h : mg "_law_sets" = some (.ref f)) (F : FunD K "_law_sets" "_law_sets" (defArgs (top 28)) (defBody (top 28)) (defScope (top 28)) [] [] f fd) : DefOk TT DD K mg 25 "_law_sets" 1 := ⟨f, fd, [("many" : Str)], N_f__law_sets, _, _, _, _, [], c_f__law_sets, h, F, b_f__law_sets F, sc_f__law_sets, rfl, rfl, fun Φ X g hF => w_f__law_sets g hF⟩
theorem sc_f__law_wear : FnScope N_f__law_wear [("uses" : Str), ("places" : Str), ("each" : Str), ("gain" : Str)] (defScope (top 29)) := ⟨rfl, rfl, rfl, by decide +kernel, rfl, by decide +kernel, by decide +kernel⟩
def D_f__law_wear : He.DefD := ⟨("_law_wear", none), "_law_wear", "_law_wear", defArgs (top 29), defBody (top 29), defScope (top 29), [], []⟩
theorem b_f__law_wear {K : PySem.W.Frag} {f : Addr} {fd : FuncData} (F : FunD K "_law_wear" "_law_wear" (defArgs (top 29)) (defBody (top 29)) (defScope (top 29)) [] [] f fd) : Binds K fd [("uses" : Str), ("places" : Str), ("each" : Str), ("gain" : Str)] [] := F.bindsN fun _ _ _ _ _ _ us hl => match us, hl with | [_, _, _, _], _ => rfl
theorem ok_f__law_wear {K : PySem.W.Frag} {mg : Str → Option Value} {f : Addr} {fd : FuncData} (h : mg "_law_wear" = some (.ref f)) (F : FunD K "_law_wear" "_law_wear" (defArgs (top 29)) (defBody (top 29)) (defScope (top 29)) [] [] f fd) : DefOk TT DD K mg 26 "_law_wear" 4 := ⟨f, fd, [("uses" : Str), ("places" : Str), ("each" : Str), ("gain" : Str)], N_f__law_wear, _, _, _, _, [], c_f__law_wear, h, F, b_f__law_wear F, sc_f__law_wear, rfl, rfl, fun Φ X g hF => w_f__law_wear g hF⟩
theorem sc_f__law_joined : FnScope N_f__law_joined [("spans" : Str)] (defScope (top 30)) := ⟨rfl, rfl, rfl, by decide +kernel, rfl, by decide +kernel, by decide +kernel⟩
def D_f__law_joined : He.DefD := ⟨("_law_joined", none), "_law_joined", "_law_joined", defArgs (top 30), defBody (top 30), defScope (top 30), [], []⟩
theorem b_f__law_joined {K : PySem.W.Frag} {f : Addr} {fd : FuncData} (F : FunD K "_law_joined" "_law_joined" (defArgs (top 30)) (defBody (top 30)) (defScope (top 30)) [] [] f fd) : Binds K fd [("spans" : Str)] [] := F.bindsN fun _ _ _ _ _ _ us hl => match us, hl with | [_], _ => rfl
theorem ok_f__law_joined {K : PySem.W.Frag} {mg : Str → Option Value} {f : Addr} {fd : FuncData} (h : mg "_law_joined" = some (.ref f)) (F : FunD K "_law_joined" "_law_joined" (defArgs (top 30)) (defBody (top 30)) (defScope (top 30)) [] [] f fd) : DefOk TT DD K mg 27 "_law_joined" 1 := ⟨f, fd, [("spans" : Str)], N_f__law_joined, _, _, _, _, [], c_f__law_joined, h, F, b_f__law_joined F, sc_f__law_joined, rfl, rfl, fun Φ X g hF => w_f__law_joined g hF⟩
theorem sc_f__law_since : FnScope N_f__law_since [("uses" : Str), ("some" : Str)] (defScope (top 31)) := ⟨rfl, rfl, rfl, by decide +kernel, rfl, by decide +kernel, by decide +kernel⟩
def D_f__law_since : He.DefD := ⟨("_law_since", none), "_law_since", "_law_since", defArgs (top 31), defBody (top 31), defScope (top 31), [], []⟩
theorem b_f__law_since {K : PySem.W.Frag} {f : Addr} {fd : FuncData} (F : FunD K "_law_since" "_law_since" (defArgs (top 31)) (defBody (top 31)) (defScope (top 31)) [] [] f fd) : Binds K fd [("uses" : Str), ("some" : Str)] [] := F.bindsN fun _ _ _ _ _ _ us hl => match us, hl with | [_, _], _ => rfl
theorem ok_f__law_since {K : PySem.W.Frag} {mg : Str → Option Value} {f : Addr} {fd : FuncData} (h : mg "_law_since" = some (.ref f)) (F : FunD K "_law_since" "_law_since" (defArgs (top 31)) (defBody (top 31)) (defScope (top 31)) [] [] f fd) : DefOk TT DD K mg 28 "_law_since" 2 := ⟨f, fd, [("uses" : Str), ("some" : Str)], N_f__law_since, _, _, _, _, [], c_f__law_since, h, F, b_f__law_since F, sc_f__law_since, rfl, rfl, fun Φ X g hF => w_f__law_since g hF⟩
theorem sc_f__law_judged : FnScope N_f__law_judged [("uses" : Str)] (defScope (top 32)) := ⟨rfl, rfl, rfl, by decide +kernel, rfl, by decide +kernel, by decide +kernel⟩
def D_f__law_judged : He.DefD := ⟨("_law_judged", none), "_law_judged", "_law_judged", defArgs (top 32), defBody (top 32), defScope (top 32), [], []⟩
theorem b_f__law_judged {K : PySem.W.Frag} {f : Addr} {fd : FuncData} (F : FunD K "_law_judged" "_law_judged" (defArgs (top 32)) (defBody (top 32)) (defScope (top 32)) [] [] f fd) : Binds K fd [("uses" : Str)] [] := F.bindsN fun _ _ _ _ _ _ us hl => match us, hl with | [_], _ => rfl
theorem ok_f__law_judged {K : PySem.W.Frag} {mg : Str → Option Value} {f : Addr} {fd : FuncData} (h : mg "_law_judged" = some (.ref f)) (F : FunD K "_law_judged" "_law_judged" (defArgs (top 32)) (defBody (top 32)) (defScope (top 32)) [] [] f fd) : DefOk TT DD K mg 29 "_law_judged" 1 := ⟨f, fd, [("uses" : Str)], N_f__law_judged, _, _, _, _, [], c_f__law_judged, h, F, b_f__law_judged F, sc_f__law_judged, rfl, rfl, fun Φ X g hF => w_f__law_judged g hF⟩
theorem sc_f_law : FnScope N_f_law [("script" : Str)] (defScope (top 33)) := ⟨rfl, rfl, rfl, by decide +kernel, rfl, by decide +kernel, by decide +kernel⟩
def D_f_law : He.DefD := ⟨("law", none), "law", "law", defArgs (top 33), defBody (top 33), defScope (top 33), [], []⟩
theorem b_f_law {K : PySem.W.Frag} {f : Addr} {fd : FuncData} (F : FunD K "law" "law" (defArgs (top 33)) (defBody (top 33)) (defScope (top 33)) [] [] f fd) : Binds K fd [("script" : Str)] [] := F.bindsN fun _ _ _ _ _ _ us hl => match us, hl with | [_], _ => rfl
theorem ok_f_law {K : PySem.W.Frag} {mg : Str → Option Value} {f : Addr} {fd : FuncData} (h : mg "law" = some (.ref f)) (F : FunD K "law" "law" (defArgs (top 33)) (defBody (top 33)) (defScope (top 33)) [] [] f fd) : DefOk TT DD K mg 30 "law" 1 := ⟨f, fd, [("script" : Str)], N_f_law, _, _, _, _, [], c_f_law, h, F, b_f_law F, sc_f_law, rfl, rfl, fun Φ X g hF => w_f_law g hF⟩
def fn : List He.DefD := [D_f_is_number, D_f_is_from, D_f_is_tuple_of, D_f_all_rows, D_f_are_uses, D_f_gaps_of, D_f_hours_along, D_f_is_served, D_f_fewest_services, D_f_has_room, D_f_least_most, D_f_wear_after, D_f_best_places, D_f_broken_by, D_f_shared_bench, D_f_is_free, D_f_renewed_sets, D_f_cheapest_plan, D_f_next_service, D_f__law_draws, D_f__law_next, D_f__law_pick, D_f__law_alike, D_f__law_room, D_f__law_served, D_f__law_sets, D_f__law_wear, D_f__law_joined, D_f__law_since, D_f__law_judged, D_f_law]
def fa : List He.Fa := [.glo "is_number", .glo "is_from", .glo "is_tuple_of", .glo "all_rows", .glo "are_uses", .glo "gaps_of", .glo "hours_along", .glo "is_served", .glo "fewest_services", .glo "has_room", .glo "least_most", .glo "wear_after", .glo "best_places", .glo "broken_by", .glo "shared_bench", .glo "is_free", .glo "renewed_sets", .glo "cheapest_plan", .glo "next_service", .glo "_law_draws", .glo "_law_next", .glo "_law_pick", .glo "_law_alike", .glo "_law_room", .glo "_law_served", .glo "_law_sets", .glo "_law_wear", .glo "_law_joined", .glo "_law_since", .glo "_law_judged", .glo "law", .free "abs", .free "all", .free "bool", .free "enumerate", .free "int", .free "isinstance", .free "len", .free "list", .free "max", .free "min", .free "range", .free "sorted", .free "str", .free "sum", .free "tuple", .free "zip"]
section
variable {P : Program} {w : World} {K : PySem.W.Frag} {h : Heap} {mg : Str → Option Value} {f : Addr}
theorem frees (X : K.In h) (G : h.Ns mainGlobals mg) (c : He.SaysD fa fn K) : ∀ (j : Nat) (x : Str), TT.fr[j]? = some x → mg x = none
  | 0, _, e => by cases (show some ("abs" : Str) = some _ from e); exact He.free_ok X G (c.fact 31 (f := .free "abs") rfl)
  | 1, _, e => by cases (show some ("all" : Str) = some _ from e); exact He.free_ok X G (c.fact 32 (f := .free "all") rfl)
  | 2, _, e => by cases (show some ("bool" : Str) = some _ from e); exact He.free_ok X G (c.fact 33 (f := .free "bool") rfl)
  | 3, _, e => by cases (show some ("enumerate" : Str) = some _ from e); exact He.free_ok X G (c.fact 34 (f := .free "enumerate") rfl)
  | 4, _, e => by cases (show some ("int" : Str) = some _ from e); exact He.free_ok X G (c.fact 35 (f := .free "int") rfl)
  | 5, _, e => by cases (show some ("isinstance" : Str) = some _ from e); exact He.free_ok X G (c.fact 36 (f := .free "isinstance") rfl)
  | 6, _, e => by cases (show some ("len" : Str) = some _ from e); exact He.free_ok X G (c.fact 37 (f := .free "len") rfl)
  | 7, _, e => by cases (show some ("list" : Str) = some _ from e); exact He.free_ok X G (c.fact 38 (f := .free "list") rfl)
  | 8, _, e => by cases (show some ("max" : Str) = some _ from e); exact He.free_ok X G (c.fact 39 (f := .free "max") rfl)
  | 9, _, e => by cases (show some ("min" : Str) = some _ from e); exact He.free_ok X G (c.fact 40 (f := .free "min") rfl)
  | 10, _, e => by cases (show some ("range" : Str) = some _ from e); exact He.free_ok X G (c.fact 41 (f := .free "range") rfl)
  | 11, _, e => by cases (show some ("sorted" : Str) = some _ from e); exact He.free_ok X G (c.fact 42 (f := .free "sorted") rfl)
  | 12, _, e => by cases (show some ("str" : Str) = some _ from e); exact He.free_ok X G (c.fact 43 (f := .free "str") rfl)
  | 13, _, e => by cases (show some ("sum" : Str) = some _ from e); exact He.free_ok X G (c.fact 44 (f := .free "sum") rfl)
  | 14, _, e => by cases (show some ("tuple" : Str) = some _ from e); exact He.free_ok X G (c.fact 45 (f := .free "tuple") rfl)
  | 15, _, e => by cases (show some ("zip" : Str) = some _ from e); exact He.free_ok X G (c.fact 46 (f := .free "zip") rfl)
  | _ + 16, _, e => nomatch e
theorem csts (X : K.In h) (G : h.Ns mainGlobals mg) (c : He.SaysD fa fn K) : ∀ (j : Nat) (x s : Str), TT.cs[j]? = some (x, s) → ∃ t, mg x = some (.str s t)
  | _ + 0, _, _, e => nomatch e
theorem defs (X : K.In h) (G : h.Ns mainGlobals mg) (c : He.SaysD fa fn K) : ∀ (g : Nat) (x : Str) (m : Nat), TT.fns[g]? = some (x, m) → DefOk TT DD K mg g x m
  | 0, _, _, e => by
    cases (show some (("is_number" : Str), 1) = some _ from e)
    obtain ⟨fd, F⟩ := c.def_ 0 (d := D_f_is_number) rfl
    exact ok_f_is_number (He.glo_ok X G (c.fact 0 (f := .glo "is_number") rfl)) F
  | 1, _, _, e => by
    cases (show some (("is_from" : Str), 2) = some _ from e)
    obtain ⟨fd, F⟩ := c.def_ 1 (d := D_f_is_from) rfl
    exact ok_f_is_from (He.glo_ok X G (c.fact 1 (f := .glo "is_from") rfl)) F
  | 2, _, _, e => by
    cases (show some (("is_tuple_of" : Str), 2) = some _ from e)
    obtain ⟨fd, F⟩ := c.def_ 2 (d := D_f_is_tuple_of) rfl
    exact ok_f_is_tuple_of (He.glo_ok X G (c.fact 2 (f := .glo "is_tuple_of") rfl)) F
  | 3, _, _, e => by
    cases (show some (("all_rows" : Str), 1) = some _ from e)
    obtain ⟨fd, F⟩ := c.def_ 3 (d := D_f_all_rows) rfl
    exact ok_f_all_rows (He.glo_ok X G (c.fact 3 (f := .glo "all_rows") rfl)) F
  | 4, _, _, e => by
    cases (show some (("are_uses" : Str), 1) = some _ from e)
    obtain ⟨fd, F⟩ := c.def_ 4 (d := D_f_are_uses) rfl
    exact ok_f_are_uses (He.glo_ok X G (c.fact 4 (f := .glo "are_uses") rfl)) F
  | 5, _, _, e => by
    cases (show some (("gaps_of" : Str), 2) = some _ from e)
    obtain ⟨fd, F⟩ := c.def_ 5 (d := D_f_gaps_of) rfl
    exact ok_f_gaps_of (He.glo_ok X G (c.fact 5 (f := .glo "gaps_of") rfl)) F
  | 6, _, _, e => by
    cases (show some (("hours_along" : Str), 1) = some _ from e)
    obtain ⟨fd, F⟩ := c.def_ 6 (d := D_f_hours_along) rfl
    exact ok_f_hours_along (He.glo_ok X G (c.fact 6 (f := .glo "hours_along") rfl)) F
  | 7, _, _, e => by
    cases (show some (("is_served" : Str), 5) = some _ from e)
    obtain ⟨fd, F⟩ := c.def_ 7 (d := D_f_is_served) rfl
    exact ok_f_is_served (He.glo_ok X G (c.fact 7 (f := .glo "is_served") rfl)) F
  | 8, _, _, e => by
    cases (show some (("fewest_services" : Str), 4) = some _ from e)
    obtain ⟨fd, F⟩ := c.def_ 8 (d := D_f_fewest_services) rfl
    exact ok_f_fewest_services (He.glo_ok X G (c.fact 8 (f := .glo "fewest_services") rfl)) F
  | 9, _, _, e => by
    cases (show some (("has_room" : Str), 3) = some _ from e)
    obtain ⟨fd, F⟩ := c.def_ 9 (d := D_f_has_room) rfl
    exact ok_f_has_room (He.glo_ok X G (c.fact 9 (f := .glo "has_room") rfl)) F
  | 10, _, _, e => by
    cases (show some (("least_most" : Str), 4) = some _ from e)
    obtain ⟨fd, F⟩ := c.def_ 10 (d := D_f_least_most) rfl
    exact ok_f_least_most (He.glo_ok X G (c.fact 10 (f := .glo "least_most") rfl)) F
  | 11, _, _, e => by
    cases (show some (("wear_after" : Str), 4) = some _ from e)
    obtain ⟨fd, F⟩ := c.def_ 11 (d := D_f_wear_after) rfl
    exact ok_f_wear_after (He.glo_ok X G (c.fact 11 (f := .glo "wear_after") rfl)) F
  | 12, _, _, e => by
    cases (show some (("best_places" : Str), 6) = some _ from e)
    obtain ⟨fd, F⟩ := c.def_ 12 (d := D_f_best_places) rfl
    exact ok_f_best_places (He.glo_ok X G (c.fact 12 (f := .glo "best_places") rfl)) F
  | 13, _, _, e => by
    cases (show some (("broken_by" : Str), 5) = some _ from e)
    obtain ⟨fd, F⟩ := c.def_ 13 (d := D_f_broken_by) rfl
    exact ok_f_broken_by (He.glo_ok X G (c.fact 13 (f := .glo "broken_by") rfl)) F
  | 14, _, _, e => by
    cases (show some (("shared_bench" : Str), 2) = some _ from e)
    obtain ⟨fd, F⟩ := c.def_ 14 (d := D_f_shared_bench) rfl
    exact ok_f_shared_bench (He.glo_ok X G (c.fact 14 (f := .glo "shared_bench") rfl)) F
  | 15, _, _, e => by
    cases (show some (("is_free" : Str), 4) = some _ from e)
    obtain ⟨fd, F⟩ := c.def_ 15 (d := D_f_is_free) rfl
    exact ok_f_is_free (He.glo_ok X G (c.fact 15 (f := .glo "is_free") rfl)) F
  | 16, _, _, e => by
    cases (show some (("renewed_sets" : Str), 2) = some _ from e)
    obtain ⟨fd, F⟩ := c.def_ 16 (d := D_f_renewed_sets) rfl
    exact ok_f_renewed_sets (He.glo_ok X G (c.fact 16 (f := .glo "renewed_sets") rfl)) F
  | 17, _, _, e => by
    cases (show some (("cheapest_plan" : Str), 2) = some _ from e)
    obtain ⟨fd, F⟩ := c.def_ 17 (d := D_f_cheapest_plan) rfl
    exact ok_f_cheapest_plan (He.glo_ok X G (c.fact 17 (f := .glo "cheapest_plan") rfl)) F
  | 18, _, _, e => by
    cases (show some (("next_service" : Str), 3) = some _ from e)
    obtain ⟨fd, F⟩ := c.def_ 18 (d := D_f_next_service) rfl
    exact ok_f_next_service (He.glo_ok X G (c.fact 18 (f := .glo "next_service") rfl)) F
  | 19, _, _, e => by
    cases (show some (("_law_draws" : Str), 2) = some _ from e)
    obtain ⟨fd, F⟩ := c.def_ 19 (d := D_f__law_draws) rfl
    exact ok_f__law_draws (He.glo_ok X G (c.fact 19 (f := .glo "_law_draws") rfl)) F
  | 20, _, _, e => by
    cases (show some (("_law_next" : Str), 2) = some _ from e)
    obtain ⟨fd, F⟩ := c.def_ 20 (d := D_f__law_next) rfl
    exact ok_f__law_next (He.glo_ok X G (c.fact 20 (f := .glo "_law_next") rfl)) F
  | 21, _, _, e => by
    cases (show some (("_law_pick" : Str), 2) = some _ from e)
    obtain ⟨fd, F⟩ := c.def_ 21 (d := D_f__law_pick) rfl
    exact ok_f__law_pick (He.glo_ok X G (c.fact 21 (f := .glo "_law_pick") rfl)) F
  | 22, _, _, e => by
    cases (show some (("_law_alike" : Str), 2) = some _ from e)
    obtain ⟨fd, F⟩ := c.def_ 22 (d := D_f__law_alike) rfl
    exact ok_f__law_alike (He.glo_ok X G (c.fact 22 (f := .glo "_law_alike") rfl)) F
  | 23, _, _, e => by
    cases (show some (("_law_room" : Str), 4) = some _ from e)
    obtain ⟨fd, F⟩ := c.def_ 23 (d := D_f__law_room) rfl
    exact ok_f__law_room (He.glo_ok X G (c.fact 23 (f := .glo "_law_room") rfl)) F
  | 24, _, _, e => by
    cases (show some (("_law_served" : Str), 5) = some _ from e)
    obtain ⟨fd, F⟩ := c.def_ 24 (d := D_f__law_served) rfl
    exact ok_f__law_served (He.glo_ok X G (c.fact 24 (f := .glo "_law_served") rfl)) F
  | 25, _, _, e => by
    cases (show some (("_law_sets" : Str), 1) = some _ from e)
    obtain ⟨fd, F⟩ := c.def_ 25 (d := D_f__law_sets) rfl
    exact ok_f__law_sets (He.glo_ok X G (c.fact 25 (f := .glo "_law_sets") rfl)) F
  | 26, _, _, e => by
    cases (show some (("_law_wear" : Str), 4) = some _ from e)
    obtain ⟨fd, F⟩ := c.def_ 26 (d := D_f__law_wear) rfl
    exact ok_f__law_wear (He.glo_ok X G (c.fact 26 (f := .glo "_law_wear") rfl)) F
  | 27, _, _, e => by
    cases (show some (("_law_joined" : Str), 1) = some _ from e)
    obtain ⟨fd, F⟩ := c.def_ 27 (d := D_f__law_joined) rfl
    exact ok_f__law_joined (He.glo_ok X G (c.fact 27 (f := .glo "_law_joined") rfl)) F
  | 28, _, _, e => by
    cases (show some (("_law_since" : Str), 2) = some _ from e)
    obtain ⟨fd, F⟩ := c.def_ 28 (d := D_f__law_since) rfl
    exact ok_f__law_since (He.glo_ok X G (c.fact 28 (f := .glo "_law_since") rfl)) F
  | 29, _, _, e => by
    cases (show some (("_law_judged" : Str), 1) = some _ from e)
    obtain ⟨fd, F⟩ := c.def_ 29 (d := D_f__law_judged) rfl
    exact ok_f__law_judged (He.glo_ok X G (c.fact 29 (f := .glo "_law_judged") rfl)) F
  | 30, _, _, e => by
    cases (show some (("law" : Str), 1) = some _ from e)
    obtain ⟨fd, F⟩ := c.def_ 30 (d := D_f_law) rfl
    exact ok_f_law (He.glo_ok X G (c.fact 30 (f := .glo "law") rfl)) F
  | _ + 31, _, _, e => nomatch e
abbrev R : PySem.W.OpenRow := PySem.W.OpenLaw.row PySem.Challenge.rw_toolslent_k13_service_between_loans
abbrev hk : PySem.W.Hook := He.hookD 4 fa fn
def ob (s : PySem.W.SharedT) : He.AlD := He.obsDG 4 fa fn (HandSHeadRun.getT s)
theorem ob_eq (s : PySem.W.SharedT) : ob s = hk.obs s.abs := He.obsDG_eq (HandSHeadRun.getT_eq s)
def loose : List Str := [("is_number" : Str), ("is_from" : Str), ("is_tuple_of" : Str), ("all_rows" : Str), ("are_uses" : Str), ("gaps_of" : Str), ("hours_along" : Str), ("is_served" : Str), ("fewest_services" : Str), ("has_room" : Str), ("least_most" : Str), ("wear_after" : Str), ("best_places" : Str), ("broken_by" : Str), ("shared_bench" : Str), ("is_free" : Str), ("renewed_sets" : Str), ("cheapest_plan" : Str), ("next_service" : Str), ("_law_draws" : Str), ("_law_next" : Str), ("_law_pick" : Str), ("_law_alike" : Str), ("_law_room" : Str), ("_law_served" : Str), ("_law_sets" : Str), ("_law_wear" : Str), ("_law_joined" : Str), ("_law_since" : Str), ("_law_judged" : Str)]
theorem run (w : World) : HandSHeadRun.RunEq R (PySem.W.view R.prog [33]) hk ob 4000 loose w := by
  intro os
  kernel_rfl
theorem facts (X : K.In h) (G : h.Ns mainGlobals mg) (hfa : mg ("law" : Str) = some (.ref f)) (c : He.SaysD fa fn K) :
    ∃ fd : FuncData, (∀ (s : Shared) (v : Value), BindsTo s fd ⟨[v], []⟩ [("script", v)]) ∧ ∀ base : Heap, K.In base → base.Ns mainGlobals mg → FnOk P w K mg base CX0 41 f fd ["script"] (spOf K (sem DD 41 30) 1) := by
  obtain ⟨fd, F⟩ := c.def_ 30 (d := D_f_law) rfl
  have e := hfa.symm.trans (He.glo_ok X G (c.fact 30 (f := .glo "law") rfl))
  cases e
  have b := FunD.bindsA (ps := ["script"]) F fun _ _ _ _ _ _ us hl => match us, hl with | [_], _ => rfl
  exact ⟨fd, fun s v => b s [v] rfl, fun base _ _ => fn_step (all_fn (defs X G c) (frees X G c) (csts X G c) 40) (frees X G c) (csts X G c) (g := 30) F sc_f_law rfl fun Φ X g hF => w_f_law g hF⟩
end
end MP.K13

/-! MP pure: how the evaluator is worked with, in plain Lean. -/
namespace MP
open PySem

section
variable {Φ : Fns} {ρ : Envi} {D : DS} {i : Nat} {a b c e k v : CE} {es : CEs}
@[simp] theorem ev_var : ev Φ (.var i) ρ D = (getS ρ i).map fun x => (x, D) := rfl
@[simp] theorem ev_bor : ev Φ (.bor i) ρ D = (borS ρ i).map fun x => (x, D) := rfl
@[simp] theorem ev_int {n : Int} : ev Φ (.int n) ρ D = some (.int n, D) := rfl
@[simp] theorem ev_bl {n : Bool} : ev Φ (.bl n) ρ D = some (.bl n, D) := rfl
@[simp] theorem ev_non : ev Φ .non ρ D = some (.non, D) := rfl
@[simp] theorem ev_str {s : Str} : ev Φ (.str s) ρ D = some (.str s, D) := rfl
@[simp] theorem ev_cst {x s : Str} : ev Φ (.cst x s) ρ D = some (.str s, D) := rfl
@[simp] theorem ev_tup : ev Φ (.tup es) ρ D = (evs Φ es ρ D).map fun r => (.tup r.1, r.2) := rfl
@[simp] theorem ev_lst : ev Φ (.lst es) ρ D = (evs Φ es ρ D).map fun r => (.lst r.1, r.2) := rfl
@[simp] theorem ev_dsp {t : Nat} {ps : CPs} : ev Φ (.dsp t ps) ρ D = (evd Φ ps ρ D).bind fun r => if (r.1.all fun p => isKey t p.1) then some (.dct t (dMerge [] r.1), r.2) else none := rfl
@[simp] theorem ev_bin {op : Bo} : ev Φ (.bin op a b) ρ D = (ev Φ a ρ D).bind fun r => (ev Φ b ρ r.2).bind fun q => (pBin op r.1 q.1).map fun z => (z, q.2) := rfl
@[simp] theorem ev_neg : ev Φ (.neg a) ρ D = (ev Φ a ρ D).bind fun r => (pNeg r.1).map fun z => (z, r.2) := rfl
@[simp] theorem ev_cmp {op : Co} : ev Φ (.cmp op a b) ρ D = (ev Φ a ρ D).bind fun r => (ev Φ b ρ r.2).bind fun q => (opd q.2 q.1).bind fun o => (pCmp op r.1 o).map fun z => (.bl z, q.2) := rfl
@[simp] theorem ev_chn {op op2 : Co} : ev Φ (.chn op op2 a b c) ρ D = (ev Φ a ρ D).bind fun r => (ev Φ b ρ r.2).bind fun q => (pCmp op r.1 q.1).bind fun z => if z then (ev Φ c ρ q.2).bind fun t => (pCmp op2 q.1 t.1).map fun y => (.bl y, t.2) else some (.bl false, q.2) := rfl
@[simp] theorem ev_and : ev Φ (.and_ es) ρ D = evand Φ es ρ D := rfl
@[simp] theorem ev_or : ev Φ (.or_ es) ρ D = evor Φ es ρ D := rfl
@[simp] theorem ev_not : ev Φ (.not_ a) ρ D = (ev Φ a ρ D).bind fun r => (blOf r.1).map fun z => (.bl (!z), r.2) := rfl
@[simp] theorem ev_ite : ev Φ (.ite c a b) ρ D = (ev Φ c ρ D).bind fun r => (blOf r.1).bind fun z => if z then ev Φ a ρ r.2 else ev Φ b ρ r.2 := rfl
@[simp] theorem ev_idx : ev Φ (.idx a k) ρ D = (ev Φ a ρ D).bind fun r => (ev Φ k ρ r.2).bind fun q => (opd q.2 r.1).bind fun o => (pIdx o q.1).map fun z => (z, q.2) := rfl
@[simp] theorem ev_cut {lo hi : CEs} : ev Φ (.cut a lo hi) ρ D = (ev Φ a ρ D).bind fun r => (evo Φ lo ρ r.2).bind fun l => (evo Φ hi ρ l.2).bind fun h => (pCut r.1 l.1 h.1).map fun z => (z, h.2) := rfl
@[simp] theorem ev_rev : ev Φ (.rev a) ρ D = (ev Φ a ρ D).bind fun r => (pRev r.1).map fun z => (z, r.2) := rfl
@[simp] theorem ev_call {g : Nat} : ev Φ (.call g es) ρ D = (evs Φ es ρ D).bind fun r => Φ g r.1 r.2 := rfl
@[simp] theorem ev_bi {b : Bi} : ev Φ (.bi b es) ρ D = (evs Φ es ρ D).bind fun r => (mapO (opd r.2) r.1).bind fun xs => (pBi b xs).map fun z => (z, r.2) := rfl
@[simp] theorem ev_isi {t : Ty} : ev Φ (.isi t a) ρ D = (ev Φ a ρ D).bind fun r => (pIs t r.1).map fun z => (.bl z, r.2) := rfl
@[simp] theorem ev_met {m : Me} : ev Φ (.met m a es) ρ D = (ev Φ a ρ D).bind fun r => (evs Φ es ρ r.2).bind fun q => (pMe m r.1 q.1).map fun z => (z, q.2) := rfl
@[simp] theorem evs_nil : evs Φ .nil ρ D = some ([], D) := rfl
@[simp] theorem evs_cons : evs Φ (.cons e es) ρ D = (ev Φ e ρ D).bind fun r => (evs Φ es ρ r.2).map fun q => (r.1 :: q.1, q.2) := rfl
@[simp] theorem evd_nil : evd Φ .nil ρ D = some ([], D) := rfl
@[simp] theorem evd_cons {r : CPs} : evd Φ (.cons k v r) ρ D = (ev Φ k ρ D).bind fun x => (ev Φ v ρ x.2).bind fun q => (evd Φ r ρ q.2).map fun z => ((x.1, q.1) :: z.1, z.2) := rfl
@[simp] theorem evand_one : evand Φ (.cons e .nil) ρ D = ev Φ e ρ D := rfl
@[simp] theorem evand_cons {f : CE} : evand Φ (.cons e (.cons f es)) ρ D = (ev Φ e ρ D).bind fun r => (blOf r.1).bind fun z => if z then evand Φ (.cons f es) ρ r.2 else some (.bl false, r.2) := rfl
@[simp] theorem evor_one : evor Φ (.cons e .nil) ρ D = ev Φ e ρ D := rfl
@[simp] theorem evor_cons {f : CE} : evor Φ (.cons e (.cons f es)) ρ D = (ev Φ e ρ D).bind fun r => (blOf r.1).bind fun z => if z then some (.bl true, r.2) else evor Φ (.cons f es) ρ r.2 := rfl
@[simp] theorem evo_nil : evo Φ .nil ρ D = some (none, D) := rfl
@[simp] theorem evo_one : evo Φ (.cons e .nil) ρ D = (ev Φ e ρ D).bind fun r => (intOf r.1).map fun i => (some i, r.2) := rfl
@[simp] theorem evt_nil : evt Φ .nil ρ D = some (true, D) := rfl
@[simp] theorem evt_one : evt Φ (.cons e .nil) ρ D = (ev Φ e ρ D).bind fun r => (blOf r.1).map fun z => (z, r.2) := rfl
@[simp] theorem evi_over : evi Φ (.over e) ρ D = (ev Φ e ρ D).bind fun r => (itOf r.1).map fun xs => (xs, r.2) := rfl
@[simp] theorem evi_rng1 : evi Φ (.rng1 a) ρ D = (ev Φ a ρ D).bind fun r => (intOf r.1).bind fun n => if rngOk 0 n then some (rngL 0 n, r.2) else none := rfl
@[simp] theorem evi_rng2 : evi Φ (.rng2 a b) ρ D = (ev Φ a ρ D).bind fun r => (ev Φ b ρ r.2).bind fun q => (intOf r.1).bind fun m => (intOf q.1).bind fun n => if rngOk m n then some (rngL m n, q.2) else none := rfl
@[simp] theorem evi_enum : evi Φ (.enum e) ρ D = (ev Φ e ρ D).bind fun r => (seqOf r.1).map fun xs => (enumL xs, r.2) := rfl
@[simp] theorem evi_zip : evi Φ (.zip a b) ρ D = (ev Φ a ρ D).bind fun r => (ev Φ b ρ r.2).bind fun q => (zipOf r.1 q.1).map fun xs => (xs, q.2) := rfl
@[simp] theorem evi_keys : evi Φ (.keys i) ρ D = ((borS ρ i).bind keysOf).map fun xs => (xs, D) := rfl
end
/-- one turn of a comprehension with one clause -/
def st1 (Φ : Fns) (own : List Nat) (ce : CE) (pt : Pat) (ct : CEs) (ρ : Envi) : PV → DS → Option (List PV × DS) := fun x D1 =>
  (bindP pt x (wipE ρ own)).bind fun ρ1 => (evt Φ ct ρ1 D1).bind fun c => if c.1 then (ev Φ ce ρ1 c.2).map fun y => ([y.1], y.2) else some ([], c.2)
theorem ev_lc1 {Φ : Fns} {ρ : Envi} {D : DS} {own : List Nat} {ce : CE} {pt : Pat} {ci : CI} {ct : CEs} : ev Φ (.lc1 own ce pt ci ct) ρ D = (evi Φ ci ρ D).bind fun r => (lcF (st1 Φ own ce pt ct ρ) r.1 r.2).map fun q => (.lst q.1, q.2) := rfl
/-- a comprehension that changes nothing: what stands, and its value -/
theorem lcF_pure {f : PV → DS → Option (List PV × DS)} {D : DS} {h : PV → List PV} : ∀ {xs : List PV}, (∀ x ∈ xs, f x D = some (h x, D)) → lcF f xs D = some (xs.flatMap h, D)
  | [], _ => rfl
  | x :: xs, H => by
    rw [lcF, H x List.mem_cons_self, Option.bind_some, lcF_pure fun y hy => H y (List.mem_cons_of_mem _ hy)]
    rfl
theorem flatMap_if {α β : Type} (xs : List α) (p : α → Bool) (f : α → β) : (xs.flatMap fun x => if p x then [f x] else []) = (xs.filter p).map f := by
  induction xs with
  | nil => rfl
  | cons x xs ih =>
    rw [List.flatMap_cons, ih]
    by_cases h : p x = true
    · simp [h]
    · simp [h]
/-- .. over ints: the test and the value -/
theorem lc_ints {f : PV → DS → Option (List PV × DS)} {D : DS} {ns : List Int} {p : Int → Bool} {g : Int → PV} (H : ∀ n ∈ ns, f (.int n) D = some (if p n then [g n] else [], D)) : lcF f (ns.map .int) D = some ((ns.filter p).map g, D) := by
  rw [lcF_pure (h := fun x => match x with | .int n => if p n then [g n] else [] | _ => [])]
  · rw [List.flatMap_map, ← flatMap_if]
  · intro x hx
    obtain ⟨n, hn, rfl⟩ := List.mem_map.mp hx
    exact H n hn
/-- with some state threaded -/
theorem lcF_inv {f : PV → DS → Option (List PV × DS)} (I : DS → Prop) (R : PV → List PV → Prop) : ∀ {xs : List PV} {D : DS}, I D → (∀ x ∈ xs, ∀ D, I D → ∃ l D', f x D = some (l, D') ∧ I D' ∧ R x l) → ∃ ls D', lcF f xs D = some (ls.flatten, D') ∧ I D' ∧ ls.length = xs.length ∧ ∀ p ∈ xs.zip ls, R p.1 p.2
  | [], D, h, _ => ⟨[], D, rfl, h, rfl, fun p hp => absurd hp (by simp)⟩
  | x :: xs, D, h, H => by
    obtain ⟨l, D1, e1, h1, r1⟩ := H x List.mem_cons_self D h
    obtain ⟨ls, D2, e2, h2, hl, r2⟩ := lcF_inv I R h1 fun y hy => H y (List.mem_cons_of_mem _ hy)
    refine ⟨l :: ls, D2, ?_, h2, by simp [hl], fun p hp => ?_⟩
    · rw [lcF, e1, Option.bind_some, e2, Option.bind_some, List.flatten_cons]
    · rw [List.zip_cons_cons] at hp
      rcases List.mem_cons.mp hp with e | hp
      · rw [e]; exact r1
      · exact r2 p hp
/-! ### statements, a step at a time -/
section
variable {Φ : Fns} {ρ ρ1 : Envi} {D D1 : DS} {s : CS} {r : CSs} {R : XR}
theorem xs_nx (h : ex Φ s ρ D = some (.nx, ρ1, D1)) : exs Φ (.cons s r) ρ D = exs Φ r ρ1 D1 := by
  show (ex Φ s ρ D).bind _ = _
  rw [h]
  rfl
theorem xs_rt {x : PV} (h : ex Φ s ρ D = some (.rt x, ρ1, D1)) : exs Φ (.cons s r) ρ D = some (.rt x, ρ1, D1) := by
  show (ex Φ s ρ D).bind _ = _
  rw [h]
  rfl
@[simp] theorem exs_nil : exs Φ .nil ρ D = some (.nx, ρ, D) := rfl
@[simp] theorem exs_frz {is : List Nat} : exs Φ (.frz is r) ρ D = exs Φ r (frzL ρ is) D := rfl
@[simp] theorem exs_cons : exs Φ (.cons s r) ρ D = (ex Φ s ρ D).bind fun q => match q.1 with
    | .nx => exs Φ r q.2.1 q.2.2
    | _ => some q := rfl
variable {i : Nat} {e k c : CE} {a b : CSs} {op : Bo} {o : Bool}
@[simp] theorem ex_asg : ex Φ (.asg o i e) ρ D = (ev Φ e ρ D).map fun r => (.nx, ρ.set i (some (o, r.1)), r.2) := rfl
@[simp] theorem ex_asgP {p : Pat} : ex Φ (.asgP p e) ρ D = (ev Φ e ρ D).bind fun r => (bindP p r.1 ρ).map fun ρ1 => (.nx, ρ1, r.2) := rfl
@[simp] theorem ex_asgS : ex Φ (.asgS i e) ρ D = (ev Φ e ρ D).map fun r => (.nx, ρ.set i (some (false, .shr r.2.length)), r.2 ++ [r.1]) := rfl
@[simp] theorem ex_par {ts : List Tg} {os : List Bool} {es : CEs} : ex Φ (.par ts os es) ρ D = (evs Φ es ρ D).bind fun r => (storeT Φ ts os r.1 ρ r.2).map fun q => (.nx, q.1, q.2) := rfl
@[simp] theorem ex_aug : ex Φ (.aug i op e) ρ D = (getS ρ i).bind fun x => (ev Φ e ρ D).bind fun r => (pIp op x r.1).map fun z => (.nx, ρ.set i (some (false, z)), r.2) := rfl
@[simp] theorem ex_setI : ex Φ (.setI i k e) ρ D = (ev Φ e ρ D).bind fun r => (ev Φ k ρ r.2).bind fun q => (chg (fun y => pSet y q.1 r.1) i ρ q.2).map fun z => (.nx, z.1, z.2) := rfl
@[simp] theorem ex_augI : ex Φ (.augI i k op e) ρ D = (ev Φ k ρ D).bind fun q => (borS ρ i).bind fun c => (opd q.2 c).bind fun o => (if isLD o then pIdx o q.1 else none).bind fun old => (ev Φ e ρ q.2).bind fun r => (pIp op old r.1).bind fun z =>
      (chg (fun y => pSet y q.1 z) i ρ r.2).map fun t => (.nx, t.1, t.2) := rfl
@[simp] theorem ex_app : ex Φ (.app i e) ρ D = (ev Φ e ρ D).bind fun r => (chgO (pApp r.1) i ρ r.2).map fun z => (.nx, z.1, z.2) := rfl
@[simp] theorem ex_ext : ex Φ (.ext i e) ρ D = (ev Φ e ρ D).bind fun r => (chgO (pExt r.1) i ρ r.2).map fun z => (.nx, z.1, z.2) := rfl
@[simp] theorem ex_ins : ex Φ (.ins i k e) ρ D = (ev Φ k ρ D).bind fun q => (ev Φ e ρ q.2).bind fun r => (chgO (pInsAt q.1 r.1) i ρ r.2).map fun z => (.nx, z.1, z.2) := rfl
@[simp] theorem ex_rem : ex Φ (.rem i e) ρ D = (ev Φ e ρ D).bind fun r => (chgO (pRem r.1) i ρ r.2).map fun z => (.nx, z.1, z.2) := rfl
theorem ex_whl : ex Φ (.whl c b) ρ D = whlL (fun ρ D => (ev Φ c ρ D).bind fun r => (blOf r.1).map fun z => (z, r.2)) (fun ρ D => exs Φ b ρ D) WH ρ D := rfl
theorem ex_pop0 {p : Pat} : ex Φ (.pop0 p i) ρ D = match ρ[i]? with
    | some (some (true, .lst (y :: xs))) => (bindP p y (ρ.set i (some (true, .lst xs)))).map fun ρ1 => (.nx, ρ1, D)
    | _ => none := rfl
@[simp] theorem ex_expr : ex Φ (.expr e) ρ D = (ev Φ e ρ D).map fun r => (.nx, ρ, r.2) := rfl
@[simp] theorem ex_ret : ex Φ (.ret e) ρ D = (ev Φ e ρ D).map fun r => (.rt r.1, ρ, r.2) := rfl
@[simp] theorem ex_retN : ex Φ .retN ρ D = some (.rt .non, ρ, D) := rfl
@[simp] theorem ex_ife : ex Φ (.ife c a b) ρ D = (ev Φ c ρ D).bind fun r => (blOf r.1).bind fun z => if z then exs Φ a ρ r.2 else exs Φ b ρ r.2 := rfl
@[simp] theorem ex_brk : ex Φ .brk ρ D = some (.bk, ρ, D) := rfl
@[simp] theorem ex_cnt : ex Φ .cnt ρ D = some (.ct, ρ, D) := rfl
@[simp] theorem ex_pass : ex Φ .pass ρ D = some (.nx, ρ, D) := rfl
theorem ex_for {p : Pat} {it : CI} : ex Φ (.for_ p it b) ρ D = (evi Φ it ρ D).bind fun r => forL (fun x ρ D => (bindP p x ρ).bind fun ρ1 => exs Φ b ρ1 D) r.1 ρ r.2 := rfl
end
theorem run_rt {Φ : Fns} {d : Def} {args : List PV} {D D' : DS} {x : PV} {ρ' : Envi} (hl : args.length = d.np) (h : exs Φ d.body (args.map (fun x => some (false, x)) ++ List.replicate (d.nn - d.np) none) D = some (.rt x, ρ', D')) (hD : D'.length = D.length) : d.run Φ args D = some (x, D') := by
  unfold Def.run
  rw [if_pos hl, h, Option.bind_some]
  show (some x).bind _ = _
  rw [Option.bind_some, if_pos hD]
/-- a loop that ends by itself: an invariant by the items done -/
theorem for_inv {f : PV → Envi → DS → XR} {xs : List PV} (I : Nat → Envi → DS → Prop) {ρ : Envi} {D : DS} (h0 : I 0 ρ D) (hs : ∀ (i : Nat) (x : PV) (ρ : Envi) (D : DS), xs[i]? = some x → I i ρ D → ∃ o ρ' D', f x ρ D = some (o, ρ', D') ∧ (o = .nx ∨ o = .ct) ∧ I (i + 1) ρ' D') :
    ∃ ρ' D', forL f xs ρ D = some (.nx, ρ', D') ∧ I xs.length ρ' D' := by
  induction xs generalizing I ρ D with
  | nil => exact ⟨ρ, D, rfl, h0⟩
  | cons x xs ih =>
    obtain ⟨o, ρ1, D1, e1, ho, h1⟩ := hs 0 x ρ D rfl h0
    obtain ⟨ρ2, D2, e2, h2⟩ := ih (fun i => I (i + 1)) h1 fun i y ρ D hy hI => hs (i + 1) y ρ D (by simpa using hy) hI
    refine ⟨ρ2, D2, ?_, by simpa using h2⟩
    rw [forL, e1, Option.bind_some]
    rcases ho with rfl | rfl
    · exact e2
    · exact e2
/-- a while loop: an invariant by a measure -/
theorem while_inv {c : Envi → DS → Option (Bool × DS)} {f : Envi → DS → XR} {P : Envi → DS → Prop} (I : Nat → Envi → DS → Prop) (hs : ∀ (m : Nat) (ρ : Envi) (D : DS), I m ρ D → (∃ D', c ρ D = some (false, D') ∧ P ρ D') ∨ ∃ D1 ρ' D' m', c ρ D = some (true, D1) ∧ m = m' + 1 ∧ f ρ D1 = some (.nx, ρ', D') ∧ I m' ρ' D') :
    ∀ (m n : Nat) (ρ : Envi) (D : DS), m < n → I m ρ D → ∃ ρ' D', whlL c f n ρ D = some (.nx, ρ', D') ∧ P ρ' D' := by
  intro m
  induction m with
  | zero =>
    intro n ρ D hn h
    cases n with
    | zero => omega
    | succ n =>
      rcases hs 0 ρ D h with ⟨D', e, p⟩ | ⟨D1, ρ', D', m', e, z, _, _⟩
      · refine ⟨ρ, D', ?_, p⟩
        rw [whlL, e, Option.bind_some]
        rfl
      · omega
  | succ m ih =>
    intro n ρ D hn h
    cases n with
    | zero => omega
    | succ n =>
      rcases hs (m + 1) ρ D h with ⟨D', e, p⟩ | ⟨D1, ρ', D', m', e, z, e2, h2⟩
      · refine ⟨ρ, D', ?_, p⟩
        rw [whlL, e, Option.bind_some]
        rfl
      · obtain rfl : m' = m := by omega
        obtain ⟨ρ2, D2, e3, p⟩ := ih n ρ' D' (by omega) h2
        refine ⟨ρ2, D2, ?_, p⟩
        rw [whlL, e, Option.bind_some]
        show ((f ρ D1).bind _) = _
        rw [e2, Option.bind_some]
        exact e3
/-! ### values -/
section
variable {D : DS}
@[simp] theorem opd_int {i : Int} : opd D (.int i) = some (.int i) := rfl
@[simp] theorem opd_bl {i : Bool} : opd D (.bl i) = some (.bl i) := rfl
@[simp] theorem opd_non : opd D .non = some .non := rfl
@[simp] theorem opd_str {i : Str} : opd D (.str i) = some (.str i) := rfl
@[simp] theorem opd_lst {i : List PV} : opd D (.lst i) = some (.lst i) := rfl
@[simp] theorem opd_tup {i : List PV} : opd D (.tup i) = some (.tup i) := rfl
@[simp] theorem opd_dct {t : Nat} {i : List (PV × PV)} : opd D (.dct t i) = some (.dct t i) := rfl
@[simp] theorem opd_scr {i : List Int} : opd D (.scr i) = some (.scr i) := rfl
@[simp] theorem mapO_nil {α β : Type} {f : α → Option β} : mapO f [] = some [] := rfl
@[simp] theorem mapO_cons {α β : Type} {f : α → Option β} {x : α} {xs : List α} : mapO f (x :: xs) = (f x).bind fun y => (mapO f xs).bind fun ys => some (y :: ys) := rfl
@[simp] theorem blOf_bl {b : Bool} : blOf (.bl b) = some b := rfl
@[simp] theorem intOf_int {b : Int} : intOf (.int b) = some b := rfl
@[simp] theorem seqOf_lst {b : List PV} : seqOf (.lst b) = some b := rfl
@[simp] theorem seqOf_tup {b : List PV} : seqOf (.tup b) = some b := rfl
@[simp] theorem itOf_lst {b : List PV} : itOf (.lst b) = some b := rfl
@[simp] theorem itOf_tup {b : List PV} : itOf (.tup b) = some b := rfl
end
section
variable {ns ms : List Int} {i j : Int}
theorem shp_ints {n : Nat} : ∀ ns : List Int, (ns.map PV.int).all (shp n) = true
  | [] => rfl
  | _ :: r => by rw [List.map_cons, List.all_cons, shp_ints r]; cases n <;> rfl
@[simp] theorem shp_int {n : Nat} : shp n (.int i) = true := by cases n <;> rfl
@[simp] theorem shp_bl {n : Nat} {b : Bool} : shp n (.bl b) = true := by cases n <;> rfl
@[simp] theorem shp_non {n : Nat} : shp n .non = true := by cases n <;> rfl
@[simp] theorem peq_int : peq (.int i) (.int j) = (i == j) := by rw [peq]
theorem any_peq : ∀ ns : List Int, ((ns.map PV.int).any fun y => peq y (.int i)) = decide (i ∈ ns)
  | [] => rfl
  | n :: r => by
    rw [List.map_cons, List.any_cons, any_peq r, peq_int]
    by_cases h : n = i
    · subst h; simp
    · have : ¬ i = n := fun e => h e.symm
      simp [h, this]
@[simp] theorem pIn_tup : pIn (.int i) (.tup (ns.map .int)) = some (decide (i ∈ ns)) := by
  show (if (shp DEP (.int i) && (ns.map PV.int).all (shp DEP)) = true then some ((ns.map PV.int).any fun y => peq y (.int i)) else none) = _
  rw [shp_int, shp_ints, any_peq]; rfl
@[simp] theorem pIn_lst : pIn (.int i) (.lst (ns.map .int)) = some (decide (i ∈ ns)) := by
  show (if (shp DEP (.int i) && (ns.map PV.int).all (shp DEP)) = true then some ((ns.map PV.int).any fun y => peq y (.int i)) else none) = _
  rw [shp_int, shp_ints, any_peq]; rfl
@[simp] theorem pEq_int : pEq (.int i) (.int j) = some (i == j) := by
  show (if (shp DEP (.int i) && shp DEP (.int j)) = true then some (peq (.int i) (.int j)) else none) = _
  simp
@[simp] theorem pLt_int : pLt (.int i) (.int j) = some (decide (i < j)) := by
  show (if (shp DEP (.int i) && shp DEP (.int j) && cmpOk (.int i) (.int j)) = true then some (plt (.int i) (.int j)) else none) = _
  simp [cmpOk, plt]
/-- the ints a .. b - 1 -/
def rg (a b : Int) : List Int := (List.range (b - a).toNat).map fun (k : Nat) => a + k
theorem rngL_rg (a b : Int) : rngL a b = (rg a b).map .int := by unfold rngL rg; rw [List.map_map]; rfl
theorem mem_rg {a b x : Int} : x ∈ rg a b ↔ a ≤ x ∧ x < b := by
  unfold rg
  rw [List.mem_map]
  constructor
  · rintro ⟨k, hk, rfl⟩
    have := List.mem_range.mp hk
    omega
  · rintro ⟨h1, h2⟩
    exact ⟨(x - a).toNat, List.mem_range.mpr (by omega), by omega⟩
end
end MP

/-! MP law: the defs that all laws share. -/
namespace MP
open PySem

/-! ### draws -/
/-- the law's dict of draws -/
def wD (ds : List Int) (at_ : Int) : PV := .dct 0 [(.str "draws", .lst (ds.map .int)), (.str "at", .int at_)]
def Wst (D : DS) : Prop := ∃ (ds : List Int) (at_ : Int), D = [wD ds at_] ∧ 0 ≤ at_ ∧ ∀ d ∈ ds, 0 ≤ d
def cNext : CSs := (.cons (.augI 0 (.str "at") .add (.int 1))
 (.cons (.ife (.cmp .gt (.idx (.var 0) (.str "at")) (.bi .len (.cons (.idx (.var 0) (.str "draws")) .nil))) (.cons (.ret (.int 0))
 .nil) .nil)
 (.cons (.ret (.bin .mod (.bi .int (.cons (.idx (.idx (.var 0) (.str "draws")) (.bin .sub (.idx (.var 0) (.str "at")) (.int 1))) .nil)) (.var 1)))
 .nil)))
theorem k1 : peq (.str "draws") (.str "at") = false := by decide +kernel
theorem k2 : peq (.str "draws") (.str "draws") = true := by decide +kernel
theorem k3 : peq (.str "at") (.str "at") = true := by decide +kernel
theorem k4 : peq (.str "at") (.str "draws") = false := by decide +kernel
theorem idx_at (ds : List Int) (a : Int) : pIdx (wD ds a) (.str "at") = some (.int a) := by
  show (if isKey 0 (.str "at") = true then dGet (.str "at") _ else none) = _
  rw [if_pos (show isKey 0 (.str "at") = true from rfl), dGet, k1, if_neg Bool.false_ne_true, dGet, k3]
  rfl
theorem idx_dr (ds : List Int) (a : Int) : pIdx (wD ds a) (.str "draws") = some (.lst (ds.map .int)) := by
  show (if isKey 0 (.str "draws") = true then dGet (.str "draws") _ else none) = _
  rw [if_pos (show isKey 0 (.str "draws") = true from rfl), dGet, k2]
  rfl
theorem set_at (ds : List Int) (a b : Int) : pSet (wD ds a) (.str "at") (.int b) = some (wD ds b) := by
  show (if (isKey 0 (.str "at") && decide (2 < LIM)) = true then some (PV.dct 0 (dPut (.str "at") (.int b) _)) else none) = _
  rw [if_pos (by decide)]
  unfold dPut
  simp [k1, k3, wD]
theorem isLD_w (ds : List Int) (a : Int) : isLD (wD ds a) = true := rfl
theorem opd_w (ds : List Int) (a : Int) : opd [wD ds a] (.shr 0) = some (wD ds a) := rfl
theorem ixN_ok {n : Nat} {i : Int} (h0 : 0 ≤ i) (h1 : i < n) : ixN n i = some i.toNat := by
  unfold ixN
  rw [if_pos h0, if_pos h1]
theorem next_ok {Φ : Fns} {D : DS} {m : Int} (h : Wst D) (hm : 0 < m) : ∃ r D', (Def.mk 2 2 cNext).run Φ [.shr 0, .int m] D = some (.int r, D') ∧ 0 ≤ r ∧ r < m ∧ Wst D' := by
  obtain ⟨ds, a, rfl, ha, hd⟩ := h
  have e1 : ex Φ (.augI 0 (.str "at") .add (.int 1)) [some (false, .shr 0), some (false, .int m)] [wD ds a] = some (.nx, [some (false, .shr 0), some (false, .int m)], [wD ds (a + 1)]) := by
    simp [borS, opd_w, isLD_w, idx_at, pIp, chg, set_at]
  by_cases hl : a + 1 > ds.length
  · refine ⟨0, [wD ds (a + 1)], ?_, Int.le_refl _, hm, ds, a + 1, rfl, by omega, hd⟩
    refine run_rt (ρ' := [some (false, .shr 0), some (false, .int m)]) rfl ?_ rfl
    show exs Φ cNext [some (false, .shr 0), some (false, .int m)] _ = _
    unfold cNext
    rw [xs_nx e1]
    have e2 : ev Φ (.cmp .gt (.idx (.var 0) (.str "at")) (.bi .len (.cons (.idx (.var 0) (.str "draws")) .nil))) [some (false, .shr 0), some (false, .int m)] [wD ds (a + 1)] = some (.bl true, [wD ds (a + 1)]) := by
      simp [getS, opd_w, idx_at, idx_dr, pBi, pCmp]
      omega
    rw [exs_cons, ex_ife, e2]
    rfl
  · have hr : ∃ d, ds[a.toNat]? = some d := ⟨ds[a.toNat]'(by omega), List.getElem?_eq_getElem _⟩
    obtain ⟨d, hdd⟩ := hr
    have hd0 := hd d (List.mem_of_getElem? hdd)
    refine ⟨d.fmod m, [wD ds (a + 1)], ?_, Int.fmod_nonneg_of_pos _ hm, Int.fmod_lt_of_pos _ hm, ds, a + 1, rfl, by omega, hd⟩
    refine run_rt (ρ' := [some (false, .shr 0), some (false, .int m)]) rfl ?_ rfl
    show exs Φ cNext [some (false, .shr 0), some (false, .int m)] _ = _
    unfold cNext
    rw [xs_nx e1]
    have e2 : ev Φ (.cmp .gt (.idx (.var 0) (.str "at")) (.bi .len (.cons (.idx (.var 0) (.str "draws")) .nil))) [some (false, .shr 0), some (false, .int m)] [wD ds (a + 1)] = some (.bl false, [wD ds (a + 1)]) := by
      simp [getS, opd_w, idx_at, idx_dr, pBi, pCmp]
      omega
    have e3 : ev Φ (.bin .mod (.bi .int (.cons (.idx (.idx (.var 0) (.str "draws")) (.bin .sub (.idx (.var 0) (.str "at")) (.int 1))) .nil)) (.var 1)) [some (false, .shr 0), some (false, .int m)] [wD ds (a + 1)] = some (.int (d.fmod m), [wD ds (a + 1)]) := by
      have ix : pIdx (.lst (ds.map .int)) (.int a) = some (.int d) := by
        show (ixN (ds.map PV.int).length a).bind (fun j => (ds.map PV.int)[j]?) = _
        rw [List.length_map, ixN_ok ha (by omega), Option.bind_some, List.getElem?_map, hdd]
        rfl
      have hm0 : m ≠ 0 := by omega
      simp [getS, opd_w, idx_at, idx_dr, pBi, pBin, ix, hm0]
    rw [exs_cons, ex_ife, e2]
    show exs Φ (.cons _ .nil) _ _ = _
    rw [exs_cons, ex_ret, e3]
    rfl
def cDr2 : CSs := (.cons (.ife (.cmp .gt (.var 6) (.int 0)) (.cons (.app 2 (.bin .mod (.bi .int (.cons (.var 6) .nil)) (.int 997)))
 (.cons (.asg false 6 (.bin .div (.var 6) (.int 997)))
 .nil)) .nil)
 .nil)
def cDr1 : CSs := (.cons (.asg false 5 (.bi .abs (.cons (.bi .int (.cons (.idx (.var 0) (.var 4)) .nil)) .nil)))
 (.cons (.asg false 3 (.bin .mod (.bi .int (.cons (.bin .add (.bin .add (.bin .mul (.var 3) (.int 48271)) (.bin .mod (.var 5) (.int 1000003))) (.var 4)) .nil)) (.int 65537)))
 (.cons (.asg false 6 (.int 0))
 (.cons (.ife (.cmp .ge (.var 5) (.bin .pow (.int 10) (.int 18))) (.cons (.asg false 6 (.var 5))
 .nil) (.cons (.app 2 (.bin .mod (.bi .int (.cons (.var 5) .nil)) (.int 997)))
 (.cons (.app 2 (.bin .mod (.bin .mod (.bi .int (.cons (.bin .add (.bin .mul (.var 3) (.int 69621)) (.int 5)) .nil)) (.int 65521)) (.int 997)))
 .nil)))
 (.cons (.for_ (.nm 7) (.rng1 (.int 60)) cDr2)
 .nil)))))
def cDr3 : CSs := (.cons (.asg false 3 (.bin .mod (.bi .int (.cons (.bin .add (.bin .add (.bin .mul (.var 3) (.int 16807)) (.var 4)) (.int 1)) .nil)) (.int 65537)))
 (.cons (.app 2 (.bin .mod (.bi .int (.cons (.var 3) .nil)) (.int 997)))
 .nil))
def cDraws : CSs := (.cons (.asg true 2 (.lst .nil))
 (.cons (.asg false 3 (.int 7))
 (.cons (.for_ (.nm 4) (.rng1 (.bi .len (.cons (.var 0) .nil))) cDr1)
 (.cons (.for_ (.nm 4) (.rng1 (.var 1)) cDr3)
 (.cons (.ret (.cut (.bor 2) .nil (.cons (.var 1) .nil)))
 .nil)))))
theorem mul_ok {a b : Int} (h : b.natAbs < 1000000) : pBin .mul (.int a) (.int b) = some (.int (a * b)) := by
  show (if (-two64 < a ∧ a < two64) ∨ (-two64 < b ∧ b < two64) then some (PV.int (a * b)) else none) = _
  rw [if_pos]
  right
  unfold two64
  omega
theorem mod_ok {a b : Int} (h : b ≠ 0) : pBin .mod (.int a) (.int b) = some (.int (a.fmod b)) := by
  show (if b ≠ 0 then some (PV.int (a.fmod b)) else none) = _
  rw [if_pos h]
theorem div_ok {a b : Int} (h : b ≠ 0) (h2 : b.natAbs < 1073741824) : pBin .div (.int a) (.int b) = some (.int (a.fdiv b)) := by
  show (if b ≠ 0 ∧ b.natAbs < 1073741824 then some (PV.int (a.fdiv b)) else none) = _
  rw [if_pos ⟨h, h2⟩]
@[simp] theorem add_ok {a b : Int} : pBin .add (.int a) (.int b) = some (.int (a + b)) := rfl
@[simp] theorem sub_ok {a b : Int} : pBin .sub (.int a) (.int b) = some (.int (a - b)) := rfl
theorem app_ok {xs : List PV} {v : PV} (h : xs.length < LIM) : pApp v (.lst xs) = some (.lst (xs ++ [v])) := by
  show (if xs.length < LIM then some (PV.lst (xs ++ [v])) else none) = _
  rw [if_pos h]
/-- the state of the draws' def -/
def drI (q0 : Int) (ns : List Int) (D0 : DS) (k : Nat) (ρ : Envi) (D : DS) : Prop := ∃ (ds : List Int) (m : Int) (x4 x5 x6 x7 : Option (Bool × PV)), ρ = [some (false, .scr ns), some (false, .int q0), some (true, .lst (ds.map .int)), some (false, .int m), x4, x5, x6, x7] ∧ D = D0 ∧ (∀ d ∈ ds, 0 ≤ d) ∧ ds.length ≤ k
theorem pow18 : pBin .pow (.int 10) (.int 18) = some (.int 1000000000000000000) := by rfl
theorem draws_ok {q0 : Int} {Φ : Fns} {ns : List Int} {D0 : DS} (hn : ns.length ≤ 63) (q1 : 0 ≤ q0 := by decide) (q2 : q0 ≤ 1000 := by decide) : ∃ ds : List Int, (Def.mk 8 2 cDraws).run Φ [.scr ns, .int q0] D0 = some (.lst (ds.map .int), D0) ∧ ∀ d ∈ ds, 0 ≤ d := by
  have h997 : ∀ a : Int, 0 ≤ a.fmod 997 := fun a => Int.fmod_nonneg_of_pos _ (by decide)
  have rgk : ∀ n : Int, 0 ≤ n → n ≤ 1000 → rngOk 0 n = true := fun n h1 h2 => by
    unfold rngOk
    have : ((LIM : Nat) : Int) = 1000000 := rfl
    exact decide_eq_true (by omega)
  -- the inner loop
  have inner : ∀ (K : Nat) (ds : List Int) (m : Int) (x4 x5 x7 : Option (Bool × PV)) (rest : Int), (∀ d ∈ ds, 0 ≤ d) → ds.length ≤ K → K ≤ 100000 →
      ∃ ρ' D', forL (fun x ρ D => (bindP (.nm 7) x ρ).bind fun ρ1 => exs Φ cDr2 ρ1 D) (rngL 0 60)
        [some (false, .scr ns), some (false, .int q0), some (true, .lst (ds.map .int)), some (false, .int m), x4, x5, some (false, .int rest), x7] D0 = some (.nx, ρ', D') ∧ drI q0 ns D0 (K + 60) ρ' D' := by
    intro K ds m x4 x5 x7 rest hd hl hK
    obtain ⟨ρ', D', e, ds', m', r', x7', hρ, hD, h1, h2⟩ := for_inv (f := fun x ρ D => (bindP (.nm 7) x ρ).bind fun ρ1 => exs Φ cDr2 ρ1 D) (xs := rngL 0 60)
      (I := fun i ρ D => ∃ (ds : List Int) (m : Int) (r : Int) (x7 : Option (Bool × PV)), ρ = [some (false, .scr ns), some (false, .int q0), some (true, .lst (ds.map .int)), some (false, .int m), x4, x5, some (false, .int r), x7] ∧ D = D0 ∧ (∀ d ∈ ds, 0 ≤ d) ∧ ds.length ≤ K + i)
      (h0 := ⟨ds, m, rest, x7, rfl, rfl, hd, hl⟩) (fun i x ρ D hx ⟨ds, m, r, x7, hρ, hD, hd, hl⟩ => by
        subst hρ hD
        have hi : i < 60 := by
          have := (List.getElem?_eq_some_iff.mp hx).1
          simpa [rngL] using this
        have hlen : (ds.map PV.int).length < LIM := by rw [List.length_map]; have : LIM = 1000000 := rfl; omega
        by_cases hr : 0 < r
        · refine ⟨.nx, [some (false, .scr ns), some (false, .int q0), some (true, .lst ((ds ++ [r.fmod 997]).map .int)), some (false, .int m), x4, x5, some (false, .int (r.fdiv 997)), some (false, x)], D, ?_, .inl rfl, ds ++ [r.fmod 997], m, _, _, rfl, rfl, ?_, ?_⟩
          · simp [cDr2, bindP, getS, pCmp, hr, pBi, mod_ok, div_ok, chgO, app_ok hlen]
          · intro d hd'
            rcases List.mem_append.mp hd' with h | h
            · exact hd d h
            · rw [List.mem_singleton.mp h]; exact h997 r
          · rw [List.length_append, List.length_singleton]; omega
        · refine ⟨.nx, [some (false, .scr ns), some (false, .int q0), some (true, .lst (ds.map .int)), some (false, .int m), x4, x5, some (false, .int r), some (false, x)], D, ?_, .inl rfl, ds, m, _, _, rfl, rfl, hd, by omega⟩
          simp [cDr2, bindP, getS, pCmp, hr])
    have hl60 : (rngL 0 60).length = 60 := by simp [rngL]
    exact ⟨ρ', D', e, ds', m', _, _, _, _, hρ, hD, h1, by omega⟩
  -- the first loop
  obtain ⟨ρ1, D1, e1, ds1, m1, y4, y5, y6, y7, hρ1, hD1, h1, h2⟩ := for_inv (f := fun x ρ D => (bindP (.nm 4) x ρ).bind fun ρ1 => exs Φ cDr1 ρ1 D) (xs := rngL 0 ns.length)
    (I := fun i ρ D => drI q0 ns D0 (62 * i) ρ D) (h0 := ⟨[], 7, none, none, none, none, rfl, rfl, by simp, by simp⟩) (fun i x ρ D hx ⟨ds, m, x4, x5, x6, x7, hρ, hD, hd, hl⟩ => by
      subst hρ hD
      have hi : i < ns.length := by
        have := (List.getElem?_eq_some_iff.mp hx).1
        simpa [rngL] using this
      have hxi : x = .int i := by
        unfold rngL at hx
        rw [List.getElem?_map, List.getElem?_range (by simpa using hi)] at hx
        simpa using (Option.some.inj hx).symm
      subst hxi
      have ix : pIdx (.scr ns) (.int i) = some (.int ns[i]) := by
        show (ixN ns.length (i : Int)).bind (fun j => (ns[j]?).map PV.int) = _
        rw [ixN_ok (by omega) (by omega), Option.bind_some]
        simp [hi]
      have hlen : (ds.map PV.int).length < LIM := by rw [List.length_map]; have : LIM = 1000000 := rfl; omega
      generalize hcell : (if ns[i] < 0 then -ns[i] else ns[i]) = cell
      have hc0 : 0 ≤ cell := by rw [← hcell]; split <;> omega
      by_cases hbig : 1000000000000000000 ≤ cell
      · obtain ⟨ρ', D', e, hI⟩ := inner (62 * i) ds ((m * 48271 + cell.fmod 1000003 + i).fmod 65537) (some (false, .int i)) (some (false, .int cell)) x7 cell hd hl (by omega)
        refine ⟨.nx, ρ', D', ?_, .inl rfl, ?_⟩
        · simp [cDr1, bindP, getS, ix, pBi, hcell, mul_ok, mod_ok, pow18, pCmp, hbig, ex_for, rgk]
          simp [bindP] at e
          rw [e]
          rfl
        · obtain ⟨a1, a2, a3, a4, a5, a6, a7, a8, a9, a10⟩ := hI
          exact ⟨a1, a2, a3, a4, a5, a6, a7, a8, a9, by omega⟩
      · have hl2 : ((ds ++ [cell.fmod 997]).map PV.int).length < LIM := by rw [List.length_map, List.length_append, List.length_singleton]; have : LIM = 1000000 := rfl; omega
        obtain ⟨ρ', D', e, hI⟩ := inner (62 * i + 2) (ds ++ [cell.fmod 997] ++ [(((m * 48271 + cell.fmod 1000003 + i).fmod 65537 * 69621 + 5).fmod 65521).fmod 997]) ((m * 48271 + cell.fmod 1000003 + i).fmod 65537) (some (false, .int i)) (some (false, .int cell)) x7 0
          (by
            intro d hd'
            rcases List.mem_append.mp hd' with h | h
            · rcases List.mem_append.mp h with h | h
              · exact hd d h
              · rw [List.mem_singleton.mp h]; exact h997 _
            · rw [List.mem_singleton.mp h]; exact h997 _) (by rw [List.length_append, List.length_append, List.length_singleton, List.length_singleton]; omega) (by omega)
        refine ⟨.nx, ρ', D', ?_, .inl rfl, ?_⟩
        · simp [cDr1, bindP, getS, ix, pBi, hcell, mul_ok, mod_ok, pow18, pCmp, hbig, ex_for, rgk, chgO, app_ok hlen]
          rw [app_ok (by simpa using hl2)]
          simp [bindP] at e ⊢
          rw [e]
          rfl
        · obtain ⟨a1, a2, a3, a4, a5, a6, a7, a8, a9, a10⟩ := hI
          exact ⟨a1, a2, a3, a4, a5, a6, a7, a8, a9, by omega⟩)
  -- the second loop
  obtain ⟨ρ2, D2, e2, ds2, m2, z4, z5, z6, z7, hρ2, hD2, h3, h4⟩ := for_inv (f := fun x ρ D => (bindP (.nm 4) x ρ).bind fun ρ1 => exs Φ cDr3 ρ1 D) (xs := rngL 0 q0)
    (I := fun i ρ D => drI q0 ns D0 (62 * ns.length + i) ρ D) (h0 := ⟨ds1, m1, y4, y5, y6, y7, hρ1, hD1, h1, by simpa [rngL] using h2⟩) (fun i x ρ D hx ⟨ds, m, x4, x5, x6, x7, hρ, hD, hd, hl⟩ => by
      subst hρ hD
      have hi : i < q0.toNat := by
        have := (List.getElem?_eq_some_iff.mp hx).1
        simpa [rngL] using this
      have hxi : x = .int i := by
        unfold rngL at hx
        rw [List.getElem?_map, List.getElem?_range (by simpa using hi)] at hx
        simpa using (Option.some.inj hx).symm
      subst hxi
      have hlen : (ds.map PV.int).length < LIM := by rw [List.length_map]; have : LIM = 1000000 := rfl; omega
      refine ⟨.nx, [some (false, .scr ns), some (false, .int q0), some (true, .lst ((ds ++ [((m * 16807 + i + 1).fmod 65537).fmod 997]).map .int)), some (false, .int ((m * 16807 + i + 1).fmod 65537)), some (false, .int i), x5, x6, x7], D, ?_, .inl rfl, _, _, _, _, _, _, rfl, rfl, ?_, ?_⟩
      · simp [cDr3, bindP, getS, pBi, mul_ok, mod_ok, chgO, app_ok hlen]
      · intro d hd'
        rcases List.mem_append.mp hd' with h | h
        · exact hd d h
        · rw [List.mem_singleton.mp h]; exact h997 _
      · rw [List.length_append, List.length_singleton]; omega)
  subst hρ2 hD2
  refine ⟨ds2.take (min q0.toNat ds2.length), run_rt (ρ' := [some (false, .scr ns), some (false, .int q0), some (true, .lst (ds2.map .int)), some (false, .int m2), z4, z5, z6, z7]) rfl ?_ rfl, fun d hd => h3 d (List.mem_of_mem_take hd)⟩
  · show exs Φ cDraws [some (false, .scr ns), some (false, .int q0), none, none, none, none, none, none] D2 = _
    have s1 : ex Φ (.for_ (.nm 4) (.rng1 (.bi .len (.cons (.var 0) .nil))) cDr1) [some (false, .scr ns), some (false, .int q0), some (true, .lst []), some (false, .int 7), none, none, none, none] D2 = some (.nx, ρ1, D1) := by
      have q : evi Φ (.rng1 (.bi .len (.cons (.var 0) .nil))) [some (false, .scr ns), some (false, .int q0), some (true, .lst []), some (false, .int 7), none, none, none, none] D2 = some (rngL 0 ns.length, D2) := by
        simp [getS, pBi, rgk ns.length (by omega) (by omega)]
      rw [ex_for, q, Option.bind_some]
      exact e1
    have s2 : ex Φ (.for_ (.nm 4) (.rng1 (.var 1)) cDr3) ρ1 D1 = some (.nx, [some (false, .scr ns), some (false, .int q0), some (true, .lst (ds2.map .int)), some (false, .int m2), z4, z5, z6, z7], D2) := by
      have q : evi Φ (.rng1 (.var 1)) ρ1 D1 = some (rngL 0 q0, D1) := by
        subst hρ1
        simp [getS, rgk q0 q1 q2]
      rw [ex_for, q, Option.bind_some]
      exact e2
    unfold cDraws
    rw [xs_nx (show ex Φ _ _ _ = some (.nx, [some (false, .scr ns), some (false, .int q0), some (true, .lst []), none, none, none, none, none], D2) from rfl),
      xs_nx (show ex Φ _ _ _ = some (.nx, [some (false, .scr ns), some (false, .int q0), some (true, .lst []), some (false, .int 7), none, none, none, none], D2) from rfl), xs_nx s1, xs_nx s2]
    simp [borS, pCut, cutL, cutN, getS, show ¬ q0 < 0 by omega]
end MP

/-! MP srt: strictly rising lists of ints. -/
namespace MP
open PySem
abbrev Srt (xs : List Int) : Prop := xs.Pairwise (· < ·)
theorem srt_ext : ∀ {xs ys : List Int}, Srt xs → Srt ys → (∀ x, x ∈ xs ↔ x ∈ ys) → xs = ys
  | [], [], _, _, _ => rfl
  | [], y :: ys, _, _, h => absurd ((h y).mpr List.mem_cons_self) (by simp)
  | x :: xs, [], _, _, h => absurd ((h x).mp List.mem_cons_self) (by simp)
  | x :: xs, y :: ys, hx, hy, h => by
    have hx1 := List.pairwise_cons.mp hx
    have hy1 := List.pairwise_cons.mp hy
    have e : x = y := by
      rcases List.mem_cons.mp ((h x).mp List.mem_cons_self) with e | m
      · exact e
      · rcases List.mem_cons.mp ((h y).mpr List.mem_cons_self) with e | m2
        · exact e.symm
        · have := hx1.1 y m2
          have := hy1.1 x m
          omega
    subst e
    congr 1
    refine srt_ext hx1.2 hy1.2 fun z => ⟨fun m => ?_, fun m => ?_⟩
    · rcases List.mem_cons.mp ((h z).mp (List.mem_cons_of_mem _ m)) with e | m2
      · have := hx1.1 z m; omega
      · exact m2
    · rcases List.mem_cons.mp ((h z).mpr (List.mem_cons_of_mem _ m)) with e | m2
      · have := hy1.1 z m; omega
      · exact m2
theorem srt_rg (a b : Int) : Srt (rg a b) := by
  unfold rg
  refine List.Pairwise.map _ (fun x y (h : x < y) => ?_) List.pairwise_lt_range
  omega
theorem srt_filter {xs : List Int} (p : Int → Bool) (h : Srt xs) : Srt (xs.filter p) := h.sublist List.filter_sublist
theorem head_srt {xs : List Int} {r : Int} (h : Srt xs) (hm : r ∈ xs) (hl : ∀ x ∈ xs, r ≤ x) : xs[0]? = some r := by
  cases xs with
  | nil => exact absurd hm (by simp)
  | cons x xs =>
    rcases List.mem_cons.mp hm with e | m
    · subst e; rfl
    · have := (List.pairwise_cons.mp h).1 r m
      have := hl x List.mem_cons_self
      omega
theorem last_srt : ∀ {xs : List Int} {r : Int}, Srt xs → r ∈ xs → (∀ x ∈ xs, x ≤ r) → xs[xs.length - 1]? = some r
  | [], _, _, hm, _ => absurd hm (by simp)
  | [x], r, _, hm, _ => by
    rw [List.mem_singleton.mp hm]; rfl
  | x :: y :: xs, r, h, hm, hl => by
    have h1 := List.pairwise_cons.mp h
    have hr : r ∈ y :: xs := by
      rcases List.mem_cons.mp hm with e | m
      · have := h1.1 y List.mem_cons_self
        have := hl y (List.mem_cons_of_mem _ List.mem_cons_self)
        omega
      · exact m
    have := last_srt h1.2 hr fun z hz => hl z (List.mem_cons_of_mem _ hz)
    simpa using this
theorem mem_insU {x y : Int} : ∀ {r : List Int}, y ∈ insU x r ↔ y = x ∨ y ∈ r
  | [] => by simp [insU]
  | z :: r => by
    unfold insU
    split
    · simp
    · split
      · rename_i h; subst h; simp
      · simp [mem_insU (r := r)]
        constructor <;> rintro (h | h | h) <;> simp [h]
theorem srt_insU {x : Int} : ∀ {r : List Int}, Srt r → Srt (insU x r)
  | [], _ => by simp [insU]
  | z :: r, h => by
    have h1 := List.pairwise_cons.mp h
    unfold insU
    split
    · refine List.pairwise_cons.mpr ⟨fun y hy => ?_, h⟩
      rcases List.mem_cons.mp hy with e | m
      · omega
      · have := h1.1 y m; omega
    · split
      · exact h
      · refine List.pairwise_cons.mpr ⟨fun y hy => ?_, srt_insU h1.2⟩
        rcases mem_insU.mp hy with e | m
        · omega
        · exact h1.1 y m
theorem srt_sset : ∀ ns : List Int, Srt (sset ns)
  | [] => List.Pairwise.nil
  | n :: ns => srt_insU (srt_sset ns)
theorem mem_sset {y : Int} : ∀ {ns : List Int}, y ∈ sset ns ↔ y ∈ ns
  | [] => by simp [sset]
  | n :: ns => by
    show y ∈ insU n (sset ns) ↔ _
    rw [mem_insU, mem_sset (ns := ns), List.mem_cons]
/-- a rising list within bounds is short -/
theorem srt_len {a b : Int} : ∀ {xs : List Int}, Srt xs → (∀ x ∈ xs, a ≤ x ∧ x < b) → a ≤ b → (xs.length : Int) ≤ b - a
  | [], _, _, h => by simp; omega
  | x :: xs, h, hb, hab => by
    have h1 := List.pairwise_cons.mp h
    have hx := hb x List.mem_cons_self
    have := srt_len (a := x + 1) (b := b) h1.2 (fun y hy => ⟨by have := h1.1 y hy; omega, (hb y (List.mem_cons_of_mem _ hy)).2⟩) (by omega)
    simp
    omega
theorem mapO_pints : ∀ ns : List Int, mapO intOf (ns.map .int) = some ns
  | [] => rfl
  | n :: ns => by rw [List.map_cons, mapO, mapO_pints ns]; rfl
theorem sortedSet_tup {ns : List Int} (h : ns.length ≤ 4000) (h2 : (sset ns).length < 64) : pBi .sortedSet [.tup (ns.map .int)] = some (.lst ((sset ns).map .int)) := by
  show ((some (ns.map PV.int)).bind fun xs => (mapO intOf xs).bind _) = _
  rw [Option.bind_some, mapO_pints, Option.bind_some, if_pos ⟨h, h2⟩]
theorem sortedSet_lst {ns : List Int} (h : ns.length ≤ 4000) (h2 : (sset ns).length < 64) : pBi .sortedSet [.lst (ns.map .int)] = some (.lst ((sset ns).map .int)) := by
  show ((some (ns.map PV.int)).bind fun xs => (mapO intOf xs).bind _) = _
  rw [Option.bind_some, mapO_pints, Option.bind_some, if_pos ⟨h, h2⟩]
/-! ### sorting ints -/
theorem cmpOk_ints {ns : List Int} {m : Int} : ((ns.map PV.int).all fun y => cmpOk (.int m) y) = true := by
  rw [List.all_map, List.all_eq_true]; intro x _; rfl
theorem ordOk_ints (ns : List Int) : ordOk (ns.map .int) = true := by
  unfold ordOk
  rw [List.all_eq_true]
  intro x hx
  obtain ⟨n, _, rfl⟩ := List.mem_map.mp hx
  rw [shp_int, cmpOk_ints]; rfl
theorem srtOk_ints (ns : List Int) : srtOk (ns.map .int) = true := by
  unfold srtOk
  rw [Bool.or_eq_true]
  right
  rw [List.all_map, List.all_eq_true]; intro x _; rfl
/-- a list without doubles, sorted -/
theorem pSort_ints {ns : List Int} (hn : ns.Nodup) : pSort (ns.map .int) = some ((sset ns).map .int) := by
  unfold pSort
  rw [ordOk_ints, srtOk_ints, if_pos (show (true && true) = true from rfl)]
  congr 1
  have e : ((ns.map PV.int).mergeSort fun a b => !plt b a) = (ns.mergeSort fun a b => decide (a ≤ b)).map .int := by
    refine (List.map_mergeSort ?_).symm
    intro a _ b _
    by_cases h : a ≤ b
    · have : ¬ b < a := by omega
      simp [plt, h, this]
    · have : b < a := by omega
      simp [plt, h, this]
  rw [e]
  congr 1
  have hp := List.mergeSort_perm ns (fun a b => decide (a ≤ b))
  have hs : (ns.mergeSort fun a b => decide (a ≤ b)).Pairwise (fun a b => decide (a ≤ b) = true) := List.pairwise_mergeSort (fun a b c h1 h2 => by simp at *; omega) (fun a b => by simp; omega) ns
  have hnd : (ns.mergeSort fun a b => decide (a ≤ b)).Nodup := hp.nodup_iff.mpr hn
  refine srt_ext ?_ (srt_sset ns) fun x => by rw [hp.mem_iff, mem_sset]
  refine (hs.and hnd).imp ?_
  rintro a b ⟨h1, h2⟩
  simp at h1
  omega
/-- keys of a dict made from a list of pairs -/
theorem dMerge_keys (v : Int → PV) : ∀ (ns : List Int) (acc : List Int), acc.Nodup → ∃ ks : List Int, ks.Nodup ∧ (∀ x, x ∈ ks ↔ x ∈ acc ∨ x ∈ ns) ∧ ∃ kvs, dMerge (acc.map fun n => (PV.int n, v n)) (ns.map fun n => (PV.int n, v n)) = kvs ∧ kvs = ks.map fun n => (PV.int n, v n)
  | [], acc, h => ⟨acc, h, by simp, _, rfl, rfl⟩
  | n :: ns, acc, h => by
    have ha : ((acc.map fun n => (PV.int n, v n)).any fun p => peq p.1 (.int n)) = decide (n ∈ acc) := by
      have := any_peq (i := n) acc
      rw [← this, List.any_map, List.any_map]; rfl
    have e : dMerge (acc.map fun n => (PV.int n, v n)) ((n :: ns).map fun n => (PV.int n, v n)) = dMerge (dPut (.int n) (v n) (acc.map fun n => (PV.int n, v n))) (ns.map fun n => (PV.int n, v n)) := rfl
    by_cases hm : n ∈ acc
    · obtain ⟨ks, h1, h2, kvs, h3, h4⟩ := dMerge_keys v ns acc h
      refine ⟨ks, h1, fun x => ?_, kvs, ?_, h4⟩
      · rw [h2, List.mem_cons]
        constructor
        · rintro (h | h) <;> simp [h]
        · rintro (h | h | h)
          · exact .inl h
          · subst h; exact .inl hm
          · exact .inr h
      · rw [e, ← h3]
        congr 1
        unfold dPut
        rw [ha, if_pos (by simpa using hm), List.map_map]
        refine List.map_congr_left fun x _ => ?_
        show (if peq (PV.int x) (.int n) = true then (PV.int x, v n) else (PV.int x, v x)) = _
        rw [peq_int]
        by_cases hx : x = n
        · subst hx; simp
        · simp [hx]
    · obtain ⟨ks, h1, h2, kvs, h3, h4⟩ := dMerge_keys v ns (acc ++ [n]) (List.nodup_append.mpr ⟨h, by simp, by
        intro x hx y hy
        rw [List.mem_singleton.mp hy]
        rintro rfl
        exact hm hx⟩)
      refine ⟨ks, h1, fun x => ?_, kvs, ?_, h4⟩
      · rw [h2, List.mem_append, List.mem_singleton, List.mem_cons, or_assoc]
      · rw [e, ← h3]
        congr 1
        unfold dPut
        rw [ha, if_neg (by simpa using hm), List.map_append]
        rfl
/-- a comprehension over ints, with one test -/
theorem lcI {Φ : Fns} {ρ : Envi} {D : DS} {own : List Nat} {ce : CE} {pt : Pat} {ci : CI} {ct : CEs} {ns : List Int} {p : Int → Bool} {g : Int → PV} (hi : evi Φ ci ρ D = some (ns.map .int, D)) (H : ∀ n ∈ ns, st1 Φ own ce pt ct ρ (.int n) D = some (if p n then [g n] else [], D)) :
    ev Φ (.lc1 own ce pt ci ct) ρ D = some (.lst ((ns.filter p).map g), D) := by
  rw [ev_lc1, hi, Option.bind_some, lc_ints H]; rfl
/-- .. with no test -/
theorem lcA {Φ : Fns} {ρ : Envi} {D : DS} {own : List Nat} {ce : CE} {pt : Pat} {ci : CI} {ct : CEs} {ns : List Int} {g : Int → PV} (hi : evi Φ ci ρ D = some (ns.map .int, D)) (H : ∀ n ∈ ns, st1 Φ own ce pt ct ρ (.int n) D = some ([g n], D)) :
    ev Φ (.lc1 own ce pt ci ct) ρ D = some (.lst (ns.map g), D) := by
  rw [lcI (p := fun _ => true) hi (by simpa using H), List.filter_eq_self.mpr (fun _ _ => rfl)]
theorem rngOk_of {a b : Int} (h1 : -100000 ≤ a) (h2 : a ≤ 100000) (h3 : -100000 ≤ b) (h4 : b ≤ 100000) : rngOk a b = true := by
  unfold rngOk
  have : ((LIM : Nat) : Int) = 1000000 := rfl
  exact decide_eq_true (by omega)
/-- draws while a comprehension runs over ints: some of them stay -/
theorem lcW {Φ : Fns} {ρ : Envi} {own : List Nat} {ce : CE} {pt : Pat} {ci : CI} {ct : CEs} {ns : List Int} {D : DS} (Q : Int → Prop) (h : Wst D) (hi : evi Φ ci ρ D = some (ns.map .int, D)) (H : ∀ n ∈ ns, ∀ D, Wst D → ∃ (b : Bool) (D' : DS), st1 Φ own ce pt ct ρ (.int n) D = some (if b then [.int n] else [], D') ∧ Wst D' ∧ (b = true → Q n)) :
    ∃ (ms : List Int) (D' : DS), ev Φ (.lc1 own ce pt ci ct) ρ D = some (.lst (ms.map .int), D') ∧ Wst D' ∧ ms.Sublist ns ∧ ∀ m ∈ ms, Q m := by
  have key : ∀ (ns : List Int) (D : DS), Wst D → (∀ n ∈ ns, ∀ D, Wst D → ∃ (b : Bool) (D' : DS), st1 Φ own ce pt ct ρ (.int n) D = some (if b then [.int n] else [], D') ∧ Wst D' ∧ (b = true → Q n)) → ∃ (ms : List Int) (D' : DS), lcF (st1 Φ own ce pt ct ρ) (ns.map .int) D = some (ms.map .int, D') ∧ Wst D' ∧ ms.Sublist ns ∧ ∀ m ∈ ms, Q m := by
    intro ns
    induction ns with
    | nil => exact fun D h _ => ⟨[], D, rfl, h, List.Sublist.refl _, by simp⟩
    | cons n ns ih =>
      intro D h H
      obtain ⟨b, D1, e1, h1, hq⟩ := H n List.mem_cons_self D h
      obtain ⟨ms, D2, e2, h2, hs, hQ⟩ := ih D1 h1 fun m hm => H m (List.mem_cons_of_mem _ hm)
      cases b with
      | true =>
        refine ⟨n :: ms, D2, ?_, h2, List.Sublist.cons₂ _ hs, fun m hm => ?_⟩
        · rw [List.map_cons, lcF, e1, Option.bind_some, e2]; rfl
        · rcases List.mem_cons.mp hm with e | hm
          · rw [e]; exact hq rfl
          · exact hQ m hm
      | false =>
        refine ⟨ms, D2, ?_, h2, List.Sublist.cons _ hs, hQ⟩
        rw [List.map_cons, lcF, e1, Option.bind_some, e2]; rfl
  obtain ⟨ms, D', e, h1, h2⟩ := key ns D h H
  refine ⟨ms, D', ?_, h1, h2⟩
  rw [ev_lc1, hi, Option.bind_some, e]; rfl
/-- .. and other things are made -/
theorem lcV {α : Type} {Φ : Fns} {ρ : Envi} {own : List Nat} {ce : CE} {pt : Pat} {ci : CI} {ct : CEs} {xs : List PV} {D : DS} (f : α → PV) (Q : α → Prop) (h : Wst D) (hi : evi Φ ci ρ D = some (xs, D)) (H : ∀ x ∈ xs, ∀ D, Wst D → ∃ (l : List α) (D' : DS), st1 Φ own ce pt ct ρ x D = some (l.map f, D') ∧ Wst D' ∧ ∀ y ∈ l, Q y) :
    ∃ (ms : List α) (D' : DS), ev Φ (.lc1 own ce pt ci ct) ρ D = some (.lst (ms.map f), D') ∧ Wst D' ∧ ∀ m ∈ ms, Q m := by
  have key : ∀ (xs : List PV) (D : DS), Wst D → (∀ x ∈ xs, ∀ D, Wst D → ∃ (l : List α) (D' : DS), st1 Φ own ce pt ct ρ x D = some (l.map f, D') ∧ Wst D' ∧ ∀ y ∈ l, Q y) → ∃ (ms : List α) (D' : DS), lcF (st1 Φ own ce pt ct ρ) xs D = some (ms.map f, D') ∧ Wst D' ∧ ∀ m ∈ ms, Q m := by
    intro xs
    induction xs with
    | nil => exact fun D h _ => ⟨[], D, rfl, h, by simp⟩
    | cons x xs ih =>
      intro D h H
      obtain ⟨l, D1, e1, h1, hq⟩ := H x List.mem_cons_self D h
      obtain ⟨ms, D2, e2, h2, hQ⟩ := ih D1 h1 fun m hm => H m (List.mem_cons_of_mem _ hm)
      refine ⟨l ++ ms, D2, ?_, h2, fun m hm => ?_⟩
      · rw [lcF, e1, Option.bind_some, e2, List.map_append]; rfl
      · rcases List.mem_append.mp hm with hm | hm
        · exact hq m hm
        · exact hQ m hm
  obtain ⟨ms, D', e, h1, h2⟩ := key xs D h H
  refine ⟨ms, D', ?_, h1, h2⟩
  rw [ev_lc1, hi, Option.bind_some, e]; rfl
/-! ### pairs of ints -/
def pv2 (q : Int × Int) : PV := .tup [.int q.1, .int q.2]
def lexlt (q r : Int × Int) : Prop := q.1 < r.1 ∨ (q.1 = r.1 ∧ q.2 < r.2)
instance (q r : Int × Int) : Decidable (lexlt q r) := by unfold lexlt; infer_instance
theorem plt_pv2 (q r : Int × Int) : plt (pv2 q) (pv2 r) = decide (lexlt q r) := by
  unfold pv2 lexlt
  rw [plt, pltL, peq_int]
  by_cases h : q.1 = r.1
  · rw [if_pos (by simpa using h), pltL, peq_int, plt]
    by_cases h2 : q.2 = r.2
    · rw [if_pos (by simpa using h2), pltL]; simp [h, h2]
    · rw [if_neg (by simpa using h2)]; simp [h]
  · rw [if_neg (by simpa using h), plt]; simp [h]
theorem ordOk_pairs (L : List (Int × Int)) : ordOk (L.map pv2) = true := by
  unfold ordOk
  rw [List.all_eq_true]
  intro x hx
  obtain ⟨q, _, rfl⟩ := List.mem_map.mp hx
  rw [Bool.and_eq_true]
  refine ⟨rfl, ?_⟩
  rw [List.all_map, List.all_eq_true]
  intro r _
  show cmpOk (.tup [.int q.1, .int q.2]) (.tup [.int r.1, .int r.2]) = true
  rw [cmpOk, cmpOkL, cmpOkL, cmpOkL, cmpOk, cmpOk]
  · rfl
  · simp
theorem minL_pairs : ∀ (L : List (Int × Int)) (q : Int × Int), ∃ r, (r = q ∨ r ∈ L) ∧ minL (pv2 q) (L.map pv2) = pv2 r ∧ ¬ lexlt q r ∧ ∀ x ∈ L, ¬ lexlt x r
  | [], q => ⟨q, .inl rfl, rfl, by unfold lexlt; omega, by simp⟩
  | x :: L, q => by
    have e : minL (pv2 q) ((x :: L).map pv2) = minL (if plt (pv2 x) (pv2 q) then pv2 x else pv2 q) (L.map pv2) := rfl
    rw [plt_pv2] at e
    by_cases h : lexlt x q
    · rw [if_pos (by simpa using h)] at e
      obtain ⟨r, h1, h2, h3, h4⟩ := minL_pairs L x
      refine ⟨r, ?_, by rw [e, h2], ?_, ?_⟩
      · rcases h1 with h1 | h1 <;> simp [h1]
      · unfold lexlt at *; omega
      · intro y hy
        rcases List.mem_cons.mp hy with e | hy
        · rw [e]; exact h3
        · exact h4 y hy
    · rw [if_neg (by simpa using h)] at e
      obtain ⟨r, h1, h2, h3, h4⟩ := minL_pairs L q
      refine ⟨r, ?_, by rw [e, h2], h3, ?_⟩
      · rcases h1 with h1 | h1 <;> simp [h1]
      · intro y hy
        rcases List.mem_cons.mp hy with e | hy
        · rw [e]; unfold lexlt at *; omega
        · exact h4 y hy
theorem pMin_pairs {L : List (Int × Int)} (h : L ≠ []) : ∃ r ∈ L, (∀ x ∈ L, ¬ lexlt x r) ∧ pMin (L.map pv2) = some (pv2 r) := by
  cases L with
  | nil => exact absurd rfl h
  | cons q L =>
    obtain ⟨r, h1, h2, h3, h4⟩ := minL_pairs L q
    refine ⟨r, by rcases h1 with h1 | h1 <;> simp [h1], fun x hx => ?_, ?_⟩
    · rcases List.mem_cons.mp hx with e | hx
      · rw [e]; exact h3
      · exact h4 x hx
    · show (if ordOk ((q :: L).map pv2) = true then some (minL (pv2 q) (L.map pv2)) else none) = _
      rw [ordOk_pairs, if_pos rfl, h2]
theorem lex_anti {q r : Int × Int} (h : ¬ lexlt q r) (h2 : ¬ lexlt r q) : q = r := by
  unfold lexlt at *
  refine Prod.ext ?_ ?_ <;> omega
/-! ### the greatest of ints -/
theorem maxL_ints : ∀ (L : List Int) (q : Int), ∃ r, (r = q ∨ r ∈ L) ∧ maxL (.int q) (L.map .int) = .int r ∧ q ≤ r ∧ ∀ x ∈ L, x ≤ r
  | [], q => ⟨q, .inl rfl, rfl, by omega, by simp⟩
  | x :: L, q => by
    have e : maxL (.int q) ((x :: L).map .int) = maxL (if decide (q < x) then .int x else .int q) (L.map .int) := by
      show maxL (if plt (.int q) (.int x) then .int x else .int q) (L.map .int) = _
      rw [plt]
    by_cases h : q < x
    · rw [if_pos (by simpa using h)] at e
      obtain ⟨r, h1, h2, h3, h4⟩ := maxL_ints L x
      refine ⟨r, by rcases h1 with h1 | h1 <;> simp [h1], by rw [e, h2], by omega, fun y hy => ?_⟩
      rcases List.mem_cons.mp hy with e | hy
      · omega
      · exact h4 y hy
    · rw [if_neg (by simpa using h)] at e
      obtain ⟨r, h1, h2, h3, h4⟩ := maxL_ints L q
      refine ⟨r, by rcases h1 with h1 | h1 <;> simp [h1], by rw [e, h2], h3, fun y hy => ?_⟩
      rcases List.mem_cons.mp hy with e | hy
      · omega
      · exact h4 y hy
theorem pMax_ints {L : List Int} (h : L ≠ []) : ∃ r ∈ L, (∀ x ∈ L, x ≤ r) ∧ pMax (L.map .int) = some (.int r) := by
  cases L with
  | nil => exact absurd rfl h
  | cons q L =>
    obtain ⟨r, h1, h2, h3, h4⟩ := maxL_ints L q
    refine ⟨r, by rcases h1 with h1 | h1 <;> simp [h1], fun x hx => ?_, ?_⟩
    · rcases List.mem_cons.mp hx with e | hx
      · omega
      · exact h4 x hx
    · show (if ordOk ((q :: L).map .int) = true then some (maxL (.int q) (L.map .int)) else none) = _
      rw [ordOk_ints, if_pos rfl, h2]
/-! ### equality with an empty thing -/
@[simp] theorem pEq_tupN {ns : List Int} : pEq (.tup (ns.map .int)) (.tup []) = some (decide (ns = [])) := by
  have h1 : shp DEP (.tup (ns.map .int)) = true := shp_ints ns
  have h2 : shp DEP (.tup []) = true := rfl
  show (if (shp DEP (.tup (ns.map .int)) && shp DEP (.tup [])) = true then some (peq _ _) else none) = _
  rw [h1, h2, if_pos (show (true && true) = true from rfl)]
  cases ns with
  | nil => rfl
  | cons n ns => simp [peq, peqs]
@[simp] theorem pEq_lstN {ns : List Int} : pEq (.lst (ns.map .int)) (.lst []) = some (decide (ns = [])) := by
  have h1 : shp DEP (.lst (ns.map .int)) = true := shp_ints ns
  have h2 : shp DEP (.lst []) = true := rfl
  show (if (shp DEP (.lst (ns.map .int)) && shp DEP (.lst [])) = true then some (peq _ _) else none) = _
  rw [h1, h2, if_pos (show (true && true) = true from rfl)]
  cases ns with
  | nil => rfl
  | cons n ns => simp [peq, peqs]
@[simp] theorem pEq_lst2N {ns : List (Int × Int)} : pEq (.lst (ns.map pv2)) (.lst []) = some (decide (ns = [])) := by
  have h1 : shp DEP (.lst (ns.map pv2)) = true := by
    show (ns.map pv2).all (shp 19) = true
    rw [List.all_map, List.all_eq_true]; intro x _; rfl
  have h2 : shp DEP (.lst []) = true := rfl
  show (if (shp DEP (.lst (ns.map pv2)) && shp DEP (.lst [])) = true then some (peq _ _) else none) = _
  rw [h1, h2, if_pos (show (true && true) = true from rfl)]
  cases ns with
  | nil => rfl
  | cons n ns => simp [peq, peqs]
theorem all_bl {α : Type} (p : α → Bool) (ns : List α) : pBi .all [.lst (ns.map fun x => .bl (p x))] = some (.bl (ns.all p)) := by
  have : mapO blOf (ns.map fun x => PV.bl (p x)) = some (ns.map p) := by
    induction ns with
    | nil => rfl
    | cons n ns ih => rw [List.map_cons, mapO, ih]; rfl
  show ((mapO blOf _).map _) = _
  rw [this, Option.map_some, List.all_map]; rfl
/-! ### deep equality of a thing with itself -/
def ag : Nat → PV → Bool
  | _, .non | _, .bl _ | _, .int _ => true
  | _, .str s => PySem.PyData.strOk s
  | n + 1, .tup xs => decide (xs.length ≤ 100000) && xs.all (ag n)
  | _, _ => false
def cAlike (g : Nat) : CSs := (.cons (.ife (.isi .ttup (.var 1)) (.cons (.ife (.or_ (.cons (.not_ (.isi .ttup (.var 0))) (.cons (.cmp .ne (.bi .len (.cons (.var 0) .nil)) (.bi .len (.cons (.var 1) .nil))) .nil))) (.cons (.ret (.bl false))
 .nil) .nil)
 (.cons (.ret (.cmp .eq (.lc1 [2] (.var 2) (.nm 2) (.rng1 (.bi .len (.cons (.var 1) .nil))) (.cons (.not_ (.call g (.cons (.idx (.var 0) (.var 2)) (.cons (.idx (.var 1) (.var 2)) .nil)))) .nil)) (.lst .nil)))
 .nil)) .nil)
 (.cons (.ife (.cmp .is_ (.var 1) .non) (.cons (.ret (.cmp .is_ (.var 0) .non))
 .nil) .nil)
 (.cons (.ife (.isi .tbool (.var 1)) (.cons (.ret (.and_ (.cons (.isi .tbool (.var 0)) (.cons (.cmp .eq (.var 0) (.var 1)) .nil))))
 .nil) .nil)
 (.cons (.ife (.isi .tint (.var 1)) (.cons (.ret (.and_ (.cons (.isi .tint (.var 0)) (.cons (.not_ (.isi .tbool (.var 0))) (.cons (.cmp .eq (.var 0) (.var 1)) .nil)))))
 .nil) .nil)
 (.cons (.ret (.and_ (.cons (.isi .tstr (.var 0)) (.cons (.cmp .eq (.var 0) (.var 1)) .nil))))
 .nil)))))
theorem alike_non {Φ : Fns} {g : Nat} {D : DS} : (Def.mk 3 2 (cAlike g)).run Φ [.non, .non] D = some (.bl true, D) := by
  refine run_rt (ρ' := [some (false, .non), some (false, .non), none]) rfl ?_ rfl
  simp [cAlike, getS, pIs, pCmp, isNon]
theorem alike_int {Φ : Fns} {g : Nat} {D : DS} {i : Int} : (Def.mk 3 2 (cAlike g)).run Φ [.int i, .int i] D = some (.bl true, D) := by
  refine run_rt (ρ' := [some (false, .int i), some (false, .int i), none]) rfl ?_ rfl
  simp [cAlike, getS, pIs, pCmp, isNon]
theorem pEq_bl {a b : Bool} : pEq (.bl a) (.bl b) = some (a == b) := by
  cases a <;> cases b <;> rfl
theorem alike_bl {Φ : Fns} {g : Nat} {D : DS} {i : Bool} : (Def.mk 3 2 (cAlike g)).run Φ [.bl i, .bl i] D = some (.bl true, D) := by
  refine run_rt (ρ' := [some (false, .bl i), some (false, .bl i), none]) rfl ?_ rfl
  simp [cAlike, getS, pIs, pCmp, isNon, pEq_bl]
theorem alike_str {Φ : Fns} {g : Nat} {D : DS} {i : Str} (h : PySem.PyData.strOk i = true) : (Def.mk 3 2 (cAlike g)).run Φ [.str i, .str i] D = some (.bl true, D) := by
  refine run_rt (ρ' := [some (false, .str i), some (false, .str i), none]) rfl ?_ rfl
  have e : pEq (.str i) (.str i) = some true := by
    show (if (shp DEP (.str i) && shp DEP (.str i)) = true then some (peq (.str i) (.str i)) else none) = _
    rw [if_pos (by show (PySem.PyData.strOk i && PySem.PyData.strOk i) = true; rw [h]; rfl)]
    simp [peq]
  simp [cAlike, getS, pIs, pCmp, isNon, e]
theorem pLen_tup {xs : List PV} : pBi .len [.tup xs] = some (.int xs.length) := rfl
theorem pLen_lst {xs : List PV} : pBi .len [.lst xs] = some (.int xs.length) := rfl
theorem alike_tup {Φ : Fns} {g : Nat} {D : DS} {xs : List PV} (hl : xs.length ≤ 100000) (H : ∀ x ∈ xs, Φ g [x, x] D = some (.bl true, D)) : (Def.mk 3 2 (cAlike g)).run Φ [.tup xs, .tup xs] D = some (.bl true, D) := by
  refine run_rt (ρ' := [some (false, .tup xs), some (false, .tup xs), none]) rfl ?_ rfl
  have q := lcI (Φ := Φ) (D := D) (ρ := [some (false, .tup xs), some (false, .tup xs), none]) (own := [2]) (ce := .var 2) (pt := .nm 2) (ci := .rng1 (.bi .len (.cons (.var 1) .nil)))
    (ct := .cons (.not_ (.call g (.cons (.idx (.var 0) (.var 2)) (.cons (.idx (.var 1) (.var 2)) .nil)))) .nil) (ns := rg 0 xs.length) (p := fun _ => false) (g := .int)
    (by simp [getS, pLen_tup, rngOk_of (a := 0) (b := xs.length) (by omega) (by omega) (by omega) (by omega), rngL_rg])
    (fun i hi => by
      obtain ⟨h0, h1⟩ := mem_rg.mp hi
      obtain ⟨x, hx⟩ : ∃ x, xs[i.toNat]? = some x := ⟨xs[i.toNat]'(by omega), List.getElem?_eq_getElem _⟩
      have ix : pIdx (.tup xs) (.int i) = some x := by
        show (ixN xs.length i).bind (fun j => xs[j]?) = _
        rw [ixN_ok h0 h1, Option.bind_some, hx]
      simp [st1, bindP, wipE, getS, ix, H x (List.mem_of_getElem? hx)])
  have e : (List.filter (fun _ => false) (rg 0 xs.length)).map PV.int = [] := by simp
  rw [e] at q
  have e2 : pCmp .eq (.lst []) (.lst []) = some true := rfl
  have e3 : pCmp .ne (.int xs.length) (.int xs.length) = some false := by simp [pCmp]
  simp [cAlike, getS, pIs, pLen_tup, e3, q, e2]
theorem alike_ok {Fs : Nat → Fns} {g : Nat} {D : DS} (hF : ∀ n args D, Fs (n + 1) g args D = (Def.mk 3 2 (cAlike g)).run (Fs n) args D) : ∀ (k n : Nat) (x : PV), ag k x = true → k < n → Fs n g [x, x] D = some (.bl true, D) := by
  intro k
  induction k with
  | zero =>
    intro n x hx hn
    obtain ⟨m, rfl⟩ : ∃ m, n = m + 1 := ⟨n - 1, by omega⟩
    rw [hF]
    cases x with
    | non => exact alike_non
    | bl b => exact alike_bl
    | int i => exact alike_int
    | str s => exact alike_str hx
    | _ => exact absurd hx (by simp [ag])
  | succ k ih =>
    intro n x hx hn
    obtain ⟨m, rfl⟩ : ∃ m, n = m + 1 := ⟨n - 1, by omega⟩
    rw [hF]
    cases x with
    | non => exact alike_non
    | bl b => exact alike_bl
    | int i => exact alike_int
    | str s => exact alike_str hx
    | tup xs =>
      unfold ag at hx
      rw [Bool.and_eq_true, List.all_eq_true] at hx
      exact alike_tup (of_decide_eq_true hx.1) fun x h => ih m x (hx.2 x h) (by omega)
    | _ => exact absurd hx (by simp [ag])
theorem ag_ints {k : Nat} {ns : List Int} (h : ns.length ≤ 100000) : ag (k + 1) (.tup (ns.map .int)) = true := by
  unfold ag
  rw [List.length_map, List.all_map, Bool.and_eq_true, List.all_eq_true]
  exact ⟨decide_eq_true h, fun x _ => by cases k <;> rfl⟩
end MP

/-! MP tk: more of the plain side: slots, comprehensions and loops over encoded lists, order, subsets. -/
namespace MP
open PySem
/-! ### slots -/
@[simp] theorem getS_set {ρ : Envi} {i j : Nat} {v : PV} : getS (ρ.set i (some (false, v))) j = if i = j then (if i < ρ.length then some v else none) else getS ρ j := by
  unfold getS
  by_cases h : i = j
  · subst h
    by_cases h2 : i < ρ.length
    · simp [h2]
    · simp [h2]
  · simp [h]
@[simp] theorem getS_setO {ρ : Envi} {i j : Nat} {v : PV} : getS (ρ.set i (some (true, v))) j = if i = j then none else getS ρ j := by
  unfold getS
  by_cases h : i = j
  · subst h
    by_cases h2 : i < ρ.length
    · simp [h2]
    · simp [h2]
  · simp [h]
@[simp] theorem getS_setN {ρ : Envi} {i j : Nat} : getS (ρ.set i none) j = if i = j then none else getS ρ j := by
  unfold getS
  by_cases h : i = j
  · subst h
    by_cases h2 : i < ρ.length
    · simp [h2]
    · simp [h2]
  · simp [h]
@[simp] theorem borS_set {ρ : Envi} {i j : Nat} {o : Bool} {v : PV} : borS (ρ.set i (some (o, v))) j = if i = j then (if i < ρ.length then some v else none) else borS ρ j := by
  unfold borS
  by_cases h : i = j
  · subst h
    by_cases h2 : i < ρ.length
    · simp [h2]
    · simp [h2]
  · simp [h]
@[simp] theorem borS_setN {ρ : Envi} {i j : Nat} : borS (ρ.set i none) j = if i = j then none else borS ρ j := by
  unfold borS
  by_cases h : i = j
  · subst h
    by_cases h2 : i < ρ.length
    · simp [h2]
    · simp [h2]
  · simp [h]
theorem slotv_of {ρ : Envi} {i : Nat} {v : PV} (h : getS ρ i = some v) : ρ[i]? = some (some (false, v)) := by
  unfold getS at h
  split at h
  · rename_i x e
    cases h; exact e
  · cases h
theorem bor_of {ρ : Envi} {i : Nat} {v : PV} (h : getS ρ i = some v) : borS ρ i = some v := by
  unfold borS; rw [slotv_of h]
theorem frz_of {ρ : Envi} {i : Nat} {v : PV} (h : getS ρ i = some v) : frzL ρ [i] = ρ := by
  unfold frzL frzL frz1; rw [slotv_of h]
/-! ### subscripts -/
theorem ix_lst {α : Type} (enc : α → PV) {L : List α} {i : Int} {x : α} (h0 : 0 ≤ i) (h : L[i.toNat]? = some x) : pIdx (.lst (L.map enc)) (.int i) = some (enc x) := by
  have hk := (List.getElem?_eq_some_iff.mp h).1
  show (ixN (L.map enc).length i).bind (fun j => (L.map enc)[j]?) = _
  rw [List.length_map, ixN_ok h0 (by omega), Option.bind_some, List.getElem?_map, h]; rfl
theorem ix_tup {α : Type} (enc : α → PV) {L : List α} {i : Int} {x : α} (h0 : 0 ≤ i) (h : L[i.toNat]? = some x) : pIdx (.tup (L.map enc)) (.int i) = some (enc x) := ix_lst enc h0 h
theorem ix_last {α : Type} (enc : α → PV) {L : List α} {x : α} (h : L.getLast? = some x) : pIdx (.lst (L.map enc)) (.int (-1)) = some (enc x) := by
  rw [List.getLast?_eq_getElem?] at h
  have hk := (List.getElem?_eq_some_iff.mp h).1
  show (ixN (L.map enc).length (-1)).bind (fun j => (L.map enc)[j]?) = _
  have : ixN L.length (-1) = some (L.length - 1) := by
    unfold ixN
    rw [if_neg (by decide), if_pos (by omega)]
    congr 1
    omega
  rw [List.length_map, this, Option.bind_some, List.getElem?_map, h]; rfl
theorem lst_add {a b : List PV} (h : a.length + b.length ≤ 1000000) : pBin .add (.lst a) (.lst b) = some (.lst (a ++ b)) := by
  show (if a.length + b.length ≤ LIM then some (PV.lst (a ++ b)) else none) = _
  rw [if_pos h]
theorem tup_add {a b : List PV} (h : a.length + b.length ≤ 1000000) : pBin .add (.tup a) (.tup b) = some (.tup (a ++ b)) := by
  show (if a.length + b.length ≤ LIM then some (PV.tup (a ++ b)) else none) = _
  rw [if_pos h]
/-- xs + (k,) of ints -/
theorem row_add {r : List Int} {k : Int} (h : r.length ≤ 1000) : pBin .add (.tup (r.map .int)) (.tup [.int k]) = some (.tup ((r ++ [k]).map .int)) := by
  rw [tup_add (by simp; omega)]; simp
/-! ### comprehensions over encoded lists -/
section
variable {α β : Type} {Φ : Fns} {ρ : Envi} {D : DS} {own own2 : List Nat} {ce : CE} {pt pt2 : Pat} {ci ci2 : CI} {ct ct2 : CEs}
theorem lcG (enc : α → PV) (xs : List α) (f : α → List PV) (hi : evi Φ ci ρ D = some (xs.map enc, D)) (H : ∀ x ∈ xs, st1 Φ own ce pt ct ρ (enc x) D = some (f x, D)) : ev Φ (.lc1 own ce pt ci ct) ρ D = some (.lst (xs.flatMap f), D) := by
  have : lcF (st1 Φ own ce pt ct ρ) (xs.map enc) D = some (xs.flatMap f, D) := by
    clear hi
    induction xs with
    | nil => rfl
    | cons x xs ih =>
      rw [List.map_cons, lcF, H x List.mem_cons_self, Option.bind_some, ih fun y hy => H y (List.mem_cons_of_mem _ hy)]
      rfl
  rw [ev_lc1, hi, Option.bind_some, this]; rfl
theorem lcP (enc : α → PV) (xs : List α) (p : α → Bool) (g : α → PV) (hi : evi Φ ci ρ D = some (xs.map enc, D)) (H : ∀ x ∈ xs, st1 Φ own ce pt ct ρ (enc x) D = some (if p x then [g x] else [], D)) : ev Φ (.lc1 own ce pt ci ct) ρ D = some (.lst ((xs.filter p).map g), D) := by
  rw [lcG enc xs _ hi H, flatMap_if]
theorem lcM (enc : α → PV) (xs : List α) (g : α → PV) (hi : evi Φ ci ρ D = some (xs.map enc, D)) (H : ∀ x ∈ xs, st1 Φ own ce pt ct ρ (enc x) D = some ([g x], D)) : ev Φ (.lc1 own ce pt ci ct) ρ D = some (.lst (xs.map g), D) := by
  rw [lcG enc xs _ hi H]
  have : ∀ xs : List α, (xs.flatMap fun x => [g x]) = xs.map g := fun xs => by
    induction xs with
    | nil => rfl
    | cons x xs ih => rw [List.flatMap_cons, ih]; rfl
  rw [this]
theorem lc2G (enc : α → PV) (xs : List α) (enc2 : β → PV) (ys : α → List β) (h : α → β → List PV) (r1 : α → Envi) (hi : evi Φ ci ρ D = some (xs.map enc, D)) (H1 : ∀ x ∈ xs, bindP pt (enc x) (wipE ρ own) = some (r1 x)) (H2 : ∀ x ∈ xs, evt Φ ct (r1 x) D = some (true, D))
    (H3 : ∀ x ∈ xs, evi Φ ci2 (r1 x) D = some ((ys x).map enc2, D)) (H4 : ∀ x ∈ xs, ∀ y ∈ ys x, st1 Φ own2 ce pt2 ct2 (r1 x) (enc2 y) D = some (h x y, D)) (hl : (xs.flatMap fun x => (ys x).flatMap (h x)).length ≤ 1000000) :
    ev Φ (.lc2 own ce pt ci ct own2 pt2 ci2 ct2) ρ D = some (.lst (xs.flatMap fun x => (ys x).flatMap (h x)), D) := by
  have inner : ∀ (ys : List β) (ρ1 : Envi) (h : β → List PV), (∀ y ∈ ys, st1 Φ own2 ce pt2 ct2 ρ1 (enc2 y) D = some (h y, D)) → lcF (st1 Φ own2 ce pt2 ct2 ρ1) (ys.map enc2) D = some (ys.flatMap h, D) := fun ys ρ1 h H => by
    induction ys with
    | nil => rfl
    | cons x xs ih =>
      rw [List.map_cons, lcF, H x List.mem_cons_self, Option.bind_some, ih fun y hy => H y (List.mem_cons_of_mem _ hy)]
      rfl
  have outer : lcF (fun x D1 => (bindP pt x (wipE ρ own)).bind fun ρ1 => (evt Φ ct ρ1 D1).bind fun c => if c.1 then (evi Φ ci2 ρ1 c.2).bind fun r2 => lcF (st1 Φ own2 ce pt2 ct2 ρ1) r2.1 r2.2 else some ([], c.2)) (xs.map enc) D = some (xs.flatMap fun x => (ys x).flatMap (h x), D) := by
    clear hi hl
    induction xs with
    | nil => rfl
    | cons x xs ih =>
      rw [List.map_cons, lcF, H1 x List.mem_cons_self, Option.bind_some, H2 x List.mem_cons_self, Option.bind_some, if_pos rfl, H3 x List.mem_cons_self, Option.bind_some, inner _ _ _ (H4 x List.mem_cons_self), Option.bind_some,
        ih (fun y hy => H1 y (List.mem_cons_of_mem _ hy)) (fun y hy => H2 y (List.mem_cons_of_mem _ hy)) (fun y hy => H3 y (List.mem_cons_of_mem _ hy)) (fun y hy => H4 y (List.mem_cons_of_mem _ hy))]
      rfl
  show ((evi Φ ci ρ D).bind fun r => (lcF (fun x D1 => (bindP pt x (wipE ρ own)).bind fun ρ1 => (evt Φ ct ρ1 D1).bind fun c => if c.1 then (evi Φ ci2 ρ1 c.2).bind fun r2 => lcF (st1 Φ own2 ce pt2 ct2 ρ1) r2.1 r2.2 else some ([], c.2)) r.1 r.2).bind fun q => if q.1.length ≤ LIM then some (PV.lst q.1, q.2) else none) = _
  rw [hi, Option.bind_some, outer, Option.bind_some, if_pos hl]
/-! ### loops over encoded lists -/
theorem forF {σ : Type} {f : PV → Envi → DS → XR} (enc : α → PV) (R : σ → Envi → Prop) (step : σ → α → σ) : ∀ (xs : List α) (s : σ) (ρ : Envi), R s ρ → (∀ s x ρ, x ∈ xs → R s ρ → ∃ o ρ', f (enc x) ρ D = some (o, ρ', D) ∧ (o = .nx ∨ o = .ct) ∧ R (step s x) ρ') →
    ∃ ρ', forL f (xs.map enc) ρ D = some (.nx, ρ', D) ∧ R (xs.foldl step s) ρ'
  | [], s, ρ, h, _ => ⟨ρ, rfl, h⟩
  | x :: xs, s, ρ, h, H => by
    obtain ⟨o, ρ1, e1, ho, h1⟩ := H s x ρ List.mem_cons_self h
    obtain ⟨ρ2, e2, h2⟩ := forF enc R step xs (step s x) ρ1 h1 fun s y ρ hy hr => H s y ρ (List.mem_cons_of_mem _ hy) hr
    refine ⟨ρ2, ?_, h2⟩
    rw [List.map_cons, forL, e1, Option.bind_some]
    rcases ho with rfl | rfl <;> exact e2
/-- .. that may end by a value -/
theorem forE {σ : Type} {f : PV → Envi → DS → XR} (enc : α → PV) (R : σ → Envi → Prop) (step : σ → α → Except PV σ) : ∀ (xs : List α) (s : σ) (ρ : Envi), R s ρ → (∀ s x ρ, x ∈ xs → R s ρ → match step s x with
      | .ok s' => ∃ o ρ', f (enc x) ρ D = some (o, ρ', D) ∧ (o = .nx ∨ o = .ct) ∧ R s' ρ'
      | .error v => ∃ ρ', f (enc x) ρ D = some (.rt v, ρ', D)) →
    match xs.foldlM step s with
      | .ok s' => ∃ ρ', forL f (xs.map enc) ρ D = some (.nx, ρ', D) ∧ R s' ρ'
      | .error v => ∃ ρ', forL f (xs.map enc) ρ D = some (.rt v, ρ', D)
  | [], s, ρ, h, _ => ⟨ρ, rfl, h⟩
  | x :: xs, s, ρ, h, H => by
    have h1 := H s x ρ List.mem_cons_self h
    rw [List.foldlM_cons]
    cases e : step s x with
    | error v =>
      rw [e] at h1
      obtain ⟨ρ1, e1⟩ := h1
      show ∃ ρ', _
      refine ⟨ρ1, ?_⟩
      rw [List.map_cons, forL, e1, Option.bind_some]
    | ok s1 =>
      rw [e] at h1
      obtain ⟨o, ρ1, e1, ho, h1⟩ := h1
      have h2 := forE enc R step xs s1 ρ1 h1 fun s y ρ hy hr => H s y ρ (List.mem_cons_of_mem _ hy) hr
      show match xs.foldlM step s1 with
        | .ok s' => _
        | .error v => _
      have cn : forL f ((x :: xs).map enc) ρ D = forL f (xs.map enc) ρ1 D := by
        rw [List.map_cons, forL, e1, Option.bind_some]
        rcases ho with rfl | rfl <;> rfl
      rw [cn]
      exact h2
end
/-! ### the order of ints and tuples of these -/
mutual
def gd : PV → Bool
  | .int _ => true
  | .tup xs => gdL xs
  | _ => false
def gdL : List PV → Bool
  | [] => true
  | x :: xs => gd x && gdL xs
end
theorem gdL_all : ∀ {xs : List PV}, gdL xs = xs.all gd
  | [] => rfl
  | x :: xs => by rw [gdL, List.all_cons, gdL_all]
theorem gdL_ints (ns : List Int) : gdL (ns.map .int) = true := by
  induction ns with
  | nil => rfl
  | cons n ns ih => rw [List.map_cons, gdL, ih]; rfl
mutual
theorem peq_gd : ∀ (x y : PV), gd x = true → gd y = true → (peq x y = true ↔ x = y)
  | .int i, .int j, _, _ => by rw [peq_int]; simp
  | .int i, .tup ys, _, _ => by rw [peq] <;> simp
  | .tup xs, .int j, _, _ => by rw [peq] <;> simp
  | .tup xs, .tup ys, h1, h2 => by
    rw [peq, peqs_gd xs ys h1 h2]; simp
theorem peqs_gd : ∀ (xs ys : List PV), gdL xs = true → gdL ys = true → (peqs xs ys = true ↔ xs = ys)
  | [], [], _, _ => by rw [peqs]; simp
  | [], _ :: _, _, _ => by rw [peqs] <;> simp
  | _ :: _, [], _, _ => by rw [peqs] <;> simp
  | x :: xs, y :: ys, h1, h2 => by
    rw [gdL, Bool.and_eq_true] at h1 h2
    rw [peqs, Bool.and_eq_true, peq_gd x y h1.1 h2.1, peqs_gd xs ys h1.2 h2.2]; simp
end
mutual
theorem plt_irr : ∀ (x : PV), gd x = true → plt x x = false
  | .int i, _ => by rw [plt]; simp
  | .tup xs, h => by rw [plt]; exact pltL_irr xs h
theorem pltL_irr : ∀ (xs : List PV), gdL xs = true → pltL xs xs = false
  | [], _ => by rw [pltL]
  | x :: xs, h => by
    rw [gdL, Bool.and_eq_true] at h
    rw [pltL, if_pos ((peq_gd x x h.1 h.1).mpr rfl)]
    exact pltL_irr xs h.2
end
mutual
theorem plt_con : ∀ (x y : PV), gd x = true → gd y = true → cmpOk x y = true → plt x y = false → plt y x = false → x = y
  | .int i, .int j, _, _, _, h1, h2 => by
    rw [plt] at h1 h2
    have a := of_decide_eq_false h1
    have b := of_decide_eq_false h2
    congr 1; omega
  | .int i, .tup ys, _, _, h, _, _ => absurd h (by simp [cmpOk])
  | .tup xs, .int j, _, _, h, _, _ => absurd h (by simp [cmpOk])
  | .tup xs, .tup ys, g1, g2, h, h1, h2 => by
    rw [cmpOk] at h
    rw [plt] at h1 h2
    rw [pltL_con xs ys g1 g2 h h1 h2]
theorem pltL_con : ∀ (xs ys : List PV), gdL xs = true → gdL ys = true → cmpOkL xs ys = true → pltL xs ys = false → pltL ys xs = false → xs = ys
  | [], [], _, _, _, _, _ => rfl
  | [], _ :: _, _, _, _, h, _ => by rw [pltL] at h; cases h
  | _ :: _, [], _, _, _, _, h => by rw [pltL] at h; cases h
  | x :: xs, y :: ys, g1, g2, h, h1, h2 => by
    rw [gdL, Bool.and_eq_true] at g1 g2
    rw [cmpOkL, Bool.and_eq_true] at h
    rw [pltL] at h1 h2
    by_cases e : x = y
    · subst e
      rw [if_pos ((peq_gd x x g1.1 g1.1).mpr rfl)] at h1 h2
      rw [pltL_con xs ys g1.2 g2.2 h.2 h1 h2]
    · rw [if_neg (fun q => e ((peq_gd x y g1.1 g2.1).mp q))] at h1
      rw [if_neg (fun q => e ((peq_gd y x g2.1 g1.1).mp q).symm)] at h2
      exact absurd (plt_con x y g1.1 g2.1 h.1 h1 h2) e
end
mutual
theorem plt_tr : ∀ (x y z : PV), gd x = true → gd y = true → gd z = true → plt x y = true → plt y z = true → plt x z = true
  | .int i, .int j, .int k, _, _, _, h1, h2 => by
    rw [plt] at h1 h2 ⊢
    have a := of_decide_eq_true h1
    have b := of_decide_eq_true h2
    exact decide_eq_true (by omega)
  | .int i, .int j, .tup zs, _, _, _, _, h => absurd h (by simp [plt])
  | .int i, .tup ys, _, _, _, _, h, _ => absurd h (by simp [plt])
  | .tup xs, .int j, _, _, _, _, h, _ => absurd h (by simp [plt])
  | .tup xs, .tup ys, .int k, _, _, _, _, h => absurd h (by simp [plt])
  | .tup xs, .tup ys, .tup zs, g1, g2, g3, h1, h2 => by
    rw [plt] at h1 h2 ⊢
    exact pltL_tr xs ys zs g1 g2 g3 h1 h2
theorem pltL_tr : ∀ (xs ys zs : List PV), gdL xs = true → gdL ys = true → gdL zs = true → pltL xs ys = true → pltL ys zs = true → pltL xs zs = true
  | [], [], _, _, _, _, h, _ => by rw [pltL] at h; cases h
  | _ :: _, [], _, _, _, _, h, _ => by rw [pltL] at h; cases h
  | _, _ :: _, [], _, _, _, _, h => by rw [pltL] at h; cases h
  | [], _ :: _, _ :: _, _, _, _, _, _ => by rw [pltL]
  | x :: xs, y :: ys, z :: zs, g1, g2, g3, h1, h2 => by
    rw [gdL, Bool.and_eq_true] at g1 g2 g3
    rw [pltL] at h1 h2 ⊢
    by_cases e1 : x = y
    · subst e1
      rw [if_pos ((peq_gd x x g1.1 g1.1).mpr rfl)] at h1
      by_cases e2 : x = z
      · subst e2
        rw [if_pos ((peq_gd x x g1.1 g1.1).mpr rfl)] at h2 ⊢
        exact pltL_tr xs ys zs g1.2 g2.2 g3.2 h1 h2
      · have e3 : ¬ peq x z = true := fun q => e2 ((peq_gd x z g1.1 g3.1).mp q)
        rw [if_neg e3] at h2 ⊢
        exact h2
    · rw [if_neg (fun q => e1 ((peq_gd x y g1.1 g2.1).mp q))] at h1
      by_cases e2 : y = z
      · subst e2
        rw [if_neg (fun q => e1 ((peq_gd x y g1.1 g2.1).mp q))]
        exact h1
      · rw [if_neg (fun q => e2 ((peq_gd y z g2.1 g3.1).mp q))] at h2
        have t := plt_tr x y z g1.1 g2.1 g3.1 h1 h2
        have e3 : ¬ peq x z = true := fun q => by
          obtain rfl := (peq_gd x z g1.1 g3.1).mp q
          rw [plt_irr x g1.1] at t; cases t
        rw [if_neg e3]
        exact t
end
/-- ints and tuples of these, any two of them comparable -/
structure Cmp (xs : List PV) : Prop where
  g : ∀ x ∈ xs, gd x = true
  o : ordOk xs = true
theorem Cmp.c {xs : List PV} (h : Cmp xs) {x y : PV} (hx : x ∈ xs) (hy : y ∈ xs) : cmpOk x y = true := by
  have := List.all_eq_true.mp h.o x hx
  rw [Bool.and_eq_true] at this
  exact List.all_eq_true.mp this.2 y hy
theorem Cmp.ext {xs ys : List PV} (h : Cmp xs) (e : ∀ y ∈ ys, y ∈ xs) : Cmp ys := by
  refine ⟨fun x hx => h.g x (e x hx), List.all_eq_true.mpr fun x hx => ?_⟩
  have := List.all_eq_true.mp h.o x (e x hx)
  rw [Bool.and_eq_true] at this ⊢
  exact ⟨this.1, List.all_eq_true.mpr fun y hy => List.all_eq_true.mp this.2 y (e y hy)⟩
theorem Cmp.of {α : Type} {enc : α → PV} (L : List α) (h1 : ∀ a, gd (enc a) = true) (h2 : ∀ a, shp DEP (enc a) = true) (h3 : ∀ a b, cmpOk (enc a) (enc b) = true) : Cmp (L.map enc) := by
  refine ⟨fun x hx => ?_, List.all_eq_true.mpr fun x hx => ?_⟩
  · obtain ⟨a, _, rfl⟩ := List.mem_map.mp hx
    exact h1 a
  · obtain ⟨a, _, rfl⟩ := List.mem_map.mp hx
    rw [h2, Bool.true_and]
    refine List.all_eq_true.mpr fun y hy => ?_
    obtain ⟨b, _, rfl⟩ := List.mem_map.mp hy
    exact h3 a b
theorem minL_ok : ∀ (xs : List PV) (a : PV), Cmp (a :: xs) → ∃ r, minL a xs = r ∧ r ∈ a :: xs ∧ ∀ y ∈ a :: xs, plt y r = false
  | [], a, h => ⟨a, rfl, List.mem_cons_self, fun y hy => by
    rw [List.mem_singleton] at hy
    subst hy
    exact plt_irr y (h.g y List.mem_cons_self)⟩
  | x :: xs, a, h => by
    have gx := h.g x (List.mem_cons_of_mem _ List.mem_cons_self)
    have ga := h.g a List.mem_cons_self
    by_cases e : plt x a = true
    · obtain ⟨r, h1, h2, h3⟩ := minL_ok xs x (h.ext fun y hy => List.mem_cons_of_mem _ hy)
      refine ⟨r, ?_, List.mem_cons_of_mem _ h2, fun y hy => ?_⟩
      · show (xs.foldl _ (if plt x a = true then x else a)) = r
        rw [if_pos e]; exact h1
      · rcases List.mem_cons.mp hy with rfl | hy
        · cases q : plt y r with
          | false => rfl
          | true =>
            have := plt_tr x y r gx ga (h.g r (List.mem_cons_of_mem _ h2)) e q
            rw [h3 x List.mem_cons_self] at this; cases this
        · exact h3 y hy
    · obtain ⟨r, h1, h2, h3⟩ := minL_ok xs a (h.ext fun y hy => by
        rcases List.mem_cons.mp hy with rfl | hy
        · exact List.mem_cons_self
        · exact List.mem_cons_of_mem _ (List.mem_cons_of_mem _ hy))
      have hr : r ∈ a :: x :: xs := by
        rcases List.mem_cons.mp h2 with rfl | h2
        · exact List.mem_cons_self
        · exact List.mem_cons_of_mem _ (List.mem_cons_of_mem _ h2)
      refine ⟨r, ?_, hr, fun y hy => ?_⟩
      · show (xs.foldl _ (if plt x a = true then x else a)) = r
        rw [if_neg e]; exact h1
      · rcases List.mem_cons.mp hy with rfl | hy
        · exact h3 y List.mem_cons_self
        · rcases List.mem_cons.mp hy with rfl | hy
          · cases q : plt y r with
            | false => rfl
            | true =>
              have e' : plt y a = false := by simpa using e
              cases q2 : plt a y with
              | true =>
                have := plt_tr a y r ga gx (h.g r hr) q2 q
                rw [h3 a List.mem_cons_self] at this; cases this
              | false =>
                have := plt_con a y ga gx (h.c List.mem_cons_self (List.mem_cons_of_mem _ List.mem_cons_self)) q2 e'
                subst this
                rw [h3 a List.mem_cons_self] at q; cases q
          · exact h3 y (List.mem_cons_of_mem _ hy)
theorem pMin_ok {xs : List PV} (h : Cmp xs) (hne : xs ≠ []) : ∃ r, pMin xs = some r ∧ r ∈ xs ∧ ∀ y ∈ xs, plt y r = false := by
  cases xs with
  | nil => exact absurd rfl hne
  | cons a xs =>
    obtain ⟨r, h1, h2, h3⟩ := minL_ok xs a h
    refine ⟨r, ?_, h2, h3⟩
    show (if ordOk (a :: xs) then some (minL a xs) else none) = _
    rw [if_pos h.o, h1]
theorem min_uni {xs : List PV} (h : Cmp xs) {r s : PV} (hr : r ∈ xs) (hs : s ∈ xs) (h1 : ∀ y ∈ xs, plt y r = false) (h2 : ∀ y ∈ xs, plt y s = false) : r = s :=
  plt_con r s (h.g r hr) (h.g s hs) (h.c hr hs) (h2 r hr) (h1 s hs)
/-- the least of lists with the same members is the same -/
theorem pMin_ext {xs ys : List PV} (h : Cmp xs) (hne : xs ≠ []) (e : ∀ x, x ∈ xs ↔ x ∈ ys) : pMin xs = pMin ys := by
  have hy : Cmp ys := h.ext fun y hy => (e y).mpr hy
  have hne2 : ys ≠ [] := fun z => by
    cases xs with
    | nil => exact hne rfl
    | cons a xs =>
      have := (e a).mp List.mem_cons_self
      rw [z] at this; cases this
  obtain ⟨r, e1, m1, l1⟩ := pMin_ok h hne
  obtain ⟨s, e2, m2, l2⟩ := pMin_ok hy hne2
  rw [e1, e2, min_uni h m1 ((e s).mpr m2) l1 fun y hy => l2 y ((e y).mp hy)]
theorem pSort_ok {xs : List PV} (h : Cmp xs) (ht : srtOk xs = true) : ∃ s, pSort xs = some s ∧ s.Perm xs ∧ s.Pairwise fun a b => plt b a = false := by
  refine ⟨xs.mergeSort fun a b => !plt b a, ?_, List.mergeSort_perm _ _, ?_⟩
  · show (if ordOk xs && srtOk xs then some _ else none) = _
    rw [if_pos (by rw [h.o, ht]; rfl)]
  · have tot : ∀ a b : {x // x ∈ xs}, (!plt b.1 a.1 || !plt a.1 b.1) = true := fun a b => by
      cases q : plt b.1 a.1 with
      | false => rfl
      | true =>
        cases q2 : plt a.1 b.1 with
        | false => rfl
        | true =>
          have := plt_tr _ _ _ (h.g _ a.2) (h.g _ b.2) (h.g _ a.2) q2 q
          rw [plt_irr _ (h.g _ a.2)] at this; cases this
    have tr : ∀ a b c : {x // x ∈ xs}, (!plt b.1 a.1) = true → (!plt c.1 b.1) = true → (!plt c.1 a.1) = true := fun a b c h1 h2 => by
      rw [Bool.not_eq_true'] at h1 h2 ⊢
      cases q : plt c.1 a.1 with
      | false => rfl
      | true =>
        cases q2 : plt b.1 c.1 with
        | true =>
          have := plt_tr _ _ _ (h.g _ b.2) (h.g _ c.2) (h.g _ a.2) q2 q
          rw [h1] at this; cases this
        | false =>
          have := plt_con _ _ (h.g _ b.2) (h.g _ c.2) (h.c b.2 c.2) q2 h2
          rw [this, q] at h1; cases h1
    have p := List.pairwise_mergeSort (le := fun a b : {x // x ∈ xs} => !plt b.1 a.1) (fun a b c => tr a b c) (fun a b => tot a b) xs.attach
    have e : (xs.attach.mergeSort fun a b => !plt b.1 a.1).map Subtype.val = xs.mergeSort fun a b => !plt b a := by
      rw [List.map_mergeSort (s := fun a b => !plt b a) (fun _ _ _ _ => rfl), List.attach_map_subtype_val]
    rw [← e, List.pairwise_map]
    exact p.imp fun {a b} q => by simpa using q
/-- the first of those that stay in a sorted list is the least of them -/
theorem srt_head {s : List PV} (h : Cmp s) (hp : s.Pairwise fun a b => plt b a = false) (p : PV → Bool) (hne : s.filter p ≠ []) : pMin (s.filter p) = (s.filter p)[0]? := by
  have hc : Cmp (s.filter p) := h.ext fun y hy => (List.mem_filter.mp hy).1
  obtain ⟨r, e1, m1, l1⟩ := pMin_ok hc hne
  have hp2 := hp.sublist (List.filter_sublist (p := p))
  cases q : s.filter p with
  | nil => exact absurd q hne
  | cons a t =>
    rw [q] at hp2 hc m1 l1 e1
    rw [e1]
    show some r = some a
    rw [min_uni hc m1 List.mem_cons_self l1 fun y hy => ?_]
    rcases List.mem_cons.mp hy with rfl | hy
    · exact plt_irr y (hc.g y List.mem_cons_self)
    · exact (List.pairwise_cons.mp hp2).1 y hy
/-! ### subsets -/
section
variable {α : Type}
def subsP (p : List α → Bool) (ks : List α) : List (List α) := ks.foldl (fun rows k => rows ++ (rows.filter p).map (· ++ [k])) [[]]
def subs (ks : List α) : List (List α) := ks.foldl (fun rows k => rows ++ rows.map (· ++ [k])) [[]]
theorem snoc_ind {P : List α → Prop} (h0 : P []) (h1 : ∀ ks k, P ks → P (ks ++ [k])) (ks : List α) : P ks := by
  have : ∀ l : List α, P l.reverse := fun l => by
    induction l with
    | nil => exact h0
    | cons a l ih => rw [List.reverse_cons]; exact h1 _ _ ih
  rw [← List.reverse_reverse ks]
  exact this _
theorem sub_snoc {r ks : List α} {k : α} : r.Sublist (ks ++ [k]) ↔ r.Sublist ks ∨ ∃ s, r = s ++ [k] ∧ s.Sublist ks := by
  rw [List.sublist_append_iff]
  constructor
  · rintro ⟨l1, l2, rfl, h1, h2⟩
    rcases List.sublist_cons_iff.mp h2 with h3 | ⟨r, e, h3⟩
    · have e := List.sublist_nil.mp h3
      subst e
      rw [List.append_nil]; exact .inl h1
    · have e2 := List.sublist_nil.mp h3
      subst e2 e
      exact .inr ⟨l1, rfl, h1⟩
  · rintro (h | ⟨s, rfl, h⟩)
    · exact ⟨r, [], by simp, h, List.nil_sublist _⟩
    · exact ⟨s, [k], rfl, h, List.Sublist.refl _⟩
theorem mem_subs {r : List α} (ks : List α) : r ∈ subs ks ↔ r.Sublist ks := by
  unfold subs
  revert r
  refine snoc_ind (P := fun ks => ∀ {r : List α}, r ∈ ks.foldl (fun rows k => rows ++ rows.map (· ++ [k])) [[]] ↔ r.Sublist ks) ?_ ?_ ks
  · intro r; simp
  · intro ks k ih r
    rw [List.foldl_append, List.foldl_cons, List.foldl_nil, List.mem_append, ih, sub_snoc, List.mem_map]
    constructor
    · rintro (h | ⟨s, hs, rfl⟩)
      · exact .inl h
      · exact .inr ⟨s, rfl, ih.mp hs⟩
    · rintro (h | ⟨s, rfl, hs⟩)
      · exact .inl h
      · exact .inr ⟨s, ih.mpr hs, rfl⟩
/-- at most m of them -/
theorem mem_subsP {r : List α} {m : Int} (hm : 0 ≤ m) (ks : List α) : r ∈ subsP (fun r => decide ((r.length : Int) < m)) ks ↔ r.Sublist ks ∧ (r.length : Int) ≤ m := by
  unfold subsP
  revert r
  refine snoc_ind (P := fun ks => ∀ {r : List α}, r ∈ ks.foldl (fun rows k => rows ++ (rows.filter fun r => decide ((r.length : Int) < m)).map (· ++ [k])) [[]] ↔ r.Sublist ks ∧ (r.length : Int) ≤ m) ?_ ?_ ks
  · intro r
    simp
    intro h; subst h; simpa using hm
  · intro ks k ih r
    rw [List.foldl_append, List.foldl_cons, List.foldl_nil, List.mem_append, ih, sub_snoc, List.mem_map]
    constructor
    · rintro (h | ⟨s, hs, rfl⟩)
      · exact ⟨.inl h.1, h.2⟩
      · rw [List.mem_filter, ih] at hs
        have := of_decide_eq_true hs.2
        exact ⟨.inr ⟨s, rfl, hs.1.1⟩, by simp; omega⟩
    · rintro ⟨h | ⟨s, rfl, hs⟩, hl⟩
      · exact .inl ⟨h, hl⟩
      · right
        have : (s.length : Int) < m := by simp at hl; omega
        exact ⟨s, List.mem_filter.mpr ⟨ih.mpr ⟨hs, by omega⟩, decide_eq_true this⟩, rfl⟩
theorem subs_len (ks : List α) : (subs ks).length = 2 ^ ks.length := by
  unfold subs
  refine snoc_ind (P := fun ks => (ks.foldl (fun rows k => rows ++ rows.map (· ++ [k])) [[]]).length = 2 ^ ks.length) rfl (fun ks k ih => ?_) ks
  · rw [List.foldl_append, List.foldl_cons, List.foldl_nil, List.length_append, List.length_map, ih, List.length_append, List.length_singleton, Nat.pow_succ]; omega
theorem sub_filter {p : α → Bool} {r ks : List α} : r.Sublist (ks.filter p) ↔ r.Sublist ks ∧ ∀ x ∈ r, p x = true := by
  constructor
  · intro h
    exact ⟨h.trans List.filter_sublist, fun x hx => (List.mem_filter.mp (h.subset hx)).2⟩
  · rintro ⟨h1, h2⟩
    have := h1.filter p
    rwa [List.filter_eq_self.mpr h2] at this
end
/-! ### a def's run, a statement at a time -/
section
variable {α : Type} {Φ : Fns} {ρ : Envi} {D D1 D' : DS} {v : PV} {r b : CSs} {e : CE} {i : Nat} {o : Bool} {p : Pat} {it : CI}
theorem run_ex {d : Def} {args : List PV} (hl : args.length = d.np) (h : ∃ ρ', exs Φ d.body (args.map (fun x => some (false, x)) ++ List.replicate (d.nn - d.np) none) D = some (.rt v, ρ', D')) (hD : D'.length = D.length := by rfl) : d.run Φ args D = some (v, D') := by
  obtain ⟨ρ', h⟩ := h
  exact run_rt hl h hD
theorem go_nx {s : CS} {ρ1 : Envi} (h : ex Φ s ρ D = some (.nx, ρ1, D1)) (k : ∃ ρ', exs Φ r ρ1 D1 = some (.rt v, ρ', D')) : ∃ ρ', exs Φ (.cons s r) ρ D = some (.rt v, ρ', D') := by
  obtain ⟨ρ', k⟩ := k
  exact ⟨ρ', by rw [xs_nx h, k]⟩
theorem go_asg (x : PV) (h : ev Φ e ρ D = some (x, D)) (k : ∃ ρ', exs Φ r (ρ.set i (some (o, x))) D = some (.rt v, ρ', D')) : ∃ ρ', exs Φ (.cons (.asg o i e) r) ρ D = some (.rt v, ρ', D') :=
  go_nx (by rw [ex_asg, h]; rfl) k
theorem go_asgD (x : PV) (h : ev Φ e ρ D = some (x, D1)) (k : ∃ ρ', exs Φ r (ρ.set i (some (o, x))) D1 = some (.rt v, ρ', D')) : ∃ ρ', exs Φ (.cons (.asg o i e) r) ρ D = some (.rt v, ρ', D') :=
  go_nx (by rw [ex_asg, h]; rfl) k
theorem go_ret (h : ev Φ e ρ D = some (v, D')) : ∃ ρ', exs Φ (.cons (.ret e) r) ρ D = some (.rt v, ρ', D') :=
  ⟨ρ, by rw [xs_rt (by rw [ex_ret, h]; rfl)]⟩
theorem go_forF {σ : Type} (enc : α → PV) (xs : List α) (R : σ → Envi → Prop) (step : σ → α → σ) (s0 : σ) (hi : evi Φ it ρ D = some (xs.map enc, D)) (h0 : R s0 ρ)
    (H : ∀ s x ρ, x ∈ xs → R s ρ → ∃ o ρ', ((bindP p (enc x) ρ).bind fun ρ1 => exs Φ b ρ1 D) = some (o, ρ', D) ∧ (o = .nx ∨ o = .ct) ∧ R (step s x) ρ')
    (k : ∀ ρ1, R (xs.foldl step s0) ρ1 → ∃ ρ', exs Φ r ρ1 D = some (.rt v, ρ', D')) : ∃ ρ', exs Φ (.cons (.for_ p it b) r) ρ D = some (.rt v, ρ', D') := by
  obtain ⟨ρ1, e1, h1⟩ := forF (f := fun x ρ D => (bindP p x ρ).bind fun ρ1 => exs Φ b ρ1 D) enc R step xs s0 ρ h0 H
  exact go_nx (by rw [ex_for, hi, Option.bind_some]; exact e1) (k ρ1 h1)
theorem go_forE {σ : Type} (enc : α → PV) (xs : List α) (R : σ → Envi → Prop) (step : σ → α → Except PV σ) (s0 : σ) (hi : evi Φ it ρ D = some (xs.map enc, D)) (h0 : R s0 ρ)
    (H : ∀ s x ρ, x ∈ xs → R s ρ → match step s x with
      | .ok s' => ∃ o ρ', ((bindP p (enc x) ρ).bind fun ρ1 => exs Φ b ρ1 D) = some (o, ρ', D) ∧ (o = .nx ∨ o = .ct) ∧ R s' ρ'
      | .error v => ∃ ρ', ((bindP p (enc x) ρ).bind fun ρ1 => exs Φ b ρ1 D) = some (.rt v, ρ', D))
    (k : ∀ s1, xs.foldlM step s0 = .ok s1 → ∀ ρ1, R s1 ρ1 → ∃ ρ', exs Φ r ρ1 D = some (.rt v, ρ', D)) (ke : ∀ w, xs.foldlM step s0 = .error w → v = w) : ∃ ρ', exs Φ (.cons (.for_ p it b) r) ρ D = some (.rt v, ρ', D) := by
  have h := forE (f := fun x ρ D => (bindP p x ρ).bind fun ρ1 => exs Φ b ρ1 D) enc R step xs s0 ρ h0 H
  cases e : xs.foldlM step s0 with
  | ok s1 =>
    rw [e] at h
    obtain ⟨ρ1, e1, h1⟩ := h
    exact go_nx (by rw [ex_for, hi, Option.bind_some]; exact e1) (k s1 e ρ1 h1)
  | error w =>
    rw [e] at h
    obtain ⟨ρ1, e1⟩ := h
    obtain rfl := ke w e
    exact ⟨ρ1, by rw [xs_rt (by rw [ex_for, hi, Option.bind_some]; exact e1)]⟩
end
section
variable {α : Type} {Φ : Fns} {ρ : Envi} {D D1 D' : DS} {v : PV} {r b : CSs} {p : Pat} {it : CI}
theorem forP {σ : Type} {f : PV → Envi → DS → XR} (enc : α → PV) (R : σ → Envi → Prop) (step : σ → α → σ) (s0 : σ) (xs : List α) : ∀ (post pre : List α) (ρ : Envi), xs = pre ++ post → R (pre.foldl step s0) ρ →
    (∀ pre x post ρ, xs = pre ++ x :: post → R (pre.foldl step s0) ρ → ∃ o ρ', f (enc x) ρ D = some (o, ρ', D) ∧ (o = .nx ∨ o = .ct) ∧ R (step (pre.foldl step s0) x) ρ') →
    ∃ ρ', forL f (post.map enc) ρ D = some (.nx, ρ', D) ∧ R (xs.foldl step s0) ρ'
  | [], pre, ρ, e, h, _ => ⟨ρ, rfl, by rw [e, List.append_nil]; exact h⟩
  | x :: post, pre, ρ, e, h, H => by
    obtain ⟨o, ρ1, e1, ho, h1⟩ := H pre x post ρ e h
    obtain ⟨ρ2, e2, h2⟩ := forP enc R step s0 xs post (pre ++ [x]) ρ1 (by rw [e]; simp) (by rw [List.foldl_append]; exact h1) H
    refine ⟨ρ2, ?_, h2⟩
    rw [List.map_cons, forL, e1, Option.bind_some]
    rcases ho with rfl | rfl <;> exact e2
theorem go_forP {σ : Type} (enc : α → PV) (xs : List α) (R : σ → Envi → Prop) (step : σ → α → σ) (s0 : σ) (hi : evi Φ it ρ D = some (xs.map enc, D)) (h0 : R s0 ρ)
    (H : ∀ pre x post ρ, xs = pre ++ x :: post → R (pre.foldl step s0) ρ → ∃ o ρ', ((bindP p (enc x) ρ).bind fun ρ1 => exs Φ b ρ1 D) = some (o, ρ', D) ∧ (o = .nx ∨ o = .ct) ∧ R (step (pre.foldl step s0) x) ρ')
    (k : ∀ ρ1, R (xs.foldl step s0) ρ1 → ∃ ρ', exs Φ r ρ1 D = some (.rt v, ρ', D')) : ∃ ρ', exs Φ (.cons (.for_ p it b) r) ρ D = some (.rt v, ρ', D') := by
  obtain ⟨ρ1, e1, h1⟩ := forP (f := fun x ρ D => (bindP p x ρ).bind fun ρ1 => exs Φ b ρ1 D) enc R step s0 xs xs [] ρ rfl h0 H
  exact go_nx (by rw [ex_for, hi, Option.bind_some]; exact e1) (k ρ1 h1)
theorem mapO_map (f : α → Int) (xs : List α) : mapO intOf (xs.map fun x => PV.int (f x)) = some (xs.map f) := by
  induction xs with
  | nil => rfl
  | cons x xs ih => rw [List.map_cons, mapO_cons, ih]; rfl
theorem pSum_lst (f : α → Int) (xs : List α) : pBi .sum [.lst (xs.map fun x => PV.int (f x))] = some (.int (xs.map f).sum) := by
  show (some (xs.map fun x => PV.int (f x))).bind (fun xs => (mapO intOf xs).map fun ns => PV.int ns.sum) = _
  rw [Option.bind_some, mapO_map]; rfl
theorem rg_succ {a b : Int} (h : a ≤ b) : rg a (b + 1) = rg a b ++ [b] := by
  unfold rg
  have : (b + 1 - a).toNat = (b - a).toNat + 1 := by omega
  rw [this, List.range_succ, List.map_append]
  simp
  omega
theorem rg_nil {a b : Int} (h : b ≤ a) : rg a b = [] := by
  unfold rg
  have : (b - a).toNat = 0 := by omega
  rw [this]; rfl
theorem rg_len (a b : Int) : (rg a b).length = (b - a).toNat := by unfold rg; simp
theorem evi_r1 {e : CE} {m : Int} (h : ev Φ e ρ D = some (.int m, D1)) (h0 : -1000 ≤ m) (h1 : m ≤ 100000) : evi Φ (.rng1 e) ρ D = some ((rg 0 m).map .int, D1) := by
  rw [evi_rng1, h, Option.bind_some, intOf_int, Option.bind_some, if_pos (rngOk_of (by omega) (by omega) (by omega) (by omega)), rngL_rg]
theorem evi_r2 {e f : CE} {a b : Int} {D2 : DS} (h : ev Φ e ρ D = some (.int a, D1)) (h' : ev Φ f ρ D1 = some (.int b, D2)) (h0 : -1000 ≤ a) (h1 : a ≤ 100000) (h2 : -1000 ≤ b) (h3 : b ≤ 100000) : evi Φ (.rng2 e f) ρ D = some ((rg a b).map .int, D2) := by
  rw [evi_rng2, h, Option.bind_some, h', Option.bind_some, intOf_int, Option.bind_some, intOf_int, Option.bind_some, if_pos (rngOk_of (by omega) (by omega) (by omega) (by omega)), rngL_rg]
theorem evi_ov {e : CE} {xs : List PV} (h : ev Φ e ρ D = some (.lst xs, D1)) : evi Φ (.over e) ρ D = some (xs, D1) := by rw [evi_over, h]; rfl
theorem evi_ovT {e : CE} {xs : List PV} (h : ev Φ e ρ D = some (.tup xs, D1)) : evi Φ (.over e) ρ D = some (xs, D1) := by rw [evi_over, h]; rfl
end
theorem foldlM_all {α : Type} (p : α → Bool) (v : PV) (xs : List α) : xs.foldlM (fun (_ : Unit) x => if p x then (.ok () : Except PV Unit) else .error v) () = if xs.all p then .ok () else .error v := by
  induction xs with
  | nil => rfl
  | cons x xs ih =>
    rw [List.foldlM_cons]
    by_cases h : p x = true
    · rw [if_pos h, List.all_cons, h, Bool.true_and]; exact ih
    · rw [if_neg h, List.all_cons, Bool.eq_false_iff.mpr h]; rfl
def hE {β : Type} (w : β → PV) : Option β → Except PV Unit
  | some y => .error (w y)
  | none => .ok ()
/-- a loop that ends at the first c -/
theorem foldlM_find {α : Type} (c : α → Bool) (w : α → PV) (xs : List α) : xs.foldlM (fun (_ : Unit) x => if c x then (.error (w x) : Except PV Unit) else .ok ()) () = hE w (xs.filter c).head? := by
  induction xs with
  | nil => rfl
  | cons x xs ih =>
    rw [List.foldlM_cons]
    by_cases h : c x = true
    · rw [if_pos h, List.filter_cons_of_pos h]; rfl
    · rw [if_neg h, List.filter_cons_of_neg h]; exact ih
theorem foldlM_find2 {α β : Type} (F : α → Except PV Unit) (L : α → List β) (w : β → PV) (hF : ∀ x, F x = hE w (L x).head?) (xs : List α) : xs.foldlM (fun (_ : Unit) x => F x) () = hE w (xs.flatMap L).head? := by
  induction xs with
  | nil => rfl
  | cons x xs ih =>
    rw [List.foldlM_cons, hF, List.flatMap_cons]
    cases e : L x with
    | nil => exact ih
    | cons y ys => rfl
/-- a body that is one loop -/
theorem bd_forE {α σ : Type} {Φ : Fns} {ρ ρ0 : Envi} {D : DS} {b : CSs} {p p0 : Pat} {x0 : PV} {it : CI} {R0 : σ → Envi → Prop} (enc : α → PV) (xs : List α) (R : σ → Envi → Prop) (hR : ∀ s ρ, R s ρ → R0 s ρ) (step : σ → α → Except PV σ) (s0 : σ) (hb : bindP p0 x0 ρ0 = some ρ) (hi : evi Φ it ρ D = some (xs.map enc, D)) (h0 : R s0 ρ)
    (H : ∀ s x ρ, x ∈ xs → R s ρ → match step s x with
      | .ok s' => ∃ o ρ', ((bindP p (enc x) ρ).bind fun ρ1 => exs Φ b ρ1 D) = some (o, ρ', D) ∧ (o = .nx ∨ o = .ct) ∧ R s' ρ'
      | .error v => ∃ ρ', ((bindP p (enc x) ρ).bind fun ρ1 => exs Φ b ρ1 D) = some (.rt v, ρ', D)) :
    match xs.foldlM step s0 with
      | .ok s' => ∃ o ρ', ((bindP p0 x0 ρ0).bind fun ρ1 => exs Φ (.cons (.for_ p it b) .nil) ρ1 D) = some (o, ρ', D) ∧ (o = .nx ∨ o = .ct) ∧ R0 s' ρ'
      | .error v => ∃ ρ', ((bindP p0 x0 ρ0).bind fun ρ1 => exs Φ (.cons (.for_ p it b) .nil) ρ1 D) = some (.rt v, ρ', D) := by
  have h := forE (f := fun x ρ D => (bindP p x ρ).bind fun ρ1 => exs Φ b ρ1 D) enc R step xs s0 ρ h0 H
  rw [hb, Option.bind_some]
  cases e : xs.foldlM step s0 with
  | ok s1 =>
    rw [e] at h
    obtain ⟨ρ1, e1, h1⟩ := h
    exact ⟨.nx, ρ1, by rw [xs_nx (by rw [ex_for, hi, Option.bind_some]; exact e1)]; rfl, .inl rfl, hR _ _ h1⟩
  | error w =>
    rw [e] at h
    obtain ⟨ρ1, e1⟩ := h
    exact ⟨ρ1, by rw [xs_rt (by rw [ex_for, hi, Option.bind_some]; exact e1)]⟩
/-- slices with both ends -/
theorem cut_mid {α : Type} {xs : List α} {i j : Int} (h0 : 0 ≤ i) (h1 : i ≤ j) (h2 : j ≤ xs.length) : cutL xs (some i) (some j) = (xs.drop i.toNat).take (j.toNat - i.toNat) := by
  unfold cutL cutN
  simp only
  rw [if_neg (by omega), if_neg (by omega)]
  rw [Nat.min_eq_left (by omega), Nat.min_eq_left (by omega)]
theorem cut_pre {α : Type} {xs : List α} {j : Int} (h1 : 0 ≤ j) (h2 : j ≤ xs.length) : cutL xs none (some j) = xs.take j.toNat := by
  unfold cutL cutN
  simp only
  rw [if_neg (by omega), Nat.min_eq_left (by omega)]
  simp
theorem pCut_lst {xs : List PV} {lo hi : Option Int} : pCut (.lst xs) lo hi = some (.lst (cutL xs lo hi)) := rfl
theorem pCut_tup {xs : List PV} {lo hi : Option Int} : pCut (.tup xs) lo hi = some (.tup (cutL xs lo hi)) := rfl
theorem cutL_map {α β : Type} (f : α → β) (xs : List α) (lo hi : Option Int) : cutL (xs.map f) lo hi = (cutL xs lo hi).map f := by
  unfold cutL
  rw [List.length_map, List.map_take, List.map_drop]
section
variable {α : Type} {Φ : Fns} {ρ : Envi} {D D1 D' : DS} {v : PV} {r b : CSs} {p : Pat} {it : CI}
/-- .. the state being what the items so far give -/
theorem forEP {σ : Type} {f : PV → Envi → DS → XR} (enc : α → PV) (R : σ → Envi → Prop) (step : σ → α → Except PV σ) (s0 : σ) (xs : List α) : ∀ (post pre : List α) (s : σ) (ρ : Envi), xs = pre ++ post → pre.foldlM step s0 = .ok s → R s ρ →
    (∀ pre x post s ρ, xs = pre ++ x :: post → pre.foldlM step s0 = .ok s → R s ρ → match step s x with
      | .ok s' => ∃ o ρ', f (enc x) ρ D = some (o, ρ', D) ∧ (o = .nx ∨ o = .ct) ∧ R s' ρ'
      | .error v => ∃ ρ', f (enc x) ρ D = some (.rt v, ρ', D)) →
    match xs.foldlM step s0 with
      | .ok s' => ∃ ρ', forL f (post.map enc) ρ D = some (.nx, ρ', D) ∧ R s' ρ'
      | .error v => ∃ ρ', forL f (post.map enc) ρ D = some (.rt v, ρ', D)
  | [], pre, s, ρ, e, hs, h, _ => by
    rw [List.append_nil] at e
    subst e
    rw [hs]
    exact ⟨ρ, rfl, h⟩
  | x :: post, pre, s, ρ, e, hs, h, H => by
    have h1 := H pre x post s ρ e hs h
    cases q : step s x with
    | error v =>
      rw [q] at h1
      obtain ⟨ρ1, e1⟩ := h1
      have : xs.foldlM step s0 = .error v := by
        rw [e, List.foldlM_append, hs]
        show (x :: post).foldlM step s = _
        rw [List.foldlM_cons, q]; rfl
      rw [this]
      show ∃ ρ', _
      refine ⟨ρ1, ?_⟩
      rw [List.map_cons, forL, e1, Option.bind_some]
    | ok s1 =>
      rw [q] at h1
      obtain ⟨o, ρ1, e1, ho, h1⟩ := h1
      have hs2 : (pre ++ [x]).foldlM step s0 = .ok s1 := by
        rw [List.foldlM_append, hs]
        show [x].foldlM step s = _
        rw [List.foldlM_cons, q]; rfl
      have h2 := forEP enc R step s0 xs post (pre ++ [x]) s1 ρ1 (by rw [e]; simp) hs2 h1 H
      have cn : forL f ((x :: post).map enc) ρ D = forL f (post.map enc) ρ1 D := by
        rw [List.map_cons, forL, e1, Option.bind_some]
        rcases ho with rfl | rfl <;> rfl
      rw [cn]
      exact h2
theorem go_forEP {σ : Type} (enc : α → PV) (xs : List α) (R : σ → Envi → Prop) (step : σ → α → Except PV σ) (s0 : σ) (hi : evi Φ it ρ D = some (xs.map enc, D)) (h0 : R s0 ρ)
    (H : ∀ pre x post s ρ, xs = pre ++ x :: post → pre.foldlM step s0 = .ok s → R s ρ → match step s x with
      | .ok s' => ∃ o ρ', ((bindP p (enc x) ρ).bind fun ρ1 => exs Φ b ρ1 D) = some (o, ρ', D) ∧ (o = .nx ∨ o = .ct) ∧ R s' ρ'
      | .error v => ∃ ρ', ((bindP p (enc x) ρ).bind fun ρ1 => exs Φ b ρ1 D) = some (.rt v, ρ', D))
    (k : ∀ s1, xs.foldlM step s0 = .ok s1 → ∀ ρ1, R s1 ρ1 → ∃ ρ', exs Φ r ρ1 D = some (.rt v, ρ', D)) (ke : ∀ w, xs.foldlM step s0 = .error w → v = w) : ∃ ρ', exs Φ (.cons (.for_ p it b) r) ρ D = some (.rt v, ρ', D) := by
  have h := forEP (f := fun x ρ D => (bindP p x ρ).bind fun ρ1 => exs Φ b ρ1 D) enc R step s0 xs xs [] s0 ρ rfl rfl h0 H
  cases e : xs.foldlM step s0 with
  | ok s1 =>
    rw [e] at h
    obtain ⟨ρ1, e1, h1⟩ := h
    exact go_nx (by rw [ex_for, hi, Option.bind_some]; exact e1) (k s1 e ρ1 h1)
  | error w =>
    rw [e] at h
    obtain ⟨ρ1, e1⟩ := h
    obtain rfl := ke w e
    exact ⟨ρ1, by rw [xs_rt (by rw [ex_for, hi, Option.bind_some]; exact e1)]⟩
/-! ### lists with the same first items -/
def FE (xs ys : List α) : Prop := ∀ p : α → Bool, xs.find? p = ys.find? p
theorem findSome_find {β : Type} (g : α → Option β) : ∀ xs : List α, xs.findSome? g = (xs.find? fun x => (g x).isSome).bind g
  | [] => rfl
  | x :: xs => by
    rw [List.findSome?_cons, List.find?_cons]
    cases e : g x with
    | some y => simp [e]
    | none => simp [findSome_find g xs]
theorem FE.flatMap {β : Type} {xs ys : List α} {f g : α → List β} (h : FE xs ys) (h2 : ∀ x ∈ xs, FE (f x) (g x)) (h3 : ∀ x ∈ ys, x ∈ xs) : FE (xs.flatMap f) (ys.flatMap g) := fun p => by
  rw [List.find?_flatMap, List.find?_flatMap, findSome_find, findSome_find]
  have e1 : ∀ zs : List α, (∀ z ∈ zs, z ∈ xs) → (zs.find? fun x => ((f x).find? p).isSome) = zs.find? fun x => ((g x).find? p).isSome := fun zs hz => by
    induction zs with
    | nil => rfl
    | cons z zs ih =>
      rw [List.find?_cons, List.find?_cons, h2 z (hz z List.mem_cons_self) p, ih fun y hy => hz y (List.mem_cons_of_mem _ hy)]
  rw [h, e1 ys h3]
  cases q : ys.find? fun x => ((g x).find? p).isSome with
  | none => rfl
  | some x =>
    show (f x).find? p = (g x).find? p
    exact h2 x (h3 x (List.mem_of_find?_eq_some q)) p
theorem FE.map {β : Type} {xs ys : List α} (h : FE xs ys) (f : α → β) : FE (xs.map f) (ys.map f) := fun p => by
  rw [List.find?_map, List.find?_map, h]
theorem FE.filter {xs ys : List α} (h : FE xs ys) (q : α → Bool) : FE (xs.filter q) (ys.filter q) := fun p => by
  rw [List.find?_filter, List.find?_filter, h]
theorem FE.mem {xs ys : List α} [DecidableEq α] (h : FE xs ys) (x : α) : x ∈ xs ↔ x ∈ ys := by
  have := h fun y => decide (y = x)
  have k : ∀ zs : List α, x ∈ zs ↔ (zs.find? fun y => decide (y = x)).isSome := fun zs => by
    rw [List.find?_isSome]
    exact ⟨fun h => ⟨x, h, by simp⟩, fun ⟨y, h, e⟩ => by simp at e; rw [← e]; exact h⟩
  rw [k, k, this]
theorem FE.head {xs ys : List α} (h : FE xs ys) : xs.head? = ys.head? := by
  have k : ∀ zs : List α, zs.head? = zs.find? fun _ => true := fun zs => by cases zs <;> rfl
  rw [k, k, h]
end
theorem find_srt : ∀ {s : List Int} (p : Int → Bool), s.Pairwise (· ≤ ·) → match s.find? p with
    | some x => x ∈ s ∧ p x = true ∧ ∀ y ∈ s, p y = true → x ≤ y
    | none => ∀ y ∈ s, p y = false
  | [], p, _ => by simp
  | a :: s, p, h => by
    rw [List.pairwise_cons] at h
    rw [List.find?_cons]
    cases e : p a with
    | true =>
      refine ⟨List.mem_cons_self, e, fun y hy _ => ?_⟩
      rcases List.mem_cons.mp hy with rfl | hy
      · exact Int.le_refl _
      · exact h.1 y hy
    | false =>
      have ih := find_srt p h.2
      simp only
      cases q : s.find? p with
      | some x =>
        rw [q] at ih
        refine ⟨List.mem_cons_of_mem _ ih.1, ih.2.1, fun y hy hp => ?_⟩
        rcases List.mem_cons.mp hy with rfl | hy
        · rw [e] at hp; cases hp
        · exact ih.2.2 y hy hp
      | none =>
        rw [q] at ih
        intro y hy
        rcases List.mem_cons.mp hy with rfl | hy
        · exact e
        · exact ih y hy
theorem FE_srt {s t : List Int} (hs : s.Pairwise (· ≤ ·)) (ht : t.Pairwise (· ≤ ·)) (h : ∀ x, x ∈ s ↔ x ∈ t) : FE s t := fun p => by
  have a := find_srt p hs
  have b := find_srt p ht
  cases e1 : s.find? p with
  | none =>
    rw [e1] at a
    cases e2 : t.find? p with
    | none => rfl
    | some y =>
      rw [e2] at b
      have := a y ((h y).mpr b.1)
      rw [b.2.1] at this; cases this
  | some x =>
    rw [e1] at a
    cases e2 : t.find? p with
    | none =>
      rw [e2] at b
      have := b x ((h x).mp a.1)
      rw [a.2.1] at this; cases this
    | some y =>
      rw [e2] at b
      have h1 := a.2.2 y ((h y).mpr b.1) b.2.1
      have h2 := b.2.2 x ((h x).mp a.1) a.2.1
      have : x = y := by omega
      rw [this]
/-! ### sorted ints, with doubles -/
def sI (L : List Int) : List Int := L.mergeSort fun a b => decide (a ≤ b)
theorem pSort_I (L : List Int) : pSort (L.map .int) = some ((sI L).map .int) := by
  show (if ordOk (L.map .int) && srtOk (L.map .int) then some ((L.map PV.int).mergeSort fun a b => !plt b a) else none) = _
  rw [ordOk_ints, srtOk_ints]
  show some ((L.map PV.int).mergeSort fun a b => !plt b a) = _
  unfold sI
  rw [List.map_mergeSort (s := fun a b => !plt b a)]
  intro a _ b _
  rw [plt]
  by_cases h : b < a
  · have : ¬ a ≤ b := by omega
    simp [h, this]
  · have : a ≤ b := by omega
    simp [h, this]
theorem sI_srt (L : List Int) : (sI L).Pairwise (· ≤ ·) := by
  have := List.pairwise_mergeSort (le := fun a b : Int => decide (a ≤ b)) (fun a b c h1 h2 => by simp at *; omega) (fun a b => by simp; omega) L
  exact this.imp fun {a b} h => by simpa using h
theorem sI_mem {L : List Int} {x : Int} : x ∈ sI L ↔ x ∈ L := List.mem_mergeSort
theorem sI_len (L : List Int) : (sI L).length = L.length := List.length_mergeSort L
theorem zipL_map {α β : Type} (f : α → PV) (g : β → PV) : ∀ (a : List α) (b : List β), zipL (a.map f) (b.map g) = (a.zip b).map fun p => .tup [f p.1, g p.2]
  | [], _ => rfl
  | _ :: _, [] => rfl
  | x :: a, y :: b => by
    show (PV.tup [f x, g y]) :: zipL (a.map f) (b.map g) = _
    rw [zipL_map f g a b]; rfl
end MP

namespace MP.K13
open PySem MP
abbrev U := Int × Int × Int
def eu (u : U) : PV := .tup [.int u.1, .int u.2.1, .int u.2.2]
abbrev EU (us : List U) : PV := .tup (us.map eu)
abbrev ET (r : List Int) : PV := .tup (r.map .int)
def g (us : List U) (k : Int) : U := us.getD k.toNat (0, 0, 0)
structure Us (us : List U) : Prop where
  len : us.length ≤ 5
  ok : ∀ u ∈ us, 0 ≤ u.1 ∧ u.1 < u.2.1 ∧ 0 ≤ u.2.2 ∧ u.2.1 ≤ 100 ∧ u.2.2 ≤ 5
  up : us.Pairwise fun a b => a.2.1 ≤ b.1
section
variable {us : List U} {P : List Int} {n : Nat} {D : DS} {most long last : Int}
theorem g_mem {k : Int} (h0 : 0 ≤ k) (h1 : k < us.length) : us[k.toNat]? = some (g us k) ∧ g us k ∈ us := by
  have hk : k.toNat < us.length := by omega
  have e : g us k = us[k.toNat] := by
    unfold g
    rw [List.getD_eq_getElem?_getD, List.getElem?_eq_getElem hk] <;> rfl
  rw [e]
  exact ⟨List.getElem?_eq_getElem hk, List.getElem_mem hk⟩
theorem ixu {k : Int} (h0 : 0 ≤ k) (h1 : k < us.length) : pIdx (EU us) (.int k) = some (eu (g us k)) := ix_tup eu h0 (g_mem h0 h1).1
@[simp] theorem eu0 {u : U} : pIdx (eu u) (.int 0) = some (.int u.1) := rfl
@[simp] theorem eu1 {u : U} : pIdx (eu u) (.int 1) = some (.int u.2.1) := rfl
@[simp] theorem eu2 {u : U} : pIdx (eu u) (.int 2) = some (.int u.2.2) := rfl
@[simp] theorem oeu {u : U} : opd D (eu u) = some (eu u) := rfl
@[simp] theorem pLenT {xs : List PV} : pBi .len [.tup xs] = some (.int xs.length) := rfl
@[simp] theorem pLenL {xs : List PV} : pBi .len [.lst xs] = some (.int xs.length) := rfl
@[simp] theorem pTupL {xs : List PV} : pBi .tuple [.lst xs] = some (.tup xs) := rfl
@[simp] theorem pTupT {xs : List PV} : pBi .tuple [.tup xs] = some (.tup xs) := rfl
def room (us : List U) (long last k : Int) : Bool := decide (long ≤ (if k + 1 < us.length then (g us (k + 1)).1 else last + 1) - (if 0 ≤ k then (g us k).2.1 else 0))
def hr (us : List U) (k : Int) : Int := (g us k).2.2
def stp (us : List U) (most : Int) (P : List Int) (now k : Int) : Except PV Int := if most < now + hr us k then .error (.bl false) else .ok (if k ∈ P then 0 else now + hr us k)
def srv (us : List U) (most : Int) (P : List Int) : Bool := match (rg 0 us.length).foldlM (stp us most P) 0 with
  | .ok _ => true
  | .error _ => false
def served (us : List U) (P : List Int) (most long last : Int) : Bool := P.all (room us long last) && srv us most P
theorem stp_v {now k : Int} {v : PV} (h : stp us most P now k = .error v) : v = .bl false := by
  unfold stp at h
  split at h
  · cases h; rfl
  · cases h
theorem foldl_v : ∀ (xs : List Int) (now : Int) {v : PV}, xs.foldlM (stp us most P) now = .error v → v = .bl false
  | [], _, _, h => by cases h
  | x :: xs, now, v, h => by
    rw [List.foldlM_cons] at h
    cases e : stp us most P now x with
    | error w => rw [e] at h; cases h; exact stp_v e
    | ok m => rw [e] at h; exact foldl_v xs m h
theorem evi_len {Φ : Fns} {ρ : Envi} {e : CE} {xs : List PV} (h : ev Φ e ρ D = some (.tup xs, D)) (hl : xs.length ≤ 1000) : evi Φ (.rng1 (.bi .len (.cons e .nil))) ρ D = some ((rg 0 xs.length).map .int, D) := by
  simp [h, rngOk_of (a := 0) (b := xs.length) (by omega) (by omega) (by omega) (by omega), rngL_rg]
abbrev e7 (us : List U) (P : List Int) (most long last : Int) (x5 x6 x7 x8 : Option (Bool × PV)) : Envi := [some (false, EU us), some (false, ET P), some (false, .int most), some (false, .int long), some (false, .int last), x5, x6, x7, x8]
abbrev vI (i : Int) : Option (Bool × PV) := some (false, .int i)
theorem is_served_ok (hl : us.length ≤ 5) (hP : ∀ k ∈ P, -1 ≤ k ∧ k < us.length) : sem DD (n + 1) 7 [EU us, ET P, .int most, .int long, .int last] D = some (.bl (served us P most long last), D) := by
  rw [r_f_is_served]
  refine run_ex rfl ?_
  unfold c_f_is_served
  show ∃ ρ', exs _ _ (e7 us P most long last none none none none) _ = _
  refine go_forE PV.int P (fun (_ : Unit) ρ => ∃ x5 x7 x8, ρ = e7 us P most long last x5 none x7 x8)
    (fun (_ : Unit) x => if room us long last x then (.ok () : Except PV Unit) else .error (.bl false)) () rfl ⟨_, _, _, rfl⟩ (fun s k ρ hk ⟨x5, x7, x8, hρ⟩ => ?_) (fun s1 hs ρ1 ⟨x5, x7, x8, hρ⟩ => ?_) (fun w hw => ?_)
  · subst hρ
    obtain ⟨h0, h1⟩ := hP k hk
    have a : ev (sem DD n) (.ite (.cmp .ge (.var 5) (.int 0)) (.idx (.idx (.var 0) (.var 5)) (.int 1)) (.int 0)) (e7 us P most long last (vI k) none x7 x8) D = some (.int (if 0 ≤ k then (g us k).2.1 else 0), D) := by
      by_cases h : 0 ≤ k
      · simp [getS, pCmp, h, ixu h h1]
      · simp [getS, pCmp, h]
    have b : ∀ x7, ev (sem DD n) (.ite (.cmp .lt (.bin .add (.var 5) (.int 1)) (.bi .len (.cons (.var 0) .nil))) (.idx (.idx (.var 0) (.bin .add (.var 5) (.int 1))) (.int 0)) (.bin .add (.var 4) (.int 1))) (e7 us P most long last (vI k) none x7 x8) D = some (.int (if k + 1 < us.length then (g us (k + 1)).1 else last + 1), D) := fun x7 => by
      by_cases h : k + 1 < us.length
      · simp [getS, pCmp, h, ixu (k := k + 1) (by omega) h]
      · simp [getS, pCmp, h]
    by_cases hr : room us long last k = true
    · rw [if_pos hr]
      refine ⟨.nx, e7 us P most long last (vI k) none (vI (if 0 ≤ k then (g us k).2.1 else 0)) (vI (if k + 1 < us.length then (g us (k + 1)).1 else last + 1)), ?_, .inl rfl, _, _, _, rfl⟩
      have := of_decide_eq_true hr
      simp [-ev_ite, bindP, a, b, getS, pCmp, Int.not_lt.mpr this]
    · rw [if_neg hr]
      refine ⟨e7 us P most long last (vI k) none (vI (if 0 ≤ k then (g us k).2.1 else 0)) (vI (if k + 1 < us.length then (g us (k + 1)).1 else last + 1)), ?_⟩
      have := of_decide_eq_false (Bool.eq_false_iff.mpr hr)
      simp [-ev_ite, bindP, a, b, getS, pCmp, Int.not_le.mp this]
  · subst hρ
    have hall : P.all (room us long last) = true := by
      rw [foldlM_all] at hs
      split at hs
      · assumption
      · cases hs
    refine go_asg (.int 0) rfl ?_
    refine go_forE PV.int (rg 0 us.length) (fun (now : Int) ρ => ∃ x5 x7 x8, ρ = e7 us P most long last x5 (vI now) x7 x8) (stp us most P) 0 (by simp [getS, rngOk_of (a := 0) (b := us.length) (by omega) (by omega) (by omega) (by omega), rngL_rg]) ⟨_, _, _, rfl⟩ (fun now k ρ hk ⟨x5, x7, x8, hρ⟩ => ?_) (fun s1 hs1 ρ1 ⟨x5, x7, x8, hρ⟩ => ?_) (fun w hw => ?_)
    · subst hρ
      obtain ⟨h0, h1⟩ := mem_rg.mp hk
      unfold stp
      by_cases hm : most < now + hr us k
      · rw [if_pos hm]
        refine ⟨e7 us P most long last (vI k) (vI (now + hr us k)) x7 x8, ?_⟩
        unfold hr at hm ⊢
        simp [bindP, getS, pCmp, ixu h0 h1, pIp, hm]
      · rw [if_neg hm]
        refine ⟨.nx, e7 us P most long last (vI k) (vI (if k ∈ P then 0 else now + hr us k)) x7 x8, ?_, .inl rfl, _, _, _, rfl⟩
        unfold hr at hm ⊢
        by_cases hp : k ∈ P <;> simp [bindP, getS, pCmp, ixu h0 h1, pIp, hm, hp]
    · refine go_ret ?_
      unfold served srv
      rw [hall, hs1]; rfl
    · unfold served srv
      rw [hall, hw, foldl_v _ _ hw]; rfl
  · rw [foldlM_all] at hw
    unfold served
    split at hw
    · cases hw
    · rename_i h
      cases hw
      rw [Bool.eq_false_iff.mpr h]; rfl
theorem law_room_ok {k : Int} (hl : us.length ≤ 5) (h0 : -1 ≤ k) (h1 : k < us.length) : sem DD (n + 1) 23 [EU us, .int k, .int long, .int last] D = some (.bl (room us long last k), D) := by
  rw [r_f__law_room]
  refine run_ex rfl ?_
  unfold c_f__law_room
  show ∃ ρ', exs _ _ [some (false, EU us), vI k, vI long, vI last, none, none] _ = _
  refine go_asg (.int (if 0 ≤ k then (g us k).2.1 else 0)) ?_ ?_
  · by_cases h : 0 ≤ k
    · simp [getS, pCmp, h, ixu h h1]
    · simp [getS, pCmp, h]
  refine go_asg (.int (if k + 1 < us.length then (g us (k + 1)).1 else last + 1)) ?_ ?_
  · by_cases h : k + 1 < us.length
    · simp [getS, pCmp, h, ixu (k := k + 1) (by omega) h]
    · simp [getS, pCmp, h]
  refine go_ret ?_
  simp [getS, pCmp, room]
theorem law_served_ok (hl : us.length ≤ 5) (hP : ∀ k ∈ P, -1 ≤ k ∧ k < us.length) : sem DD (n + 2) 24 [EU us, ET P, .int most, .int long, .int last] D = some (.bl (served us P most long last), D) := by
  rw [r_f__law_served]
  refine run_ex rfl ?_
  unfold c_f__law_served
  show ∃ ρ', exs _ _ [some (false, EU us), some (false, ET P), vI most, vI long, vI last, none, none] _ = _
  refine go_asg (.int 0) rfl ?_
  refine go_forE PV.int (rg 0 us.length) (fun (now : Int) ρ => ∃ x6, ρ = [some (false, EU us), some (false, ET P), vI most, vI long, vI last, vI now, x6]) (stp us most P) 0 (by simp [getS, rngOk_of (a := 0) (b := us.length) (by omega) (by omega) (by omega) (by omega), rngL_rg]) ⟨_, rfl⟩ (fun now k ρ hk ⟨x6, hρ⟩ => ?_) (fun s1 hs1 ρ1 ⟨x6, hρ⟩ => ?_) (fun w hw => ?_)
  · subst hρ
    obtain ⟨h0, h1⟩ := mem_rg.mp hk
    unfold stp
    by_cases hm : most < now + hr us k
    · rw [if_pos hm]
      refine ⟨[some (false, EU us), some (false, ET P), vI most, vI long, vI last, vI (now + hr us k), vI k], ?_⟩
      unfold hr at hm ⊢
      simp [bindP, getS, pCmp, ixu h0 h1, pIp, hm]
    · rw [if_neg hm]
      refine ⟨.nx, [some (false, EU us), some (false, ET P), vI most, vI long, vI last, vI (if k ∈ P then 0 else now + hr us k), vI k], ?_, .inl rfl, _, rfl⟩
      unfold hr at hm ⊢
      by_cases hp : k ∈ P <;> simp [bindP, getS, pCmp, ixu h0 h1, pIp, hm, hp]
  · subst hρ
    refine go_ret ?_
    have q : ev (sem DD (n + 1)) (.lc1 [6] (.var 6) (.nm 6) (.over (.var 1)) (.cons (.not_ (.call 23 (.cons (.var 0) (.cons (.var 6) (.cons (.var 3) (.cons (.var 4) .nil)))))) .nil)) [some (false, EU us), some (false, ET P), vI most, vI long, vI last, vI s1, x6] D = some (.lst ((P.filter fun k => !room us long last k).map .int), D) := by
      refine lcP PV.int P (fun k => !room us long last k) PV.int rfl fun k hk => ?_
      have := law_room_ok (n := n) (D := D) (long := long) (last := last) hl (hP k hk).1 (hP k hk).2
      cases hr : room us long last k <;> simp [st1, bindP, wipE, getS, this, hr]
    have e : served us P most long last = decide ((P.filter fun k => !room us long last k) = []) := by
      unfold served srv
      rw [hs1, Bool.and_true, Bool.eq_iff_iff, List.all_eq_true, decide_eq_true_iff, List.filter_eq_nil_iff]
      simp
    simp [q, pCmp, e]
  · unfold served srv
    rw [hw, foldl_v _ _ hw, Bool.and_false]
/-! ### hours between -/
def S (us : List U) (i j : Int) : Int := (((us.drop i.toNat).take (j.toNat - i.toNat)).map (·.2.2)).sum
theorem S_self {i : Int} : S us i i = 0 := by simp [S]
theorem S_step {i j : Int} (h0 : 0 ≤ i) (h1 : i ≤ j) (h2 : j < us.length) : S us i (j + 1) = S us i j + hr us j := by
  unfold S hr
  have e1 : (j + 1).toNat - i.toNat = (j.toNat - i.toNat) + 1 := by omega
  have e2 : i.toNat + (j.toNat - i.toNat) = j.toNat := by omega
  rw [e1, List.take_add_one, List.map_append, List.sum_append, List.getElem?_drop, e2, (g_mem (by omega) h2).1]
  simp
theorem sum_nn : ∀ {xs : List Int}, (∀ x ∈ xs, 0 ≤ x) → 0 ≤ xs.sum
  | [], _ => by simp
  | x :: xs, h => by
    have := sum_nn fun y hy => h y (List.mem_cons_of_mem x hy)
    have := h x List.mem_cons_self
    rw [List.sum_cons]; omega
theorem sum_le {m : Int} : ∀ {xs : List Int}, (∀ x ∈ xs, x ≤ m) → xs.sum ≤ m * xs.length
  | [], _ => by simp
  | x :: xs, h => by
    have := sum_le fun y hy => h y (List.mem_cons_of_mem x hy)
    have := h x List.mem_cons_self
    rw [List.sum_cons, List.length_cons]
    have : m * ((xs.length + 1 : Nat) : Int) = m * xs.length + m := by rw [Int.natCast_add, Int.mul_add]; simp
    omega
theorem hr_nn (hU : Us us) {k : Int} (h0 : 0 ≤ k) (h1 : k < us.length) : 0 ≤ hr us k := (hU.ok _ (g_mem h0 h1).2).2.2.1
theorem S_nn (hU : Us us) {i j : Int} : 0 ≤ S us i j := sum_nn fun x hx => by
  obtain ⟨u, hu, rfl⟩ := List.mem_map.mp hx
  exact (hU.ok u (List.mem_of_mem_drop (List.mem_of_mem_take hu))).2.2.1
def free (P : List Int) (i j : Int) : Prop := ∀ k, i ≤ k → k < j → k ∉ P
theorem srv_inv (hU : Us us) : ∀ m : Nat, m ≤ us.length → match (rg 0 m).foldlM (stp us most P) 0 with
    | .ok now => (∀ i : Int, 0 ≤ i → i ≤ m → free P i m → S us i m ≤ now) ∧ 0 ≤ now ∧ (∃ i : Int, 0 ≤ i ∧ i ≤ m ∧ free P i m ∧ now = S us i m) ∧ ∀ i j : Int, 0 ≤ i → i ≤ j → j < m → free P i j → S us i (j + 1) ≤ most
    | .error _ => ∃ i j : Int, 0 ≤ i ∧ i ≤ j ∧ j < m ∧ free P i j ∧ most < S us i (j + 1)
  | 0, _ => ⟨fun i h0 h1 _ => by
      have : i = 0 := by omega
      subst this
      show S us 0 0 ≤ 0
      rw [S_self]; exact Int.le_refl _, Int.le_refl _, ⟨0, by omega, by simp, fun k h1 h2 => by simp at h2; omega, by show (0 : Int) = S us 0 0; rw [S_self]⟩, fun i j h0 h1 h2 => by simp at h2; omega⟩
  | m + 1, hm => by
    have ih := srv_inv hU m (by omega)
    have e : rg 0 ((m + 1 : Nat) : Int) = rg 0 m ++ [(m : Int)] := by
      rw [Int.natCast_add]; exact rg_succ (by omega)
    rw [e, List.foldlM_append]
    cases q : (rg 0 (m : Int)).foldlM (stp us most P) 0 with
    | error w =>
      rw [q] at ih
      obtain ⟨i, j, h0, h1, h2, h3, h4⟩ := ih
      exact ⟨i, j, h0, h1, by omega, h3, h4⟩
    | ok now =>
      rw [q] at ih
      obtain ⟨a1, a2, ⟨i0, b0, b1, b2, b3⟩, a4⟩ := ih
      have hh := hr_nn hU (k := m) (by omega) (by omega)
      have s0 := S_step (us := us) (i := i0) (j := m) b0 b1 (by omega)
      show match [(m : Int)].foldlM (stp us most P) now with
        | .ok now => _
        | .error _ => _
      rw [List.foldlM_cons]
      unfold stp
      by_cases hc : most < now + hr us m
      · rw [if_pos hc]
        exact ⟨i0, m, b0, b1, by omega, b2, by omega⟩
      · rw [if_neg hc]
        show _ ∧ _ ∧ _ ∧ _
        have last : ∀ i j : Int, 0 ≤ i → i ≤ j → j < ((m + 1 : Nat) : Int) → free P i j → S us i (j + 1) ≤ most := fun i j h0 h1 h2 h3 => by
          by_cases hj : j < m
          · exact a4 i j h0 h1 hj h3
          · have : j = m := by omega
            subst this
            have := a1 i h0 h1 h3
            have := S_step (us := us) h0 h1 (by omega)
            omega
        have me : ((m + 1 : Nat) : Int) = (m : Int) + 1 := by omega
        by_cases hp : (m : Int) ∈ P
        · rw [if_pos hp]
          refine ⟨fun i h0 h1 h2 => ?_, by omega, ⟨m + 1, by omega, by omega, fun k h1 h2 => by omega, by rw [me, S_self]⟩, last⟩
          by_cases hi : i = (m : Int) + 1
          · subst hi; rw [me, S_self]; omega
          · exact absurd hp (h2 m (by omega) (by omega))
        · rw [if_neg hp]
          refine ⟨fun i h0 h1 h2 => ?_, by omega, ⟨i0, b0, by omega, fun k h1 h2 => ?_, by rw [me]; omega⟩, last⟩
          · by_cases hi : i = (m : Int) + 1
            · subst hi; rw [me, S_self]; omega
            · have := a1 i h0 (by omega) fun k h3 h4 => h2 k h3 (by omega)
              have := S_step (us := us) (i := i) (j := m) h0 (by omega) (by omega)
              rw [me]; omega
          · by_cases hk : k = m
            · rw [hk]; exact hp
            · exact b2 k h1 (by omega)
theorem srv_iff (hU : Us us) : srv us most P = true ↔ ∀ i j : Int, 0 ≤ i → i ≤ j → j < us.length → free P i j → S us i (j + 1) ≤ most := by
  have h := srv_inv (most := most) (P := P) hU us.length (Nat.le_refl _)
  unfold srv
  cases q : (rg 0 (us.length : Int)).foldlM (stp us most P) 0 with
  | ok now =>
    rw [q] at h
    exact ⟨fun _ => h.2.2.2, fun _ => rfl⟩
  | error w =>
    rw [q] at h
    obtain ⟨i, j, h0, h1, h2, h3, h4⟩ := h
    refine ⟨fun z => (by cases z), fun z => ?_⟩
    have := z i j h0 h1 h2 h3
    omega
def able (us : List U) (long last : Int) : List Int := (rg 0 us.length).filter (room us long last)
theorem S_all {i j : Int} (hU : Us us) (h0 : 0 ≤ i) (h1 : i ≤ j) : S us i j ≤ (us.map (·.2.2)).sum := by
  unfold S
  have e1 := List.take_append_drop (j.toNat - i.toNat) (us.drop i.toNat)
  have e2 := List.take_append_drop i.toNat us
  have a1 : 0 ≤ (((us.drop i.toNat).drop (j.toNat - i.toNat)).map (·.2.2)).sum := sum_nn fun x hx => by
    obtain ⟨u, hu, rfl⟩ := List.mem_map.mp hx
    exact (hU.ok u (List.mem_of_mem_drop (List.mem_of_mem_drop hu))).2.2.1
  have a2 : 0 ≤ ((us.take i.toNat).map (·.2.2)).sum := sum_nn fun x hx => by
    obtain ⟨u, hu, rfl⟩ := List.mem_map.mp hx
    exact (hU.ok u (List.mem_of_mem_take hu)).2.2.1
  have b1 : ((us.drop i.toNat).map (·.2.2)).sum = (((us.drop i.toNat).take (j.toNat - i.toNat)).map (·.2.2)).sum + (((us.drop i.toNat).drop (j.toNat - i.toNat)).map (·.2.2)).sum := by
    rw [← List.sum_append, ← List.map_append, e1]
  have b2 : (us.map (·.2.2)).sum = ((us.take i.toNat).map (·.2.2)).sum + ((us.drop i.toNat).map (·.2.2)).sum := by
    rw [← List.sum_append, ← List.map_append, e2]
  omega
theorem srv_whole (hU : Us us) : srv us ((us.map (·.2.2)).sum) P = true := (srv_iff hU).mpr fun i j h0 h1 _ _ => S_all hU h0 (by omega)
theorem has_room_ok (hU : Us us) : sem DD (n + 2) 9 [EU us, .int long, .int last] D = some (.lst ((able us long last).map .int), D) := by
  have hl := hU.len
  rw [r_f_has_room]
  refine run_ex rfl ?_
  unfold c_f_has_room
  show ∃ ρ', exs _ _ [some (false, EU us), vI long, vI last, none, none, none] _ = _
  refine go_asg (.int ((us.map (·.2.2)).sum)) ?_ ?_
  · have q : ev (sem DD (n + 1)) (.lc1 [5] (.idx (.var 5) (.int 2)) (.nm 5) (.over (.var 0)) .nil) [some (false, EU us), vI long, vI last, none, none, none] D = some (.lst (us.map fun u => .int u.2.2), D) :=
      lcM eu us _ rfl fun u hu => by simp [st1, bindP, wipE, getS]
    simp [q, pSum_lst]
  refine go_ret ?_
  refine lcP PV.int (rg 0 us.length) (room us long last) PV.int (by simp [getS, rngOk_of (a := 0) (b := us.length) (by omega) (by omega) (by omega) (by omega), rngL_rg]) fun k hk => ?_
  obtain ⟨h0, h1⟩ := mem_rg.mp hk
  have c := is_served_ok (n := n) (D := D) (us := us) (P := [k]) (most := (us.map (·.2.2)).sum) (long := long) (last := last) hl (fun x hx => by
    rw [List.mem_singleton] at hx; subst hx; exact ⟨by omega, h1⟩)
  have e : served us [k] ((us.map (·.2.2)).sum) long last = room us long last k := by
    unfold served
    rw [srv_whole hU]; simp
  rw [e] at c
  have c' : sem DD (n + 1) 7 [EU us, .tup [.int k], .int ((us.map (·.2.2)).sum), .int long, .int last] D = some (.bl (room us long last k), D) := c
  cases hr : room us long last k <;> simp [st1, bindP, wipE, getS, c', hr]
/-! ### the fewest services -/
def kv (r : List Int) : PV := .tup [.int r.length, ET r]
theorem shp_ET {m : Nat} {r : List Int} : shp (m + 1) (ET r) = true := shp_ints r
theorem kv_gd (r : List Int) : gd (kv r) = true := by
  show (gd (.int r.length) && (gd (ET r) && true)) = true
  have : gd (ET r) = true := gdL_ints r
  rw [this]; rfl
theorem kv_shp (r : List Int) : shp DEP (kv r) = true := by
  show (shp 19 (.int r.length) && (shp 19 (ET r) && true)) = true
  rw [shp_ET]; rfl
theorem cmpL_ints : ∀ a b : List Int, cmpOkL (a.map .int) (b.map .int) = true
  | [], [] => by simp [cmpOkL]
  | [], _ :: _ => by simp [cmpOkL]
  | _ :: _, [] => by simp [cmpOkL]
  | x :: a, y :: b => by simp [cmpOkL, cmpOk, cmpL_ints a b]
theorem kv_cmp (a b : List Int) : cmpOk (kv a) (kv b) = true := by simp [kv, cmpOk, cmpOkL, cmpL_ints]
theorem kv_C (L : List (List Int)) : Cmp (L.map kv) := Cmp.of L kv_gd kv_shp kv_cmp
theorem kv_lt {a b : List Int} (h : a.length < b.length) : plt (kv a) (kv b) = true := by
  have : ¬ (peq (.int a.length) (.int b.length) = true) := by rw [peq_int]; simp; omega
  simp only [kv, plt, pltL]
  rw [if_neg this]
  exact decide_eq_true (by omega)
theorem kv1 {r : List Int} : pIdx (kv r) (.int 1) = some (ET r) := rfl
theorem okv {r : List Int} : opd D (kv r) = some (kv r) := rfl
theorem ints_inj : ∀ {a b : List Int}, a.map PV.int = b.map PV.int → a = b
  | [], [], _ => rfl
  | [], _ :: _, h => by cases h
  | _ :: _, [], h => by cases h
  | x :: a, y :: b, h => by
    rw [List.map_cons, List.map_cons, List.cons.injEq] at h
    have h1 : x = y := by injection h.1
    rw [h1, ints_inj h.2]
theorem kv_inj {a b : List Int} (h : kv a = kv b) : a = b := by
  have : ET a = ET b := by
    have := congrArg (fun v => pIdx v (.int 1)) h
    simpa [kv1] using this
  have h2 : a.map PV.int = b.map PV.int := by injection this
  exact ints_inj h2
/-- the least of rows by length, then by themselves -/
theorem min_kv {L : List (List Int)} (h : L ≠ []) : ∃ r ∈ L, pMin (L.map kv) = some (kv r) ∧ ∀ y ∈ L, plt (kv y) (kv r) = false := by
  obtain ⟨v, h1, h2, h3⟩ := pMin_ok (kv_C L) (by simpa using h)
  obtain ⟨r, hr, rfl⟩ := List.mem_map.mp h2
  exact ⟨r, hr, h1, fun y hy => h3 _ (List.mem_map.mpr ⟨y, hy, rfl⟩)⟩
theorem min_kv_uni {a b : List Int} (h1 : plt (kv a) (kv b) = false) (h2 : plt (kv b) (kv a) = false) : a = b :=
  kv_inj (plt_con _ _ (kv_gd a) (kv_gd b) (kv_cmp a b) h1 h2)
theorem law_sets_ok {m : Int} (h0 : 0 ≤ m) (h1 : m ≤ 5) : ∃ Ls : List (List Int), (∀ n D, sem DD (n + 1) 25 [.int m] D = some (.lst (Ls.map ET), D)) ∧ (∀ r, r ∈ Ls ↔ r.Sublist (rg 0 m)) ∧ Ls.length ≤ 32 ∧ (Ls.map kv).Pairwise fun a b => plt b a = false := by
  have len5 : (rg 0 m).length ≤ 5 := by rw [rg_len]; omega
  have ht : srtOk ((subs (rg 0 m)).map kv) = true := by
    unfold srtOk
    rw [Bool.or_eq_true]
    exact .inl (List.all_eq_true.mpr fun x hx => by
      obtain ⟨r, _, rfl⟩ := List.mem_map.mp hx; rfl)
  obtain ⟨s, e, hp, hw⟩ := pSort_ok (kv_C (subs (rg 0 m))) ht
  obtain ⟨Ls, rfl⟩ : ∃ Ls : List (List Int), s = Ls.map kv := by
    have : ∀ t : List PV, (∀ x ∈ t, x ∈ (subs (rg 0 m)).map kv) → ∃ Ls : List (List Int), t = Ls.map kv := fun t => by
      induction t with
      | nil => exact fun _ => ⟨[], rfl⟩
      | cons x t ih =>
        intro h
        obtain ⟨Ls, rfl⟩ := ih fun y hy => h y (List.mem_cons_of_mem _ hy)
        obtain ⟨r, _, rfl⟩ := List.mem_map.mp (h x List.mem_cons_self)
        exact ⟨r :: Ls, rfl⟩
    exact this s fun x hx => hp.mem_iff.mp hx
  have hmem : ∀ r, r ∈ Ls ↔ r ∈ subs (rg 0 m) := fun r => by
    have := hp.mem_iff (a := kv r)
    rw [List.mem_map, List.mem_map] at this
    constructor
    · intro h
      obtain ⟨r', h', e'⟩ := this.mp ⟨r, h, rfl⟩
      rw [← kv_inj e']; exact h'
    · intro h
      obtain ⟨r', h', e'⟩ := this.mpr ⟨r, h, rfl⟩
      rw [← kv_inj e']; exact h'
  have hlen : Ls.length ≤ 32 := by
    have := hp.length_eq
    rw [List.length_map, List.length_map, subs_len] at this
    have : (2 : Nat) ^ (rg 0 m).length ≤ 2 ^ 5 := Nat.pow_le_pow_right (by omega) len5
    omega
  refine ⟨Ls, fun n D => ?_, fun r => by rw [hmem, mem_subs], hlen, hw⟩
  rw [r_f__law_sets]
  refine run_ex rfl ?_
  unfold c_f__law_sets
  show ∃ ρ', exs _ _ [vI m, none, none, none, none] _ = _
  refine go_asg (.lst ([[]].map ET)) rfl ?_
  refine go_forP PV.int (rg 0 m) (fun (rows : List (List Int)) ρ => ∃ x2, ρ = [vI m, some (false, .lst (rows.map ET)), x2, none, none]) (fun rows k => rows ++ rows.map (· ++ [k])) [[]] (evi_r1 rfl (by omega) (by omega)) ⟨_, rfl⟩ (fun pre k post ρ hx ⟨x2, hρ⟩ => ?_) (fun ρ1 ⟨x2, hρ⟩ => ?_)
  · subst hρ
    have hpl : pre.length ≤ 5 := by
      have := congrArg List.length hx
      rw [List.length_append] at this
      omega
    have hsl : (subs pre).length ≤ 32 := by
      rw [subs_len]
      have : (2 : Nat) ^ pre.length ≤ 2 ^ 5 := Nat.pow_le_pow_right (by omega) hpl
      omega
    show ∃ o ρ', _ ∧ _ ∧ ∃ x2, ρ' = [vI m, some (false, .lst ((subs pre ++ (subs pre).map (· ++ [k])).map ET)), x2, none, none]
    refine ⟨.nx, [vI m, some (false, .lst ((subs pre ++ (subs pre).map (· ++ [k])).map ET)), vI k, none, none], ?_, .inl rfl, _, rfl⟩
    have q : ev (sem DD n) (.lc1 [4] (.bin .add (.var 4) (.tup (.cons (.var 2) .nil))) (.nm 4) (.over (.var 1)) .nil) [vI m, some (false, .lst ((subs pre).map ET)), vI k, none, none] D = some (.lst ((subs pre).map fun r => ET (r ++ [k])), D) := by
      refine lcM ET (subs pre) _ rfl fun r hr => ?_
      have hrl : r.length ≤ 1000 := by
        have := ((mem_subs pre).mp hr).length_le
        omega
      have a := row_add (r := r) (k := k) hrl
      simp [st1, bindP, wipE, getS, a]
    show exs (sem DD n) _ [vI m, some (false, .lst ((subs pre).map ET)), vI k, none, none] D = _
    have ad := lst_add (a := (subs pre).map ET) (b := (subs pre).map fun r => ET (r ++ [k])) (by simp; omega)
    have v1 : ev (sem DD n) (.var 1) [vI m, some (false, .lst ((subs pre).map ET)), vI k, none, none] D = some (.lst ((subs pre).map ET), D) := rfl
    rw [exs_cons, ex_asg, ev_bin, v1, Option.bind_some, q, Option.bind_some, ad]
    simp [List.map_map, Function.comp_def]
  · subst hρ
    refine go_ret ?_
    show ev (sem DD n) _ [vI m, some (false, .lst ((subs (rg 0 m)).map ET)), x2, none, none] D = _
    have q : ev (sem DD n) (.lc1 [4] (.tup (.cons (.bi .len (.cons (.var 4) .nil)) (.cons (.var 4) .nil))) (.nm 4) (.over (.var 1)) .nil) [vI m, some (false, .lst ((subs (rg 0 m)).map ET)), x2, none, none] D = some (.lst ((subs (rg 0 m)).map kv), D) :=
      lcM ET (subs (rg 0 m)) kv rfl fun r hr => by simp [st1, bindP, wipE, getS, kv]
    have so : pBi .sorted [.lst ((subs (rg 0 m)).map kv)] = some (.lst (Ls.map kv)) := by
      show (pSort _).map PV.lst = _
      rw [e]; rfl
    refine lcM kv Ls ET (evi_ov (by simp [q, so])) fun r hr => ?_
    simp [st1, bindP, wipE, getS, okv, kv1]
def cnd (us : List U) (most long last i j : Int) : Bool := decide (((able us long last).filter fun k => decide (i ≤ k) && decide (k < j)) = []) && decide (most < S us i (j + 1))
def bars (us : List U) (most long last : Int) : List (Int × Int) := (rg 0 us.length).flatMap fun j => ((rg 0 (j + 1)).filter fun i => cnd us most long last i j).map fun i => (i, j)
def noV (q : Int × Int) : PV := .tup [.str "no", .int q.1, .int q.2]
def yesV (r : List Int) : PV := .tup [.str "yes", ET r]
/-- what fewest_services gives -/
def Few (us : List U) (most long last : Int) (v : PV) : Prop := (∃ q, (bars us most long last).head? = some q ∧ v = noV q) ∨ (bars us most long last = [] ∧ ∃ r, r.Sublist (rg 0 us.length) ∧ served us r most long last = true ∧ (∀ y : List Int, y.Sublist (rg 0 us.length) → served us y most long last = true → plt (kv y) (kv r) = false) ∧ v = yesV r)
theorem chn_ok {a b c : Int} : (pCmp .le (.int a) (.int b)) = some (decide (a ≤ b)) := rfl
theorem ev_S {Φ : Fns} {ρ : Envi} {i j : Int} {own : List Nat} {x y : Nat} {lo hi a : CE} (hU : Us us) (h0 : 0 ≤ i) (h1 : i ≤ j) (h2 : j ≤ us.length) (ea : ev Φ a ρ D = some (EU us, D)) (e1 : ev Φ lo ρ D = some (.int i, D)) (e2 : ev Φ hi ρ D = some (.int j, D)) {ce : CE} {pt : Pat} (H : ∀ u ∈ us, st1 Φ own ce pt .nil ρ (eu u) D = some ([.int u.2.2], D)) :
    ev Φ (.bi .sum (.cons (.lc1 own ce pt (.over (.cut a (.cons lo .nil) (.cons hi .nil))) .nil) .nil)) ρ D = some (.int (S us i j), D) := by
  have q : ev Φ (.lc1 own ce pt (.over (.cut a (.cons lo .nil) (.cons hi .nil))) .nil) ρ D = some (.lst ((((us.drop i.toNat).take (j.toNat - i.toNat))).map fun u => .int u.2.2), D) := by
    refine lcM eu ((us.drop i.toNat).take (j.toNat - i.toNat)) _ (evi_ovT ?_) fun u hu => H u (List.mem_of_mem_drop (List.mem_of_mem_take hu))
    rw [ev_cut, ea, Option.bind_some, evo_one, e1]
    simp only [Option.bind_some, Option.map_some, intOf_int, evo_one, e2, pCut_tup, cutL_map]
    rw [cut_mid h0 h1 h2]
  rw [ev_bi, evs_cons, q]
  simp only [Option.bind_some, evs_nil, Option.map_some, mapO_cons, mapO_nil, opd_lst, pSum_lst]
  rfl
theorem able_sub : (able us long last).Sublist (rg 0 us.length) := List.filter_sublist
theorem able_len (hl : us.length ≤ 5) : (able us long last).length ≤ 5 := by
  have := (able_sub (us := us) (long := long) (last := last)).length_le
  rw [rg_len] at this; omega
theorem able_iff {r : List Int} : r.Sublist (able us long last) ↔ r.Sublist (rg 0 us.length) ∧ ∀ x ∈ r, room us long last x = true := sub_filter
theorem served_able {r : List Int} (h : served us r most long last = true) : ∀ x ∈ r, room us long last x = true := by
  unfold served at h
  rw [Bool.and_eq_true, List.all_eq_true] at h
  exact h.1
/-- no bar: to serve behind all that have room is enough -/
theorem no_bars (hU : Us us) (h : bars us most long last = []) : served us (able us long last) most long last = true := by
  unfold served
  rw [Bool.and_eq_true, List.all_eq_true, srv_iff hU]
  refine ⟨fun x hx => (List.mem_filter.mp hx).2, fun i j h0 h1 h2 hf => ?_⟩
  by_cases hc : S us i (j + 1) ≤ most
  · exact hc
  · exfalso
    have : (i, j) ∈ bars us most long last := by
      unfold bars
      rw [List.mem_flatMap]
      refine ⟨j, mem_rg.mpr ⟨by omega, h2⟩, List.mem_map.mpr ⟨i, List.mem_filter.mpr ⟨mem_rg.mpr ⟨h0, by omega⟩, ?_⟩, rfl⟩⟩
      unfold cnd
      rw [Bool.and_eq_true]
      refine ⟨decide_eq_true (List.filter_eq_nil_iff.mpr fun k hk hk2 => ?_), decide_eq_true (by omega)⟩
      rw [Bool.and_eq_true] at hk2
      exact hf k (of_decide_eq_true hk2.1) (of_decide_eq_true hk2.2) hk
    rw [h] at this; cases this
/-- a bar: no services are enough -/
theorem a_bar (hU : Us us) {q : Int × Int} (hq : q ∈ bars us most long last) {r : List Int} (hr : r.Sublist (rg 0 us.length)) : served us r most long last = false := by
  cases e : served us r most long last with
  | false => rfl
  | true =>
    exfalso
    have hra := served_able e
    unfold served at e
    rw [Bool.and_eq_true, srv_iff hU] at e
    unfold bars at hq
    obtain ⟨j, hj, hq⟩ := List.mem_flatMap.mp hq
    obtain ⟨i, hi, rfl⟩ := List.mem_map.mp hq
    obtain ⟨hi, hc⟩ := List.mem_filter.mp hi
    rw [mem_rg] at hi hj
    unfold cnd at hc
    rw [Bool.and_eq_true] at hc
    have h1 := of_decide_eq_true hc.1
    have h2 := of_decide_eq_true hc.2
    have := e.2 i j hi.1 (by omega) hj.2 fun k h3 h4 hk => by
      have := List.filter_eq_nil_iff.mp h1 k (List.mem_filter.mpr ⟨hr.subset hk, hra k hk⟩)
      simp [h3, h4] at this
    omega
theorem few_ok (hU : Us us) : ∃ v, Few us most long last v ∧ ∀ n D, sem DD (n + 3) 8 [EU us, .int most, .int long, .int last] D = some (v, D) := by
  have hl := hU.len
  have alen := able_len (long := long) (last := last) hl
  -- the least of the good ones
  have key : bars us most long last = [] → ∃ r, r.Sublist (rg 0 us.length) ∧ served us r most long last = true ∧ (∀ y : List Int, y.Sublist (rg 0 us.length) → served us y most long last = true → plt (kv y) (kv r) = false) ∧ pMin (((subs (able us long last)).filter fun r => served us r most long last).map kv) = some (kv r) := fun hb => by
    have hne : ((subs (able us long last)).filter fun r => served us r most long last) ≠ [] := fun z => by
      have := (List.mem_filter (p := fun r => served us r most long last)).mpr ⟨(mem_subs (able us long last)).mpr (List.Sublist.refl _), no_bars hU hb⟩
      rw [z] at this; cases this
    obtain ⟨r, hr, hm, hr2⟩ := min_kv hne
    obtain ⟨h1, h2⟩ := List.mem_filter.mp hr
    refine ⟨r, ((mem_subs _).mp h1).trans able_sub, h2, fun y hy hs => hr2 y (List.mem_filter.mpr ⟨(mem_subs _).mpr (able_iff.mpr ⟨hy, served_able hs⟩), hs⟩), hm⟩
  have spec : ∃ v, Few us most long last v ∧ ((∃ q, (bars us most long last).head? = some q ∧ v = noV q) ∨ ((bars us most long last).head? = none ∧ ∃ r, v = yesV r ∧ pMin (((subs (able us long last)).filter fun r => served us r most long last).map kv) = some (kv r))) := by
    cases e : (bars us most long last).head? with
    | some q => exact ⟨noV q, .inl ⟨q, e, rfl⟩, .inl ⟨q, rfl, rfl⟩⟩
    | none =>
      have hb : bars us most long last = [] := by
        cases q : bars us most long last with
        | nil => rfl
        | cons a t => rw [q] at e; cases e
      obtain ⟨r, h1, h2, h3, h4⟩ := key hb
      exact ⟨yesV r, .inr ⟨hb, r, h1, h2, h3, rfl⟩, .inr ⟨rfl, r, rfl, h4⟩⟩
  obtain ⟨v, hF, hv⟩ := spec
  refine ⟨v, hF, fun n D => ?_⟩
  rw [r_f_fewest_services]
  refine run_ex rfl ?_
  unfold c_f_fewest_services
  show ∃ ρ', exs _ _ [some (false, EU us), vI most, vI long, vI last, none, none, none, none, none, none, none, none, none, none] _ = _
  refine go_asg (.lst ((able us long last).map .int)) ?_ ?_
  · have := has_room_ok (n := n) (D := D) (long := long) (last := last) hU
    simp [getS, this]
  have f2 : (rg 0 (us.length : Int)).foldlM (fun (_ : Unit) j => (rg 0 (j + 1)).foldlM (fun (_ : Unit) i => if cnd us most long last i j then (.error (noV (i, j)) : Except PV Unit) else .ok ()) ()) () = hE noV (bars us most long last).head? := by
    unfold bars
    refine foldlM_find2 (fun j => (rg 0 (j + 1)).foldlM (fun (_ : Unit) i => if cnd us most long last i j then (.error (noV (i, j)) : Except PV Unit) else .ok ()) ()) (fun j => ((rg 0 (j + 1)).filter fun i => cnd us most long last i j).map fun i => (i, j)) noV (fun j => ?_) (rg 0 us.length)
    rw [foldlM_find (fun i => cnd us most long last i j) (fun i => noV (i, j))]
    cases ((rg 0 (j + 1)).filter fun i => cnd us most long last i j) <;> rfl
  refine go_forE PV.int (rg 0 us.length) (fun (_ : Unit) ρ => ∃ x5 x9 x10, ρ = [some (false, EU us), vI most, vI long, vI last, some (false, .lst ((able us long last).map .int)), x5, none, none, none, x9, x10, none, none, none])
    (fun (_ : Unit) j => (rg 0 (j + 1)).foldlM (fun (_ : Unit) i => if cnd us most long last i j then (.error (noV (i, j)) : Except PV Unit) else .ok ()) ()) () (evi_r1 (by simp [getS]) (by omega) (by omega)) ⟨_, _, _, rfl⟩ (fun s j ρ hj ⟨x5, x9, x10, hρ⟩ => ?_) (fun s1 hs ρ1 ⟨x5, x9, x10, hρ⟩ => ?_) (fun w hw => ?_)
  · subst hρ
    obtain ⟨j0, j1⟩ := mem_rg.mp hj
    refine bd_forE PV.int (rg 0 (j + 1)) (fun (_ : Unit) ρ => ∃ x9 x10, ρ = [some (false, EU us), vI most, vI long, vI last, some (false, .lst ((able us long last).map .int)), vI j, none, none, none, x9, x10, none, none, none]) (fun _ ρ ⟨x9, x10, h⟩ => ⟨_, x9, x10, h⟩) _ () (ρ := [some (false, EU us), vI most, vI long, vI last, some (false, .lst ((able us long last).map .int)), vI j, none, none, none, x9, x10, none, none, none]) rfl (by exact evi_r1 rfl (by omega) (by omega)) ⟨_, _, rfl⟩ (fun s i ρ hi ⟨x9, x10, hρ⟩ => ?_)
    subst hρ
    obtain ⟨i0, i1⟩ := mem_rg.mp hi
    have a := lcP PV.int (able us long last) (fun k => decide (i ≤ k) && decide (k < j)) PV.int (Φ := sem DD (n + 2)) (D := D) (own := [7]) (ce := .var 7) (pt := .nm 7) (ci := .over (.var 4)) (ct := .cons (.chn .le .lt (.var 9) (.var 7) (.var 5)) .nil)
      (ρ := [some (false, EU us), vI most, vI long, vI last, some (false, .lst ((able us long last).map .int)), vI j, none, none, none, vI i, x10, none, none, none]) rfl (fun k hk => by
        by_cases h1 : i ≤ k
        · by_cases h2 : k < j <;> simp [st1, bindP, wipE, getS, pCmp, h1, h2]
        · simp [st1, bindP, wipE, getS, pCmp, h1])
    have sm := fun x10 => ev_S (Φ := sem DD (n + 2)) (D := D) (ρ := [some (false, EU us), vI most, vI long, vI last, some (false, .lst ((able us long last).map .int)), vI j, none, none, none, vI i, x10, none, none, none]) (own := [12, 13]) (ce := .var 13) (pt := .tp [(.nm 12), (.nm 12), (.nm 13)]) (a := .var 0) (lo := .var 9) (hi := .bin .add (.var 5) (.int 1)) (x := 0) (y := 0) (i := i) (j := j + 1) hU i0 (by omega) (by omega) rfl rfl rfl
      (fun u hu => by simp [st1, bindP, bindPs, wipE, getS, eu])
    have fin : ∀ z, ev (sem DD (n + 2)) (.and_ (.cons (.cmp .eq (.var 10) (.lst .nil)) (.cons (.cmp .gt (.bi .sum (.cons (.lc1 [12, 13] (.var 13) (.tp [(.nm 12), (.nm 12), (.nm 13)]) (.over (.cut (.var 0) (.cons (.var 9) .nil) (.cons (.bin .add (.var 5) (.int 1)) .nil))) .nil) .nil)) (.var 1)) .nil))) [some (false, EU us), vI most, vI long, vI last, some (false, .lst ((able us long last).map .int)), vI j, none, none, none, vI i, z, none, none, none] D = some (.bl (cnd us most long last i j), D) ∨ z ≠ some (false, .lst (((able us long last).filter fun k => decide (i ≤ k) && decide (k < j)).map .int)) := fun z => by
      by_cases hz : z = some (false, .lst (((able us long last).filter fun k => decide (i ≤ k) && decide (k < j)).map .int))
      · left
        subst hz
        have s2 := sm (some (false, .lst (((able us long last).filter fun k => decide (i ≤ k) && decide (k < j)).map .int)))
        generalize hF : ((able us long last).filter fun k => decide (i ≤ k) && decide (k < j)) = F at *
        have hc : cnd us most long last i j = (decide (F = []) && decide (most < S us i (j + 1))) := by rw [← hF]; rfl
        rw [hc]
        have b1 : ∀ (a b c d e f g h i j k l m : Option (Bool × PV)) (x : PV), getS [a, b, c, d, e, f, g, h, i, j, some (false, x), k, l, m] 10 = some x := fun _ _ _ _ _ _ _ _ _ _ _ _ _ _ => rfl
        generalize hρ : ([some (false, EU us), vI most, vI long, vI last, some (false, .lst ((able us long last).map .int)), vI j, none, none, none, vI i, some (false, .lst (F.map .int)), none, none, none] : Envi) = ρ at *
        have t1 : ev (sem DD (n + 2)) (.cmp .eq (.var 10) (.lst .nil)) ρ D = some (.bl (decide (F = [])), D) := by
          rw [← hρ]
          simp [b1, pCmp]
        have v1 : ev (sem DD (n + 2)) (.var 1) ρ D = some (.int most, D) := by rw [← hρ]; rfl
        rw [ev_and, evand_cons, t1, Option.bind_some, blOf_bl, Option.bind_some]
        by_cases h1 : F = []
        · rw [decide_eq_true h1, if_pos rfl, evand_one, ev_cmp, s2, Option.bind_some, v1, Option.bind_some, opd_int, Option.bind_some]
          simp [pCmp]
        · rw [decide_eq_false h1]; rfl
      · exact .inr hz
    have fin := (fin _).resolve_right (fun h => h rfl)
    by_cases hc : cnd us most long last i j = true
    · rw [if_pos hc]
      refine ⟨[some (false, EU us), vI most, vI long, vI last, some (false, .lst ((able us long last).map .int)), vI j, none, none, none, vI i, some (false, .lst (((able us long last).filter fun k => decide (i ≤ k) && decide (k < j)).map .int)), none, none, none], ?_⟩
      show exs _ _ [some (false, EU us), vI most, vI long, vI last, some (false, .lst ((able us long last).map .int)), vI j, none, none, none, vI i, x10, none, none, none] _ = _
      rw [exs_cons, ex_asg, a]
      show exs _ _ [some (false, EU us), vI most, vI long, vI last, some (false, .lst ((able us long last).map .int)), vI j, none, none, none, vI i, some (false, .lst (((able us long last).filter fun k => decide (i ≤ k) && decide (k < j)).map .int)), none, none, none] _ = _
      rw [exs_cons, ex_ife, fin, hc]
      rfl
    · rw [if_neg hc]
      refine ⟨.nx, [some (false, EU us), vI most, vI long, vI last, some (false, .lst ((able us long last).map .int)), vI j, none, none, none, vI i, some (false, .lst (((able us long last).filter fun k => decide (i ≤ k) && decide (k < j)).map .int)), none, none, none], ?_, .inl rfl, _, _, rfl⟩
      show exs _ _ [some (false, EU us), vI most, vI long, vI last, some (false, .lst ((able us long last).map .int)), vI j, none, none, none, vI i, x10, none, none, none] _ = _
      rw [exs_cons, ex_asg, a]
      show exs _ _ [some (false, EU us), vI most, vI long, vI last, some (false, .lst ((able us long last).map .int)), vI j, none, none, none, vI i, some (false, .lst (((able us long last).filter fun k => decide (i ≤ k) && decide (k < j)).map .int)), none, none, none] _ = _
      rw [exs_cons, ex_ife, fin, Bool.eq_false_iff.mpr hc]
      rfl
  · subst hρ
    have hnone : (bars us most long last).head? = none := by
      rw [f2] at hs
      cases q : (bars us most long last).head? with
      | some y => rw [q] at hs; cases hs
      | none => rfl
    rcases hv with ⟨q, hq, _⟩ | ⟨_, r, hr, hm⟩
    · rw [hnone] at hq; cases hq
    subst hr
    refine go_asg (.lst ([[]].map ET)) rfl ?_
    show ∃ ρ', exs _ _ [some (false, EU us), vI most, vI long, vI last, some (false, .lst ((able us long last).map .int)), x5, some (false, .lst ([[]].map ET)), none, none, x9, x10, none, none, none] _ = _
    refine go_forP PV.int (able us long last) (fun (rows : List (List Int)) ρ => ∃ x7, ρ = [some (false, EU us), vI most, vI long, vI last, some (false, .lst ((able us long last).map .int)), x5, some (false, .lst (rows.map ET)), x7, none, x9, x10, none, none, none]) (fun rows k => rows ++ rows.map (· ++ [k])) [[]] rfl ⟨_, rfl⟩ (fun pre k post ρ hx ⟨x7, hρ⟩ => ?_) (fun ρ1 ⟨x7, hρ⟩ => ?_)
    · subst hρ
      have hpl : pre.length ≤ 5 := by
        have := congrArg List.length hx
        rw [List.length_append] at this
        omega
      have hsl : (subs pre).length ≤ 32 := by
        rw [subs_len]
        have : (2 : Nat) ^ pre.length ≤ 2 ^ 5 := Nat.pow_le_pow_right (by omega) hpl
        omega
      have q : ev (sem DD (n + 2)) (.lc1 [11] (.bin .add (.var 11) (.tup (.cons (.var 7) .nil))) (.nm 11) (.over (.var 6)) .nil) [some (false, EU us), vI most, vI long, vI last, some (false, .lst ((able us long last).map .int)), x5, some (false, .lst ((subs pre).map ET)), vI k, none, x9, x10, none, none, none] D = some (.lst ((subs pre).map fun r => ET (r ++ [k])), D) := by
        refine lcM ET (subs pre) _ rfl fun r hr => ?_
        have hrl : r.length ≤ 1000 := by
          have := ((mem_subs pre).mp hr).length_le
          omega
        have a := row_add (r := r) (k := k) hrl
        simp [st1, bindP, wipE, getS, a]
      have ad := lst_add (a := (subs pre).map ET) (b := (subs pre).map fun r => ET (r ++ [k])) (by simp; omega)
      refine ⟨.nx, [some (false, EU us), vI most, vI long, vI last, some (false, .lst ((able us long last).map .int)), x5, some (false, .lst ((subs pre ++ (subs pre).map (· ++ [k])).map ET)), vI k, none, x9, x10, none, none, none], ?_, .inl rfl, _, rfl⟩
      show exs (sem DD (n + 2)) _ [some (false, EU us), vI most, vI long, vI last, some (false, .lst ((able us long last).map .int)), x5, some (false, .lst ((subs pre).map ET)), vI k, none, x9, x10, none, none, none] D = _
      have v1 : ev (sem DD (n + 2)) (.var 6) [some (false, EU us), vI most, vI long, vI last, some (false, .lst ((able us long last).map .int)), x5, some (false, .lst ((subs pre).map ET)), vI k, none, x9, x10, none, none, none] D = some (.lst ((subs pre).map ET), D) := rfl
      rw [exs_cons, ex_asg, ev_bin, v1, Option.bind_some, q, Option.bind_some, ad]
      simp [List.map_map, Function.comp_def]
    · subst hρ
      have alen2 : ∀ y ∈ subs (able us long last), ∀ k ∈ y, -1 ≤ k ∧ k < us.length := fun y hy k hk => by
        have := mem_rg.mp (able_sub.subset (((mem_subs _).mp hy).subset hk))
        omega
      refine go_asg (.lst (((subs (able us long last)).filter fun r => served us r most long last).map kv)) ?_ ?_
      · refine lcP ET (subs (able us long last)) (fun r => served us r most long last) kv rfl fun y hy => ?_
        have c := is_served_ok (n := n + 1) (D := D) (us := us) (P := y) (most := most) (long := long) (last := last) hl (alen2 y hy)
        cases hr : served us y most long last <;> simp [st1, bindP, wipE, getS, c, hr, kv]
      refine go_ret ?_
      have pm : pBi .min [.lst (((subs (able us long last)).filter fun r => served us r most long last).map kv)] = some (kv r) := hm
      simp only [ev_tup, evs_cons, ev_str, Option.bind_some, ev_idx, ev_bi, ev_var]
      have g8 : ∀ (a b c d e f g h i j k l m : Option (Bool × PV)) (x : PV), getS ([a, b, c, d, e, f, g, h, i, j, k, l, m, none].set 8 (some (false, x))) 8 = some x := fun _ _ _ _ _ _ _ _ _ _ _ _ _ _ => rfl
      rw [g8]
      simp only [Option.map_some, Option.bind_some, evs_nil, mapO_cons, mapO_nil, opd_lst, pm, ev_int, okv, kv1]
      rfl
  · rcases hv with ⟨q, hq, rfl⟩ | ⟨hn, _⟩
    · rw [f2, hq] at hw
      cases hw; rfl
    · rw [f2, hn] at hw; cases hw
end
end MP.K13

namespace MP.K13
open PySem MP
section
variable {us : List U} {P : List Int} {n : Nat} {D : DS} {most long last many : Int}
theorem yy : pEq (.str "yes") (.str "yes") = some true := by decide +kernel
theorem ny : pEq (.str "no") (.str "yes") = some false := by decide +kernel
def tot (us : List U) : Int := (us.map (·.2.2)).sum
def okm (us : List U) (many long last m : Int) : Bool := (subs (rg 0 us.length)).any fun y => decide ((y.length : Int) ≤ many) && served us y m long last
theorem okm_iff {m : Int} : okm us many long last m = true ↔ ∃ y : List Int, y.Sublist (rg 0 us.length) ∧ (y.length : Int) ≤ many ∧ served us y m long last = true := by
  unfold okm
  rw [List.any_eq_true]
  constructor
  · rintro ⟨y, hy, h⟩
    rw [Bool.and_eq_true] at h
    exact ⟨y, (mem_subs _).mp hy, of_decide_eq_true h.1, h.2⟩
  · rintro ⟨y, hy, h1, h2⟩
    exact ⟨y, (mem_subs _).mpr hy, by rw [Bool.and_eq_true]; exact ⟨decide_eq_true h1, h2⟩⟩
theorem tot_le (hU : Us us) : 0 ≤ tot us ∧ tot us ≤ 25 := by
  refine ⟨sum_nn fun x hx => ?_, ?_⟩
  · obtain ⟨u, hu, rfl⟩ := List.mem_map.mp hx
    exact (hU.ok u hu).2.2.1
  · have := sum_le (m := 5) (xs := us.map (·.2.2)) fun x hx => by
      obtain ⟨u, hu, rfl⟩ := List.mem_map.mp hx
      exact (hU.ok u hu).2.2.2.2
    rw [List.length_map] at this
    have := hU.len
    unfold tot
    omega
theorem ev_tot {Φ : Fns} {ρ : Envi} {own : List Nat} {ce a : CE} {pt : Pat} (ea : ev Φ a ρ D = some (EU us, D)) (H : ∀ u ∈ us, st1 Φ own ce pt .nil ρ (eu u) D = some ([.int u.2.2], D)) :
    ev Φ (.bi .sum (.cons (.lc1 own ce pt (.over a) .nil) .nil)) ρ D = some (.int (tot us), D) := by
  have q : ev Φ (.lc1 own ce pt (.over a) .nil) ρ D = some (.lst (us.map fun u => .int u.2.2), D) := lcM eu us _ (evi_ovT ea) H
  rw [ev_bi, evs_cons, q]
  simp only [Option.bind_some, evs_nil, Option.map_some, mapO_cons, mapO_nil, opd_lst, pSum_lst]
  rfl
theorem okm_tot (hU : Us us) (hm : 0 ≤ many) : okm us many long last (tot us) = true := okm_iff.mpr ⟨[], List.nil_sublist _, by simpa using hm, by unfold served; rw [show tot us = (us.map (·.2.2)).sum from rfl, srv_whole hU]; rfl⟩
theorem least_ok (hU : Us us) (hm : 0 ≤ many) : ∃ m, ((rg 0 (tot us + 1)).filter (okm us many long last)).head? = some m ∧ 0 ≤ m ∧ m ≤ 25 ∧ ∀ n D, sem DD (n + 4) 10 [EU us, .int many, .int long, .int last] D = some (.int m, D) := by
  obtain ⟨t0, t1⟩ := tot_le hU
  have hin : tot us ∈ (rg 0 (tot us + 1)).filter (okm us many long last) := List.mem_filter.mpr ⟨mem_rg.mpr ⟨t0, by omega⟩, okm_tot hU hm⟩
  obtain ⟨m, hm1⟩ : ∃ m, ((rg 0 (tot us + 1)).filter (okm us many long last)).head? = some m := by
    cases q : (rg 0 (tot us + 1)).filter (okm us many long last) with
    | nil => rw [q] at hin; cases hin
    | cons a t => exact ⟨a, rfl⟩
  have hm2 := (List.mem_filter.mp (List.mem_of_mem_head? hm1)).1
  rw [mem_rg] at hm2
  refine ⟨m, hm1, hm2.1, by omega, fun n D => ?_⟩
  rw [r_f_least_most]
  refine run_ex rfl ?_
  unfold c_f_least_most
  show ∃ ρ', exs _ _ [some (false, EU us), vI many, vI long, vI last, none, none, none] _ = _
  have s0 := ev_tot (Φ := sem DD (n + 3)) (D := D) (ρ := [some (false, EU us), vI many, vI long, vI last, none, none, none]) (own := [6]) (ce := .idx (.var 6) (.int 2)) (pt := .nm 6) (a := .var 0) (us := us) rfl (fun u hu => by simp [st1, bindP, wipE, getS])
  refine go_forE PV.int (rg 0 (tot us + 1)) (fun (_ : Unit) ρ => ∃ x4 x5, ρ = [some (false, EU us), vI many, vI long, vI last, x4, x5, none]) (fun (_ : Unit) m => if okm us many long last m then (.error (.int m) : Except PV Unit) else .ok ()) ()
    (evi_r1 (m := tot us + 1) (by rw [ev_bin, s0]; rfl) (by omega) (by omega)) ⟨_, _, rfl⟩ (fun s x ρ hx ⟨x4, x5, hρ⟩ => ?_) (fun s1 hs ρ1 ⟨x4, x5, hρ⟩ => ?_) (fun w hw => ?_)
  · subst hρ
    obtain ⟨v, hF, hv⟩ := few_ok (us := us) (most := x) (long := long) (last := last) hU
    have hv := hv n D
    rcases hF with ⟨q, hq, rfl⟩ | ⟨hb, r, r1, r2, r3, rfl⟩
    · have : okm us many long last x = false := by
        cases e : okm us many long last x with
        | false => rfl
        | true =>
          obtain ⟨y, y1, _, y3⟩ := okm_iff.mp e
          rw [a_bar hU (List.mem_of_mem_head? hq) y1] at y3; cases y3
      rw [this]
      refine ⟨.nx, [some (false, EU us), vI many, vI long, vI last, vI x, some (false, noV q), none], ?_, .inl rfl, _, _, rfl⟩
      have i0 : pIdx (noV q) (.int 0) = some (.str "no") := rfl
      have o0 : opd D (noV q) = some (noV q) := rfl
      simp [bindP, getS, hv, i0, o0, pCmp, ny]
    · have e : okm us many long last x = decide ((r.length : Int) ≤ many) := by
        rw [Bool.eq_iff_iff, okm_iff, decide_eq_true_iff]
        constructor
        · rintro ⟨y, y1, y2, y3⟩
          by_cases h : r.length ≤ y.length
          · omega
          · have := kv_lt (a := y) (b := r) (by omega)
            rw [r3 y y1 y3] at this; cases this
        · exact fun h => ⟨r, r1, h, r2⟩
      rw [e]
      have i0 : pIdx (yesV r) (.int 0) = some (.str "yes") := rfl
      have i1 : pIdx (yesV r) (.int 1) = some (ET r) := rfl
      have o0 : opd D (yesV r) = some (yesV r) := rfl
      by_cases h : (r.length : Int) ≤ many
      · rw [decide_eq_true h, if_pos rfl]
        refine ⟨[some (false, EU us), vI many, vI long, vI last, vI x, some (false, yesV r), none], ?_⟩
        simp [bindP, getS, hv, i0, i1, o0, pCmp, yy, h]
      · rw [decide_eq_false h]
        refine ⟨.nx, [some (false, EU us), vI many, vI long, vI last, vI x, some (false, yesV r), none], ?_, .inl rfl, _, _, rfl⟩
        simp [bindP, getS, hv, i0, i1, o0, pCmp, yy, h]
  · rw [foldlM_find, hm1] at hs
    cases hs
  · rw [foldlM_find, hm1] at hw
    cases hw; rfl
/-! ### wear -/
theorem enumL_g {α : Type} (enc : α → PV) (d : α) (xs : List α) : enumL (xs.map enc) = (rg 0 xs.length).map fun k => .tup [.int k, enc (xs.getD k.toNat d)] := by
  unfold enumL rg
  apply List.ext_getElem
  · simp
  · intro i h1 h2
    have : i < xs.length := by simpa using h1
    simp [this]
def wst (us : List U) (P : List Int) (each gain : Int) (s : List Int × Int) (k : Int) : List Int × Int := (s.1 ++ [s.2 + each * hr us k], if k ∈ P then (if s.2 + each * hr us k - gain > 0 then s.2 + each * hr us k - gain else 0) else s.2 + each * hr us k)
def wear (us : List U) (P : List Int) (each gain : Int) : List Int := ((rg 0 us.length).foldl (wst us P each gain) ([], 0)).1
theorem wst_len (us : List U) (P : List Int) (each gain : Int) : ∀ (xs : List Int) (s : List Int × Int), (xs.foldl (wst us P each gain) s).1.length = s.1.length + xs.length
  | [], _ => rfl
  | x :: xs, s => by
    rw [List.foldl_cons, wst_len us P each gain xs]
    simp [wst]; omega
theorem wear_len {each gain : Int} : (wear us P each gain).length = us.length := by
  unfold wear
  rw [wst_len, rg_len]; simp
theorem wear_ok {each gain : Int} (hU : Us us) : sem DD (n + 1) 11 [EU us, ET P, .int each, .int gain] D = some (ET (wear us P each gain), D) := by
  have hl := hU.len
  rw [r_f_wear_after]
  refine run_ex rfl ?_
  unfold c_f_wear_after
  show ∃ ρ', exs _ _ [some (false, EU us), some (false, ET P), vI each, vI gain, none, none, none, none, none] _ = _
  refine go_nx (D1 := D) (ρ1 := [some (false, EU us), some (false, ET P), vI each, vI gain, some (true, .lst []), vI 0, none, none, none]) rfl ?_
  refine go_forP (fun k => .tup [.int k, eu (g us k)]) (rg 0 us.length) (fun (s : List Int × Int) ρ => s.1.length ≤ 5 → ∃ x6 x7 x8, ρ = [some (false, EU us), some (false, ET P), vI each, vI gain, some (true, .lst (s.1.map .int)), vI s.2, x6, x7, x8]) (wst us P each gain) ([], 0) (by
      rw [evi_enum, show ev (sem DD n) (.var 0) [some (false, EU us), some (false, ET P), vI each, vI gain, some (true, .lst []), vI 0, none, none, none] D = some (EU us, D) from rfl, Option.bind_some, seqOf_tup]; exact congrArg (fun z => some (z, D)) (enumL_g eu (0, 0, 0) us)) (fun _ => ⟨_, _, _, rfl⟩) (fun pre k post ρ hx hR => ?_) (fun ρ1 hR => ?_)
  · have hpl : pre.length < 5 := by
      have := congrArg List.length hx
      rw [List.length_append, List.length_cons, rg_len] at this
      omega
    have hfl := wst_len us P each gain pre ([], 0)
    generalize pre.foldl (wst us P each gain) ([], 0) = s at *
    obtain ⟨x6, x7, x8, hρ⟩ := hR (by simp at hfl; omega)
    subst hρ
    have hk : k ∈ rg 0 us.length := by rw [hx]; simp
    obtain ⟨h0, h1⟩ := mem_rg.mp hk
    have hg := hU.ok _ (g_mem h0 h1).2
    refine ⟨.nx, [some (false, EU us), some (false, ET P), vI each, vI gain, some (true, .lst ((s.1 ++ [s.2 + each * hr us k]).map .int)), vI (wst us P each gain s k).2, vI k, vI (g us k).2.1, vI (hr us k)], ?_, .inl rfl, fun _ => ⟨_, _, _, rfl⟩⟩
    have m := mul_ok (a := each) (b := (g us k).2.2) (by omega)
    have ap := app_ok (xs := s.1.map .int) (v := .int (s.2 + each * hr us k)) (by simp at hfl; simp; show _ < 1000000; omega)
    unfold wst
    unfold hr at ap ⊢
    by_cases hp : k ∈ P
    · simp [bindP, bindPs, eu, getS, borS, m, pIp, ap, chgO, pCmp, hp, pBi]
    · simp [bindP, bindPs, eu, getS, borS, m, pIp, ap, chgO, pCmp, hp, pBi]
  · obtain ⟨x6, x7, x8, hρ⟩ := hR (by rw [wst_len, rg_len]; simp; omega)
    subst hρ
    exact go_ret (by simp [borS, wear])
theorem law_wear_ok {each gain : Int} (hU : Us us) : sem DD (n + 1) 26 [EU us, ET P, .int each, .int gain] D = some (ET (wear us P each gain), D) := by
  have hl := hU.len
  rw [r_f__law_wear]
  refine run_ex rfl ?_
  unfold c_f__law_wear
  show ∃ ρ', exs _ _ [some (false, EU us), some (false, ET P), vI each, vI gain, none, none, none] _ = _
  refine go_nx (D1 := D) (ρ1 := [some (false, EU us), some (false, ET P), vI each, vI gain, none, some (false, .lst []), vI 0]) rfl ?_
  refine go_forP PV.int (rg 0 us.length) (fun (s : List Int × Int) ρ => s.1.length ≤ 5 → ∃ x4, ρ = [some (false, EU us), some (false, ET P), vI each, vI gain, x4, some (false, .lst (s.1.map .int)), vI s.2]) (wst us P each gain) ([], 0) (evi_r1 (by simp [getS]) (by omega) (by omega)) (fun _ => ⟨_, rfl⟩) (fun pre k post ρ hx hR => ?_) (fun ρ1 hR => ?_)
  · have hpl : pre.length < 5 := by
      have := congrArg List.length hx
      rw [List.length_append, List.length_cons, rg_len] at this
      omega
    have hfl := wst_len us P each gain pre ([], 0)
    generalize pre.foldl (wst us P each gain) ([], 0) = s at *
    obtain ⟨x4, hρ⟩ := hR (by simp at hfl; omega)
    subst hρ
    have hk : k ∈ rg 0 us.length := by rw [hx]; simp
    obtain ⟨h0, h1⟩ := mem_rg.mp hk
    have hg := hU.ok _ (g_mem h0 h1).2
    refine ⟨.nx, [some (false, EU us), some (false, ET P), vI each, vI gain, vI k, some (false, .lst ((s.1 ++ [s.2 + each * hr us k]).map .int)), vI (wst us P each gain s k).2], ?_, .inl rfl, fun _ => ⟨_, rfl⟩⟩
    have m := mul_ok (a := each) (b := (g us k).2.2) (by omega)
    have ap := lst_add (a := s.1.map .int) (b := [.int (s.2 + each * hr us k)]) (by simp at hfl; simp; omega)
    unfold wst
    unfold hr at ap ⊢
    by_cases hp : k ∈ P
    · simp [bindP, getS, m, pIp, ap, pCmp, hp, pBi, ixu h0 h1, nms, storeT]
    · simp [bindP, getS, m, pIp, ap, pCmp, hp, pBi, ixu h0 h1, nms, storeT]
  · obtain ⟨x4, hρ⟩ := hR (by rw [wst_len, rg_len]; simp; omega)
    subst hρ
    exact go_ret (by simp [getS, wear])
/-! ### the first that is above -/
def abv (W : List Int) (limit : Int) : List Int := (rg 0 W.length).filter fun k => decide (limit < W.getD k.toNat 0)
def brk (W : List Int) (limit : Int) : PV := match (abv W limit).head? with
  | some k => .int k
  | none => .non
theorem ixT {W : List Int} {k : Int} (h0 : 0 ≤ k) (h1 : k < W.length) : pIdx (ET W) (.int k) = some (.int (W.getD k.toNat 0)) := by
  have hk : k.toNat < W.length := by omega
  refine ix_tup PV.int h0 ?_
  rw [List.getD_eq_getElem?_getD, List.getElem?_eq_getElem hk] <;> rfl
theorem ev_brk {Φ : Fns} {ρ : Envi} {a : CE} {L : List Int} (ha : ev Φ a ρ D = some (.lst (L.map .int), D)) : ev Φ (.ite (.cmp .ne a (.lst .nil)) (.idx a (.int 0)) .non) ρ D = some (match L.head? with
    | some k => PV.int k
    | none => .non, D) := by
  cases L with
  | nil =>
    rw [ev_ite, ev_cmp, ha]
    simp [pCmp]
    rfl
  | cons x L =>
    have e : pCmp .ne (.lst ((x :: L).map .int)) (.lst []) = some true := by
      show (pEq _ _).map _ = _
      rw [pEq_lstN]; simp
    have i0 : pIdx (.lst ((x :: L).map .int)) (.int 0) = some (.int x) := ix_lst PV.int (by decide) rfl
    rw [ev_ite, ev_cmp, ha]
    simp only [Option.bind_some, ev_lst, evs_nil, Option.map_some, opd_lst, e, blOf_bl, if_true, ev_idx, ha, ev_int, i0]
    rfl
theorem broken_ok {each gain limit : Int} (hU : Us us) : sem DD (n + 2) 13 [EU us, ET P, .int each, .int gain, .int limit] D = some (brk (wear us P each gain) limit, D) := by
  have hl := hU.len
  have wl := wear_len (us := us) (P := P) (each := each) (gain := gain)
  have w := wear_ok (n := n) (D := D) (P := P) (each := each) (gain := gain) hU
  unfold brk
  generalize wear us P each gain = W at *
  rw [r_f_broken_by]
  refine run_ex rfl ?_
  unfold c_f_broken_by
  show ∃ ρ', exs _ _ [some (false, EU us), some (false, ET P), vI each, vI gain, vI limit, none, none, none] _ = _
  refine go_asg (ET W) (by simp [getS, w]) ?_
  refine go_asg (.lst ((abv W limit).map .int)) ?_ ?_
  · refine lcP PV.int (rg 0 W.length) (fun k => decide (limit < W.getD k.toNat 0)) PV.int (evi_r1 (by simp [getS]) (by omega) (by omega)) fun k hk => ?_
    obtain ⟨h0, h1⟩ := mem_rg.mp hk
    have := ixT h0 h1
    by_cases h : limit < W.getD k.toNat 0
    · rw [decide_eq_true h, if_pos rfl]; simp [st1, bindP, wipE, getS, this, pCmp, -List.getD_eq_getElem?_getD, h]
    · rw [decide_eq_false h]; simp [st1, bindP, wipE, getS, this, pCmp, -List.getD_eq_getElem?_getD, h]
  exact go_ret (ev_brk rfl)
/-! ### hours since, hours along -/
def snc (us : List U) (P : List Int) : Int := (rg 0 us.length).foldl (fun now k => if k ∈ P then 0 else now + hr us k) 0
theorem next_service_ok (hU : Us us) : sem DD (n + 1) 18 [EU us, ET P, .int most] D = some (.int (most - snc us P), D) := by
  have hl := hU.len
  rw [r_f_next_service]
  refine run_ex rfl ?_
  unfold c_f_next_service
  show ∃ ρ', exs _ _ [some (false, EU us), some (false, ET P), vI most, none, none, none, none] _ = _
  refine go_asg (.int 0) rfl ?_
  refine go_forF (fun k => .tup [.int k, eu (g us k)]) (rg 0 us.length) (fun (now : Int) ρ => ∃ x4 x5 x6, ρ = [some (false, EU us), some (false, ET P), vI most, vI now, x4, x5, x6]) (fun now k => if k ∈ P then 0 else now + hr us k) 0 (by
      rw [evi_enum, show ev (sem DD n) (.var 0) ([some (false, EU us), some (false, ET P), vI most, none, none, none, none].set 3 (vI 0)) D = some (EU us, D) from rfl, Option.bind_some, seqOf_tup]; exact congrArg (fun z => some (z, D)) (enumL_g eu (0, 0, 0) us)) ⟨_, _, _, rfl⟩ (fun now k ρ hk ⟨x4, x5, x6, hρ⟩ => ?_) (fun ρ1 ⟨x4, x5, x6, hρ⟩ => ?_)
  · subst hρ
    refine ⟨.nx, [some (false, EU us), some (false, ET P), vI most, vI (if k ∈ P then 0 else now + hr us k), vI k, vI (g us k).2.1, vI (hr us k)], ?_, .inl rfl, _, _, _, rfl⟩
    unfold hr
    by_cases hp : k ∈ P <;> simp [bindP, bindPs, eu, getS, pCmp, hp]
  · subst hρ
    exact go_ret (by simp [getS, snc])
theorem law_since_ok (hU : Us us) : sem DD (n + 1) 28 [EU us, ET P] D = some (.int (snc us P), D) := by
  have hl := hU.len
  rw [r_f__law_since]
  refine run_ex rfl ?_
  unfold c_f__law_since
  show ∃ ρ', exs _ _ [some (false, EU us), some (false, ET P), none, none] _ = _
  refine go_asg (.int 0) rfl ?_
  refine go_forF PV.int (rg 0 us.length) (fun (now : Int) ρ => ∃ x3, ρ = [some (false, EU us), some (false, ET P), vI now, x3]) (fun now k => if k ∈ P then 0 else now + hr us k) 0 (evi_r1 (by simp [getS]) (by omega) (by omega)) ⟨_, rfl⟩ (fun now k ρ hk ⟨x3, hρ⟩ => ?_) (fun ρ1 ⟨x3, hρ⟩ => ?_)
  · subst hρ
    obtain ⟨h0, h1⟩ := mem_rg.mp hk
    refine ⟨.nx, [some (false, EU us), some (false, ET P), vI (if k ∈ P then 0 else now + hr us k), vI k], ?_, .inl rfl, _, rfl⟩
    unfold hr
    by_cases hp : k ∈ P <;> simp [bindP, getS, pCmp, hp, ixu h0 h1]
  · subst hρ
    exact go_ret (by simp [getS, snc])
def alg (us : List U) : List Int := (rg 0 us.length).map fun k => S us 0 (k + 1)
theorem rg_pre {us pre post : List U} {u : U} (h : us = pre ++ u :: post) : g us pre.length = u ∧ (pre.length : Int) < us.length := by
  subst h
  constructor
  · unfold g
    rw [Int.toNat_natCast, List.getD_eq_getElem?_getD, List.getElem?_append_right (Nat.le_refl _)]; simp
  · simp; omega
theorem hours_along_ok (hU : Us us) : sem DD (n + 1) 6 [EU us] D = some (ET (alg us), D) := by
  have hl := hU.len
  rw [r_f_hours_along]
  refine run_ex rfl ?_
  unfold c_f_hours_along
  show ∃ ρ', exs _ _ [some (false, EU us), none, none, none, none] _ = _
  refine go_nx (D1 := D) (ρ1 := [some (false, EU us), some (true, .lst []), vI 0, none, none]) rfl ?_
  have key : ∀ pre post, us = pre ++ post → pre.foldl (fun (s : List Int × Int) (u : U) => (s.1 ++ [s.2 + u.2.2], s.2 + u.2.2)) ([], 0) = ((rg 0 pre.length).map fun k => S us 0 (k + 1), S us 0 pre.length) := fun pre => by
    refine snoc_ind (P := fun pre => ∀ post, us = pre ++ post → pre.foldl (fun (s : List Int × Int) (u : U) => (s.1 ++ [s.2 + u.2.2], s.2 + u.2.2)) ([], 0) = ((rg 0 pre.length).map fun k => S us 0 (k + 1), S us 0 pre.length)) ?_ ?_ pre
    · intro post _
      show ([], (0 : Int)) = ([], S us 0 0)
      rw [S_self]
    · intro pre u ih post h
      have h' : us = pre ++ u :: post := by rw [h]; simp
      obtain ⟨e1, e2⟩ := rg_pre h'
      rw [List.foldl_append, ih (u :: post) h', List.foldl_cons, List.foldl_nil]
      have e3 : S us 0 ((pre.length : Int) + 1) = S us 0 pre.length + u.2.2 := by rw [S_step (by omega) (by omega) e2]; unfold hr; rw [e1]
      have e4 : (((pre ++ [u]).length : Nat) : Int) = (pre.length : Int) + 1 := by simp
      rw [e4, rg_succ (by omega), List.map_append, List.map_singleton, e3]
  refine go_forP eu us (fun (s : List Int × Int) ρ => s.1.length ≤ 5 → ∃ x3 x4, ρ = [some (false, EU us), some (true, .lst (s.1.map .int)), vI s.2, x3, x4]) (fun (s : List Int × Int) (u : U) => (s.1 ++ [s.2 + u.2.2], s.2 + u.2.2)) ([], 0) rfl (fun _ => ⟨_, _, rfl⟩) (fun pre u post ρ hx hR => ?_) (fun ρ1 hR => ?_)
  · have e1 := key pre (u :: post) hx
    have hpl : pre.length < 5 := by
      have := congrArg List.length hx
      rw [List.length_append, List.length_cons] at this
      omega
    rw [e1] at hR ⊢
    obtain ⟨x3, x4, hρ⟩ := hR (by simp [rg_len]; omega)
    subst hρ
    refine ⟨.nx, [some (false, EU us), some (true, .lst ((((rg 0 (pre.length : Int)).map fun k => S us 0 (k + 1)) ++ [S us 0 pre.length + u.2.2]).map .int)), vI (S us 0 pre.length + u.2.2), vI u.2.1, vI u.2.2], ?_, .inl rfl, fun _ => ⟨_, _, rfl⟩⟩
    have ap := app_ok (xs := ((rg 0 (pre.length : Int)).map fun k => S us 0 (k + 1)).map .int) (v := .int (S us 0 pre.length + u.2.2)) (by simp [rg_len]; show _ < 1000000; omega)
    generalize ((rg 0 (pre.length : Int)).map fun k => S us 0 (k + 1)) = F at *
    simp [bindP, bindPs, eu, getS, borS, pIp, chgO, ap]
  · have e1 := key us [] (by simp)
    rw [e1] at hR
    obtain ⟨x3, x4, hρ⟩ := hR (by simp [rg_len]; omega)
    subst hρ
    exact go_ret (by simp [borS, alg])
end
end MP.K13

namespace MP.K13
open PySem MP
section
variable {us : List U} {P : List Int} {n : Nat} {D : DS} {most long last many each gain : Int}
/-! ### the best places -/
def mxf (W : List Int) : Int := W.foldl (fun a y => if a < y then y else a) 0
theorem pMax_mxf (W : List Int) : pBi .max [.tup (.int 0 :: W.map .int)] = some (.int (mxf W)) := by
  have key : ∀ (W : List Int) (a : Int), maxL (.int a) (W.map .int) = .int (W.foldl (fun a y => if a < y then y else a) a) := fun W => by
    induction W with
    | nil => exact fun a => rfl
    | cons x W ih =>
      intro a
      show ((W.map PV.int).foldl _ (if plt (.int a) (.int x) = true then PV.int x else .int a)) = _
      rw [List.foldl_cons]
      have : (if plt (.int a) (.int x) = true then PV.int x else .int a) = .int (if a < x then x else a) := by
        by_cases h : a < x <;> simp [plt, h]
      rw [this]
      exact ih _
  have o : ordOk (.int 0 :: W.map .int) = true := ordOk_ints (0 :: W)
  show (if ordOk (.int 0 :: W.map .int) then some (maxL (.int 0) (W.map .int)) else none) = _
  rw [if_pos o, key]; rfl
def kw (us : List U) (each gain : Int) (r : List Int) : PV := .tup [.int (mxf (wear us r each gain)), .int r.length, ET r]
theorem kw_C (L : List (List Int)) : Cmp (L.map (kw us each gain)) := by
  refine Cmp.of L (fun r => ?_) (fun r => ?_) fun a b => by simp [kw, cmpOk, cmpOkL, cmpL_ints]
  · have : gd (ET r) = true := gdL_ints r
    simp [kw, gd, gdL, this] <;> exact gdL_ints r
  · show (shp 19 (.int (mxf (wear us r each gain))) && (shp 19 (.int r.length) && (shp 19 (ET r) && true))) = true
    rw [shp_ET]; simp
theorem kw0 {r : List Int} : pIdx (kw us each gain r) (.int 0) = some (.int (mxf (wear us r each gain))) := rfl
theorem kw2 {r : List Int} : pIdx (kw us each gain r) (.int 2) = some (ET r) := rfl
theorem okw {r : List Int} : opd D (kw us each gain r) = some (kw us each gain r) := rfl
/-- what best_places gives -/
def Best (us : List U) (many each gain long last : Int) (r : List Int) : Prop := pMin (((subsP (fun r => decide ((r.length : Int) < many)) (able us long last))).map (kw us each gain)) = some (kw us each gain r)
theorem best_law {L : List (List Int)} {r : List Int} (hm : 0 ≤ many) (h : Best us many each gain long last r) (hL : ∀ y : List Int, y ∈ L ↔ y.Sublist (rg 0 us.length) ∧ (y.length : Int) ≤ many ∧ ∀ x ∈ y, room us long last x = true) : pMin (L.map (kw us each gain)) = some (kw us each gain r) := by
  rw [← h]
  refine (pMin_ext (kw_C _) ?_ fun v => ?_).symm
  · intro z
    rw [List.map_eq_nil_iff] at z
    have : ([] : List Int) ∈ subsP (fun r => decide ((r.length : Int) < many)) (able us long last) := (mem_subsP hm _).mpr ⟨List.nil_sublist _, by simpa using hm⟩
    rw [z] at this; cases this
  · rw [List.mem_map, List.mem_map]
    constructor
    · rintro ⟨y, hy, rfl⟩
      obtain ⟨h1, h2⟩ := (mem_subsP hm _).mp hy
      obtain ⟨h3, h4⟩ := able_iff.mp h1
      exact ⟨y, (hL y).mpr ⟨h3, h2, h4⟩, rfl⟩
    · rintro ⟨y, hy, rfl⟩
      obtain ⟨h1, h2, h3⟩ := (hL y).mp hy
      exact ⟨y, (mem_subsP hm _).mpr ⟨able_iff.mpr ⟨h1, h3⟩, h2⟩, rfl⟩
theorem subsP_len {α : Type} (p : List α → Bool) (ks : List α) : (subsP p ks).length ≤ 2 ^ ks.length := by
  unfold subsP
  refine snoc_ind (P := fun ks => (ks.foldl (fun rows k => rows ++ (rows.filter p).map (· ++ [k])) [[]]).length ≤ 2 ^ ks.length) (by simp) (fun ks k ih => ?_) ks
  rw [List.foldl_append, List.foldl_cons, List.foldl_nil, List.length_append, List.length_map, List.length_append, List.length_singleton, Nat.pow_succ]
  have := List.length_filter_le p (ks.foldl (fun rows k => rows ++ (rows.filter p).map (· ++ [k])) [[]])
  omega
theorem best_ok (hU : Us us) (hm : 0 ≤ many) : ∃ r, Best us many each gain long last r ∧ ∀ n D, sem DD (n + 3) 12 [EU us, .int many, .int each, .int gain, .int long, .int last] D = some (.tup [.int (mxf (wear us r each gain)), ET r], D) := by
  have hl := hU.len
  have alen := able_len (long := long) (last := last) hl
  have hne : ((subsP (fun r => decide ((r.length : Int) < many)) (able us long last))).map (kw us each gain) ≠ [] := fun z => by
    rw [List.map_eq_nil_iff] at z
    have : ([] : List Int) ∈ subsP (fun r => decide ((r.length : Int) < many)) (able us long last) := (mem_subsP hm _).mpr ⟨List.nil_sublist _, by simpa using hm⟩
    rw [z] at this; cases this
  obtain ⟨v, h1, h2, h3⟩ := pMin_ok (kw_C _) hne
  obtain ⟨r, hr, rfl⟩ := List.mem_map.mp h2
  refine ⟨r, h1, fun n D => ?_⟩
  rw [r_f_best_places]
  refine run_ex rfl ?_
  unfold c_f_best_places
  show ∃ ρ', exs _ _ [some (false, EU us), vI many, vI each, vI gain, vI long, vI last, none, none, none, none] _ = _
  refine go_asg (.lst ([[]].map ET)) rfl ?_
  have hr1 := has_room_ok (n := n) (D := D) (long := long) (last := last) hU
  refine go_forP PV.int (able us long last) (fun (rows : List (List Int)) ρ => ∃ x7, ρ = [some (false, EU us), vI many, vI each, vI gain, vI long, vI last, some (false, .lst (rows.map ET)), x7, none, none]) (fun rows k => rows ++ (rows.filter fun r => decide ((r.length : Int) < many)).map (· ++ [k])) [[]] (evi_ov (by simp [getS, hr1])) ⟨_, rfl⟩ (fun pre k post ρ hx ⟨x7, hρ⟩ => ?_) (fun ρ1 ⟨x7, hρ⟩ => ?_)
  · subst hρ
    have hpl : pre.length ≤ 5 := by
      have := congrArg List.length hx
      rw [List.length_append] at this
      omega
    have hsl : (subsP (fun r => decide ((r.length : Int) < many)) pre).length ≤ 32 := by
      have := subsP_len (fun r : List Int => decide ((r.length : Int) < many)) pre
      have : (2 : Nat) ^ pre.length ≤ 2 ^ 5 := Nat.pow_le_pow_right (by omega) hpl
      omega
    have hrl : ∀ r ∈ subsP (fun r => decide ((r.length : Int) < many)) pre, r.length ≤ 1000 := fun r hr => by
      have := ((mem_subsP hm pre).mp hr).1.length_le
      omega
    show ∃ o ρ', _ ∧ _ ∧ ∃ x7, ρ' = [some (false, EU us), vI many, vI each, vI gain, vI long, vI last, some (false, .lst ((subsP (fun r => decide ((r.length : Int) < many)) pre ++ ((subsP (fun r => decide ((r.length : Int) < many)) pre).filter fun r => decide ((r.length : Int) < many)).map (· ++ [k])).map ET)), x7, none, none]
    show ∃ o ρ', exs (sem DD (n + 2)) _ [some (false, EU us), vI many, vI each, vI gain, vI long, vI last, some (false, .lst ((subsP (fun r => decide ((r.length : Int) < many)) pre).map ET)), vI k, none, none] D = _ ∧ _
    generalize subsP (fun r => decide ((r.length : Int) < many)) pre = L at *
    have q : ev (sem DD (n + 2)) (.lc1 [9] (.bin .add (.var 9) (.tup (.cons (.var 7) .nil))) (.nm 9) (.over (.var 6)) (.cons (.cmp .lt (.bi .len (.cons (.var 9) .nil)) (.var 1)) .nil)) [some (false, EU us), vI many, vI each, vI gain, vI long, vI last, some (false, .lst (L.map ET)), vI k, none, none] D = some (.lst ((L.filter fun r => decide ((r.length : Int) < many)).map fun r => ET (r ++ [k])), D) := by
      refine lcP ET L (fun r => decide ((r.length : Int) < many)) _ rfl fun r hr => ?_
      have a := row_add (r := r) (k := k) (hrl r hr)
      by_cases h : (r.length : Int) < many <;> simp [st1, bindP, wipE, getS, a, pCmp, h]
    have fl := List.length_filter_le (fun r : List Int => decide ((r.length : Int) < many)) L
    have ad := lst_add (a := L.map ET) (b := (L.filter fun r => decide ((r.length : Int) < many)).map fun r => ET (r ++ [k])) (by simp only [List.length_map]; omega)
    refine ⟨.nx, [some (false, EU us), vI many, vI each, vI gain, vI long, vI last, some (false, .lst ((L ++ (L.filter fun r => decide ((r.length : Int) < many)).map (· ++ [k])).map ET)), vI k, none, none], ?_, .inl rfl, _, rfl⟩
    have v1 : ev (sem DD (n + 2)) (.var 6) [some (false, EU us), vI many, vI each, vI gain, vI long, vI last, some (false, .lst (L.map ET)), vI k, none, none] D = some (.lst (L.map ET), D) := rfl
    rw [exs_cons, ex_asg, ev_bin, v1, Option.bind_some, q, Option.bind_some, ad]
    simp [List.map_map, Function.comp_def]
  · subst hρ
    show ∃ ρ', exs _ _ [some (false, EU us), vI many, vI each, vI gain, vI long, vI last, some (false, .lst ((subsP (fun r => decide ((r.length : Int) < many)) (able us long last)).map ET)), x7, none, none] _ = _
    refine go_asg (.lst ((subsP (fun r => decide ((r.length : Int) < many)) (able us long last)).map (kw us each gain))) ?_ ?_
    · refine lcM ET _ (kw us each gain) rfl fun y hy => ?_
      have w := wear_ok (n := n + 1) (D := D) (P := y) (each := each) (gain := gain) hU
      have wl := wear_len (us := us) (P := y) (each := each) (gain := gain)
      have m := pMax_mxf (wear us y each gain)
      have ad := tup_add (a := [.int 0]) (b := (wear us y each gain).map .int) (by simp; omega)
      simp [st1, bindP, wipE, getS, w, ad, m, kw]
    refine go_ret ?_
    have pm : pBi .min [.lst ((subsP (fun r => decide ((r.length : Int) < many)) (able us long last)).map (kw us each gain))] = some (kw us each gain r) := h1
    have g8 : ∀ (a b c d e f g h j : Option (Bool × PV)) (x : PV), getS ([a, b, c, d, e, f, g, h, none, j].set 8 (some (false, x))) 8 = some x := fun _ _ _ _ _ _ _ _ _ _ => rfl
    simp only [ev_tup, evs_cons, Option.bind_some, ev_idx, ev_bi, ev_var]
    rw [g8]
    simp only [Option.map_some, Option.bind_some, evs_nil, mapO_cons, mapO_nil, opd_lst, pm, ev_int, okw, kw0, kw2]
/-! ### the gaps -/
abbrev EP (q : Int × Int) : PV := pv2 q
def jst (f : List (Int × Int)) (q : Int × Int) : List (Int × Int) := match f.getLast? with
  | some w => if w.2 = q.1 then f.dropLast ++ [(w.1, q.2)] else f ++ [q]
  | none => f ++ [q]
theorem jst_ne (f : List (Int × Int)) (q : Int × Int) : ∃ h b, jst f q = h ++ [(b, q.2)] := by
  unfold jst
  split
  · split
    · exact ⟨_, _, rfl⟩
    · exact ⟨f, q.1, rfl⟩
  · exact ⟨f, q.1, rfl⟩
theorem jstL (h : List (Int × Int)) (w : Int × Int) (c : Int) : jst (h ++ [w]) (w.2, c) = h ++ [(w.1, c)] := by
  unfold jst
  have e : (h ++ [w]).getLast? = some w := by simp
  rw [e]
  simp
theorem jst_jst (f : List (Int × Int)) (a b c : Int) : jst (jst f (a, b)) (b, c) = jst f (a, c) := by
  cases e : f.getLast? with
  | none =>
    have h1 : ∀ q, jst f q = f ++ [q] := fun q => by unfold jst; rw [e]
    rw [h1, h1]; exact jstL f (a, b) c
  | some w =>
    by_cases hw : w.2 = a
    · have h1 : ∀ d, jst f (a, d) = f.dropLast ++ [(w.1, d)] := fun d => by unfold jst; rw [e]; simp [hw]
      rw [h1, h1]; exact jstL f.dropLast (w.1, b) c
    · have h1 : ∀ d, jst f (a, d) = f ++ [(a, d)] := fun d => by unfold jst; rw [e]; simp [hw]
      rw [h1, h1]; exact jstL f (a, b) c
theorem jst_days (f : List (Int × Int)) (a : Int) : ∀ (m : Nat), ((rg a (a + (m + 1 : Nat))).map fun d => (d, d + 1)).foldl jst f = jst f (a, a + (m + 1 : Nat))
  | 0 => by
    have : rg a (a + (0 + 1 : Nat)) = [a] := by
      show rg a (a + 1) = [a]
      rw [rg_succ (Int.le_refl a), rg_nil (Int.le_refl a)]; rfl
    rw [this]; rfl
  | m + 1 => by
    have e : a + ((m + 1 + 1 : Nat) : Int) = a + ((m + 1 : Nat) : Int) + 1 := by omega
    rw [e, rg_succ (by omega), List.map_append, List.foldl_append, jst_days f a m]
    exact jst_jst f a _ _
theorem jst_span (f : List (Int × Int)) {a b : Int} (h : a < b) : ((rg a b).map fun d => (d, d + 1)).foldl jst f = jst f (a, b) := by
  have e : b = a + (((b - a).toNat - 1 + 1 : Nat) : Int) := by omega
  rw [e]; exact jst_days f a _
/-- spans joined, from their days -/
theorem join_days : ∀ (G : List (Int × Int)) (f : List (Int × Int)), (∀ q ∈ G, q.1 < q.2) → (((G.flatMap fun q => rg q.1 q.2).map fun d => (d, d + 1))).foldl jst f = G.foldl jst f
  | [], _, _ => rfl
  | q :: G, f, h => by
    rw [List.flatMap_cons, List.map_append, List.foldl_append, jst_span f (h q List.mem_cons_self), join_days G _ fun y hy => h y (List.mem_cons_of_mem _ hy)]; rfl
def gst (last : Int) (s : List (Int × Int) × Int) (u : U) : List (Int × Int) × Int :=
  (s.1 ++ (if s.2 < (if last + 1 < u.1 then last + 1 else u.1) then [(s.2, if last + 1 < u.1 then last + 1 else u.1)] else []), if u.2.1 > s.2 then u.2.1 else s.2)
def gaps (us : List U) (last : Int) : List (Int × Int) := (us.foldl (gst last) ([], 0)).1 ++ (if (us.foldl (gst last) ([], 0)).2 ≤ last then [((us.foldl (gst last) ([], 0)).2, last + 1)] else [])
theorem gst_len (last : Int) : ∀ (us : List U) (s : List (Int × Int) × Int), (us.foldl (gst last) s).1.length ≤ s.1.length + us.length
  | [], _ => Nat.le_refl _
  | u :: us, s => by
    have := gst_len last us (gst last s u)
    rw [List.foldl_cons]
    have h : (gst last s u).1.length ≤ s.1.length + 1 := by
      unfold gst
      simp only [List.length_append]
      generalize (if last + 1 < u.1 then last + 1 else u.1) = m
      split <;> simp
    rw [List.length_cons]; omega
theorem gaps_ok (hU : Us us) (h0 : 0 ≤ last) (h1 : last < 30) : sem DD (n + 1) 5 [EU us, .int last] D = some (.tup ((gaps us last).map pv2), D) := by
  have hl := hU.len
  rw [r_f_gaps_of]
  refine run_ex rfl ?_
  unfold c_f_gaps_of
  show ∃ ρ', exs _ _ [some (false, EU us), vI last, none, none, none, none, none] _ = _
  refine go_nx (D1 := D) (ρ1 := [some (false, EU us), vI last, some (true, .lst []), vI 0, none, none, none]) rfl ?_
  refine go_forP eu us (fun (s : List (Int × Int) × Int) ρ => s.1.length ≤ 5 → ∃ x4 x5 x6, ρ = [some (false, EU us), vI last, some (true, .lst (s.1.map pv2)), vI s.2, x4, x5, x6]) (gst last) ([], 0) rfl (fun _ => ⟨_, _, _, rfl⟩) (fun pre u post ρ hx hR => ?_) (fun ρ1 hR => ?_)
  · have hpl : pre.length < 5 := by
      have := congrArg List.length hx
      rw [List.length_append, List.length_cons] at this
      omega
    have gl := gst_len last pre ([], 0)
    generalize pre.foldl (gst last) ([], 0) = s at *
    obtain ⟨x4, x5, x6, hρ⟩ := hR (by simp at gl; omega)
    subst hρ
    refine ⟨.nx, [some (false, EU us), vI last, some (true, .lst ((gst last s u).1.map pv2)), vI (gst last s u).2, vI u.1, vI u.2.1, vI u.2.2], ?_, .inl rfl, fun _ => ⟨_, _, _, rfl⟩⟩
    have ex1 : ∀ ys : List PV, ys.length ≤ 1 → pExt (.lst ys) (.lst (s.1.map pv2)) = some (.lst (s.1.map pv2 ++ ys)) := fun ys hy => by
      show (if (s.1.map pv2).length + ys.length ≤ LIM then some (PV.lst (s.1.map pv2 ++ ys)) else none) = _
      rw [if_pos (by simp at gl; simp; show _ ≤ 1000000; omega)]
    have e1 := ex1 [] (by simp)
    have e2 := ex1 [.tup [.int s.2, .int (if last + 1 < u.1 then last + 1 else u.1)]] (by simp)
    unfold gst
    generalize hm : (if last + 1 < u.1 then last + 1 else u.1) = m at *
    by_cases hc : s.2 < m
    · simp [bindP, bindPs, eu, getS, pBi, pCmp, hm, hc, chgO, e2, pv2]
    · simp [bindP, bindPs, eu, getS, pBi, pCmp, hm, hc, chgO, e1]
  · have gl := gst_len last us ([], 0)
    obtain ⟨x4, x5, x6, hρ⟩ := hR (by simp at gl; omega)
    subst hρ
    refine go_ret ?_
    unfold gaps
    generalize us.foldl (gst last) ([], 0) = s at *
    by_cases hc : s.2 ≤ last
    · have ad := lst_add (a := s.1.map pv2) (b := [.tup [.int s.2, .int (last + 1)]]) (by simp at gl; simp; omega)
      simp [getS, borS, pCmp, hc, ad, pv2]
    · have ad := lst_add (a := s.1.map pv2) (b := []) (by simp at gl; simp; omega)
      simp [getS, borS, pCmp, hc, ad]
end
end MP.K13

namespace MP.K13
open PySem MP
section
variable {us : List U} {P : List Int} {n : Nat} {D : DS} {most long last many each gain : Int}
theorem rg_split {a b c : Int} (h1 : a ≤ b) (h2 : b ≤ c) : rg a c = rg a b ++ rg b c := by
  refine srt_ext (srt_rg _ _) ?_ fun x => ?_
  · show ((rg a b) ++ (rg b c)).Pairwise (· < ·)
    rw [List.pairwise_append]
    refine ⟨srt_rg _ _, srt_rg _ _, fun x hx y hy => ?_⟩
    rw [mem_rg] at hx hy; omega
  · rw [List.mem_append, mem_rg, mem_rg, mem_rg]; omega
def cov (us : List U) (d : Int) : Bool := us.any fun u => decide (u.1 ≤ d) && decide (d < u.2.1)
theorem filt_all {p : Int → Bool} {xs : List Int} (h : ∀ x ∈ xs, p x = true) : xs.filter p = xs := List.filter_eq_self.mpr h
theorem filt_none {p : Int → Bool} {xs : List Int} (h : ∀ x ∈ xs, p x = false) : xs.filter p = [] := List.filter_eq_nil_iff.mpr fun x hx => by rw [h x hx]; simp
theorem gst_inv (hU : Us us) (h0 : 0 ≤ last) : ∀ pre post, us = pre ++ post → (∀ q ∈ (pre.foldl (gst last) ([], 0)).1, q.1 < q.2) ∧ 0 ≤ (pre.foldl (gst last) ([], 0)).2 ∧ (∀ u ∈ pre, u.2.1 ≤ (pre.foldl (gst last) ([], 0)).2) ∧ (∀ u ∈ post, (pre.foldl (gst last) ([], 0)).2 ≤ u.1) ∧
    ((pre.foldl (gst last) ([], 0)).1.flatMap fun q => rg q.1 q.2) = (rg 0 (min (pre.foldl (gst last) ([], 0)).2 (last + 1))).filter fun d => !cov us d := fun pre => by
  refine snoc_ind (P := fun pre => ∀ post, us = pre ++ post → (∀ q ∈ (pre.foldl (gst last) ([], 0)).1, q.1 < q.2) ∧ 0 ≤ (pre.foldl (gst last) ([], 0)).2 ∧ (∀ u ∈ pre, u.2.1 ≤ (pre.foldl (gst last) ([], 0)).2) ∧ (∀ u ∈ post, (pre.foldl (gst last) ([], 0)).2 ≤ u.1) ∧
    ((pre.foldl (gst last) ([], 0)).1.flatMap fun q => rg q.1 q.2) = (rg 0 (min (pre.foldl (gst last) ([], 0)).2 (last + 1))).filter fun d => !cov us d) ?_ ?_ pre
  · intro post h
    refine ⟨by simp, Int.le_refl _, by simp, fun u hu => ?_, ?_⟩
    · have := hU.ok u (by rw [h]; simpa using hu)
      exact this.1
    · have : min (0 : Int) (last + 1) = 0 := by omega
      show [] = _
      rw [show (List.foldl (gst last) ([], 0) ([] : List U)).2 = 0 from rfl, this, rg_nil (Int.le_refl 0)]; rfl
  · intro pre u ih post h
    have h' : us = pre ++ u :: post := by rw [h]; simp
    obtain ⟨i1, i2, i3, i4, i5⟩ := ih (u :: post) h'
    have hu := hU.ok u (by rw [h']; simp)
    have hau := i4 u List.mem_cons_self
    rw [List.foldl_append, List.foldl_cons, List.foldl_nil]
    generalize pre.foldl (gst last) ([], 0) = s at *
    have hup := hU.up
    rw [h', List.pairwise_append, List.pairwise_cons] at hup
    have e2 : (gst last s u).2 = u.2.1 := by
      unfold gst
      show (if u.2.1 > s.2 then u.2.1 else s.2) = _
      rw [if_pos (by omega)]
    rw [e2]
    have hcov : ∀ d, cov us d = true ↔ ∃ v ∈ us, v.1 ≤ d ∧ d < v.2.1 := fun d => by
      unfold cov
      rw [List.any_eq_true]
      constructor
      · rintro ⟨v, hv, h⟩
        rw [Bool.and_eq_true] at h
        exact ⟨v, hv, of_decide_eq_true h.1, of_decide_eq_true h.2⟩
      · rintro ⟨v, hv, h1, h2⟩
        exact ⟨v, hv, by rw [Bool.and_eq_true]; exact ⟨decide_eq_true h1, decide_eq_true h2⟩⟩
    refine ⟨fun q hq => ?_, by omega, fun v hv => ?_, fun v hv => hup.2.1.1 v hv, ?_⟩
    · unfold gst at hq
      simp only at hq
      generalize (if last + 1 < u.1 then last + 1 else u.1) = m at hq
      rw [List.mem_append] at hq
      rcases hq with hq | hq
      · exact i1 q hq
      · split at hq
        · rename_i hc
          rw [List.mem_singleton] at hq
          subst hq; exact hc
        · cases hq
    · rcases List.mem_append.mp hv with hv | hv
      · have := i3 v hv; omega
      · rw [List.mem_singleton] at hv; subst hv; exact Int.le_refl _
    · have hfree : ∀ d, s.2 ≤ d → d < u.1 → cov us d = false := fun d d1 d2 => by
        cases e : cov us d with
        | false => rfl
        | true =>
          exfalso
          obtain ⟨v, hv, v1, v2⟩ := (hcov d).mp e
          rw [h'] at hv
          rcases List.mem_append.mp hv with hv | hv
          · have := i3 v hv; omega
          · have := i4 v hv
            rcases List.mem_cons.mp hv with rfl | hv
            · omega
            · have := hup.2.1.1 v hv; omega
      have hcv : ∀ d, u.1 ≤ d → d < u.2.1 → cov us d = true := fun d d1 d2 => (hcov d).mpr ⟨u, by rw [h']; simp, d1, d2⟩
      have m1 : (if last + 1 < u.1 then last + 1 else u.1) = min u.1 (last + 1) := by split <;> omega
      rw [rg_split (a := 0) (b := min u.1 (last + 1)) (c := min u.2.1 (last + 1)) (by omega) (by omega), rg_split (a := 0) (b := min s.2 (last + 1)) (c := min u.1 (last + 1)) (by omega) (by omega), List.filter_append, List.filter_append, ← i5,
        filt_none (xs := rg (min u.1 (last + 1)) (min u.2.1 (last + 1))) (fun d hd => by rw [mem_rg] at hd; rw [hcv d (by omega) (by omega)]; rfl),
        filt_all (xs := rg (min s.2 (last + 1)) (min u.1 (last + 1))) (fun d hd => by rw [mem_rg] at hd; rw [hfree d (by omega) (by omega)]; rfl), List.append_nil]
      unfold gst
      rw [m1, List.flatMap_append]
      congr 1
      by_cases hc : s.2 < min u.1 (last + 1)
      · rw [if_pos hc]
        have : min s.2 (last + 1) = s.2 := by omega
        rw [this]; simp
      · rw [if_neg hc, rg_nil (by omega)]; rfl
theorem gaps_days (hU : Us us) (h0 : 0 ≤ last) : (∀ q ∈ gaps us last, q.1 < q.2) ∧ ((gaps us last).flatMap fun q => rg q.1 q.2) = (rg 0 (last + 1)).filter fun d => !cov us d := by
  obtain ⟨i1, i2, i3, _, i5⟩ := gst_inv hU h0 us [] (by simp)
  unfold gaps
  generalize us.foldl (gst last) ([], 0) = s at *
  have hfree : ∀ d, s.2 ≤ d → cov us d = false := fun d d1 => by
    cases e : cov us d with
    | false => rfl
    | true =>
      exfalso
      unfold cov at e
      obtain ⟨v, hv, h⟩ := List.any_eq_true.mp e
      rw [Bool.and_eq_true] at h
      have := of_decide_eq_true h.2
      have := i3 v hv
      omega
  by_cases hc : s.2 ≤ last
  · rw [if_pos hc]
    refine ⟨fun q hq => ?_, ?_⟩
    · rcases List.mem_append.mp hq with hq | hq
      · exact i1 q hq
      · rw [List.mem_singleton] at hq
        subst hq
        show s.2 < last + 1
        omega
    · rw [List.flatMap_append, i5, rg_split (a := 0) (b := s.2) (c := last + 1) i2 (by omega), List.filter_append, filt_all (xs := rg s.2 (last + 1)) (fun d hd => by rw [mem_rg] at hd; rw [hfree d hd.1]; rfl)]
      have : min s.2 (last + 1) = s.2 := by omega
      rw [this]; simp
  · rw [if_neg hc, List.append_nil]
    refine ⟨i1, ?_⟩
    have : min s.2 (last + 1) = last + 1 := by omega
    rw [i5, this]
theorem gaps_len (hl : us.length ≤ 5) : (gaps us last).length ≤ 6 := by
  have := gst_len last us ([], 0)
  unfold gaps
  rw [List.length_append]
  have h2 : (if (us.foldl (gst last) ([], 0)).2 ≤ last then [((us.foldl (gst last) ([], 0)).2, last + 1)] else []).length ≤ 1 := by split <;> simp
  simp at this
  omega
theorem jst_len (f : List (Int × Int)) (q : Int × Int) : (jst f q).length ≤ f.length + 1 := by
  unfold jst
  split
  · split <;> simp
  · simp
theorem jst_lens (L : List (Int × Int)) : ∀ f, (L.foldl jst f).length ≤ f.length + L.length := by
  induction L with
  | nil => exact fun f => Nat.le_refl _
  | cons q L ih =>
    intro f
    have := ih (jst f q)
    have := jst_len f q
    rw [List.foldl_cons, List.length_cons]; omega
theorem cut_last {xs : List PV} : cutL xs none (some (-1)) = xs.dropLast := by
  unfold cutL cutN
  simp only
  rw [if_pos (by decide), List.dropLast_eq_take]
  simp
  congr 1
  omega
theorem ev_jst {Φ : Fns} {ρ : Envi} {a b c : CE} {f : List (Int × Int)} {x y : Int} (hf : f.length ≤ 1000) (ha : ev Φ a ρ D = some (.lst (f.map pv2), D)) (hb : ev Φ b ρ D = some (.int x, D)) (hc : ev Φ c ρ D = some (.int y, D)) :
    ev Φ (.ite (.and_ (.cons (.cmp .ne a (.lst .nil)) (.cons (.cmp .eq (.idx (.idx a (.neg (.int 1))) (.int 1)) b) .nil))) (.bin .add (.cut a .nil (.cons (.neg (.int 1)) .nil)) (.lst (.cons (.tup (.cons (.idx (.idx a (.neg (.int 1))) (.int 0)) (.cons c .nil))) .nil))) (.bin .add a (.lst (.cons (.tup (.cons b (.cons c .nil))) .nil)))) ρ D = some (.lst ((jst f (x, y)).map pv2), D) := by
  have ng : pNeg (.int 1) = some (.int (-1)) := rfl
  have ad : ∀ (f : List (Int × Int)) (u w : Int), f.length ≤ 1000 → pBin .add (.lst (f.map pv2)) (.lst [.tup [.int u, .int w]]) = some (.lst ((f ++ [(u, w)]).map pv2)) := fun f u w h => by
    rw [lst_add (by simp; omega)]; simp [pv2]
  have p0 : ∀ w : Int × Int, pIdx (pv2 w) (.int 0) = some (.int w.1) := fun w => rfl
  have p1 : ∀ w : Int × Int, pIdx (pv2 w) (.int 1) = some (.int w.2) := fun w => rfl
  have po : ∀ w : Int × Int, opd D (pv2 w) = some (pv2 w) := fun w => rfl
  cases e : f.getLast? with
  | none =>
    have hf0 : f = [] := by simpa using e
    subst hf0
    have := ad [] x y (by simp)
    simp at this ha
    have n0 : pEq (.lst []) (.lst []) = some true := rfl
    simp [ha, hb, hc, pCmp, this, jst, n0, pv2]
  | some w =>
    have hne : f ≠ [] := fun z => by rw [z] at e; cases e
    have il := ix_last pv2 e
    have ne : pCmp .ne (.lst (f.map pv2)) (.lst []) = some true := by
      show (pEq _ _).map _ = _
      rw [pEq_lst2N]; simp [hne]
    have hd : (f.map pv2).dropLast = f.dropLast.map pv2 := by rw [List.map_dropLast]
    have a1 := ad f x y hf
    have a2 := ad f.dropLast w.1 y (by simp; omega)
    have hj : jst f (x, y) = if w.2 = x then f.dropLast ++ [(w.1, y)] else f ++ [(x, y)] := by unfold jst; rw [e]
    rw [hj]
    have il1 : ev Φ (.idx a (.neg (.int 1))) ρ D = some (pv2 w, D) := by simp [ha, ng, il]
    have i1 : ev Φ (.idx (.idx a (.neg (.int 1))) (.int 1)) ρ D = some (.int w.2, D) := by rw [ev_idx, il1]; simp [p1, po]
    have i0 : ev Φ (.idx (.idx a (.neg (.int 1))) (.int 0)) ρ D = some (.int w.1, D) := by rw [ev_idx, il1]; simp [p0, po]
    have t : ev Φ (.and_ (.cons (.cmp .ne a (.lst .nil)) (.cons (.cmp .eq (.idx (.idx a (.neg (.int 1))) (.int 1)) b) .nil))) ρ D = some (.bl (w.2 == x), D) := by
      rw [ev_and, evand_cons, ev_cmp, ha, Option.bind_some]
      simp only [ev_lst, evs_nil, Option.map_some, Option.bind_some, opd_lst, ne, blOf_bl, if_true]
      rw [evand_one, ev_cmp, i1, Option.bind_some, hb]
      simp [pCmp]
    rw [ev_ite, t, Option.bind_some, blOf_bl, Option.bind_some]
    by_cases hw : w.2 = x
    · rw [if_pos hw, if_pos (by simpa using hw)]
      have cu : ev Φ (.cut a .nil (.cons (.neg (.int 1)) .nil)) ρ D = some (.lst (f.dropLast.map pv2), D) := by
        rw [ev_cut, ha]
        simp only [Option.bind_some, evo_nil, evo_one, ev_neg, ev_int, ng, Option.map_some, intOf_int, pCut_lst, cut_last, hd]
      rw [ev_bin, cu, Option.bind_some, ev_lst, evs_cons, ev_tup, evs_cons, i0]
      simp only [Option.bind_some, evs_cons, hc, evs_nil, Option.map_some, a2]
    · rw [if_neg hw, if_neg (by simpa using hw)]
      rw [ev_bin, ha, Option.bind_some, ev_lst, evs_cons, ev_tup, evs_cons, hb]
      simp only [Option.bind_some, evs_cons, hc, evs_nil, Option.map_some, a1]
theorem joined_ok {G : List (Int × Int)} (hG : G.length ≤ 100) : sem DD (n + 1) 27 [.tup (G.map pv2)] D = some (.tup ((G.foldl jst []).map pv2), D) := by
  rw [r_f__law_joined]
  refine run_ex rfl ?_
  unfold c_f__law_joined
  show ∃ ρ', exs _ _ [some (false, .tup (G.map pv2)), none, none, none] _ = _
  refine go_asg (.lst []) rfl ?_
  refine go_forP pv2 G (fun (f : List (Int × Int)) ρ => ∃ x2 x3, ρ = [some (false, .tup (G.map pv2)), some (false, .lst (f.map pv2)), x2, x3]) jst [] rfl ⟨_, _, rfl⟩ (fun pre q post ρ hx ⟨x2, x3, hρ⟩ => ?_) (fun ρ1 ⟨x2, x3, hρ⟩ => ?_)
  · subst hρ
    have hl : (pre.foldl jst []).length ≤ 1000 := by
      have := jst_lens pre []
      have h2 := congrArg List.length hx
      rw [List.length_append] at h2
      simp at this
      omega
    generalize pre.foldl jst [] = f at *
    refine ⟨.nx, [some (false, .tup (G.map pv2)), some (false, .lst ((jst f q).map pv2)), vI q.1, vI q.2], ?_, .inl rfl, _, _, rfl⟩
    have e := ev_jst (Φ := sem DD n) (D := D) (ρ := [some (false, .tup (G.map pv2)), some (false, .lst (f.map pv2)), vI q.1, vI q.2]) (a := .var 1) (b := .var 2) (c := .var 3) (f := f) (x := q.1) (y := q.2) hl rfl rfl rfl
    show exs _ _ [some (false, .tup (G.map pv2)), some (false, .lst (f.map pv2)), vI q.1, vI q.2] _ = _
    rw [exs_cons, ex_asg, e]
    rfl
  · subst hρ
    exact go_ret (by simp [getS])
end
end MP.K13

namespace MP.K13
open PySem MP
/-! ### the bench that is shared -/
section
variable {n : Nat} {D : DS}
def fr (row longs : List Int) (day long : Int) : Bool := (row.zip longs).all fun p => decide (day + long ≤ p.1) || decide (p.1 + p.2 ≤ day)
theorem is_free_ok {row longs : List Int} {day long : Int} : sem DD (n + 1) 15 [ET row, ET longs, .int day, .int long] D = some (.bl (fr row longs day long), D) := by
  rw [r_f_is_free]
  refine run_ex rfl ?_
  unfold c_f_is_free
  show ∃ ρ', exs _ _ [some (false, ET row), some (false, ET longs), vI day, vI long, none, none] _ = _
  refine go_ret ?_
  have q : ev (sem DD n) (.lc1 [4, 5] (.or_ (.cons (.cmp .le (.bin .add (.var 2) (.var 3)) (.var 4)) (.cons (.cmp .le (.bin .add (.var 4) (.var 5)) (.var 2)) .nil))) (.tp [(.nm 4), (.nm 5)]) (.zip (.var 0) (.var 1)) .nil) [some (false, ET row), some (false, ET longs), vI day, vI long, none, none] D = some (.lst ((row.zip longs).map fun p => .bl (decide (day + long ≤ p.1) || decide (p.1 + p.2 ≤ day))), D) := by
    refine lcM (fun p : Int × Int => .tup [.int p.1, .int p.2]) (row.zip longs) _ ?_ fun p hp => ?_
    · show (some (zipL (row.map .int) (longs.map .int))).map (fun xs => (xs, D)) = _
      rw [zipL_map]; rfl
    · by_cases h : day + long ≤ p.1 <;> simp [st1, bindP, bindPs, wipE, getS, pCmp, h]
  rw [ev_bi, evs_cons, q]
  simp only [Option.bind_some, evs_nil, Option.map_some, mapO_cons, mapO_nil, opd_lst]
  rw [all_bl]; rfl
abbrev EG (spans : List (Int × Int)) : PV := .tup (spans.map pv2)
def dys (spans : List (Int × Int)) (long : Int) : List Int := spans.flatMap fun q => rg q.1 (q.2 - long + 1)
def prow (longs : List Int) (rows : List (List Int)) (q : List (Int × Int) × Int) : List (List Int) := rows.flatMap fun row => ((sI (dys q.1 q.2)).filter fun d => fr row longs d q.2).map fun d => row ++ [d]
def lrow (longs : List Int) (rows : List (List Int)) (q : List (Int × Int) × Int) : List (List Int) := rows.flatMap fun row => (((rg 0 20).filter fun d => q.1.any fun s => decide (s.1 ≤ d) && decide (d + q.2 ≤ s.2)).filter fun d => fr row longs d q.2).map fun d => row ++ [d]
def noB : PV := .tup [.str "no"]
def pst (longs : List Int) (rows : List (List Int)) (q : List (Int × Int) × Int) : Except PV (List (List Int)) := if prow longs rows q = [] then .error noB else .ok (prow longs rows q)
structure Gs (gaps : List (List (Int × Int))) (longs : List Int) : Prop where
  len : gaps.length ≤ 3
  ll : longs.length = gaps.length
  sp : ∀ g ∈ gaps, g.length ≤ 2 ∧ ∀ q ∈ g, 0 ≤ q.1 ∧ q.1 < q.2 ∧ q.2 ≤ q.1 + 4 ∧ q.2 ≤ 20
  lo : ∀ l ∈ longs, 1 ≤ l ∧ l ≤ 3
theorem flat_len {α β : Type} (f : α → List β) (c : Nat) : ∀ xs : List α, (∀ x ∈ xs, (f x).length ≤ c) → (xs.flatMap f).length ≤ xs.length * c
  | [], _ => by simp
  | x :: xs, h => by
    have := flat_len f c xs fun y hy => h y (List.mem_cons_of_mem _ hy)
    have := h x List.mem_cons_self
    rw [List.flatMap_cons, List.length_append, List.length_cons, Nat.add_mul]; omega
variable {gaps : List (List (Int × Int))} {longs : List Int}
theorem dys_len {g : List (Int × Int)} {l : Int} (h1 : g.length ≤ 2) (h2 : ∀ q ∈ g, 0 ≤ q.1 ∧ q.1 < q.2 ∧ q.2 ≤ q.1 + 4 ∧ q.2 ≤ 20) (h3 : 1 ≤ l) : (dys g l).length ≤ 8 := by
  have := flat_len (fun q : Int × Int => rg q.1 (q.2 - l + 1)) 4 g fun q hq => by
    rw [rg_len]
    have := h2 q hq
    omega
  unfold dys; omega
theorem zip_mem {p : List (Int × Int) × Int} (h : p ∈ gaps.zip longs) : p.1 ∈ gaps ∧ p.2 ∈ longs := by
  obtain ⟨a, b⟩ := p
  exact ⟨(List.of_mem_zip h).1, (List.of_mem_zip h).2⟩
theorem prow_len (hG : Gs gaps longs) {q : List (Int × Int) × Int} (hq : q ∈ gaps.zip longs) (rows : List (List Int)) : (prow longs rows q).length ≤ rows.length * 8 := by
  obtain ⟨h1, h2⟩ := zip_mem hq
  refine flat_len _ 8 rows fun row _ => ?_
  rw [List.length_map]
  refine Nat.le_trans (List.length_filter_le _ _) ?_
  rw [sI_len]
  exact dys_len (hG.sp _ h1).1 (hG.sp _ h1).2 (hG.lo _ h2).1
theorem pst_ok : ∀ (pre : List (List (Int × Int) × Int)) (rows s : List (List Int)), pre.foldlM (pst longs) rows = .ok s → s = pre.foldl (prow longs) rows
  | [], rows, s, h => by cases h; rfl
  | q :: pre, rows, s, h => by
    rw [List.foldlM_cons] at h
    unfold pst at h
    split at h
    · cases h
    · exact pst_ok pre _ s h
theorem prow_lens (hG : Gs gaps longs) : ∀ (pre : List (List (Int × Int) × Int)) (rows : List (List Int)), (∀ q ∈ pre, q ∈ gaps.zip longs) → (pre.foldl (prow longs) rows).length ≤ rows.length * 8 ^ pre.length
  | [], rows, _ => by simp
  | q :: pre, rows, h => by
    have h1 := prow_lens hG pre (prow longs rows q) fun x hx => h x (List.mem_cons_of_mem _ hx)
    have h2 := prow_len hG (h q List.mem_cons_self) rows
    rw [List.foldl_cons, List.length_cons, Nat.pow_succ]
    calc _ ≤ (prow longs rows q).length * 8 ^ pre.length := h1
      _ ≤ (rows.length * 8) * 8 ^ pre.length := Nat.mul_le_mul_right _ h2
      _ = rows.length * (8 ^ pre.length * 8) := by rw [Nat.mul_assoc, Nat.mul_comm 8]
theorem pst_err : ∀ (xs : List (List (Int × Int) × Int)) (rows : List (List Int)) (w : PV), xs.foldlM (pst longs) rows = .error w → w = noB ∧ xs.foldl (prow longs) rows = []
  | [], rows, w, h => by cases h
  | q :: xs, rows, w, h => by
    rw [List.foldlM_cons] at h
    unfold pst at h
    split at h
    · rename_i e
      cases h
      refine ⟨rfl, ?_⟩
      rw [List.foldl_cons, e]
      have : ∀ ys : List (List (Int × Int) × Int), ys.foldl (prow longs) [] = [] := fun ys => by
        induction ys with
        | nil => rfl
        | cons y ys ih => exact ih
      exact this xs
    · exact pst_err xs _ w h
theorem pst_ne : ∀ (xs : List (List (Int × Int) × Int)) (rows s : List (List Int)), rows ≠ [] → xs.foldlM (pst longs) rows = .ok s → s ≠ []
  | [], rows, s, hr, h => by cases h; exact hr
  | q :: xs, rows, s, hr, h => by
    rw [List.foldlM_cons] at h
    unfold pst at h
    split at h
    · cases h
    · rename_i e
      exact pst_ne xs _ s e h
theorem prow_rows : ∀ (pre : List (List (Int × Int) × Int)) (rows : List (List Int)) (m : Nat), (∀ r ∈ rows, r.length = m) → ∀ r ∈ pre.foldl (prow longs) rows, r.length = m + pre.length
  | [], rows, m, h, r, hr => h r hr
  | q :: pre, rows, m, h, r, hr => by
    rw [List.foldl_cons] at hr
    have := prow_rows pre (prow longs rows q) (m + 1) (fun r hr => by
      unfold prow at hr
      obtain ⟨row, h1, h2⟩ := List.mem_flatMap.mp hr
      obtain ⟨d, _, rfl⟩ := List.mem_map.mp h2
      rw [List.length_append, h row h1]; rfl) r hr
    rw [List.length_cons]; omega
def ans (rows : List (List Int)) : PV := match rows.head? with
  | some r => yesV r
  | none => noB
abbrev e14 (gaps : List (List (Int × Int))) (longs : List Int) (rows : List (List Int)) (x3 x4 x5 : Option (Bool × PV)) : Envi := [some (false, .tup (gaps.map EG)), some (false, ET longs), some (false, .lst (rows.map ET)), x3, x4, x5, none, none, none, none]
theorem ET_shp (r : List Int) : shp DEP (ET r) = true := shp_ET
theorem pEq_rows {rows : List (List Int)} : pEq (.lst (rows.map ET)) (.lst []) = some (decide (rows = [])) := by
  show (if (shp DEP (.lst (rows.map ET)) && shp DEP (.lst [])) = true then some (peq (.lst (rows.map ET)) (.lst [])) else none) = _
  have : shp DEP (.lst (rows.map ET)) = true := by
    show (rows.map ET).all (shp 19) = true
    rw [List.all_map, List.all_eq_true]
    exact fun r _ => shp_ET
  rw [this]
  cases rows <;> simp [peq, peqs, shp]
theorem shared_ok (hG : Gs gaps longs) : sem DD (n + 2) 14 [.tup (gaps.map EG), ET longs] D = some (ans ((gaps.zip longs).foldl (prow longs) [[]]), D) := by
  rw [r_f_shared_bench]
  refine run_ex rfl ?_
  unfold c_f_shared_bench
  show ∃ ρ', exs _ _ [some (false, .tup (gaps.map EG)), some (false, ET longs), none, none, none, none, none, none, none, none] _ = _
  refine go_asg (.lst ([[]].map ET)) rfl ?_
  refine go_forEP (fun p : List (Int × Int) × Int => .tup [EG p.1, .int p.2]) (gaps.zip longs) (fun rows ρ => ∃ x3 x4 x5, ρ = e14 gaps longs rows x3 x4 x5) (pst longs) [[]] (by
      show (some (zipL (gaps.map EG) (longs.map .int))).map (fun xs => (xs, D)) = _
      rw [zipL_map]; rfl) ⟨_, _, _, rfl⟩ (fun pre q post rows ρ hx hs ⟨x3, x4, x5, hρ⟩ => ?_) (fun rows hs ρ1 ⟨x3, x4, x5, hρ⟩ => ?_) (fun w hw => ?_)
  · subst hρ
    have hq : q ∈ gaps.zip longs := by rw [hx]; simp
    have hpl : pre.length < 3 := by
      have := congrArg List.length hx
      rw [List.length_append, List.length_cons, List.length_zip] at this
      have := hG.len
      omega
    have hrl : rows.length ≤ 64 := by
      have h1 := prow_lens hG pre [[]] fun x hx' => by rw [hx]; exact List.mem_append_left _ hx'
      rw [← pst_ok pre [[]] rows hs] at h1
      have : (8 : Nat) ^ pre.length ≤ 8 ^ 2 := Nat.pow_le_pow_right (by omega) (by omega)
      simp at h1; omega
    obtain ⟨hg, hl⟩ := zip_mem hq
    obtain ⟨g1, g2⟩ := hG.sp _ hg
    obtain ⟨l1, l2⟩ := hG.lo _ hl
    have dl := dys_len (l := q.2) g1 g2 l1
    have d1 : ∀ x5, ev (sem DD (n + 1)) (.lc2 [8, 9, 6] (.var 6) (.tp [(.nm 8), (.nm 9)]) (.over (.var 3)) .nil [6] (.nm 6) (.rng2 (.var 8) (.bin .add (.bin .sub (.var 9) (.var 4)) (.int 1))) .nil) (e14 gaps longs rows (some (false, EG q.1)) (vI q.2) x5) D = some (.lst ((dys q.1 q.2).map .int), D) := fun x5 => by
      have e := lc2G (Φ := sem DD (n + 1)) (D := D) (ρ := e14 gaps longs rows (some (false, EG q.1)) (vI q.2) x5) (own := [8, 9, 6]) (own2 := [6]) (ce := .var 6) (pt := .tp [(.nm 8), (.nm 9)]) (pt2 := .nm 6) (ci := .over (.var 3)) (ci2 := .rng2 (.var 8) (.bin .add (.bin .sub (.var 9) (.var 4)) (.int 1))) (ct := .nil) (ct2 := .nil)
        pv2 q.1 PV.int (fun s => rg s.1 (s.2 - q.2 + 1)) (fun _ d => [PV.int d]) (fun s => [some (false, .tup (gaps.map EG)), some (false, ET longs), some (false, .lst (rows.map ET)), some (false, EG q.1), vI q.2, x5, none, none, vI s.1, vI s.2])
        rfl (fun s _ => rfl) (fun s _ => rfl) (fun s hs => evi_r2 rfl rfl (by have := g2 s hs; omega) (by have := g2 s hs; omega) (by have := g2 s hs; omega) (by have := g2 s hs; omega)) (fun s _ d _ => rfl) (by
          have := flat_len (fun s : Int × Int => (rg s.1 (s.2 - q.2 + 1)).flatMap fun d => [PV.int d]) 4 q.1 fun s hs => by
            have h1 := flat_len (fun d : Int => [PV.int d]) 1 (rg s.1 (s.2 - q.2 + 1)) fun _ _ => by simp
            rw [rg_len] at h1
            have := g2 s hs
            omega
          omega)
      rw [e]
      congr 3
      unfold dys
      rw [List.map_flatMap]
      congr 1
      funext s
      induction (rg s.1 (s.2 - q.2 + 1)) with
      | nil => rfl
      | cons a t ih => rw [List.flatMap_cons, ih]; rfl
    have d2 : ev (sem DD (n + 1)) (.lc2 [7, 6] (.bin .add (.var 7) (.tup (.cons (.var 6) .nil))) (.nm 7) (.over (.var 2)) .nil [6] (.nm 6) (.over (.bi .sorted (.cons (.var 5) .nil))) (.cons (.call 15 (.cons (.var 7) (.cons (.var 1) (.cons (.var 6) (.cons (.var 4) .nil))))) .nil)) (e14 gaps longs rows (some (false, EG q.1)) (vI q.2) (some (false, .lst ((dys q.1 q.2).map .int)))) D = some (.lst ((prow longs rows q).map ET), D) := by
      have rl : ∀ r ∈ rows, r.length ≤ 1000 := fun r hr => by
        rw [pst_ok pre [[]] rows hs] at hr
        have := prow_rows pre [[]] 0 (by simp) r hr
        omega
      have so : pBi .sorted [.lst ((dys q.1 q.2).map .int)] = some (.lst ((sI (dys q.1 q.2)).map .int)) := by
        show (pSort _).map PV.lst = _
        rw [pSort_I]; rfl
      have e := lc2G (Φ := sem DD (n + 1)) (D := D) (ρ := e14 gaps longs rows (some (false, EG q.1)) (vI q.2) (some (false, .lst ((dys q.1 q.2).map .int)))) (own := [7, 6]) (own2 := [6]) (ce := .bin .add (.var 7) (.tup (.cons (.var 6) .nil))) (pt := .nm 7) (pt2 := .nm 6) (ci := .over (.var 2)) (ci2 := .over (.bi .sorted (.cons (.var 5) .nil))) (ct := .nil) (ct2 := .cons (.call 15 (.cons (.var 7) (.cons (.var 1) (.cons (.var 6) (.cons (.var 4) .nil))))) .nil)
        ET rows PV.int (fun _ => sI (dys q.1 q.2)) (fun row d => if fr row longs d q.2 then [ET (row ++ [d])] else []) (fun row => [some (false, .tup (gaps.map EG)), some (false, ET longs), some (false, .lst (rows.map ET)), some (false, EG q.1), vI q.2, some (false, .lst ((dys q.1 q.2).map .int)), none, some (false, ET row), none, none])
        rfl (fun s _ => rfl) (fun s _ => rfl) (fun s hs => evi_ov (by
          rw [ev_bi, evs_cons, show ev (sem DD (n + 1)) (.var 5) [some (false, .tup (gaps.map EG)), some (false, ET longs), some (false, .lst (rows.map ET)), some (false, EG q.1), vI q.2, some (false, .lst ((dys q.1 q.2).map .int)), none, some (false, ET s), none, none] D = some (.lst ((dys q.1 q.2).map .int), D) from rfl]
          simp only [Option.bind_some, evs_nil, Option.map_some, mapO_cons, mapO_nil, opd_lst, so])) (fun row hrow d hd => by
          have c := is_free_ok (n := n) (D := D) (row := row) (longs := longs) (day := d) (long := q.2)
          have a := row_add (r := row) (k := d) (rl row hrow)
          cases hf : fr row longs d q.2 <;> simp [st1, bindP, wipE, getS, c, hf, a]) (by
          have := flat_len (fun row : List Int => (sI (dys q.1 q.2)).flatMap fun d => if fr row longs d q.2 then [ET (row ++ [d])] else []) 8 rows fun row _ => by
            have h1 := flat_len (fun d : Int => if fr row longs d q.2 then [ET (row ++ [d])] else []) 1 (sI (dys q.1 q.2)) fun d _ => by split <;> simp
            rw [sI_len] at h1
            omega
          omega)
      rw [e]
      congr 3
      unfold prow
      rw [List.map_flatMap]
      congr 1
      funext row
      rw [flatMap_if, List.map_map]; rfl
    unfold pst
    by_cases he : prow longs rows q = []
    · rw [if_pos he]
      refine ⟨e14 gaps longs (prow longs rows q) (some (false, EG q.1)) (vI q.2) (some (false, .lst ((dys q.1 q.2).map .int))), ?_⟩
      show exs _ _ (e14 gaps longs rows (some (false, EG q.1)) (vI q.2) x5) _ = _
      rw [exs_cons, ex_asg, d1]
      show exs _ _ (e14 gaps longs rows (some (false, EG q.1)) (vI q.2) (some (false, .lst ((dys q.1 q.2).map .int)))) _ = _
      rw [exs_cons, ex_asg, d2]
      show exs _ _ (e14 gaps longs (prow longs rows q) (some (false, EG q.1)) (vI q.2) (some (false, .lst ((dys q.1 q.2).map .int)))) _ = _
      rw [he]
      rfl
    · rw [if_neg he]
      refine ⟨.nx, e14 gaps longs (prow longs rows q) (some (false, EG q.1)) (vI q.2) (some (false, .lst ((dys q.1 q.2).map .int))), ?_, .inl rfl, _, _, _, rfl⟩
      show exs _ _ (e14 gaps longs rows (some (false, EG q.1)) (vI q.2) x5) _ = _
      rw [exs_cons, ex_asg, d1]
      show exs _ _ (e14 gaps longs rows (some (false, EG q.1)) (vI q.2) (some (false, .lst ((dys q.1 q.2).map .int)))) _ = _
      rw [exs_cons, ex_asg, d2]
      show exs _ _ (e14 gaps longs (prow longs rows q) (some (false, EG q.1)) (vI q.2) (some (false, .lst ((dys q.1 q.2).map .int)))) _ = _
      have ne : pEq (.lst ((prow longs rows q).map ET)) (.lst []) = some false := by
        rw [pEq_rows]
        rw [decide_eq_false he]
      have v2 : ev (sem DD (n + 1)) (.var 2) (e14 gaps longs (prow longs rows q) (some (false, EG q.1)) (vI q.2) (some (false, .lst ((dys q.1 q.2).map .int)))) D = some (.lst ((prow longs rows q).map ET), D) := rfl
      rw [exs_cons, ex_ife, ev_cmp, v2]
      simp [pCmp, ne]
  · subst hρ
    have hne := pst_ne _ _ _ (by simp) hs
    rw [← pst_ok _ _ _ hs]
    cases rows with
    | nil => exact absurd rfl hne
    | cons r rows =>
      refine go_ret ?_
      have i0 : pIdx (.lst ((r :: rows).map ET)) (.int 0) = some (ET r) := ix_lst ET (by decide) rfl
      have v2 : ev (sem DD (n + 1)) (.var 2) (e14 gaps longs (r :: rows) x3 x4 x5) D = some (.lst ((r :: rows).map ET), D) := rfl
      rw [ev_tup, evs_cons, ev_str, Option.bind_some, evs_cons, ev_idx, v2]
      simp only [Option.bind_some, ev_int, opd_lst, i0, Option.map_some, evs_nil]
      rfl
  · obtain ⟨rfl, e⟩ := pst_err _ _ _ hw
    rw [e]; rfl
end
end MP.K13

namespace MP.K13
open PySem MP
section
variable {n : Nat} {D : DS} {gaps : List (List (Int × Int))} {longs : List Int}
theorem dys_mem (hG : Gs gaps longs) {q : List (Int × Int) × Int} (hq : q ∈ gaps.zip longs) (d : Int) : d ∈ sI (dys q.1 q.2) ↔ d ∈ (rg 0 20).filter fun d => q.1.any fun s => decide (s.1 ≤ d) && decide (d + q.2 ≤ s.2) := by
  obtain ⟨hg, hl⟩ := zip_mem hq
  obtain ⟨_, g2⟩ := hG.sp _ hg
  have hl := hG.lo _ hl
  rw [sI_mem, List.mem_filter, mem_rg, List.any_eq_true]
  unfold dys
  rw [List.mem_flatMap]
  constructor
  · rintro ⟨s, hs, h⟩
    rw [mem_rg] at h
    have := g2 s hs
    exact ⟨by omega, s, hs, by rw [Bool.and_eq_true]; exact ⟨decide_eq_true (by omega), decide_eq_true (by omega)⟩⟩
  · rintro ⟨_, s, hs, h⟩
    rw [Bool.and_eq_true] at h
    have h1 := of_decide_eq_true h.1
    have h2 := of_decide_eq_true h.2
    exact ⟨s, hs, mem_rg.mpr (by omega)⟩
theorem bench_eq (hG : Gs gaps longs) : ans ((gaps.zip longs).foldl (prow longs) [[]]) = ans ((gaps.zip longs).foldl (lrow longs) [[]]) := by
  have key : ∀ (zs : List (List (Int × Int) × Int)) (P L : List (List Int)), (∀ q ∈ zs, q ∈ gaps.zip longs) → FE P L → FE (zs.foldl (prow longs) P) (zs.foldl (lrow longs) L) := fun zs => by
    induction zs with
    | nil => exact fun P L _ h => h
    | cons q zs ih =>
      intro P L hz h
      rw [List.foldl_cons, List.foldl_cons]
      refine ih _ _ (fun x hx => hz x (List.mem_cons_of_mem _ hx)) ?_
      refine FE.flatMap h (fun row _ => ?_) fun x hx => (h.mem x).mpr hx
      refine FE.map (FE.filter (FE_srt (sI_srt _) ?_ (dys_mem hG (hz q List.mem_cons_self))) _) _
      exact (srt_filter _ (srt_rg 0 20)).imp fun {a b} h => Int.le_of_lt h
  have := (key (gaps.zip longs) [[]] [[]] (fun _ h => h) fun _ => rfl).head
  unfold ans
  rw [this]
/-! ### sets renewed -/
theorem neg_fdiv {a b : Int} (ha : 0 ≤ a) (hb : 0 < b) : -((-a).fdiv b) = (a + b - 1).fdiv b := by
  rw [Int.fdiv_eq_ediv_of_nonneg _ (by omega), Int.fdiv_eq_ediv_of_nonneg _ (by omega)]
  have h1 := Int.emod_add_mul_ediv (-a) b
  have h2 := Int.emod_add_mul_ediv (a + b - 1) b
  have m1 := Int.emod_nonneg (-a) (by omega : b ≠ 0)
  have m2 := Int.emod_lt_of_pos (-a) hb
  have m3 := Int.emod_nonneg (a + b - 1) (by omega : b ≠ 0)
  have m4 := Int.emod_lt_of_pos (a + b - 1) hb
  generalize (-a) / b = x at *
  generalize (a + b - 1) / b = y at *
  have e : b * (x + y) = b * x + b * y := Int.mul_add b x y
  have l1 : b * (x + y) < b * 1 := by omega
  have l2 : b * (-1) < b * (x + y) := by omega
  have := Int.lt_of_mul_lt_mul_left l1 (by omega)
  have := Int.lt_of_mul_lt_mul_left l2 (by omega)
  omega
def ceil (a b : Int) : Int := (a + b - 1).fdiv b
theorem renewed_ok {lives : List Int} {need : Int} (h0 : 0 ≤ need) (hl : ∀ x ∈ lives, 0 < x ∧ x < 100) : sem DD (n + 1) 16 [ET lives, .int need] D = some (ET (lives.map fun x => ceil need x), D) := by
  rw [r_f_renewed_sets]
  refine run_ex rfl ?_
  unfold c_f_renewed_sets
  show ∃ ρ', exs _ _ [some (false, ET lives), vI need, none] _ = _
  refine go_ret ?_
  have q : ev (sem DD n) (.lc1 [2] (.neg (.bin .div (.neg (.var 1)) (.var 2))) (.nm 2) (.over (.var 0)) .nil) [some (false, ET lives), vI need, none] D = some (.lst (lives.map fun x => .int (ceil need x)), D) := by
    refine lcM PV.int lives _ rfl fun x hx => ?_
    have hx := hl x hx
    have d := div_ok (a := -need) (b := x) (by omega) (by omega)
    have e := neg_fdiv h0 hx.1
    have ng : ∀ a, pNeg (.int a) = some (.int (-a)) := fun a => rfl
    simp [st1, bindP, wipE, getS, ng, d, e, ceil]
  simp [q]
/-! ### the cheapest plan -/
def arow (rows : List (List Int)) (m : Int) : List (List Int) := rows.flatMap fun r => (rg 0 m).map fun k => r ++ [k]
theorem all_rows_ok {ss : List Int} (hs : ss.length ≤ 2) (hm : ∀ m ∈ ss, 0 ≤ m ∧ m ≤ 100) : sem DD (n + 1) 3 [.lst (ss.map .int)] D = some (.lst ((ss.foldl arow [[]]).map ET), D) := by
  rw [r_f_all_rows]
  refine run_ex rfl ?_
  unfold c_f_all_rows
  show ∃ ρ', exs _ _ [some (false, .lst (ss.map .int)), none, none, none, none] _ = _
  refine go_asg (.lst ([[]].map ET)) rfl ?_
  have lens : ∀ (pre : List Int), (∀ m ∈ pre, 0 ≤ m ∧ m ≤ 100) → (pre.foldl arow [[]]).length ≤ 100 ^ pre.length ∧ ∀ r ∈ pre.foldl arow [[]], r.length = pre.length := fun pre => by
    refine snoc_ind (P := fun pre => (∀ m ∈ pre, 0 ≤ m ∧ m ≤ 100) → (pre.foldl arow [[]]).length ≤ 100 ^ pre.length ∧ ∀ r ∈ pre.foldl arow [[]], r.length = pre.length) ?_ ?_ pre
    · intro _; exact ⟨by simp, by simp⟩
    · intro pre m ih h
      obtain ⟨h1, h2⟩ := ih fun x hx => h x (List.mem_append_left _ hx)
      have hm := h m (by simp)
      rw [List.foldl_append, List.foldl_cons, List.foldl_nil]
      constructor
      · have := flat_len (fun r : List Int => (rg 0 m).map fun k => r ++ [k]) 100 (pre.foldl arow [[]]) fun r _ => by rw [List.length_map, rg_len]; omega
        unfold arow
        rw [List.length_append, List.length_singleton, Nat.pow_succ]
        exact Nat.le_trans this (Nat.mul_le_mul_right _ h1)
      · intro r hr
        unfold arow at hr
        obtain ⟨r', h3, h4⟩ := List.mem_flatMap.mp hr
        obtain ⟨k, _, rfl⟩ := List.mem_map.mp h4
        rw [List.length_append, h2 r' h3, List.length_append]; rfl
  refine go_forP PV.int ss (fun (rows : List (List Int)) ρ => ∃ x2, ρ = [some (false, .lst (ss.map .int)), some (false, .lst (rows.map ET)), x2, none, none]) arow [[]] rfl ⟨_, rfl⟩ (fun pre m post ρ hx ⟨x2, hρ⟩ => ?_) (fun ρ1 ⟨x2, hρ⟩ => ?_)
  · subst hρ
    obtain ⟨l1, l2⟩ := lens pre fun x hx' => hm x (by rw [hx]; exact List.mem_append_left _ hx')
    have hm := hm m (by rw [hx]; simp)
    have hpl : pre.length < 2 := by
      have := congrArg List.length hx
      rw [List.length_append, List.length_cons] at this
      omega
    have hrl : (pre.foldl arow [[]]).length ≤ 100 := by
      have : (100 : Nat) ^ pre.length ≤ 100 ^ 1 := Nat.pow_le_pow_right (by omega) (by omega)
      omega
    have l3 : ∀ r ∈ pre.foldl arow [[]], r.length ≤ 1000 := fun r hr => by have := l2 r hr; omega
    generalize pre.foldl arow [[]] = rows at *
    refine ⟨.nx, [some (false, .lst (ss.map .int)), some (false, .lst ((arow rows m).map ET)), vI m, none, none], ?_, .inl rfl, _, rfl⟩
    have e := lc2G (Φ := sem DD n) (D := D) (ρ := [some (false, .lst (ss.map .int)), some (false, .lst (rows.map ET)), vI m, none, none]) (own := [3, 4]) (own2 := [4]) (ce := .bin .add (.var 3) (.tup (.cons (.var 4) .nil))) (pt := .nm 3) (pt2 := .nm 4) (ci := .over (.var 1)) (ci2 := .rng1 (.var 2)) (ct := .nil) (ct2 := .nil)
      ET rows PV.int (fun _ => rg 0 m) (fun r k => [ET (r ++ [k])]) (fun r => [some (false, .lst (ss.map .int)), some (false, .lst (rows.map ET)), vI m, some (false, ET r), none]) rfl (fun _ _ => rfl) (fun _ _ => rfl) (fun _ _ => evi_r1 rfl (by omega) (by omega)) (fun r hr k hk => by
        have a := row_add (r := r) (k := k) (l3 r hr)
        simp [st1, bindP, wipE, getS, a]) (by
        have := flat_len (fun r : List Int => (rg 0 m).flatMap fun k => [ET (r ++ [k])]) 100 rows fun r _ => by
          have h1 := flat_len (fun k : Int => [ET (r ++ [k])]) 1 (rg 0 m) fun _ _ => by simp
          rw [rg_len] at h1
          omega
        omega)
    show exs _ _ [some (false, .lst (ss.map .int)), some (false, .lst (rows.map ET)), vI m, none, none] _ = _
    rw [exs_cons, ex_asg, e]
    have e2 : (rows.flatMap fun r => (rg 0 m).flatMap fun k => [ET (r ++ [k])]) = (arow rows m).map ET := by
      unfold arow
      rw [List.map_flatMap]
      congr 1
      funext r
      rw [List.map_map]
      induction (rg 0 m) with
      | nil => rfl
      | cons a t ih => rw [List.flatMap_cons, ih]; rfl
    rw [e2]; rfl
  · subst hρ
    exact go_ret (by simp [getS])
def dot (f : Int × Int → Int) (kinds : List (Int × Int)) (row : List Int) : Int := ((row.zip kinds).map fun p => p.1 * f p.2).sum
def kc (q : Int × List Int) : PV := .tup [.int q.1, ET q.2]
theorem kc_C (L : List (Int × List Int)) : Cmp (L.map kc) := by
  refine Cmp.of L (fun r => ?_) (fun r => ?_) fun a b => by simp [kc, cmpOk, cmpOkL, cmpL_ints]
  · have : gd (ET r.2) = true := gdL_ints r.2
    simp [kc, gd, gdL, this] <;> exact gdL_ints r.2
  · show (shp 19 (.int r.1) && (shp 19 (ET r.2) && true)) = true
    rw [shp_ET]; simp
theorem kc_lt {a b : Int × List Int} (h : plt (kc a) (kc b) = false) : b.1 ≤ a.1 := by
  by_cases h2 : a.1 < b.1
  · exfalso
    have : ¬ (peq (.int a.1) (.int b.1) = true) := by rw [peq_int]; simp; omega
    simp only [kc, plt, pltL] at h
    rw [if_neg this] at h
    exact absurd h2 (of_decide_eq_false h)
  · omega
theorem min_kc {L : List (Int × List Int)} (h : L ≠ []) : ∃ q ∈ L, pMin (L.map kc) = some (kc q) ∧ ∀ y ∈ L, q.1 ≤ y.1 := by
  obtain ⟨v, h1, h2, h3⟩ := pMin_ok (kc_C L) (by simpa using h)
  obtain ⟨q, hq, rfl⟩ := List.mem_map.mp h2
  exact ⟨q, hq, h1, fun y hy => kc_lt (h3 _ (List.mem_map.mpr ⟨y, hy, rfl⟩))⟩
structure Ki (kinds : List (Int × Int)) : Prop where
  l1 : 1 ≤ kinds.length
  l2 : kinds.length ≤ 2
  ok : ∀ q ∈ kinds, 1 ≤ q.1 ∧ q.1 ≤ 9 ∧ 0 ≤ q.2 ∧ q.2 ≤ 9
variable {kinds : List (Int × Int)} {need : Int}
def sizes (need : Int) (kinds : List (Int × Int)) : List Int := kinds.map fun q => ceil need q.1 + 1
def plans (need : Int) (kinds : List (Int × Int)) : List (Int × List Int) := (((sizes need kinds).foldl arow [[]]).filter fun r => decide (need ≤ dot (·.1) kinds r)).map fun r => (dot (·.2) kinds r, r)
theorem ceil_ge {x d : Int} (hd : 0 < d) : x ≤ ceil x d * d := by
  unfold ceil
  rw [Int.fdiv_eq_ediv_of_nonneg _ (by omega)]
  have := Int.lt_ediv_add_one_mul_self (x + d - 1) hd
  rw [Int.add_mul] at this
  omega
theorem ceil_le {x d b : Int} (hd : 0 < d) (h : x ≤ b * d) : ceil x d ≤ b := by
  unfold ceil
  rw [Int.fdiv_eq_ediv_of_nonneg _ (by omega)]
  have : (x + d - 1) / d < b + 1 := Int.ediv_lt_of_lt_mul hd (by rw [Int.add_mul]; omega)
  omega
theorem ceil_nn {x d : Int} (hx : 0 ≤ x) (hd : 0 < d) : 0 ≤ ceil x d := by
  unfold ceil
  rw [Int.fdiv_eq_ediv_of_nonneg _ (by omega)]
  exact Int.ediv_nonneg (by omega) (by omega)
theorem ceil_self {x d : Int} (hx : 0 ≤ x) (hd : 0 < d) : ceil x d ≤ x := ceil_le hd (by
  have : x * 1 ≤ x * d := Int.mul_le_mul_of_nonneg_left (by omega) hx
  omega)
theorem sizes_ok (hK : Ki kinds) (h0 : 0 ≤ need) (h1 : need < 30) : ∀ m ∈ sizes need kinds, 0 ≤ m ∧ m ≤ 30 := fun m hm => by
  obtain ⟨q, hq, rfl⟩ := List.mem_map.mp hm
  have := hK.ok q hq
  have := ceil_nn (d := q.1) h0 (by omega)
  have := ceil_self (d := q.1) h0 (by omega)
  omega
theorem ev_dot {Φ : Fns} {ρ : Envi} {own : List Nat} {ce a b : CE} {pt : Pat} {row : List Int} (f : Int × Int → Int) (ha : ev Φ a ρ D = some (ET row, D)) (hb : ev Φ b ρ D = some (.tup (kinds.map pv2), D)) (H : ∀ p ∈ row.zip kinds, st1 Φ own ce pt .nil ρ (.tup [.int p.1, pv2 p.2]) D = some ([.int (p.1 * f p.2)], D)) :
    ev Φ (.bi .sum (.cons (.lc1 own ce pt (.zip a b) .nil) .nil)) ρ D = some (.int (dot f kinds row), D) := by
  have q : ev Φ (.lc1 own ce pt (.zip a b) .nil) ρ D = some (.lst ((row.zip kinds).map fun p => .int (p.1 * f p.2)), D) := by
    refine lcM (fun p : Int × (Int × Int) => .tup [.int p.1, pv2 p.2]) (row.zip kinds) _ ?_ H
    rw [evi_zip, ha, Option.bind_some, hb, Option.bind_some]
    show (some (zipL (row.map .int) (kinds.map pv2))).map (fun xs => (xs, D)) = _
    rw [zipL_map]; rfl
  rw [ev_bi, evs_cons, q]
  simp only [Option.bind_some, evs_nil, Option.map_some, mapO_cons, mapO_nil, opd_lst, pSum_lst]
  rfl
theorem plan_ok (hK : Ki kinds) (h0 : 0 ≤ need) (h1 : need < 30) (hne : plans need kinds ≠ []) : ∃ q ∈ plans need kinds, (∀ y ∈ plans need kinds, q.1 ≤ y.1) ∧ ∀ n D, sem DD (n + 2) 17 [.int need, .tup (kinds.map pv2)] D = some (kc q, D) := by
  obtain ⟨q, hq, hm, hl⟩ := min_kc hne
  refine ⟨q, hq, hl, fun n D => ?_⟩
  have hs := sizes_ok hK h0 h1
  have sl : (sizes need kinds).length ≤ 2 := by unfold sizes; rw [List.length_map]; exact hK.l2
  have ar := all_rows_ok (n := n) (D := D) sl fun m hm => by have := hs m hm; omega
  have rlen : ((sizes need kinds).foldl arow [[]]).length ≤ 10000 := by
    have lens : ∀ (pre : List Int), (∀ m ∈ pre, 0 ≤ m ∧ m ≤ 30) → (pre.foldl arow [[]]).length ≤ 30 ^ pre.length := fun pre => by
      refine snoc_ind (P := fun pre => (∀ m ∈ pre, 0 ≤ m ∧ m ≤ 30) → (pre.foldl arow [[]]).length ≤ 30 ^ pre.length) ?_ ?_ pre
      · intro _; simp
      · intro pre m ih h
        have h1 := ih fun x hx => h x (List.mem_append_left _ hx)
        have hm := h m (by simp)
        rw [List.foldl_append, List.foldl_cons, List.foldl_nil]
        have := flat_len (fun r : List Int => (rg 0 m).map fun k => r ++ [k]) 30 (pre.foldl arow [[]]) fun r _ => by rw [List.length_map, rg_len]; omega
        unfold arow
        rw [List.length_append, List.length_singleton, Nat.pow_succ]
        exact Nat.le_trans this (Nat.mul_le_mul_right _ h1)
    have := lens _ hs
    have : (30 : Nat) ^ (sizes need kinds).length ≤ 30 ^ 2 := Nat.pow_le_pow_right (by omega) sl
    omega
  unfold plans at hm
  generalize (sizes need kinds).foldl arow [[]] = rows at *
  rw [r_f_cheapest_plan]
  refine run_ex rfl ?_
  unfold c_f_cheapest_plan
  show ∃ ρ', exs _ _ [vI need, some (false, .tup (kinds.map pv2)), none, none, none, none, none, none, none] _ = _
  have ng : ∀ a, pNeg (.int a) = some (.int (-a)) := fun a => rfl
  refine go_asg (.lst ((sizes need kinds).map .int)) ?_ ?_
  · have e := lcM (Φ := sem DD (n + 1)) (D := D) (ρ := [vI need, some (false, .tup (kinds.map pv2)), none, none, none, none, none, none, none]) (own := [5, 6]) (ce := .bin .add (.neg (.bin .div (.neg (.var 0)) (.var 5))) (.int 1)) (pt := .tp [(.nm 5), (.nm 6)]) (ci := .over (.var 1)) (ct := .nil) pv2 kinds (fun q => .int (ceil need q.1 + 1)) rfl (fun q hq => by
      have hq := hK.ok q hq
      have d := div_ok (a := -need) (b := q.1) (by omega) (by omega)
      have e := neg_fdiv (b := q.1) h0 (by omega)
      simp [st1, bindP, bindPs, pv2, wipE, getS, ng, d, e, ceil])
    rw [e]
    unfold sizes
    rw [List.map_map]; rfl
  refine go_nx (D1 := D) (ρ1 := [vI need, some (false, .tup (kinds.map pv2)), some (false, .lst ((sizes need kinds).map .int)), some (true, .lst []), none, none, none, none, none]) rfl ?_
  refine go_forP ET rows (fun (L : List (Int × List Int)) ρ => ∃ x4, ρ = [vI need, some (false, .tup (kinds.map pv2)), some (false, .lst ((sizes need kinds).map .int)), some (true, .lst (L.map kc)), x4, none, none, none, none])
    (fun L r => if decide (need ≤ dot (·.1) kinds r) then L ++ [(dot (·.2) kinds r, r)] else L) [] (evi_ov (by simp [getS, ar])) ⟨_, rfl⟩ (fun pre r post ρ hx ⟨x4, hρ⟩ => ?_) (fun ρ1 ⟨x4, hρ⟩ => ?_)
  · subst hρ
    have Ll : ∀ pre : List (List Int), (pre.foldl (fun L r => if decide (need ≤ dot (·.1) kinds r) then L ++ [(dot (·.2) kinds r, r)] else L) []).length ≤ pre.length := fun pre => by
      refine snoc_ind (P := fun pre => (pre.foldl (fun L r => if decide (need ≤ dot (·.1) kinds r) then L ++ [(dot (·.2) kinds r, r)] else L) []).length ≤ pre.length) (by simp) (fun pre r ih => ?_) pre
      rw [List.foldl_append, List.foldl_cons, List.foldl_nil, List.length_append, List.length_singleton]
      split
      · rw [List.length_append, List.length_singleton]; omega
      · omega
    have hLl := Ll pre
    have hpl : pre.length ≤ 10000 := by
      have := congrArg List.length hx
      rw [List.length_append] at this
      omega
    generalize pre.foldl (fun L r => if decide (need ≤ dot (·.1) kinds r) then L ++ [(dot (·.2) kinds r, r)] else L) [] = L at *
    have s1 := ev_dot (Φ := sem DD (n + 1)) (D := D) (ρ := [vI need, some (false, .tup (kinds.map pv2)), some (false, .lst ((sizes need kinds).map .int)), some (true, .lst (L.map kc)), some (false, ET r), none, none, none, none]) (own := [7, 5, 6]) (ce := .bin .mul (.var 7) (.var 5)) (pt := .tp [(.nm 7), (.tp [(.nm 5), (.nm 6)])]) (a := .var 4) (b := .var 1) (row := r) (kinds := kinds) (·.1) rfl rfl (fun p hp => by
      have hq := hK.ok p.2 (List.of_mem_zip hp).2
      have m := mul_ok (a := p.1) (b := p.2.1) (by omega)
      simp [st1, bindP, bindPs, pv2, wipE, getS, m])
    have s2 := ev_dot (Φ := sem DD (n + 1)) (D := D) (ρ := [vI need, some (false, .tup (kinds.map pv2)), some (false, .lst ((sizes need kinds).map .int)), some (true, .lst (L.map kc)), some (false, ET r), none, none, none, none]) (own := [7, 6, 8]) (ce := .bin .mul (.var 7) (.var 8)) (pt := .tp [(.nm 7), (.tp [(.nm 6), (.nm 8)])]) (a := .var 4) (b := .var 1) (row := r) (kinds := kinds) (·.2) rfl rfl (fun p hp => by
      have hq := hK.ok p.2 (List.of_mem_zip hp).2
      have m := mul_ok (a := p.1) (b := p.2.2) (by omega)
      simp [st1, bindP, bindPs, pv2, wipE, getS, m])
    have ap := app_ok (xs := L.map kc) (v := kc (dot (·.2) kinds r, r)) (by simp; show _ < 1000000; omega)
    refine ⟨.nx, [vI need, some (false, .tup (kinds.map pv2)), some (false, .lst ((sizes need kinds).map .int)), some (true, .lst ((if decide (need ≤ dot (·.1) kinds r) then L ++ [(dot (·.2) kinds r, r)] else L).map kc)), some (false, ET r), none, none, none, none], ?_, .inl rfl, _, rfl⟩
    show exs _ _ [vI need, some (false, .tup (kinds.map pv2)), some (false, .lst ((sizes need kinds).map .int)), some (true, .lst (L.map kc)), some (false, ET r), none, none, none, none] _ = _
    generalize hρ : ([vI need, some (false, .tup (kinds.map pv2)), some (false, .lst ((sizes need kinds).map .int)), some (true, .lst (L.map kc)), some (false, ET r), none, none, none, none] : Envi) = ρ at *
    have v0 : ev (sem DD (n + 1)) (.var 0) ρ D = some (.int need, D) := by rw [← hρ]; rfl
    have v4 : ev (sem DD (n + 1)) (.var 4) ρ D = some (ET r, D) := by rw [← hρ]; rfl
    rw [exs_cons, ex_ife, ev_cmp, s1, Option.bind_some, v0, Option.bind_some, opd_int, Option.bind_some, show pCmp .ge (.int (dot (·.1) kinds r)) (.int need) = some (decide (need ≤ dot (·.1) kinds r)) from rfl]
    by_cases hc : need ≤ dot (·.1) kinds r
    · rw [decide_eq_true hc]
      simp only [Option.map_some, Option.bind_some, blOf_bl, if_true]
      rw [exs_cons, ex_app, ev_tup, evs_cons, s2, Option.bind_some, evs_cons, v4]
      simp only [Option.bind_some, Option.map_some, evs_nil]
      have ap' : pApp (.tup [.int (dot (·.2) kinds r), ET r]) (.lst (L.map kc)) = some (.lst (L.map kc ++ [kc (dot (·.2) kinds r, r)])) := ap
      have ch : chgO (pApp (.tup [.int (dot (·.2) kinds r), ET r])) 3 ρ D = some ([vI need, some (false, .tup (kinds.map pv2)), some (false, .lst ((sizes need kinds).map .int)), some (true, .lst (L.map kc ++ [kc (dot (·.2) kinds r, r)])), some (false, ET r), none, none, none, none], D) := by
        rw [← hρ]
        show (pApp (.tup [.int (dot (·.2) kinds r), ET r]) (.lst (L.map kc))).map _ = _
        rw [ap']; rfl
      rw [ch]
      simp
    · rw [decide_eq_false hc, ← hρ]
      simp
  · subst hρ
    have fe : ∀ (xs : List (List Int)) (L : List (Int × List Int)), xs.foldl (fun L r => if decide (need ≤ dot (·.1) kinds r) then L ++ [(dot (·.2) kinds r, r)] else L) L = L ++ (xs.filter fun r => decide (need ≤ dot (·.1) kinds r)).map fun r => (dot (·.2) kinds r, r) := fun xs => by
      induction xs with
      | nil => intro L; simp
      | cons x xs ih =>
        intro L
        rw [List.foldl_cons, ih]
        by_cases h : need ≤ dot (·.1) kinds x
        · rw [if_pos (decide_eq_true h), List.filter_cons, if_pos (decide_eq_true h)]; simp
        · rw [if_neg (by simpa using h), List.filter_cons, if_neg (by simpa using h)]
    rw [fe, List.nil_append]
    refine go_ret ?_
    have pm : pBi .min [.lst (((rows.filter fun r => decide (need ≤ dot (·.1) kinds r)).map fun r => (dot (·.2) kinds r, r)).map kc)] = some (kc q) := hm
    rw [ev_bi, evs_cons, ev_bor]
    show ((((some (PV.lst (((rows.filter fun r => decide (need ≤ dot (·.1) kinds r)).map fun r => (dot (·.2) kinds r, r)).map kc))).map fun x => (x, D)).bind _).bind _) = _
    simp only [Option.bind_some, evs_nil, Option.map_some, mapO_cons, mapO_nil, opd_lst, pm]
def rst (need : Int) (kinds : List (Int × Int)) (a : Int) : Int := if need - a * (kinds.headD (0, 0)).1 > 0 then need - a * (kinds.headD (0, 0)).1 else 0
def bbo (need : Int) (kinds : List (Int × Int)) (a : Int) : Int := if 1 < kinds.length then ceil (rst need kinds a) (kinds.getLastD (0, 0)).1 else 0
def lbs (need : Int) (kinds : List (Int × Int)) (a : Int) : List (Int × List Int) := if rst need kinds a = 0 ∨ 1 < kinds.length then [(a * (kinds.headD (0, 0)).2 + bbo need kinds a * (kinds.getLastD (0, 0)).2, [a, bbo need kinds a].take kinds.length)] else []
def lbest (need : Int) (kinds : List (Int × Int)) : List (Int × List Int) := (rg 0 31).flatMap (lbs need kinds)
theorem mul_mono {a b c : Int} (h : a ≤ b) (hc : 0 ≤ c) : a * c ≤ b * c := Int.mul_le_mul_of_nonneg_right h hc
theorem plan_law (hK : Ki kinds) (h0 : 0 ≤ need) (h1 : need < 30) : plans need kinds ≠ [] ∧ lbest need kinds ≠ [] ∧ (∀ q ∈ plans need kinds, ∃ w ∈ lbest need kinds, w.1 ≤ q.1) ∧ ∀ w ∈ lbest need kinds, ∃ q ∈ plans need kinds, q.1 ≤ w.1 := by
  obtain ⟨l1, l2, ok⟩ := hK
  match kinds, l1, l2, ok with
  | [(d, c)], _, _, ok =>
    have hd := ok (d, c) (by simp)
    simp only at hd
    have c0 := ceil_nn (d := d) h0 (by omega)
    have c1 := ceil_ge (x := need) (d := d) (by omega)
    have c2 := ceil_self (d := d) h0 (by omega)
    have mp : ∀ q, q ∈ plans need [(d, c)] ↔ ∃ a, 0 ≤ a ∧ a < ceil need d + 1 ∧ need ≤ a * d ∧ q = (a * c, [a]) := fun q => by
      unfold plans sizes
      simp only [List.map_cons, List.map_nil, List.foldl_cons, List.foldl_nil, List.mem_map, List.mem_filter]
      constructor
      · rintro ⟨r, ⟨hr, hn⟩, rfl⟩
        unfold arow at hr
        obtain ⟨r0, hr0, hr⟩ := List.mem_flatMap.mp hr
        obtain ⟨a, ha, rfl⟩ := List.mem_map.mp hr
        rw [List.mem_singleton] at hr0
        subst hr0
        rw [mem_rg] at ha
        exact ⟨a, ha.1, ha.2, by simpa [dot] using of_decide_eq_true hn, by simp [dot]⟩
      · rintro ⟨a, h1, h2, h3, rfl⟩
        refine ⟨[a], ⟨?_, decide_eq_true (by simpa [dot] using h3)⟩, by simp [dot]⟩
        unfold arow
        exact List.mem_flatMap.mpr ⟨[], by simp, List.mem_map.mpr ⟨a, mem_rg.mpr ⟨h1, h2⟩, rfl⟩⟩
    have ml : ∀ w, w ∈ lbest need [(d, c)] ↔ ∃ a, 0 ≤ a ∧ a < 31 ∧ need ≤ a * d ∧ w = (a * c, [a]) := fun w => by
      unfold lbest
      rw [List.mem_flatMap]
      constructor
      · rintro ⟨a, ha, hw⟩
        rw [mem_rg] at ha
        unfold lbs bbo rst at hw
        simp at hw
        refine ⟨a, ha.1, ha.2, by omega, hw.2⟩
      · rintro ⟨a, h1, h2, h3, rfl⟩
        refine ⟨a, mem_rg.mpr ⟨h1, h2⟩, ?_⟩
        unfold lbs bbo rst
        simp
        omega
    have pin : (ceil need d * c, [ceil need d]) ∈ plans need [(d, c)] := (mp _).mpr ⟨ceil need d, c0, by omega, c1, rfl⟩
    have lin : (ceil need d * c, [ceil need d]) ∈ lbest need [(d, c)] := (ml _).mpr ⟨ceil need d, c0, by omega, c1, rfl⟩
    refine ⟨fun z => (by rw [z] at pin; cases pin), fun z => (by rw [z] at lin; cases lin), fun q hq => ?_, fun w hw => ?_⟩
    · obtain ⟨a, a1, a2, a3, rfl⟩ := (mp q).mp hq
      exact ⟨_, (ml _).mpr ⟨a, a1, by omega, a3, rfl⟩, Int.le_refl _⟩
    · obtain ⟨a, a1, a2, a3, rfl⟩ := (ml w).mp hw
      exact ⟨_, pin, mul_mono (ceil_le (by omega) a3) hd.2.2.1⟩
  | [(d, c), (e, f)], _, _, ok =>
    have hd := ok (d, c) (by simp)
    have he := ok (e, f) (by simp)
    simp only at hd he
    have c0 := ceil_nn (d := d) h0 (by omega)
    have c1 := ceil_ge (x := need) (d := d) (by omega)
    have c2 := ceil_self (d := d) h0 (by omega)
    have e0 := ceil_nn (d := e) h0 (by omega)
    have mp : ∀ q, q ∈ plans need [(d, c), (e, f)] ↔ ∃ a b, 0 ≤ a ∧ a < ceil need d + 1 ∧ 0 ≤ b ∧ b < ceil need e + 1 ∧ need ≤ a * d + b * e ∧ q = (a * c + b * f, [a, b]) := fun q => by
      unfold plans sizes
      simp only [List.map_cons, List.map_nil, List.foldl_cons, List.foldl_nil, List.mem_map, List.mem_filter]
      constructor
      · rintro ⟨r, ⟨hr, hn⟩, rfl⟩
        unfold arow at hr
        obtain ⟨r1, hr1, hr⟩ := List.mem_flatMap.mp hr
        obtain ⟨b, hb, rfl⟩ := List.mem_map.mp hr
        obtain ⟨r0, hr0, hr⟩ := List.mem_flatMap.mp hr1
        obtain ⟨a, ha, rfl⟩ := List.mem_map.mp hr
        rw [List.mem_singleton] at hr0
        subst hr0
        rw [mem_rg] at ha hb
        exact ⟨a, b, ha.1, ha.2, hb.1, hb.2, by simpa [dot] using of_decide_eq_true hn, by simp [dot]⟩
      · rintro ⟨a, b, h1, h2, h3, h4, h5, rfl⟩
        refine ⟨[a, b], ⟨?_, decide_eq_true (by simpa [dot] using h5)⟩, by simp [dot]⟩
        unfold arow
        exact List.mem_flatMap.mpr ⟨[a], List.mem_flatMap.mpr ⟨[], by simp, List.mem_map.mpr ⟨a, mem_rg.mpr ⟨h1, h2⟩, rfl⟩⟩, List.mem_map.mpr ⟨b, mem_rg.mpr ⟨h3, h4⟩, rfl⟩⟩
    have ml : ∀ w, w ∈ lbest need [(d, c), (e, f)] ↔ ∃ a, 0 ≤ a ∧ a < 31 ∧ w = (a * c + ceil (if need - a * d > 0 then need - a * d else 0) e * f, [a, ceil (if need - a * d > 0 then need - a * d else 0) e]) := fun w => by
      unfold lbest
      rw [List.mem_flatMap]
      constructor
      · rintro ⟨a, ha, hw⟩
        rw [mem_rg] at ha
        unfold lbs bbo rst at hw
        simp at hw
        exact ⟨a, ha.1, ha.2, by simpa using hw⟩
      · rintro ⟨a, h1, h2, rfl⟩
        refine ⟨a, mem_rg.mpr ⟨h1, h2⟩, ?_⟩
        unfold lbs bbo rst
        simp
    have pin : (ceil need d * c + 0 * f, [ceil need d, 0]) ∈ plans need [(d, c), (e, f)] := (mp _).mpr ⟨ceil need d, 0, c0, by omega, by omega, by omega, by omega, rfl⟩
    have lin := (ml _).mpr ⟨0, by omega, by omega, rfl⟩
    refine ⟨fun z => (by rw [z] at pin; cases pin), fun z => (by rw [z] at lin; cases lin), fun q hq => ?_, fun w hw => ?_⟩
    · obtain ⟨a, b, a1, a2, b1, b2, h5, rfl⟩ := (mp q).mp hq
      refine ⟨_, (ml _).mpr ⟨a, a1, by omega, rfl⟩, ?_⟩
      have : ceil (if need - a * d > 0 then need - a * d else 0) e ≤ b := ceil_le (by omega) (by
        have : 0 ≤ b * e := Int.mul_nonneg b1 (by omega)
        split <;> omega)
      have := mul_mono this he.2.2.1
      show a * c + _ ≤ a * c + b * f
      omega
    · obtain ⟨a, a1, a2, rfl⟩ := (ml w).mp hw
      by_cases hle : a < ceil need d + 1
      · refine ⟨_, (mp _).mpr ⟨a, ceil (if need - a * d > 0 then need - a * d else 0) e, a1, hle, ceil_nn (by split <;> omega) (by omega), ?_, ?_, rfl⟩, Int.le_refl _⟩
        · have : ceil (if need - a * d > 0 then need - a * d else 0) e ≤ ceil need e := ceil_le (by omega) (by
            have := ceil_ge (x := need) (d := e) (by omega)
            have : 0 ≤ a * d := Int.mul_nonneg a1 (by omega)
            split <;> omega)
          omega
        · have hx : need - a * d ≤ (if need - a * d > 0 then need - a * d else 0) := by split <;> omega
          generalize (if need - a * d > 0 then need - a * d else 0) = x at *
          have := ceil_ge (x := x) (d := e) (by omega)
          omega
      · refine ⟨_, pin, ?_⟩
        have m1 := mul_mono (a := ceil need d) (b := a) (c := c) (by omega) hd.2.2.1
        have m2 : 0 ≤ ceil (if need - a * d > 0 then need - a * d else 0) e * f := Int.mul_nonneg (ceil_nn (by split <;> omega) (by omega)) he.2.2.1
        show ceil need d * c + 0 * f ≤ a * c + _
        omega
  | [], l1, _, _ => simp at l1
  | _ :: _ :: _ :: _, _, l2, _ => simp at l2
theorem plan_eq (hK : Ki kinds) (h0 : 0 ≤ need) (h1 : need < 30) : ∃ (m : Int) (r r' : List Int), pMin ((lbest need kinds).map kc) = some (kc (m, r')) ∧ ∀ n D, sem DD (n + 2) 17 [.int need, .tup (kinds.map pv2)] D = some (kc (m, r), D) := by
  obtain ⟨p1, p2, p3, p4⟩ := plan_law hK h0 h1
  obtain ⟨q, hq, hl, hs⟩ := plan_ok hK h0 h1 p1
  obtain ⟨w, hw, hm, hl2⟩ := min_kc p2
  obtain ⟨w', hw', h5⟩ := p3 q hq
  obtain ⟨q', hq', h6⟩ := p4 w hw
  have := hl q' hq'
  have := hl2 w' hw'
  have e : q.1 = w.1 := by omega
  refine ⟨q.1, q.2, w.2, ?_, hs⟩
  rw [hm, e]
end
end MP.K13

namespace MP.K13
open PySem MP
section
variable {n : Nat} {D : DS} {us : List U}
theorem are_ok (hU : Us us) : sem DD (n + 3) 4 [EU us] D = some (.bl true, D) := by
  have hl := hU.len
  have num : ∀ x : Int, ∀ n D, sem DD (n + 1) 0 [.int x] D = some (.bl true, D) := fun x n D => by
    rw [r_f_is_number]
    refine run_rt (ρ' := [some (false, .int x)]) rfl ?_ rfl
    simp [c_f_is_number, getS, pIs]
  have from_ : ∀ x : Int, 0 ≤ x → ∀ D, sem DD (n + 2) 1 [.int x, .int 0] D = some (.bl true, D) := fun x h1 D => by
    rw [r_f_is_from]
    refine run_rt (ρ' := [some (false, .int x), some (false, .int 0)]) rfl ?_ rfl
    simp [c_f_is_from, getS, num, pCmp, h1]
  have tupl : ∀ u : U, sem DD (n + 2) 2 [eu u, .int 3] D = some (.bl true, D) := fun u => by
    rw [r_f_is_tuple_of]
    refine run_rt (ρ' := [some (false, eu u), some (false, .int 3)]) rfl ?_ rfl
    simp [c_f_is_tuple_of, getS, eu, pIs, pBi, pCmp]
  rw [r_f_are_uses]
  refine run_ex rfl ?_
  unfold c_f_are_uses
  show ∃ ρ', exs _ _ [some (false, EU us), none, none] _ = _
  have q1 : ev (sem DD (n + 2)) (.lc1 [2] (.call 2 (.cons (.var 2) (.cons (.int 3) .nil))) (.nm 2) (.over (.var 0)) .nil) [some (false, EU us), none, none] D = some (.lst (us.map fun u => .bl ((fun _ => true) u)), D) :=
    lcM eu us _ rfl fun u hu => by simp [st1, bindP, wipE, getS, tupl]
  have q2 : ev (sem DD (n + 2)) (.lc1 [2] (.and_ (.cons (.call 1 (.cons (.idx (.var 2) (.int 0)) (.cons (.int 0) .nil))) (.cons (.call 1 (.cons (.idx (.var 2) (.int 1)) (.cons (.int 0) .nil))) (.cons (.call 1 (.cons (.idx (.var 2) (.int 2)) (.cons (.int 0) .nil))) (.cons (.cmp .lt (.idx (.var 2) (.int 0)) (.idx (.var 2) (.int 1))) .nil))))) (.nm 2) (.over (.var 0)) .nil) [some (false, EU us), none, none] D = some (.lst (us.map fun u => .bl ((fun _ => true) u)), D) :=
    lcM eu us _ rfl fun u hu => by
      have h := hU.ok u hu
      simp [st1, bindP, wipE, getS, from_ u.1 h.1, from_ u.2.1 (by omega), from_ u.2.2 h.2.2.1, pCmp, h.2.1]
  have q3 : ev (sem DD (n + 2)) (.lc1 [1] (.cmp .le (.idx (.idx (.var 0) (.var 1)) (.int 1)) (.idx (.idx (.var 0) (.bin .add (.var 1) (.int 1))) (.int 0))) (.nm 1) (.rng1 (.bin .sub (.bi .len (.cons (.var 0) .nil)) (.int 1))) .nil) [some (false, EU us), none, none] D = some (.lst ((rg 0 ((us.length : Int) - 1)).map fun k => .bl ((fun _ => true) k)), D) :=
    lcM PV.int (rg 0 ((us.length : Int) - 1)) _ (evi_r1 (by simp [getS]) (by omega) (by omega)) fun k hk => by
      obtain ⟨h0, h1⟩ := mem_rg.mp hk
      have a := (g_mem (us := us) h0 (by omega)).1
      have b := (g_mem (us := us) (k := k + 1) (by omega) (by omega)).1
      have := List.pairwise_iff_getElem.mp hU.up k.toNat (k + 1).toNat (by omega) (by omega) (by omega)
      rw [List.getElem?_eq_getElem (by omega)] at a b
      rw [Option.some.inj a, Option.some.inj b] at this
      simp [st1, bindP, wipE, getS, ixu h0 (by omega : k < us.length), ixu (us := us) (k := k + 1) (by omega) (by omega), pCmp, this]
  have i0 : ev (sem DD (n + 2)) (.isi .ttup (.var 0)) [some (false, EU us), none, none] D = some (.bl true, D) := rfl
  have at1 : ∀ {α : Type} (xs : List α), pBi .all [.lst (xs.map fun x => .bl ((fun _ => true) x))] = some (.bl true) := fun xs => by
    rw [all_bl]; simp
  refine go_nx (D1 := D) (ρ1 := [some (false, EU us), none, none]) ?_ ?_
  · simp [-ev_isi, i0, q1, at1]
  refine go_nx (D1 := D) (ρ1 := [some (false, EU us), none, none]) ?_ ?_
  · simp [q2, at1]
  exact go_ret (by simp [q3, at1])
def bads (us : List U) : List PV := [.lst (us.map eu), .non, .tup [.tup [.int 1, .int 1, .int 0]], .tup [.tup [.int 2, .int 1, .int 0]], .tup [.tup [.int 0, .int 2, .int 1], .tup [.int 1, .int 3, .int 1]], .tup [.tup [.int (-1), .int 1, .int 0]], .tup [.tup [.int 0, .int 1, .int (-1)]], .tup [.tup [.int 0, .int 1]], .tup [.tup [.int 0, .bl true, .int 1]], .tup [.tup [.int 0, .int 1, .non]], .tup [.int 3]]
theorem bad_all (us : List U) (v : PV) : ∀ x ∈ bads us, sem DD 39 4 [x] [v] = some (.bl false, [v]) := by
  intro x hx
  unfold bads at hx
  simp only [List.mem_cons, List.not_mem_nil, or_false] at hx
  rcases hx with rfl | rfl | rfl | rfl | rfl | rfl | rfl | rfl | rfl | rfl | rfl
  · rw [r_f_are_uses]
    refine run_rt (ρ' := [some (false, .lst (us.map eu)), none, none]) rfl ?_ rfl
    simp [c_f_are_uses, getS, pIs]
  all_goals kernel_rfl
theorem alk {m : Nat} {v : PV} {k : Nat} (h : ag k v = true) (hk : k < m) : sem DD m 22 [v, v] D = some (.bl true, D) :=
  alike_ok (Fs := sem DD) (g := 22) (fun n args D => r_f__law_alike n args D) k m v h hk
theorem judged_ok (hU : Us us) (v : PV) : sem DD 40 29 [EU us] [v] = some (.bl true, [v]) := by
  rw [r_f__law_judged]
  refine run_ex rfl ?_
  unfold c_f__law_judged
  show ∃ ρ', exs _ _ [some (false, EU us), none] _ = _
  have a := are_ok (n := 36) (D := [v]) hU
  have f1 : sem DD 39 15 [.tup [.int 0, .int 5], .tup [.int 2, .int 1], .int 2, .int 3] [v] = some (.bl true, [v]) := is_free_ok (n := 38) (D := [v]) (row := [0, 5]) (longs := [2, 1]) (day := 2) (long := 3)
  have f2 : sem DD 39 15 [.tup [.int 0, .int 5], .tup [.int 2, .int 1], .int 2, .int 4] [v] = some (.bl false, [v]) := is_free_ok (n := 38) (D := [v]) (row := [0, 5]) (longs := [2, 1]) (day := 2) (long := 4)
  have k1 := alk (D := [v]) (m := 39) (v := .tup [.bl true, .bl true, .bl false]) (k := 1) rfl (by omega)
  have k2 := alk (D := [v]) (m := 39) (v := .bl false) (k := 0) rfl (by omega)
  refine go_nx (D1 := [v]) (ρ1 := [some (false, EU us), none]) ?_ ?_
  · simp [getS, a, f1, f2, k1]
  refine go_ret ?_
  have q := lcP (Φ := sem DD 39) (D := [v]) (ρ := [some (false, EU us), none]) (own := [1]) (ce := .var 1) (pt := .nm 1) (ct := .cons (.not_ (.call 22 (.cons (.call 4 (.cons (.var 1) .nil)) (.cons (.bl false) .nil)))) .nil)
    (ci := .over (.tup (.cons (.bi .list (.cons (.var 0) .nil)) (.cons .non (.cons (.tup (.cons (.tup (.cons (.int 1) (.cons (.int 1) (.cons (.int 0) .nil)))) .nil)) (.cons (.tup (.cons (.tup (.cons (.int 2) (.cons (.int 1) (.cons (.int 0) .nil)))) .nil)) (.cons (.tup (.cons (.tup (.cons (.int 0) (.cons (.int 2) (.cons (.int 1) .nil)))) (.cons (.tup (.cons (.int 1) (.cons (.int 3) (.cons (.int 1) .nil)))) .nil))) (.cons (.tup (.cons (.tup (.cons (.neg (.int 1)) (.cons (.int 1) (.cons (.int 0) .nil)))) .nil)) (.cons (.tup (.cons (.tup (.cons (.int 0) (.cons (.int 1) (.cons (.neg (.int 1)) .nil)))) .nil)) (.cons (.tup (.cons (.tup (.cons (.int 0) (.cons (.int 1) .nil))) .nil)) (.cons (.tup (.cons (.tup (.cons (.int 0) (.cons (.bl true) (.cons (.int 1) .nil)))) .nil)) (.cons (.tup (.cons (.tup (.cons (.int 0) (.cons (.int 1) (.cons .non .nil)))) .nil)) (.cons (.tup (.cons (.int 3) .nil)) .nil)))))))))))))
    (fun x : PV => x) (bads us) (fun _ => false) (fun x => x) (by
      rw [List.map_id']
      rfl) (fun x hx => by
      have b := bad_all us v x hx
      simp [st1, bindP, wipE, getS, b, k2])
  have e : (List.map (fun x => x) (List.filter (fun _ => false) (bads us)) : List PV) = [] := by simp
  rw [e] at q
  have n0 : pEq (.lst []) (.lst []) = some true := rfl
  rw [ev_cmp, q]
  simp [pCmp, n0]
end
end MP.K13

namespace MP.K13
open PySem MP
def b0 : CS := (.par (nms [18, 19]) [true, false] (.cons (.lst .nil) (.cons (.int 0) .nil)))
def b1 : CS := (.for_ (.nm 3) (.rng1 (.call 20 (.cons (.var 1) (.cons (.int 6) .nil)))) (.cons (.asg false 20 (.bin .add (.var 19) (.call 20 (.cons (.var 1) (.cons (.int 4) .nil))))) (.cons (.asg false 19 (.bin .add (.bin .add (.var 20) (.int 1)) (.call 20 (.cons (.var 1) (.cons (.int 3) .nil))))) (.cons (.app 18 (.tup (.cons (.var 20) (.cons (.var 19) (.cons (.call 20 (.cons (.var 1) (.cons (.int 6) .nil))) .nil))))) .nil))))
def b2 : CS := (.par (nms [18, 21, 22, 23]) [false, false, false, false] (.cons (.bi .tuple (.cons (.bor 18) .nil)) (.cons (.call 20 (.cons (.var 1) (.cons (.int 30) .nil))) (.cons (.call 20 (.cons (.var 1) (.cons (.int 12) .nil))) (.cons (.bin .add (.int 1) (.call 20 (.cons (.var 1) (.cons (.int 3) .nil)))) .nil)))))
def b3 : CS := (.asg false 4 (.lst .nil))
def b4 : CS := (.for_ (.nm 5) (.over (.lc1 [37] (.var 37) (.nm 37) (.rng1 (.bin .add (.var 21) (.int 1))) (.cons (.cmp .eq (.lc1 [40] (.var 40) (.nm 40) (.over (.bor 18)) (.cons (.chn .le .lt (.idx (.var 40) (.int 0)) (.var 37) (.idx (.var 40) (.int 1))) .nil)) (.lst .nil)) .nil))) (.cons (.asg false 4 (.ite (.and_ (.cons (.cmp .ne (.var 4) (.lst .nil)) (.cons (.cmp .eq (.idx (.idx (.var 4) (.neg (.int 1))) (.int 1)) (.var 5)) .nil))) (.bin .add (.cut (.var 4) .nil (.cons (.neg (.int 1)) .nil)) (.lst (.cons (.tup (.cons (.idx (.idx (.var 4) (.neg (.int 1))) (.int 0)) (.cons (.bin .add (.var 5) (.int 1)) .nil))) .nil))) (.bin .add (.var 4) (.lst (.cons (.tup (.cons (.var 5) (.cons (.bin .add (.var 5) (.int 1)) .nil))) .nil))))) .nil))
def b5 : CS := (.ife (.not_ (.call 22 (.cons (.call 6 (.cons (.var 18) .nil)) (.cons (.bi .tuple (.cons (.lc1 [3] (.bi .sum (.cons (.lc1 [40] (.idx (.var 40) (.int 2)) (.nm 40) (.over (.cut (.bor 18) .nil (.cons (.bin .add (.var 3) (.int 1)) .nil))) .nil) .nil)) (.nm 3) (.rng1 (.bi .len (.cons (.bor 18) .nil))) .nil) .nil)) .nil)))) (.cons (.ret (.bl false)) .nil) .nil)
def b6 : CS := (.ife (.not_ (.call 22 (.cons (.call 27 (.cons (.call 5 (.cons (.var 18) (.cons (.var 21) .nil))) .nil)) (.cons (.bi .tuple (.cons (.var 4) .nil)) .nil)))) (.cons (.ret (.bl false)) .nil) .nil)
def b7 : CS := (.asg false 6 (.bi .tuple (.cons (.lc1 [3] (.var 3) (.nm 3) (.rng2 (.neg (.int 1)) (.bi .len (.cons (.bor 18) .nil))) (.cons (.cmp .eq (.call 20 (.cons (.var 1) (.cons (.int 3) .nil))) (.int 0)) .nil)) .nil)))
def b8 : CS := (.ife (.not_ (.call 22 (.cons (.call 7 (.cons (.var 18) (.cons (.var 6) (.cons (.var 22) (.cons (.var 23) (.cons (.var 21) .nil)))))) (.cons (.call 24 (.cons (.var 18) (.cons (.var 6) (.cons (.var 22) (.cons (.var 23) (.cons (.var 21) .nil)))))) .nil)))) (.cons (.ret (.bl false)) .nil) .nil)
def b9 : CS := (.asg false 7 (.lc1 [5] (.var 5) (.nm 5) (.over (.call 25 (.cons (.bi .len (.cons (.bor 18) .nil)) .nil))) (.cons (.call 24 (.cons (.var 18) (.cons (.var 5) (.cons (.var 22) (.cons (.var 23) (.cons (.var 21) .nil)))))) .nil)))
def b10 : CS := (.asg false 8 (.lst .nil))
def b11 : CS := (.for_ (.nm 9) (.rng1 (.bi .len (.cons (.bor 18) .nil))) (.frz [18] (.cons (.asg false 8 (.bin .add (.var 8) (.lc1 [39] (.tup (.cons (.var 39) (.cons (.var 9) .nil))) (.nm 39) (.rng1 (.bin .add (.var 9) (.int 1))) (.cons (.and_ (.cons (.cmp .gt (.bi .sum (.cons (.lc1 [40] (.idx (.var 40) (.int 2)) (.nm 40) (.over (.cut (.bor 18) (.cons (.var 39) .nil) (.cons (.bin .add (.var 9) (.int 1)) .nil))) .nil) .nil)) (.var 22)) (.cons (.cmp .eq (.lc1 [3] (.var 3) (.nm 3) (.rng2 (.var 39) (.var 9)) (.cons (.call 23 (.cons (.var 18) (.cons (.var 3) (.cons (.var 23) (.cons (.var 21) .nil))))) .nil)) (.lst .nil)) .nil))) .nil)))) .nil)))
def b12 : CS := (.ife (.or_ (.cons (.cmp .ne (.cmp .eq (.var 7) (.lst .nil)) (.cmp .ne (.var 8) (.lst .nil))) (.cons (.not_ (.call 22 (.cons (.call 8 (.cons (.var 18) (.cons (.var 22) (.cons (.var 23) (.cons (.var 21) .nil))))) (.cons (.ite (.cmp .ne (.var 7) (.lst .nil)) (.tup (.cons (.str "yes") (.cons (.idx (.var 7) (.int 0)) .nil))) (.bin .add (.tup (.cons (.str "no") .nil)) (.idx (.var 8) (.int 0)))) .nil)))) .nil))) (.cons (.ret (.bl false)) .nil) .nil)
def b13 : CS := (.asg false 10 (.call 20 (.cons (.var 1) (.cons (.int 3) .nil))))
def b14 : CS := (.asg false 11 (.lc1 [38] (.var 38) (.nm 38) (.rng1 (.bin .add (.bi .sum (.cons (.lc1 [40] (.idx (.var 40) (.int 2)) (.nm 40) (.over (.bor 18)) .nil) .nil)) (.int 1))) (.cons (.cmp .ne (.lc1 [5] (.var 5) (.nm 5) (.over (.call 25 (.cons (.bi .len (.cons (.bor 18) .nil)) .nil))) (.cons (.and_ (.cons (.cmp .le (.bi .len (.cons (.var 5) .nil)) (.var 10)) (.cons (.call 24 (.cons (.var 18) (.cons (.var 5) (.cons (.var 38) (.cons (.var 23) (.cons (.var 21) .nil)))))) .nil))) .nil)) (.lst .nil)) .nil)))
def b15 : CS := (.ife (.not_ (.call 22 (.cons (.tup (.cons (.call 10 (.cons (.var 18) (.cons (.var 10) (.cons (.var 23) (.cons (.var 21) .nil))))) (.cons (.call 18 (.cons (.var 18) (.cons (.var 6) (.cons (.var 22) .nil)))) .nil))) (.cons (.tup (.cons (.idx (.var 11) (.int 0)) (.cons (.bin .sub (.var 22) (.call 28 (.cons (.var 18) (.cons (.var 6) .nil)))) .nil))) .nil)))) (.cons (.ret (.bl false)) .nil) .nil)
def b16 : CS := (.par (nms [24, 25, 26]) [false, false, false] (.cons (.bin .add (.int 1) (.call 20 (.cons (.var 1) (.cons (.int 3) .nil)))) (.cons (.call 20 (.cons (.var 1) (.cons (.int 9) .nil))) (.cons (.call 20 (.cons (.var 1) (.cons (.int 20) .nil))) .nil))))
def b17 : CS := (.asg false 12 (.call 26 (.cons (.var 18) (.cons (.var 6) (.cons (.var 24) (.cons (.var 25) .nil))))))
def b18 : CS := (.asg false 13 (.lc1 [3] (.var 3) (.nm 3) (.rng1 (.bi .len (.cons (.bor 18) .nil))) (.cons (.cmp .gt (.idx (.var 12) (.var 3)) (.var 26)) .nil)))
def b19 : CS := (.asg false 14 (.lc1 [5] (.tup (.cons (.bi .max (.cons (.bin .add (.tup (.cons (.int 0) .nil)) (.call 26 (.cons (.var 18) (.cons (.var 5) (.cons (.var 24) (.cons (.var 25) .nil)))))) .nil)) (.cons (.bi .len (.cons (.var 5) .nil)) (.cons (.var 5) .nil)))) (.nm 5) (.over (.call 25 (.cons (.bi .len (.cons (.bor 18) .nil)) .nil))) (.cons (.and_ (.cons (.cmp .le (.bi .len (.cons (.var 5) .nil)) (.var 10)) (.cons (.cmp .eq (.lc1 [3] (.var 3) (.nm 3) (.over (.var 5)) (.cons (.not_ (.call 23 (.cons (.var 18) (.cons (.var 3) (.cons (.var 23) (.cons (.var 21) .nil)))))) .nil)) (.lst .nil)) .nil))) .nil)))
def b20 : CS := (.ife (.not_ (.call 22 (.cons (.tup (.cons (.call 11 (.cons (.var 18) (.cons (.var 6) (.cons (.var 24) (.cons (.var 25) .nil))))) (.cons (.call 13 (.cons (.var 18) (.cons (.var 6) (.cons (.var 24) (.cons (.var 25) (.cons (.var 26) .nil)))))) .nil))) (.cons (.tup (.cons (.var 12) (.cons (.ite (.cmp .ne (.var 13) (.lst .nil)) (.idx (.var 13) (.int 0)) .non) .nil))) .nil)))) (.cons (.ret (.bl false)) .nil) .nil)
def b21 : CS := (.ife (.not_ (.call 22 (.cons (.call 12 (.cons (.var 18) (.cons (.var 10) (.cons (.var 24) (.cons (.var 25) (.cons (.var 23) (.cons (.var 21) .nil))))))) (.cons (.tup (.cons (.idx (.bi .min (.cons (.var 14) .nil)) (.int 0)) (.cons (.idx (.bi .min (.cons (.var 14) .nil)) (.int 2)) .nil))) .nil)))) (.cons (.ret (.bl false)) .nil) .nil)
def b22 : CS := (.asg false 15 (.bi .tuple (.cons (.lc1 [3] (.bi .tuple (.cons (.cut (.lc1 [20] (.tup (.cons (.var 20) (.cons (.bin .add (.bin .add (.var 20) (.int 1)) (.call 20 (.cons (.var 1) (.cons (.int 4) .nil)))) .nil))) (.nm 20) (.over (.tup (.cons (.call 20 (.cons (.var 1) (.cons (.int 4) .nil))) (.cons (.bin .add (.int 6) (.call 20 (.cons (.var 1) (.cons (.int 3) .nil)))) .nil)))) .nil) .nil (.cons (.bin .add (.int 1) (.call 20 (.cons (.var 1) (.cons (.int 2) .nil)))) .nil)) .nil)) (.nm 3) (.rng1 (.call 20 (.cons (.var 1) (.cons (.int 4) .nil)))) .nil) .nil)))
def b23 : CS := (.par (nms [27, 14]) [false, false] (.cons (.bi .tuple (.cons (.lc1 [5] (.bin .add (.int 1) (.call 20 (.cons (.var 1) (.cons (.int 3) .nil)))) (.nm 5) (.over (.var 15)) .nil) .nil)) (.cons (.lst (.cons (.tup .nil) .nil)) .nil)))
def b24 : CS := (.for_ (.nm 3) (.rng1 (.bi .len (.cons (.var 15) .nil))) (.cons (.asg false 28 (.bi .sorted (.cons (.lc1 [37] (.var 37) (.nm 37) (.rng1 (.int 20)) (.cons (.cmp .ne (.lc1 [42] (.var 42) (.nm 42) (.over (.idx (.var 15) (.var 3))) (.cons (.and_ (.cons (.cmp .le (.idx (.var 42) (.int 0)) (.var 37)) (.cons (.cmp .le (.bin .add (.var 37) (.idx (.var 27) (.var 3))) (.idx (.var 42) (.int 1))) .nil))) .nil)) (.lst .nil)) .nil)) .nil))) (.cons (.asg false 29 (.lst .nil)) (.cons (.for_ (.nm 30) (.over (.var 14)) (.cons (.asg false 29 (.bin .add (.var 29) (.lc1 [37] (.bin .add (.var 30) (.tup (.cons (.var 37) .nil))) (.nm 37) (.over (.var 28)) (.cons (.cmp .eq (.lc1 [9] (.var 9) (.nm 9) (.rng1 (.var 3)) (.cons (.and_ (.cons (.cmp .lt (.var 37) (.bin .add (.idx (.var 30) (.var 9)) (.idx (.var 27) (.var 9)))) (.cons (.cmp .lt (.idx (.var 30) (.var 9)) (.bin .add (.var 37) (.idx (.var 27) (.var 3)))) .nil))) .nil)) (.lst .nil)) .nil)))) .nil)) (.cons (.asg false 14 (.var 29)) .nil)))))
def b25 : CS := (.ife (.not_ (.call 22 (.cons (.call 14 (.cons (.var 15) (.cons (.var 27) .nil))) (.cons (.ite (.cmp .ne (.var 14) (.lst .nil)) (.tup (.cons (.str "yes") (.cons (.idx (.var 14) (.int 0)) .nil))) (.tup (.cons (.str "no") .nil))) .nil)))) (.cons (.ret (.bl false)) .nil) .nil)
def b26 : CS := (.par (nms [31, 32]) [false, false] (.cons (.bi .tuple (.cons (.lc1 [3] (.bin .add (.int 1) (.call 20 (.cons (.var 1) (.cons (.int 7) .nil)))) (.nm 3) (.rng1 (.call 20 (.cons (.var 1) (.cons (.int 4) .nil)))) .nil) .nil)) (.cons (.call 20 (.cons (.var 1) (.cons (.int 30) .nil))) .nil)))
def b27 : CS := (.par (nms [33, 34]) [false, false] (.cons (.bi .tuple (.cons (.lc1 [3] (.tup (.cons (.bin .add (.int 1) (.call 20 (.cons (.var 1) (.cons (.int 9) .nil)))) (.cons (.call 20 (.cons (.var 1) (.cons (.int 9) .nil))) .nil))) (.nm 3) (.rng1 (.bin .add (.int 1) (.call 20 (.cons (.var 1) (.cons (.int 2) .nil))))) .nil) .nil)) (.cons (.lst .nil) .nil)))
def b28 : CS := (.for_ (.nm 16) (.rng1 (.int 31)) (.cons (.asg false 35 (.bi .max (.cons (.int 0) (.cons (.bin .sub (.var 32) (.bin .mul (.var 16) (.idx (.idx (.var 33) (.int 0)) (.int 0)))) .nil)))) (.cons (.asg false 36 (.ite (.cmp .gt (.bi .len (.cons (.var 33) .nil)) (.int 1)) (.bin .div (.bin .sub (.bin .add (.var 35) (.idx (.idx (.var 33) (.neg (.int 1))) (.int 0))) (.int 1)) (.idx (.idx (.var 33) (.neg (.int 1))) (.int 0))) (.int 0))) (.cons (.asg false 34 (.bin .add (.var 34) (.ite (.or_ (.cons (.cmp .eq (.var 35) (.int 0)) (.cons (.cmp .gt (.bi .len (.cons (.var 33) .nil)) (.int 1)) .nil))) (.lst (.cons (.tup (.cons (.bin .add (.bin .mul (.var 16) (.idx (.idx (.var 33) (.int 0)) (.int 1))) (.bin .mul (.var 36) (.idx (.idx (.var 33) (.neg (.int 1))) (.int 1)))) (.cons (.cut (.tup (.cons (.var 16) (.cons (.var 36) .nil))) .nil (.cons (.bi .len (.cons (.var 33) .nil)) .nil)) .nil))) .nil)) (.lst .nil)))) .nil))))
def b29 : CS := (.asg false 17 (.call 17 (.cons (.var 32) (.cons (.var 33) .nil))))
def b30 : CS := (.ife (.or_ (.cons (.not_ (.call 22 (.cons (.call 16 (.cons (.var 31) (.cons (.var 32) .nil))) (.cons (.bi .tuple (.cons (.lc1 [41] (.bin .div (.bin .sub (.bin .add (.var 32) (.var 41)) (.int 1)) (.var 41)) (.nm 41) (.over (.var 31)) .nil) .nil)) .nil)))) (.cons (.not_ (.isi .ttup (.var 17))) (.cons (.not_ (.call 22 (.cons (.idx (.var 17) (.int 0)) (.cons (.idx (.bi .min (.cons (.var 34) .nil)) (.int 0)) .nil)))) .nil)))) (.cons (.ret (.bl false)) .nil) .nil)
def b31 : CS := (.ife (.not_ (.call 29 (.cons (.var 18) .nil))) (.cons (.ret (.bl false)) .nil) .nil)
def bod : CSs := (.cons b0 (.cons b1 (.cons b2 (.cons b3 (.cons b4 (.frz [18] (.cons b5 (.frz [18] (.cons b6 (.cons b7 (.frz [18] (.cons b8 (.frz [18] (.cons b9 (.cons b10 (.cons b11 (.frz [18] (.cons b12 (.cons b13 (.frz [18] (.cons b14 (.frz [18] (.cons b15 (.cons b16 (.frz [18] (.cons b17 (.cons b18 (.frz [18] (.cons b19 (.frz [18] (.cons b20 (.frz [18] (.cons b21 (.cons b22 (.cons b23 (.cons b24 (.cons b25 (.cons b26 (.cons b27 (.cons b28 (.cons b29 (.cons b30 (.frz [18] (.cons b31 .nil))))))))))))))))))))))))))))))))))))))))))))
theorem law_eq : c_f_law = .cons (.asgS 1 (.dsp 0 (.cons (.str "draws") (.call 19 (.cons (.var 0) (.cons (.int 500) .nil))) (.cons (.str "at") (.int 0) .nil)))) (.cons (.for_ (.nm 2) (.rng1 (.int 7)) bod) (.cons (.ret (.bl true)) .nil)) := rfl
abbrev P40 : Fns := sem DD 40
section
variable {ρ : Envi} {D : DS} {us : List U} {last most long : Int}
theorem next40 {m : Int} (h : Wst D) (hm : 0 < m) : ∃ r D', sem DD 40 20 [.shr 0, .int m] D = some (.int r, D') ∧ 0 ≤ r ∧ r < m ∧ Wst D' := by
  rw [r_f__law_next]
  exact next_ok h hm
theorem chk {a b : CE} {v : PV} {k : Nat} (hA : ev P40 a ρ D = some (v, D)) (hB : ev P40 b ρ D = some (v, D)) (hv : ag k v = true) (hk : k < 40) : ex P40 (.ife (.not_ (.call 22 (.cons a (.cons b .nil)))) (.cons (.ret (.bl false)) .nil) .nil) ρ D = some (.nx, ρ, D) := by
  have := alk (D := D) hv hk
  simp [hA, hB, this]
theorem ag_prs {k : Nat} {L : List (Int × Int)} (h : L.length ≤ 100000) : ag (k + 2) (.tup (L.map pv2)) = true := by
  unfold ag
  rw [List.length_map, List.all_map, Bool.and_eq_true, List.all_eq_true]
  exact ⟨decide_eq_true h, fun x _ => by
    show ag (k + 1) (.tup ([x.1, x.2].map .int)) = true
    exact ag_ints (by simp)⟩
theorem chgO_of {f : PV → Option PV} {i : Nat} {x : PV} (h : ρ[i]? = some (some (true, x))) : chgO f i ρ D = (f x).map fun y => (ρ.set i (some (true, y)), D) := by
  unfold chgO; rw [h]
theorem bor_own {i : Nat} {x : PV} (h : ρ[i]? = some (some (true, x))) : borS ρ i = some x := by
  unfold borS; rw [h]
/-- the slots that are kept -/
structure G (ρ : Envi) (us : List U) (last most long : Int) : Prop where
  len : ρ.length = 43
  s1 : getS ρ 1 = some (.shr 0)
  s18 : getS ρ 18 = some (EU us)
  s21 : getS ρ 21 = some (.int last)
  s22 : getS ρ 22 = some (.int most)
  s23 : getS ρ 23 = some (.int long)
theorem G.b18 (h : G ρ us last most long) : borS ρ 18 = some (EU us) := bor_of h.s18
theorem G.set (h : G ρ us last most long) {i : Nat} {x : PV} (hi : i ≠ 1 ∧ i ≠ 18 ∧ i ≠ 21 ∧ i ≠ 22 ∧ i ≠ 23 := by decide) : G (ρ.set i (some (false, x))) us last most long :=
  ⟨by rw [List.length_set, h.len], by rw [getS_set, if_neg hi.1]; exact h.s1, by rw [getS_set, if_neg hi.2.1]; exact h.s18, by rw [getS_set, if_neg hi.2.2.1]; exact h.s21, by rw [getS_set, if_neg hi.2.2.2.1]; exact h.s22, by rw [getS_set, if_neg hi.2.2.2.2]; exact h.s23⟩
/-- the uses are drawn -/
theorem x01 (hl : ρ.length = 43) (h1 : getS ρ 1 = some (.shr 0)) (hw : Wst D) : ∃ us ρ' D', exs P40 (.cons b0 (.cons b1 .nil)) ρ D = some (.nx, ρ', D') ∧ Wst D' ∧ ρ'.length = 43 ∧ getS ρ' 1 = some (.shr 0) ∧ ρ'[18]? = some (some (true, .lst (us.map eu))) ∧ Us us := by
  have e0 : ex P40 b0 ρ D = some (.nx, (ρ.set 18 (some (true, .lst []))).set 19 (some (false, .int 0)), D) := rfl
  obtain ⟨r, D1, e1, r0, r1, w1⟩ := next40 (m := 6) hw (by decide)
  rw [xs_nx e0]
  generalize hτ : (ρ.set 18 (some (true, PV.lst []))).set 19 (some (false, PV.int 0)) = τ
  have tl : τ.length = 43 := by rw [← hτ]; simp [hl]
  have t1 : getS τ 1 = some (.shr 0) := by rw [← hτ]; simp [h1]
  have t19 : getS τ 19 = some (.int 0) := by rw [← hτ]; simp [hl]
  have t18 : τ[18]? = some (some (true, .lst [])) := by rw [← hτ]; simp [hl]
  have hi : evi P40 (.rng1 (.call 20 (.cons (.var 1) (.cons (.int 6) .nil)))) τ D = some ((rg 0 r).map .int, D1) := evi_r1 (by simp [t1, e1]) (by omega) (by omega)
  obtain ⟨ρ', D', e2, us, at_, q1, q2, q3, q4, q5, q6, q7⟩ := for_inv (f := fun x ρ D => (bindP (.nm 3) x ρ).bind fun ρ1 => exs P40 (.cons (.asg false 20 (.bin .add (.var 19) (.call 20 (.cons (.var 1) (.cons (.int 4) .nil))))) (.cons (.asg false 19 (.bin .add (.bin .add (.var 20) (.int 1)) (.call 20 (.cons (.var 1) (.cons (.int 3) .nil))))) (.cons (.app 18 (.tup (.cons (.var 20) (.cons (.var 19) (.cons (.call 20 (.cons (.var 1) (.cons (.int 6) .nil))) .nil))))) .nil))) ρ1 D) (xs := (rg 0 r).map .int)
    (I := fun i ρ D => ∃ (us : List U) (at_ : Int), Wst D ∧ ρ.length = 43 ∧ getS ρ 1 = some (.shr 0) ∧ getS ρ 19 = some (.int at_) ∧ ρ[18]? = some (some (true, .lst (us.map eu))) ∧ us.length = i ∧ (0 ≤ at_ ∧ at_ ≤ 6 * i ∧ (∀ u ∈ us, 0 ≤ u.1 ∧ u.1 < u.2.1 ∧ 0 ≤ u.2.2 ∧ u.2.1 ≤ at_ ∧ u.2.2 ≤ 5) ∧ us.Pairwise fun a b => a.2.1 ≤ b.1))
    (h0 := ⟨[], 0, w1, tl, t1, t19, t18, rfl, by omega, by omega, by simp, List.Pairwise.nil⟩) (fun i x ρ D hx ⟨us, at_, w, l, g1, g19, g18, ul, a0, a1, uo, up⟩ => by
      have hi5 : i < 5 := by
        have := (List.getElem?_eq_some_iff.mp hx).1
        rw [List.length_map, rg_len] at this
        omega
      obtain ⟨p, Dp, ep, p0, p1, wp⟩ := next40 (m := 4) w (by decide)
      obtain ⟨q, Dq, eq, q0, q1, wq⟩ := next40 (m := 3) wp (by decide)
      obtain ⟨h, Dh, eh, h0, h1, wh⟩ := next40 (m := 6) wq (by decide)
      have ap := app_ok (xs := us.map eu) (v := eu (at_ + p, at_ + p + 1 + q, h)) (by simp; show _ < 1000000; omega)
      have ap' : pApp (.tup [.int (at_ + p), .int (at_ + p + 1 + q), .int h]) (.lst (us.map eu)) = some (.lst ((us ++ [(at_ + p, at_ + p + 1 + q, h)]).map eu)) := by
        rw [List.map_append]; exact ap
      refine ⟨.nx, (((ρ.set 3 (some (false, x))).set 20 (some (false, .int (at_ + p)))).set 19 (some (false, .int (at_ + p + 1 + q)))).set 18 (some (true, .lst ((us ++ [(at_ + p, at_ + p + 1 + q, h)]).map eu))), Dh, ?_, .inl rfl, us ++ [(at_ + p, at_ + p + 1 + q, h)], at_ + p + 1 + q, wh, by simp [l], by simp [g1], by simp [l], by simp [l], by simp [ul], by omega, by omega, ?_, ?_⟩
      · have c : chgO (pApp (.tup [.int (at_ + p), .int (at_ + p + 1 + q), .int h])) 18 (((ρ.set 3 (some (false, x))).set 20 (some (false, .int (at_ + p)))).set 19 (some (false, .int (at_ + p + 1 + q)))) Dh = some ((((ρ.set 3 (some (false, x))).set 20 (some (false, .int (at_ + p)))).set 19 (some (false, .int (at_ + p + 1 + q)))).set 18 (some (true, .lst ((us ++ [(at_ + p, at_ + p + 1 + q, h)]).map eu))), Dh) := by
          rw [chgO_of (x := .lst (us.map eu)) (by simp [g18]), ap']; rfl
        simp [bindP, g19, g1, ep, eq, eh, l, c]
      · intro u hu
        rcases List.mem_append.mp hu with hu | hu
        · have := uo u hu; omega
        · rw [List.mem_singleton] at hu
          subst hu
          simp only; omega
      · rw [List.pairwise_append]
        refine ⟨up, List.pairwise_singleton _ _, fun a ha b hb => ?_⟩
        rw [List.mem_singleton] at hb
        subst hb
        have := uo a ha
        simp only; omega)
  have hlen : ((rg 0 r).map PV.int).length ≤ 5 := by rw [List.length_map, rg_len]; omega
  refine ⟨us, ρ', D', ?_, q1, q2, q3, q5, by omega, fun u hu => ?_, q7.2.2.2⟩
  · unfold b1
    rw [exs_cons, ex_for, hi, Option.bind_some, e2]
    rfl
  · have := q7.2.2.1 u hu
    omega
theorem x2 (hl : ρ.length = 43) (h1 : getS ρ 1 = some (.shr 0)) (h18 : ρ[18]? = some (some (true, .lst (us.map eu)))) (hw : Wst D) : ∃ last most long ρ' D', ex P40 b2 ρ D = some (.nx, ρ', D') ∧ Wst D' ∧ G ρ' us last most long ∧ 0 ≤ last ∧ last < 30 ∧ 0 ≤ most ∧ most < 12 ∧ 1 ≤ long ∧ long < 4 := by
  obtain ⟨p, Dp, ep, p0, p1, wp⟩ := next40 (m := 30) hw (by decide)
  obtain ⟨q, Dq, eq, q0, q1, wq⟩ := next40 (m := 12) wp (by decide)
  obtain ⟨h, Dh, eh, h0, h1', wh⟩ := next40 (m := 3) wq (by decide)
  refine ⟨p, q, 1 + h, (((ρ.set 18 (some (false, EU us))).set 21 (some (false, .int p))).set 22 (some (false, .int q))).set 23 (some (false, .int (1 + h))), Dh, ?_, wh, ⟨by simp [hl], by simp [h1], by simp [hl], by simp [hl], by simp [hl], by simp [hl]⟩, p0, p1, q0, q1, by omega, by omega⟩
  simp [b2, bor_own h18, h1, ep, eq, eh, nms, storeT]
/-- a comprehension of the uses that are there on a day -/
theorem ev_cov (h : G ρ us last most long) {d : Int} (hd : getS ρ 37 = some (.int d)) : ev P40 (.cmp .eq (.lc1 [40] (.var 40) (.nm 40) (.over (.bor 18)) (.cons (.chn .le .lt (.idx (.var 40) (.int 0)) (.var 37) (.idx (.var 40) (.int 1))) .nil)) (.lst .nil)) ρ D = some (.bl (!cov us d), D) := by
  have q := lcP (Φ := P40) (D := D) (ρ := ρ) (own := [40]) (ce := .var 40) (pt := .nm 40) (ci := .over (.bor 18)) (ct := .cons (.chn .le .lt (.idx (.var 40) (.int 0)) (.var 37) (.idx (.var 40) (.int 1))) .nil) eu us (fun u => decide (u.1 ≤ d) && decide (d < u.2.1)) eu (evi_ovT (by simp [h.b18])) (fun u hu => by
    by_cases h1 : u.1 ≤ d
    · by_cases h2 : d < u.2.1 <;> simp [st1, bindP, wipE, hd, h.len, pCmp, h1, h2]
    · simp [st1, bindP, wipE, hd, h.len, pCmp, h1])
  have e : ∀ L : List U, pEq (.lst (L.map eu)) (.lst []) = some (decide (L = [])) := fun L => by
    show (if (shp DEP (.lst (L.map eu)) && shp DEP (.lst [])) = true then some (peq (.lst (L.map eu)) (.lst [])) else none) = _
    have : shp DEP (.lst (L.map eu)) = true := by
      show (L.map eu).all (shp 19) = true
      rw [List.all_map, List.all_eq_true]
      intro u _
      show (shp 18 (.int u.1) && (shp 18 (.int u.2.1) && (shp 18 (.int u.2.2) && true))) = true
      simp
    rw [this]
    cases L <;> simp [peq, peqs, shp]
  have c : (!cov us d) = decide (us.filter (fun u => decide (u.1 ≤ d) && decide (d < u.2.1)) = []) := by
    unfold cov
    rw [Bool.eq_iff_iff, decide_eq_true_iff, List.filter_eq_nil_iff, Bool.not_eq_true', List.any_eq_false]
  rw [ev_cmp, q, c]
  simp [pCmp, e, -List.filter_eq_nil_iff]
theorem x34 (h : G ρ us last most long) (h0 : 0 ≤ last) (h1 : last < 30) : ∃ ρ', exs P40 (.cons b3 (.cons b4 .nil)) ρ D = some (.nx, ρ', D) ∧ G ρ' us last most long ∧ getS ρ' 4 = some (.lst (((((rg 0 (last + 1)).filter fun d => !cov us d).map fun d => (d, d + 1)).foldl jst []).map pv2)) := by
  have e3 : ex P40 b3 ρ D = some (.nx, ρ.set 4 (some (false, .lst [])), D) := rfl
  rw [xs_nx e3]
  have h' := h.set (i := 4) (x := .lst [])
  have g4 : getS (ρ.set 4 (some (false, .lst []))) 4 = some (.lst []) := by simp [h.len]
  generalize ρ.set 4 (some (false, PV.lst [])) = τ at *
  have q := lcP (Φ := P40) (D := D) (ρ := τ) (own := [37]) (ce := .var 37) (pt := .nm 37) (ci := .rng1 (.bin .add (.var 21) (.int 1))) (ct := .cons (.cmp .eq (.lc1 [40] (.var 40) (.nm 40) (.over (.bor 18)) (.cons (.chn .le .lt (.idx (.var 40) (.int 0)) (.var 37) (.idx (.var 40) (.int 1))) .nil)) (.lst .nil)) .nil)
    PV.int (rg 0 (last + 1)) (fun d => !cov us d) PV.int (evi_r1 (by simp [h'.s21]) (by omega) (by omega)) (fun d hd => by
      have c := ev_cov (D := D) (h'.set (i := 37) (x := .int d)) (d := d) (by simp [h'.len])
      have v : getS (τ.set 37 (some (false, .int d))) 37 = some (.int d) := by simp [h'.len]
      have s : st1 P40 [37] (.var 37) (.nm 37) (.cons (.cmp .eq (.lc1 [40] (.var 40) (.nm 40) (.over (.bor 18)) (.cons (.chn .le .lt (.idx (.var 40) (.int 0)) (.var 37) (.idx (.var 40) (.int 1))) .nil)) (.lst .nil)) .nil) τ (.int d) D = (evt P40 (.cons (.cmp .eq (.lc1 [40] (.var 40) (.nm 40) (.over (.bor 18)) (.cons (.chn .le .lt (.idx (.var 40) (.int 0)) (.var 37) (.idx (.var 40) (.int 1))) .nil)) (.lst .nil)) .nil) (τ.set 37 (some (false, .int d))) D).bind fun c => if c.1 then (ev P40 (.var 37) (τ.set 37 (some (false, .int d))) c.2).map fun y => ([y.1], y.2) else some ([], c.2) := by
        simp [st1, bindP, wipE]
      rw [s, evt_one, c]
      cases cov us d <;> simp [v, h'.len])
  generalize hL : (rg 0 (last + 1)).filter (fun d => !cov us d) = L at *
  have hLl : L.length ≤ 30 := by
    rw [← hL]
    refine Nat.le_trans (List.length_filter_le _ _) ?_
    rw [rg_len]; omega
  obtain ⟨ρ', e, hr⟩ := forP (D := D) (f := fun x ρ D => (bindP (.nm 5) x ρ).bind fun ρ1 => exs P40 (.cons (.asg false 4 (.ite (.and_ (.cons (.cmp .ne (.var 4) (.lst .nil)) (.cons (.cmp .eq (.idx (.idx (.var 4) (.neg (.int 1))) (.int 1)) (.var 5)) .nil))) (.bin .add (.cut (.var 4) .nil (.cons (.neg (.int 1)) .nil)) (.lst (.cons (.tup (.cons (.idx (.idx (.var 4) (.neg (.int 1))) (.int 0)) (.cons (.bin .add (.var 5) (.int 1)) .nil))) .nil))) (.bin .add (.var 4) (.lst (.cons (.tup (.cons (.var 5) (.cons (.bin .add (.var 5) (.int 1)) .nil))) .nil))))) .nil) ρ1 D)
    PV.int (fun (f : List (Int × Int)) ρ => G ρ us last most long ∧ getS ρ 4 = some (.lst (f.map pv2))) (fun f d => jst f (d, d + 1)) [] L L [] τ rfl ⟨h', g4⟩ (fun pre d post ρ hx ⟨hg, h4⟩ => by
      have hl : (pre.foldl (fun f d => jst f (d, d + 1)) []).length ≤ 1000 := by
        have := jst_lens (pre.map fun d => (d, d + 1)) []
        rw [List.foldl_map] at this
        have h2 := congrArg List.length hx
        rw [List.length_append] at h2
        simp at this
        omega
      generalize pre.foldl (fun f d => jst f (d, d + 1)) [] = f at *
      have e := ev_jst (Φ := P40) (D := D) (ρ := ρ.set 5 (some (false, .int d))) (a := .var 4) (b := .var 5) (c := .bin .add (.var 5) (.int 1)) (f := f) (x := d) (y := d + 1) hl (by simp [h4]) (by simp [hg.len]) (by simp [hg.len])
      refine ⟨.nx, (ρ.set 5 (some (false, .int d))).set 4 (some (false, .lst ((jst f (d, d + 1)).map pv2))), ?_, .inl rfl, hg.set.set, by simp [hg.len]⟩
      show exs P40 _ (ρ.set 5 (some (false, .int d))) D = _
      rw [exs_cons, ex_asg, e]; rfl)
  refine ⟨ρ', ?_, hr.1, ?_⟩
  · unfold b4
    rw [exs_cons, ex_for, evi_ov q, Option.bind_some, e]; rfl
  · rw [hr.2, List.foldl_map]
end
section
variable {ρ : Envi} {D : DS} {us : List U} {last most long : Int}
theorem ev_S0 {Φ : Fns} {j : Int} {own : List Nat} {hi a : CE} (h1 : 0 ≤ j) (h2 : j ≤ us.length) (ea : ev Φ a ρ D = some (EU us, D)) (e2 : ev Φ hi ρ D = some (.int j, D)) {ce : CE} {pt : Pat} (H : ∀ u ∈ us, st1 Φ own ce pt .nil ρ (eu u) D = some ([.int u.2.2], D)) :
    ev Φ (.bi .sum (.cons (.lc1 own ce pt (.over (.cut a .nil (.cons hi .nil))) .nil) .nil)) ρ D = some (.int (S us 0 j), D) := by
  have q : ev Φ (.lc1 own ce pt (.over (.cut a .nil (.cons hi .nil))) .nil) ρ D = some (.lst ((us.take j.toNat).map fun u => .int u.2.2), D) := by
    refine lcM eu (us.take j.toNat) _ (evi_ovT ?_) fun u hu => H u (List.mem_of_mem_take hu)
    rw [ev_cut, ea, Option.bind_some, evo_nil]
    simp only [Option.bind_some, Option.map_some, intOf_int, evo_one, e2, pCut_tup, cutL_map]
    rw [cut_pre h1 h2]
  rw [ev_bi, evs_cons, q]
  simp only [Option.bind_some, evs_nil, Option.map_some, mapO_cons, mapO_nil, opd_lst, pSum_lst]
  simp [S]
theorem ev_len18 (h : G ρ us last most long) : ev P40 (.bi .len (.cons (.bor 18) .nil)) ρ D = some (.int us.length, D) := by simp [h.b18]
theorem x5 (h : G ρ us last most long) (hU : Us us) : ex P40 b5 ρ D = some (.nx, ρ, D) := by
  have hl := hU.len
  have a := hours_along_ok (n := 39) (D := D) hU
  have q := lcM (Φ := P40) (D := D) (ρ := ρ) (own := [3]) (ce := .bi .sum (.cons (.lc1 [40] (.idx (.var 40) (.int 2)) (.nm 40) (.over (.cut (.bor 18) .nil (.cons (.bin .add (.var 3) (.int 1)) .nil))) .nil) .nil)) (pt := .nm 3) (ci := .rng1 (.bi .len (.cons (.bor 18) .nil))) (ct := .nil)
    PV.int (rg 0 us.length) (fun k => .int (S us 0 (k + 1))) (evi_r1 (ev_len18 h) (by omega) (by omega)) (fun k hk => by
      obtain ⟨h0, h1⟩ := mem_rg.mp hk
      have s := ev_S0 (Φ := P40) (D := D) (ρ := ρ.set 3 (some (false, .int k))) (us := us) (j := k + 1) (own := [40]) (ce := .idx (.var 40) (.int 2)) (pt := .nm 40) (a := .bor 18) (hi := .bin .add (.var 3) (.int 1)) (by omega) (by omega) (by simp [h.b18]) (by simp [h.len]) (fun u hu => by simp [st1, bindP, wipE, h.len])
      simp only [st1, bindP, wipE, List.set_set, Option.bind_some, evt_nil, if_true, s, Option.map_some])
  refine chk (k := 1) (v := ET (alg us)) (by simp [h.s18, a]) ?_ (ag_ints (by unfold alg; rw [List.length_map, rg_len]; omega)) (by decide)
  rw [ev_bi, evs_cons, q]
  simp only [Option.bind_some, evs_nil, Option.map_some, mapO_cons, mapO_nil, opd_lst, pTupL]
  simp [alg, List.map_map, Function.comp_def]
theorem x6 (h : G ρ us last most long) (hU : Us us) (h0 : 0 ≤ last) (h1 : last < 30) (h4 : getS ρ 4 = some (.lst (((((rg 0 (last + 1)).filter fun d => !cov us d).map fun d => (d, d + 1)).foldl jst []).map pv2))) : ex P40 b6 ρ D = some (.nx, ρ, D) := by
  have a := gaps_ok (n := 39) (D := D) hU h0 h1
  have gl := gaps_len (last := last) hU.len
  have b := joined_ok (n := 39) (D := D) (G := gaps us last) (by omega)
  obtain ⟨p1, p2⟩ := gaps_days hU h0
  have e : ((((rg 0 (last + 1)).filter fun d => !cov us d).map fun d => (d, d + 1)).foldl jst []) = (gaps us last).foldl jst [] := by
    rw [← p2, join_days _ _ p1]
  rw [e] at h4
  have jl := jst_lens (gaps us last) []
  refine chk (k := 2) (v := .tup (((gaps us last).foldl jst []).map pv2)) (by simp [h.s18, h.s21, a, b]) (by simp [h4]) (ag_prs (by simp at jl; omega)) (by decide)
theorem x7 (h : G ρ us last most long) (hU : Us us) (hw : Wst D) : ∃ some_ D', ex P40 b7 ρ D = some (.nx, ρ.set 6 (some (false, ET some_)), D') ∧ Wst D' ∧ some_.length ≤ 6 ∧ ∀ k ∈ some_, -1 ≤ k ∧ k < us.length := by
  have hl := hU.len
  have ln := ev_len18 (D := D) h
  obtain ⟨ms, D', e, w, sub, _⟩ := lcW (Φ := P40) (D := D) (ρ := ρ) (own := [3]) (ce := .var 3) (pt := .nm 3) (ci := .rng2 (.neg (.int 1)) (.bi .len (.cons (.bor 18) .nil))) (ct := .cons (.cmp .eq (.call 20 (.cons (.var 1) (.cons (.int 3) .nil))) (.int 0)) .nil) (ns := rg (-1) us.length) (fun _ => True) hw (evi_r2 rfl ln (by omega) (by omega) (by omega) (by omega))
    (fun k hk D hw => by
      obtain ⟨r, D', er, r0, r1, w⟩ := next40 (m := 3) hw (by decide)
      refine ⟨r == 0, D', ?_, w, fun _ => trivial⟩
      by_cases hr : r = 0 <;> simp [st1, bindP, wipE, h.s1, er, h.len, pCmp, hr])
  refine ⟨ms, D', ?_, w, ?_, fun k hk => ?_⟩
  · simp [b7, e]
  · have := sub.length_le
    rw [rg_len] at this; omega
  · have := mem_rg.mp (sub.subset hk)
    omega
theorem x8 {some_ : List Int} (h : G ρ us last most long) (hU : Us us) (h6 : getS ρ 6 = some (ET some_)) (hs : ∀ k ∈ some_, -1 ≤ k ∧ k < us.length) : ex P40 b8 ρ D = some (.nx, ρ, D) := by
  have a := is_served_ok (n := 39) (D := D) (us := us) (P := some_) (most := most) (long := long) (last := last) hU.len hs
  have b := law_served_ok (n := 38) (D := D) (us := us) (P := some_) (most := most) (long := long) (last := last) hU.len hs
  exact chk (k := 0) (v := .bl (served us some_ most long last)) (by simp [h.s18, h.s21, h.s22, h.s23, h6, a]) (by simp [h.s18, h.s21, h.s22, h.s23, h6, b]) rfl (by decide)
/-- the sets that serve -/
def sers (Ls : List (List Int)) (us : List U) (most long last : Int) : List (List Int) := Ls.filter fun r => served us r most long last
structure LS (Ls : List (List Int)) (us : List U) : Prop where
  ok : ∀ n D, sem DD (n + 1) 25 [.int us.length] D = some (.lst (Ls.map ET), D)
  mem : ∀ r, r ∈ Ls ↔ r.Sublist (rg 0 us.length)
  len : Ls.length ≤ 32
  srt : (Ls.map kv).Pairwise fun a b => plt b a = false
theorem ev_sets {Ls : List (List Int)} (h : G ρ us last most long) (hL : LS Ls us) : evi P40 (.over (.call 25 (.cons (.bi .len (.cons (.bor 18) .nil)) .nil))) ρ D = some (Ls.map ET, D) := by
  have := hL.ok 39 D
  exact evi_ov (by simp [h.b18, this])
theorem sub_in {r : List Int} (hr : r.Sublist (rg 0 us.length)) : ∀ k ∈ r, -1 ≤ k ∧ k < us.length := fun k hk => by
  have := mem_rg.mp (hr.subset hk); omega
theorem x9 {Ls : List (List Int)} (h : G ρ us last most long) (hU : Us us) (hL : LS Ls us) : ex P40 b9 ρ D = some (.nx, ρ.set 7 (some (false, .lst ((sers Ls us most long last).map ET))), D) := by
  have q := lcP (Φ := P40) (D := D) (ρ := ρ) (own := [5]) (ce := .var 5) (pt := .nm 5) (ci := .over (.call 25 (.cons (.bi .len (.cons (.bor 18) .nil)) .nil))) (ct := .cons (.call 24 (.cons (.var 18) (.cons (.var 5) (.cons (.var 22) (.cons (.var 23) (.cons (.var 21) .nil)))))) .nil) ET Ls (fun r => served us r most long last) ET (ev_sets h hL) (fun r hr => by
    have c := law_served_ok (n := 38) (D := D) (us := us) (P := r) (most := most) (long := long) (last := last) hU.len (sub_in ((hL.mem r).mp hr))
    cases hs : served us r most long last <;> simp [st1, bindP, wipE, h.s18, h.s21, h.s22, h.s23, h.len, c, hs])
  unfold b9
  rw [ex_asg, q]; rfl
/-- nothing but these slots has changed -/
def Kp (L : List Nat) (ρ ρ' : Envi) : Prop := ρ'.length = ρ.length ∧ ∀ j, j ∉ L → getS ρ' j = getS ρ j
theorem Kp.refl (L : List Nat) (ρ : Envi) : Kp L ρ ρ := ⟨rfl, fun _ _ => rfl⟩
theorem Kp.set {L : List Nat} {ρ ρ' : Envi} (h : Kp L ρ ρ') {i : Nat} {x : PV} (hi : i ∈ L := by decide) : Kp L ρ (ρ'.set i (some (false, x))) :=
  ⟨by rw [List.length_set, h.1], fun j hj => by
    have : i ≠ j := fun e => hj (by rw [← e]; exact hi)
    rw [getS_set, if_neg this]; exact h.2 j hj⟩
theorem Kp.G {L : List Nat} {ρ ρ' : Envi} (h : Kp L ρ ρ') (hg : G ρ us last most long) (hL : 1 ∉ L ∧ 18 ∉ L ∧ 21 ∉ L ∧ 22 ∉ L ∧ 23 ∉ L := by decide) : G ρ' us last most long :=
  ⟨by rw [h.1, hg.len], by rw [h.2 1 hL.1, hg.s1], by rw [h.2 18 hL.2.1, hg.s18], by rw [h.2 21 hL.2.2.1, hg.s21], by rw [h.2 22 hL.2.2.2.1, hg.s22], by rw [h.2 23 hL.2.2.2.2, hg.s23]⟩
theorem gof {r : CSs} {Q : Envi → DS → Prop} {i : Nat} {v : PV} (h : getS ρ i = some v) (k : ∃ ρ' D', exs P40 r ρ D = some (.nx, ρ', D') ∧ Q ρ' D') : ∃ ρ' D', exs P40 (.frz [i] r) ρ D = some (.nx, ρ', D') ∧ Q ρ' D' := by
  rw [exs_frz, frz_of h]; exact k
theorem cnd_law {i j : Int} (h0 : 0 ≤ i) (h1 : j < us.length) : cnd us most long last i j = (decide (most < S us i (j + 1)) && decide (((rg i j).filter fun k => room us long last k) = [])) := by
  unfold cnd
  rw [Bool.and_comm]
  congr 1
  rw [Bool.eq_iff_iff, decide_eq_true_iff, decide_eq_true_iff, List.filter_eq_nil_iff, List.filter_eq_nil_iff]
  constructor
  · intro h k hk hr
    rw [mem_rg] at hk
    exact h k (List.mem_filter.mpr ⟨mem_rg.mpr ⟨by omega, by omega⟩, hr⟩) (by rw [Bool.and_eq_true]; exact ⟨decide_eq_true hk.1, decide_eq_true hk.2⟩)
  · intro h k hk hc
    rw [Bool.and_eq_true] at hc
    exact h k (mem_rg.mpr ⟨of_decide_eq_true hc.1, of_decide_eq_true hc.2⟩) (List.mem_filter.mp hk).2
theorem ev_cnd (h : G ρ us last most long) (hU : Us us) {i j : Int} (h0 : 0 ≤ i) (h1 : i ≤ j) (h2 : j < us.length) (h9 : getS ρ 9 = some (.int j)) (h39 : getS ρ 39 = some (.int i)) :
    ev P40 (.and_ (.cons (.cmp .gt (.bi .sum (.cons (.lc1 [40] (.idx (.var 40) (.int 2)) (.nm 40) (.over (.cut (.bor 18) (.cons (.var 39) .nil) (.cons (.bin .add (.var 9) (.int 1)) .nil))) .nil) .nil)) (.var 22)) (.cons (.cmp .eq (.lc1 [3] (.var 3) (.nm 3) (.rng2 (.var 39) (.var 9)) (.cons (.call 23 (.cons (.var 18) (.cons (.var 3) (.cons (.var 23) (.cons (.var 21) .nil))))) .nil)) (.lst .nil)) .nil))) ρ D = some (.bl (cnd us most long last i j), D) := by
  have hl := hU.len
  have s := ev_S (Φ := P40) (D := D) (ρ := ρ) (own := [40]) (ce := .idx (.var 40) (.int 2)) (pt := .nm 40) (a := .bor 18) (lo := .var 39) (hi := .bin .add (.var 9) (.int 1)) (x := 0) (y := 0) (i := i) (j := j + 1) hU h0 (by omega) (by omega) (by simp [h.b18]) (by simp [h39]) (by simp [h9])
    (fun u hu => by simp [st1, bindP, wipE, h.len])
  have q := lcP (Φ := P40) (D := D) (ρ := ρ) (own := [3]) (ce := .var 3) (pt := .nm 3) (ci := .rng2 (.var 39) (.var 9)) (ct := .cons (.call 23 (.cons (.var 18) (.cons (.var 3) (.cons (.var 23) (.cons (.var 21) .nil))))) .nil) PV.int (rg i j) (fun k => room us long last k) PV.int
    (evi_r2 (D1 := D) (by simp [h39]) (by simp [h9]) (by omega) (by omega) (by omega) (by omega)) (fun k hk => by
      have hk := mem_rg.mp hk
      have c := law_room_ok (n := 39) (D := D) (us := us) (long := long) (last := last) (k := k) hl (by omega) (by omega)
      cases hr : room us long last k <;> simp [st1, bindP, wipE, h.s18, h.s21, h.s23, h.len, c, hr])
  have v22 : ev P40 (.var 22) ρ D = some (.int most, D) := by simp [h.s22]
  rw [cnd_law h0 h2, ev_and, evand_cons, ev_cmp, s, Option.bind_some, v22, Option.bind_some, opd_int, Option.bind_some, show pCmp .gt (.int (S us i (j + 1))) (.int most) = some (decide (most < S us i (j + 1))) from pLt_int]
  by_cases hc : most < S us i (j + 1)
  · simp only [decide_eq_true hc, Option.map_some, Option.bind_some, blOf_bl, if_true, evand_one, Bool.true_and]
    rw [ev_cmp, q]
    simp only [Option.bind_some, ev_lst, evs_nil, Option.map_some, opd_lst, pCmp, pEq_lstN]
  · simp [hc]
theorem x1011 (h : G ρ us last most long) (hU : Us us) : ∃ ρ', exs P40 (.cons b10 (.cons b11 .nil)) ρ D = some (.nx, ρ', D) ∧ Kp [8, 9] ρ ρ' ∧ getS ρ' 8 = some (.lst ((bars us most long last).map pv2)) := by
  have hl := hU.len
  have e3 : ex P40 b10 ρ D = some (.nx, ρ.set 8 (some (false, .lst [])), D) := rfl
  rw [xs_nx e3]
  have k0 : Kp [8, 9] ρ (ρ.set 8 (some (false, .lst []))) := (Kp.refl _ ρ).set
  have g8 : getS (ρ.set 8 (some (false, .lst []))) 8 = some (.lst ([].map pv2)) := by simp [h.len]
  generalize ρ.set 8 (some (false, PV.lst [])) = τ at *
  have hτ := k0.G h
  obtain ⟨ρ', e, hr⟩ := forP (D := D) (f := fun x ρ D => (bindP (.nm 9) x ρ).bind fun ρ1 => exs P40 (.frz [18] (.cons (.asg false 8 (.bin .add (.var 8) (.lc1 [39] (.tup (.cons (.var 39) (.cons (.var 9) .nil))) (.nm 39) (.rng1 (.bin .add (.var 9) (.int 1))) (.cons (.and_ (.cons (.cmp .gt (.bi .sum (.cons (.lc1 [40] (.idx (.var 40) (.int 2)) (.nm 40) (.over (.cut (.bor 18) (.cons (.var 39) .nil) (.cons (.bin .add (.var 9) (.int 1)) .nil))) .nil) .nil)) (.var 22)) (.cons (.cmp .eq (.lc1 [3] (.var 3) (.nm 3) (.rng2 (.var 39) (.var 9)) (.cons (.call 23 (.cons (.var 18) (.cons (.var 3) (.cons (.var 23) (.cons (.var 21) .nil))))) .nil)) (.lst .nil)) .nil))) .nil)))) .nil)) ρ1 D)
    PV.int (fun (f : List (Int × Int)) ρ' => Kp [8, 9] ρ ρ' ∧ getS ρ' 8 = some (.lst (f.map pv2))) (fun f j => f ++ ((rg 0 (j + 1)).filter fun i => cnd us most long last i j).map fun i => (i, j)) [] (rg 0 us.length) (rg 0 us.length) [] τ rfl ⟨k0, g8⟩ (fun pre j post ρ1 hx ⟨hk, h8⟩ => by
      have hj : j ∈ rg 0 us.length := by rw [hx]; simp
      obtain ⟨j0, j1⟩ := mem_rg.mp hj
      have fl : (pre.foldl (fun f j => f ++ ((rg 0 (j + 1)).filter fun i => cnd us most long last i j).map fun i => (i, j)) []).length ≤ 100 := by
        have gen : ∀ pre : List Int, (∀ j ∈ pre, 0 ≤ j ∧ j < us.length) → (pre.foldl (fun f j => f ++ ((rg 0 (j + 1)).filter fun i => cnd us most long last i j).map fun i => (i, j)) []).length ≤ 5 * pre.length := fun pre => by
          refine snoc_ind (P := fun (pre : List Int) => (∀ j ∈ pre, 0 ≤ j ∧ j < us.length) → (pre.foldl (fun f j => f ++ ((rg 0 (j + 1)).filter fun i => cnd us most long last i j).map fun i => (i, j)) []).length ≤ 5 * pre.length) (by simp) (fun pre j ih hp => ?_) pre
          have h1 := ih fun x hx => hp x (List.mem_append_left _ hx)
          have h2 := hp j (by simp)
          have h3 := List.length_filter_le (fun i => cnd us most long last i j) (rg 0 (j + 1))
          rw [rg_len] at h3
          rw [List.foldl_append, List.foldl_cons, List.foldl_nil, List.length_append, List.length_map, List.length_append, List.length_singleton]
          omega
        have := gen pre fun x hx' => mem_rg.mp (by rw [hx]; exact List.mem_append_left _ hx')
        have h2 := congrArg List.length hx
        rw [List.length_append, rg_len] at h2
        omega
      generalize pre.foldl (fun f j => f ++ ((rg 0 (j + 1)).filter fun i => cnd us most long last i j).map fun i => (i, j)) [] = f at *
      have hk2 : Kp [8, 9] ρ (ρ1.set 9 (some (false, .int j))) := hk.set
      have hg := hk2.G h
      have q := lcP (Φ := P40) (D := D) (ρ := ρ1.set 9 (some (false, .int j))) (own := [39]) (ce := .tup (.cons (.var 39) (.cons (.var 9) .nil))) (pt := .nm 39) (ci := .rng1 (.bin .add (.var 9) (.int 1))) (ct := .cons (.and_ (.cons (.cmp .gt (.bi .sum (.cons (.lc1 [40] (.idx (.var 40) (.int 2)) (.nm 40) (.over (.cut (.bor 18) (.cons (.var 39) .nil) (.cons (.bin .add (.var 9) (.int 1)) .nil))) .nil) .nil)) (.var 22)) (.cons (.cmp .eq (.lc1 [3] (.var 3) (.nm 3) (.rng2 (.var 39) (.var 9)) (.cons (.call 23 (.cons (.var 18) (.cons (.var 3) (.cons (.var 23) (.cons (.var 21) .nil))))) .nil)) (.lst .nil)) .nil))) .nil)
        PV.int (rg 0 (j + 1)) (fun i => cnd us most long last i j) (fun i => pv2 (i, j)) (evi_r1 (by simp [show ρ1.length = 43 by rw [hk.1, h.len]]) (by omega) (by omega)) (fun i hi => by
          obtain ⟨i0, i1⟩ := mem_rg.mp hi
          have l1 : ρ1.length = 43 := by rw [hk.1, h.len]
          have c := ev_cnd (D := D) (hg.set (i := 39) (x := .int i)) hU i0 (by omega) j1 (by simp [l1]) (by simp [l1])
          simp only [st1, bindP, wipE, List.set_set, Option.bind_some, evt_one, c, blOf_bl, Option.map_some]
          cases cnd us most long last i j <;> simp [l1, pv2])
      have l1 : ρ1.length = 43 := by rw [hk.1, h.len]
      have ad := lst_add (a := f.map pv2) (b := ((rg 0 (j + 1)).filter fun i => cnd us most long last i j).map fun i => pv2 (i, j)) (by
        have h3 := List.length_filter_le (fun i => cnd us most long last i j) (rg 0 (j + 1))
        rw [rg_len] at h3
        simp only [List.length_map]; omega)
      refine ⟨.nx, (ρ1.set 9 (some (false, .int j))).set 8 (some (false, .lst ((f ++ ((rg 0 (j + 1)).filter fun i => cnd us most long last i j).map fun i => (i, j)).map pv2))), ?_, .inl rfl, hk2.set, by simp [l1]⟩
      show exs P40 _ (ρ1.set 9 (some (false, .int j))) D = _
      have v8 : ev P40 (.var 8) (ρ1.set 9 (some (false, .int j))) D = some (.lst (f.map pv2), D) := by simp [h8]
      rw [exs_frz, frz_of hg.s18, exs_cons, ex_asg, ev_bin, v8, Option.bind_some, q, Option.bind_some, ad]
      simp [List.map_map, Function.comp_def])
  refine ⟨ρ', ?_, hr.1, ?_⟩
  · unfold b11
    rw [exs_cons, ex_for, evi_r1 (ev_len18 hτ) (by omega) (by omega), Option.bind_some, e]; rfl
  · rw [hr.2]
    congr 3
    unfold bars
    have : ∀ (xs : List Int) (f : List (Int × Int)), xs.foldl (fun f j => f ++ ((rg 0 (j + 1)).filter fun i => cnd us most long last i j).map fun i => (i, j)) f = f ++ xs.flatMap fun j => ((rg 0 (j + 1)).filter fun i => cnd us most long last i j).map fun i => (i, j) := fun xs => by
      induction xs with
      | nil => intro f; simp
      | cons x xs ih => intro f; rw [List.foldl_cons, ih, List.flatMap_cons, List.append_assoc]
    rw [this]; rfl
end
section
variable {ρ : Envi} {D : DS} {us : List U} {last most long many each gain limit : Int} {Ls : List (List Int)} {some_ : List Int}
/-- the law's answer is what fewest_services gives -/
theorem few_law (hU : Us us) (hL : LS Ls us) {v : PV} (hF : Few us most long last v) : (sers Ls us most long last = [] ∧ ∃ q t, bars us most long last = q :: t ∧ v = noV q) ∨ (bars us most long last = [] ∧ ∃ r t, sers Ls us most long last = r :: t ∧ v = yesV r) := by
  rcases hF with ⟨q, hq, rfl⟩ | ⟨hb, r, r1, r2, r3, rfl⟩
  · left
    refine ⟨List.filter_eq_nil_iff.mpr fun y hy => ?_, ?_⟩
    · rw [a_bar hU (List.mem_of_mem_head? hq) ((hL.mem y).mp hy)]; simp
    · cases e : bars us most long last with
      | nil => rw [e] at hq; cases hq
      | cons a t =>
        rw [e] at hq
        cases hq
        exact ⟨_, t, rfl, rfl⟩
  · right
    refine ⟨hb, ?_⟩
    have hr : r ∈ sers Ls us most long last := List.mem_filter.mpr ⟨(hL.mem r).mpr r1, r2⟩
    cases e : sers Ls us most long last with
    | nil => rw [e] at hr; cases hr
    | cons a t =>
      refine ⟨a, t, rfl, ?_⟩
      have ha : a ∈ sers Ls us most long last := by rw [e]; exact List.mem_cons_self
      obtain ⟨a1, a2⟩ := List.mem_filter.mp ha
      have h1 := r3 a ((hL.mem a).mp a1) a2
      have h2 : plt (kv r) (kv a) = false := by
        have hs : ((sers Ls us most long last).map kv).Pairwise fun a b => plt b a = false := by
          have : ((sers Ls us most long last).map kv).Sublist (Ls.map kv) := (List.filter_sublist).map kv
          exact hL.srt.sublist this
        rw [e, List.map_cons, List.pairwise_cons] at hs
        rw [e] at hr
        rcases List.mem_cons.mp hr with rfl | hr
        · exact plt_irr _ (kv_gd r)
        · exact hs.1 _ (List.mem_map.mpr ⟨r, hr, rfl⟩)
      rw [min_kv_uni h1 h2]
theorem str_ok : PySem.PyData.strOk "no" = true ∧ PySem.PyData.strOk "yes" = true := by decide +kernel
theorem ag_no {q : Int × Int} : ag 1 (noV q) = true := by
  show (decide _ && (PySem.PyData.strOk "no" && (true && (true && true)))) = true
  rw [str_ok.1]; rfl
theorem ag_yes {r : List Int} (h : r.length ≤ 1000) : ag 2 (yesV r) = true := by
  show (decide _ && (PySem.PyData.strOk "yes" && (ag 1 (ET r) && true))) = true
  rw [str_ok.2, ag_ints (by omega)]; rfl
theorem pEq_prs {L : List (Int × Int)} : pEq (.lst (L.map pv2)) (.lst []) = some (decide (L = [])) := by rw [pEq_lst2N]
theorem x12 (h : G ρ us last most long) (hU : Us us) (hL : LS Ls us) (h7 : getS ρ 7 = some (.lst ((sers Ls us most long last).map ET))) (h8 : getS ρ 8 = some (.lst ((bars us most long last).map pv2))) : ex P40 b12 ρ D = some (.nx, ρ, D) := by
  obtain ⟨v, hF, hv⟩ := few_ok (us := us) (most := most) (long := long) (last := last) hU
  have hv := hv 37 D
  have c1 : ev P40 (.cmp .eq (.var 7) (.lst .nil)) ρ D = some (.bl (decide (sers Ls us most long last = [])), D) := by simp [h7, pCmp, pEq_rows]
  have c2 : ev P40 (.cmp .ne (.var 8) (.lst .nil)) ρ D = some (.bl (!decide (bars us most long last = [])), D) := by simp [h8, pCmp, pEq_prs]
  have c3 : ev P40 (.cmp .ne (.var 7) (.lst .nil)) ρ D = some (.bl (!decide (sers Ls us most long last = [])), D) := by simp [h7, pCmp, pEq_rows]
  have eqb : ∀ b : Bool, pCmp .ne (.bl b) (.bl b) = some false := fun b => by cases b <;> rfl
  have fv : ev P40 (.call 8 (.cons (.var 18) (.cons (.var 22) (.cons (.var 23) (.cons (.var 21) .nil))))) ρ D = some (v, D) := by simp [h.s18, h.s21, h.s22, h.s23, hv]
  have key : ∀ (k : Nat), ag k v = true → k < 40 → decide (sers Ls us most long last = []) = (!decide (bars us most long last = [])) → ev P40 (.ite (.cmp .ne (.var 7) (.lst .nil)) (.tup (.cons (.str "yes") (.cons (.idx (.var 7) (.int 0)) .nil))) (.bin .add (.tup (.cons (.str "no") .nil)) (.idx (.var 8) (.int 0)))) ρ D = some (v, D) → ex P40 b12 ρ D = some (.nx, ρ, D) := fun k hk hk2 he hd => by
    have al := alk (D := D) hk hk2
    unfold b12
    rw [ex_ife, ev_or, evor_cons, ev_cmp, c1, Option.bind_some, c2, Option.bind_some, opd_bl, Option.bind_some, he, eqb]
    simp only [Option.map_some, Option.bind_some, blOf_bl, Bool.false_eq_true, if_false, evor_one]
    rw [ev_not, ev_call, evs_cons, fv, Option.bind_some, evs_cons, hd]
    simp [al]
  rcases few_law hU hL hF with ⟨hs, q, t, hb, rfl⟩ | ⟨hb, r, t, hs, rfl⟩
  · refine key 1 ag_no (by decide) (by rw [hs, hb]; rfl) ?_
    rw [ev_ite, c3, hs]
    have i0 : pIdx (.lst ((q :: t).map pv2)) (.int 0) = some (pv2 q) := ix_lst pv2 (by decide) rfl
    rw [hb] at h8
    have v8 : ev P40 (.var 8) ρ D = some (.lst ((q :: t).map pv2), D) := by rw [ev_var, h8]; rfl
    show ev P40 (.bin .add (.tup (.cons (.str "no") .nil)) (.idx (.var 8) (.int 0))) ρ D = _
    rw [ev_bin, ev_tup, evs_cons, ev_str]
    simp only [Option.bind_some, evs_nil, Option.map_some, ev_idx, v8, ev_int, opd_lst, i0]
    rw [show pBin .add (.tup [.str "no"]) (pv2 q) = some (noV q) from rfl]; rfl
  · have hrm : r ∈ sers Ls us most long last := by rw [hs]; exact List.mem_cons_self
    have rl := ((hL.mem r).mp (List.mem_filter.mp hrm).1).length_le
    rw [rg_len] at rl
    have hl := hU.len
    refine key 2 (ag_yes (by omega)) (by decide) (by rw [hs, hb]; rfl) ?_
    rw [ev_ite, c3, hs]
    have i0 : pIdx (.lst ((r :: t).map ET)) (.int 0) = some (ET r) := ix_lst ET (by decide) rfl
    rw [hs] at h7
    have v7 : ev P40 (.var 7) ρ D = some (.lst ((r :: t).map ET), D) := by rw [ev_var, h7]; rfl
    show ev P40 (.tup (.cons (.str "yes") (.cons (.idx (.var 7) (.int 0)) .nil))) ρ D = _
    rw [ev_tup, evs_cons, ev_str]
    simp only [Option.bind_some, evs_cons, evs_nil, Option.map_some, ev_idx, v7, ev_int, opd_lst, i0]
    rfl
theorem x13 (h : G ρ us last most long) (hw : Wst D) : ∃ many D', ex P40 b13 ρ D = some (.nx, ρ.set 10 (some (false, .int many)), D') ∧ Wst D' ∧ 0 ≤ many ∧ many < 3 := by
  obtain ⟨p, Dp, ep, p0, p1, wp⟩ := next40 (m := 3) hw (by decide)
  exact ⟨p, Dp, by simp [b13, h.s1, ep], wp, p0, p1⟩
theorem x14 (h : G ρ us last most long) (hU : Us us) (hL : LS Ls us) (h10 : getS ρ 10 = some (.int many)) : ex P40 b14 ρ D = some (.nx, ρ.set 11 (some (false, .lst (((rg 0 (tot us + 1)).filter (okm us many long last)).map .int))), D) := by
  obtain ⟨t0, t1⟩ := tot_le hU
  have s := ev_tot (Φ := P40) (D := D) (ρ := ρ) (own := [40]) (ce := .idx (.var 40) (.int 2)) (pt := .nm 40) (a := .bor 18) (us := us) (by simp [h.b18]) (fun u hu => by simp [st1, bindP, wipE, h.len])
  have q := lcP (Φ := P40) (D := D) (ρ := ρ) (own := [38]) (ce := .var 38) (pt := .nm 38) (ci := .rng1 (.bin .add (.bi .sum (.cons (.lc1 [40] (.idx (.var 40) (.int 2)) (.nm 40) (.over (.bor 18)) .nil) .nil)) (.int 1))) (ct := .cons (.cmp .ne (.lc1 [5] (.var 5) (.nm 5) (.over (.call 25 (.cons (.bi .len (.cons (.bor 18) .nil)) .nil))) (.cons (.and_ (.cons (.cmp .le (.bi .len (.cons (.var 5) .nil)) (.var 10)) (.cons (.call 24 (.cons (.var 18) (.cons (.var 5) (.cons (.var 38) (.cons (.var 23) (.cons (.var 21) .nil)))))) .nil))) .nil)) (.lst .nil)) .nil)
    PV.int (rg 0 (tot us + 1)) (okm us many long last) PV.int (evi_r1 (by rw [ev_bin, s]; rfl) (by omega) (by omega)) (fun x hx => by
      have h' := h.set (i := 38) (x := .int x)
      have g38 : getS (ρ.set 38 (some (false, .int x))) 38 = some (.int x) := by simp [h.len]
      have g10 : getS (ρ.set 38 (some (false, .int x))) 10 = some (.int many) := by simp [h10]
      have q2 := lcP (Φ := P40) (D := D) (ρ := ρ.set 38 (some (false, .int x))) (own := [5]) (ce := .var 5) (pt := .nm 5) (ci := .over (.call 25 (.cons (.bi .len (.cons (.bor 18) .nil)) .nil))) (ct := .cons (.and_ (.cons (.cmp .le (.bi .len (.cons (.var 5) .nil)) (.var 10)) (.cons (.call 24 (.cons (.var 18) (.cons (.var 5) (.cons (.var 38) (.cons (.var 23) (.cons (.var 21) .nil)))))) .nil))) .nil) ET Ls (fun y => decide ((y.length : Int) ≤ many) && served us y x long last) ET (ev_sets h' hL) (fun y hy => by
        have c := law_served_ok (n := 38) (D := D) (us := us) (P := y) (most := x) (long := long) (last := last) hU.len (sub_in ((hL.mem y).mp hy))
        generalize ρ.set 38 (some (false, PV.int x)) = τ at *
        by_cases hle : (y.length : Int) ≤ many
        · cases hs : served us y x long last <;> simp [st1, bindP, wipE, h'.s18, h'.s21, h'.s23, h'.len, g38, g10, c, hs, hle, pCmp]
        · simp [st1, bindP, wipE, h'.len, g10, hle, pCmp])
      have e : okm us many long last x = !decide (Ls.filter (fun y => decide ((y.length : Int) ≤ many) && served us y x long last) = []) := by
        rw [Bool.eq_iff_iff, Bool.not_eq_true', decide_eq_false_iff_not, okm_iff]
        constructor
        · rintro ⟨y, y1, y2, y3⟩ z
          have := (List.mem_filter (p := fun y => decide ((y.length : Int) ≤ many) && served us y x long last)).mpr ⟨(hL.mem y).mpr y1, by rw [decide_eq_true y2, y3]; rfl⟩
          rw [z] at this; cases this
        · intro z
          obtain ⟨y, hy⟩ := List.exists_mem_of_ne_nil _ z
          obtain ⟨y1, y2⟩ := List.mem_filter.mp hy
          rw [Bool.and_eq_true] at y2
          exact ⟨y, (hL.mem y).mp y1, of_decide_eq_true y2.1, y2.2⟩
      have c : ev P40 (.cmp .ne (.lc1 [5] (.var 5) (.nm 5) (.over (.call 25 (.cons (.bi .len (.cons (.bor 18) .nil)) .nil))) (.cons (.and_ (.cons (.cmp .le (.bi .len (.cons (.var 5) .nil)) (.var 10)) (.cons (.call 24 (.cons (.var 18) (.cons (.var 5) (.cons (.var 38) (.cons (.var 23) (.cons (.var 21) .nil)))))) .nil))) .nil)) (.lst .nil)) (ρ.set 38 (some (false, .int x))) D = some (.bl (okm us many long last x), D) := by
        rw [ev_cmp, q2, e]
        simp only [Option.bind_some, ev_lst, evs_nil, Option.map_some, opd_lst, pCmp, pEq_rows]
      simp only [st1, bindP, wipE, List.set_set, Option.bind_some, evt_one, c, blOf_bl, Option.map_some]
      cases okm us many long last x <;> simp [h.len])
  unfold b14
  rw [ex_asg, q]; rfl
theorem x15 (h : G ρ us last most long) (hU : Us us) (hm : 0 ≤ many) (h6 : getS ρ 6 = some (ET some_)) (h10 : getS ρ 10 = some (.int many)) (h11 : getS ρ 11 = some (.lst (((rg 0 (tot us + 1)).filter (okm us many long last)).map .int))) : ex P40 b15 ρ D = some (.nx, ρ, D) := by
  obtain ⟨m, hm1, m0, m1, hv⟩ := least_ok (us := us) (many := many) (long := long) (last := last) hU hm
  have hv := hv 36 D
  have a := next_service_ok (n := 39) (D := D) (us := us) (P := some_) (most := most) hU
  have b := law_since_ok (n := 39) (D := D) (us := us) (P := some_) hU
  have i0 : pIdx (.lst (((rg 0 (tot us + 1)).filter (okm us many long last)).map .int)) (.int 0) = some (.int m) := ix_lst PV.int (by decide) (by rw [← hm1, List.head?_eq_getElem?]; rfl)
  generalize ((rg 0 (tot us + 1)).filter (okm us many long last)).map PV.int = L at *
  refine chk (k := 1) (v := .tup [.int m, .int (most - snc us some_)]) ?_ ?_ rfl (by decide)
  · simp [h.s18, h.s21, h.s22, h.s23, h6, h10, hv, a]
  · simp [h.s18, h.s22, h6, h11, i0, b]
theorem x16 (h : G ρ us last most long) (hw : Wst D) : ∃ each gain limit D', ex P40 b16 ρ D = some (.nx, ((ρ.set 24 (some (false, .int each))).set 25 (some (false, .int gain))).set 26 (some (false, .int limit)), D') ∧ Wst D' ∧ 1 ≤ each ∧ each < 4 := by
  obtain ⟨p, Dp, ep, p0, p1, wp⟩ := next40 (m := 3) hw (by decide)
  obtain ⟨q, Dq, eq, q0, q1, wq⟩ := next40 (m := 9) wp (by decide)
  obtain ⟨r, Dr, er, r0, r1, wr⟩ := next40 (m := 20) wq (by decide)
  exact ⟨1 + p, q, r, Dr, by simp [b16, h.s1, ep, eq, er, nms, storeT], wr, by omega, by omega⟩
theorem x17 (h : G ρ us last most long) (hU : Us us) (h6 : getS ρ 6 = some (ET some_)) (h24 : getS ρ 24 = some (.int each)) (h25 : getS ρ 25 = some (.int gain)) : ex P40 b17 ρ D = some (.nx, ρ.set 12 (some (false, ET (wear us some_ each gain))), D) := by
  have a := law_wear_ok (n := 39) (D := D) (us := us) (P := some_) (each := each) (gain := gain) hU
  simp [b17, h.s18, h6, h24, h25, a]
theorem x18 (h : G ρ us last most long) (hU : Us us) (h12 : getS ρ 12 = some (ET (wear us some_ each gain))) (h26 : getS ρ 26 = some (.int limit)) : ex P40 b18 ρ D = some (.nx, ρ.set 13 (some (false, .lst ((abv (wear us some_ each gain) limit).map .int))), D) := by
  have hl := hU.len
  have wl := wear_len (us := us) (P := some_) (each := each) (gain := gain)
  generalize wear us some_ each gain = W at *
  have ln := ev_len18 (D := D) h
  have q := lcP (Φ := P40) (D := D) (ρ := ρ) (own := [3]) (ce := .var 3) (pt := .nm 3) (ci := .rng1 (.bi .len (.cons (.bor 18) .nil))) (ct := .cons (.cmp .gt (.idx (.var 12) (.var 3)) (.var 26)) .nil) PV.int (rg 0 us.length) (fun k => decide (limit < W.getD k.toNat 0)) PV.int (evi_r1 ln (by omega) (by omega)) (fun k hk => by
    obtain ⟨h0, h1⟩ := mem_rg.mp hk
    have := ixT (W := W) h0 (by omega)
    by_cases hc : limit < W.getD k.toNat 0
    · rw [decide_eq_true hc, if_pos rfl]; simp [st1, bindP, wipE, h.len, h12, h26, this, pCmp, -List.getD_eq_getElem?_getD, hc]
    · rw [decide_eq_false hc]; simp [st1, bindP, wipE, h.len, h12, h26, this, pCmp, -List.getD_eq_getElem?_getD, hc])
  unfold b18
  rw [ex_asg, q]
  unfold abv
  rw [wl]; rfl
/-- the rows that have room and are few enough -/
def fews (Ls : List (List Int)) (us : List U) (many long last : Int) : List (List Int) := Ls.filter fun y => decide ((y.length : Int) ≤ many) && decide ((y.filter fun k => !room us long last k) = [])
theorem x19 (h : G ρ us last most long) (hU : Us us) (hL : LS Ls us) (h10 : getS ρ 10 = some (.int many)) (h24 : getS ρ 24 = some (.int each)) (h25 : getS ρ 25 = some (.int gain)) : ex P40 b19 ρ D = some (.nx, ρ.set 14 (some (false, .lst ((fews Ls us many long last).map (kw us each gain)))), D) := by
  have hl := hU.len
  have q := lcP (Φ := P40) (D := D) (ρ := ρ) (own := [5]) (ce := .tup (.cons (.bi .max (.cons (.bin .add (.tup (.cons (.int 0) .nil)) (.call 26 (.cons (.var 18) (.cons (.var 5) (.cons (.var 24) (.cons (.var 25) .nil)))))) .nil)) (.cons (.bi .len (.cons (.var 5) .nil)) (.cons (.var 5) .nil)))) (pt := .nm 5) (ci := .over (.call 25 (.cons (.bi .len (.cons (.bor 18) .nil)) .nil))) (ct := .cons (.and_ (.cons (.cmp .le (.bi .len (.cons (.var 5) .nil)) (.var 10)) (.cons (.cmp .eq (.lc1 [3] (.var 3) (.nm 3) (.over (.var 5)) (.cons (.not_ (.call 23 (.cons (.var 18) (.cons (.var 3) (.cons (.var 23) (.cons (.var 21) .nil)))))) .nil)) (.lst .nil)) .nil))) .nil)
    ET Ls (fun y => decide ((y.length : Int) ≤ many) && decide ((y.filter fun k => !room us long last k) = [])) (kw us each gain) (ev_sets h hL) (fun y hy => by
      have h' := h.set (i := 5) (x := ET y)
      have g5 : getS (ρ.set 5 (some (false, ET y))) 5 = some (ET y) := by simp [h.len]
      have g10 : getS (ρ.set 5 (some (false, ET y))) 10 = some (.int many) := by simp [h10]
      have g24 : getS (ρ.set 5 (some (false, ET y))) 24 = some (.int each) := by simp [h24]
      have g25 : getS (ρ.set 5 (some (false, ET y))) 25 = some (.int gain) := by simp [h25]
      have s : st1 P40 [5] (.tup (.cons (.bi .max (.cons (.bin .add (.tup (.cons (.int 0) .nil)) (.call 26 (.cons (.var 18) (.cons (.var 5) (.cons (.var 24) (.cons (.var 25) .nil)))))) .nil)) (.cons (.bi .len (.cons (.var 5) .nil)) (.cons (.var 5) .nil)))) (.nm 5) (.cons (.and_ (.cons (.cmp .le (.bi .len (.cons (.var 5) .nil)) (.var 10)) (.cons (.cmp .eq (.lc1 [3] (.var 3) (.nm 3) (.over (.var 5)) (.cons (.not_ (.call 23 (.cons (.var 18) (.cons (.var 3) (.cons (.var 23) (.cons (.var 21) .nil)))))) .nil)) (.lst .nil)) .nil))) .nil) ρ (ET y) D = (evt P40 (.cons (.and_ (.cons (.cmp .le (.bi .len (.cons (.var 5) .nil)) (.var 10)) (.cons (.cmp .eq (.lc1 [3] (.var 3) (.nm 3) (.over (.var 5)) (.cons (.not_ (.call 23 (.cons (.var 18) (.cons (.var 3) (.cons (.var 23) (.cons (.var 21) .nil)))))) .nil)) (.lst .nil)) .nil))) .nil) (ρ.set 5 (some (false, ET y))) D).bind fun c => if c.1 then (ev P40 (.tup (.cons (.bi .max (.cons (.bin .add (.tup (.cons (.int 0) .nil)) (.call 26 (.cons (.var 18) (.cons (.var 5) (.cons (.var 24) (.cons (.var 25) .nil)))))) .nil)) (.cons (.bi .len (.cons (.var 5) .nil)) (.cons (.var 5) .nil)))) (ρ.set 5 (some (false, ET y))) c.2).map fun y => ([y.1], y.2) else some ([], c.2) := by
        simp only [st1, bindP, wipE, List.set_set, Option.bind_some]
      rw [s]
      clear s
      generalize ρ.set 5 (some (false, ET y)) = τ at *
      have q2 := lcP (Φ := P40) (D := D) (ρ := τ) (own := [3]) (ce := .var 3) (pt := .nm 3) (ci := .over (.var 5)) (ct := .cons (.not_ (.call 23 (.cons (.var 18) (.cons (.var 3) (.cons (.var 23) (.cons (.var 21) .nil)))))) .nil) PV.int y (fun k => !room us long last k) PV.int (evi_ovT (by rw [ev_var, g5]; rfl)) (fun k hk => by
        have hk := sub_in ((hL.mem y).mp hy) k hk
        have c := law_room_ok (n := 39) (D := D) (us := us) (long := long) (last := last) (k := k) hl hk.1 hk.2
        cases hr : room us long last k <;> simp [st1, bindP, wipE, h'.s18, h'.s21, h'.s23, h'.len, c, hr])
      have w := law_wear_ok (n := 39) (D := D) (us := us) (P := y) (each := each) (gain := gain) hU
      have wl := wear_len (us := us) (P := y) (each := each) (gain := gain)
      have m := pMax_mxf (wear us y each gain)
      have ad := tup_add (a := [.int 0]) (b := (wear us y each gain).map .int) (by simp; omega)
      have val : ev P40 (.tup (.cons (.bi .max (.cons (.bin .add (.tup (.cons (.int 0) .nil)) (.call 26 (.cons (.var 18) (.cons (.var 5) (.cons (.var 24) (.cons (.var 25) .nil)))))) .nil)) (.cons (.bi .len (.cons (.var 5) .nil)) (.cons (.var 5) .nil)))) τ D = some (kw us each gain y, D) := by
        simp [h'.s18, g5, g24, g25, w, ad, m, kw]
      have tst : ev P40 (.and_ (.cons (.cmp .le (.bi .len (.cons (.var 5) .nil)) (.var 10)) (.cons (.cmp .eq (.lc1 [3] (.var 3) (.nm 3) (.over (.var 5)) (.cons (.not_ (.call 23 (.cons (.var 18) (.cons (.var 3) (.cons (.var 23) (.cons (.var 21) .nil)))))) .nil)) (.lst .nil)) .nil))) τ D = some (.bl (decide ((y.length : Int) ≤ many) && decide ((y.filter fun k => !room us long last k) = [])), D) := by
        generalize (y.filter fun k => !room us long last k) = F at *
        by_cases hle : (y.length : Int) ≤ many
        · simp [q2, g5, g10, pCmp, hle]
        · simp [g5, g10, pCmp, hle]
      rw [evt_one, tst]
      simp only [Option.bind_some, blOf_bl, Option.map_some]
      cases (decide ((y.length : Int) ≤ many) && decide ((y.filter fun k => !room us long last k) = [])) <;> simp [-ev_tup, val])
  unfold b19
  rw [ex_asg, q]; rfl
theorem x20 (h : G ρ us last most long) (hU : Us us) (h6 : getS ρ 6 = some (ET some_)) (h24 : getS ρ 24 = some (.int each)) (h25 : getS ρ 25 = some (.int gain)) (h26 : getS ρ 26 = some (.int limit)) (h12 : getS ρ 12 = some (ET (wear us some_ each gain))) (h13 : getS ρ 13 = some (.lst ((abv (wear us some_ each gain) limit).map .int))) : ex P40 b20 ρ D = some (.nx, ρ, D) := by
  have hl := hU.len
  have wl := wear_len (us := us) (P := some_) (each := each) (gain := gain)
  have a := wear_ok (n := 39) (D := D) (us := us) (P := some_) (each := each) (gain := gain) hU
  have b := broken_ok (n := 38) (D := D) (us := us) (P := some_) (each := each) (gain := gain) (limit := limit) hU
  have c := ev_brk (Φ := P40) (D := D) (ρ := ρ) (a := .var 13) (L := abv (wear us some_ each gain) limit) (by rw [ev_var, h13]; rfl)
  have c' : ev P40 (.ite (.cmp .ne (.var 13) (.lst .nil)) (.idx (.var 13) (.int 0)) .non) ρ D = some (brk (wear us some_ each gain) limit, D) := c
  refine chk (k := 3) (v := .tup [ET (wear us some_ each gain), brk (wear us some_ each gain) limit]) ?_ ?_ ?_ (by decide)
  · simp [h.s18, h6, h24, h25, h26, a, b]
  · rw [ev_tup, evs_cons, ev_var, h12, Option.map_some, Option.bind_some, evs_cons, c']; rfl
  · show (decide _ && (ag 2 (ET _) && (ag 2 (brk _ _) && true))) = true
    rw [ag_ints (by omega)]
    have : ag 2 (brk (wear us some_ each gain) limit) = true := by
      unfold brk
      cases (abv (wear us some_ each gain) limit).head? <;> rfl
    rw [this]; rfl
theorem x21 (h : G ρ us last most long) (hU : Us us) (hL : LS Ls us) (hm : 0 ≤ many) (h10 : getS ρ 10 = some (.int many)) (h24 : getS ρ 24 = some (.int each)) (h25 : getS ρ 25 = some (.int gain)) (h14 : getS ρ 14 = some (.lst ((fews Ls us many long last).map (kw us each gain)))) : ex P40 b21 ρ D = some (.nx, ρ, D) := by
  obtain ⟨r, hr, hv⟩ := best_ok (us := us) (many := many) (each := each) (gain := gain) (long := long) (last := last) hU hm
  have hv := hv 37 D
  have hlaw := best_law (L := fews Ls us many long last) hm hr (fun y => by
    unfold fews
    rw [List.mem_filter, hL.mem, Bool.and_eq_true, decide_eq_true_iff, decide_eq_true_iff, List.filter_eq_nil_iff]
    simp)
  have pm : pBi .min [.lst ((fews Ls us many long last).map (kw us each gain))] = some (kw us each gain r) := hlaw
  have hrl : r.length ≤ 1000 := by
    have hne : ((subsP (fun r => decide ((r.length : Int) < many)) (able us long last))).map (kw us each gain) ≠ [] := fun z => by
      unfold Best at hr
      rw [z] at hr; cases hr
    obtain ⟨v, h1, h2, _⟩ := pMin_ok (kw_C _) hne
    unfold Best at hr
    rw [hr] at h1
    cases h1
    obtain ⟨y, hy, e⟩ := List.mem_map.mp h2
    have : ET y = ET r := by
      have := congrArg (fun v => pIdx v (.int 2)) e
      simpa [kw2] using this
    have h3 : y.map PV.int = r.map PV.int := by injection this
    have := (((mem_subsP hm _).mp hy).1.trans able_sub).length_le
    rw [ints_inj h3, rg_len] at this
    have := hU.len
    omega
  generalize (fews Ls us many long last).map (kw us each gain) = L at *
  have mn : ev P40 (.bi .min (.cons (.var 14) .nil)) ρ D = some (kw us each gain r, D) := by
    rw [ev_bi, evs_cons, ev_var, h14]
    simp only [Option.map_some, Option.bind_some, evs_nil, mapO_cons, mapO_nil, opd_lst, pm]
  refine chk (k := 2) (v := .tup [.int (mxf (wear us r each gain)), ET r]) ?_ ?_ ?_ (by decide)
  · simp [h.s18, h.s21, h.s23, h10, h24, h25, hv]
  · rw [ev_tup, evs_cons, ev_idx, mn]
    simp only [Option.bind_some, ev_int, okw, kw0, Option.map_some, evs_cons, ev_idx, mn, kw2, evs_nil]
  · show (decide _ && (true && (ag 1 (ET r) && true))) = true
    rw [ag_ints (by omega)]; rfl
end
section
variable {ρ : Envi} {D : DS} {us : List U} {last most long many each gain limit : Int} {gaps : List (List (Int × Int))} {longs lives : List Int} {kinds : List (Int × Int)} {need : Int}
theorem lcX {α : Type} {Φ : Fns} {own : List Nat} {ce : CE} {pt : Pat} {ci : CI} {ct : CEs} {xs : List PV} {D0 : DS} (f : α → PV) (Q : α → Prop) (h : Wst D) (hi : evi Φ ci ρ D0 = some (xs, D)) (H : ∀ x ∈ xs, ∀ D, Wst D → ∃ (y : α) (D' : DS), st1 Φ own ce pt ct ρ x D = some ([f y], D') ∧ Wst D' ∧ Q y) :
    ∃ (ms : List α) (D' : DS), ev Φ (.lc1 own ce pt ci ct) ρ D0 = some (.lst (ms.map f), D') ∧ Wst D' ∧ ms.length = xs.length ∧ ∀ m ∈ ms, Q m := by
  have key : ∀ (xs : List PV) (D : DS), Wst D → (∀ x ∈ xs, ∀ D, Wst D → ∃ (y : α) (D' : DS), st1 Φ own ce pt ct ρ x D = some ([f y], D') ∧ Wst D' ∧ Q y) → ∃ (ms : List α) (D' : DS), lcF (st1 Φ own ce pt ct ρ) xs D = some (ms.map f, D') ∧ Wst D' ∧ ms.length = xs.length ∧ ∀ m ∈ ms, Q m := by
    intro xs
    induction xs with
    | nil => exact fun D h _ => ⟨[], D, rfl, h, rfl, by simp⟩
    | cons x xs ih =>
      intro D h H
      obtain ⟨y, D1, e1, h1, hq⟩ := H x List.mem_cons_self D h
      obtain ⟨ms, D2, e2, h2, hl, hQ⟩ := ih D1 h1 fun m hm => H m (List.mem_cons_of_mem _ hm)
      refine ⟨y :: ms, D2, ?_, h2, by rw [List.length_cons, List.length_cons, hl], fun m hm => ?_⟩
      · rw [lcF, e1, Option.bind_some, e2]; rfl
      · rcases List.mem_cons.mp hm with rfl | hm
        · exact hq
        · exact hQ m hm
  obtain ⟨ms, D', e, h1, h2, h3⟩ := key xs D h H
  refine ⟨ms, D', ?_, h1, h2, h3⟩
  rw [ev_lc1, hi, Option.bind_some, e]; rfl
theorem x22 (hl : ρ.length = 43) (h1 : getS ρ 1 = some (.shr 0)) (hw : Wst D) : ∃ (gaps : List (List (Int × Int))) (D' : DS), ex P40 b22 ρ D = some (.nx, ρ.set 15 (some (false, .tup (gaps.map EG))), D') ∧ Wst D' ∧ gaps.length ≤ 3 ∧ ∀ g ∈ gaps, g.length ≤ 2 ∧ ∀ q ∈ g, 0 ≤ q.1 ∧ q.1 < q.2 ∧ q.2 ≤ q.1 + 4 ∧ q.2 ≤ 20 := by
  obtain ⟨r, D1, e1, r0, r1, w1⟩ := next40 (m := 4) hw (by decide)
  obtain ⟨gaps, D', e, w, gl, gq⟩ := lcX (Φ := P40) (D0 := D) (D := D1) (ρ := ρ) (own := [3]) (ce := .bi .tuple (.cons (.cut (.lc1 [20] (.tup (.cons (.var 20) (.cons (.bin .add (.bin .add (.var 20) (.int 1)) (.call 20 (.cons (.var 1) (.cons (.int 4) .nil)))) .nil))) (.nm 20) (.over (.tup (.cons (.call 20 (.cons (.var 1) (.cons (.int 4) .nil))) (.cons (.bin .add (.int 6) (.call 20 (.cons (.var 1) (.cons (.int 3) .nil)))) .nil)))) .nil) .nil (.cons (.bin .add (.int 1) (.call 20 (.cons (.var 1) (.cons (.int 2) .nil)))) .nil)) .nil)) (pt := .nm 3) (ci := .rng1 (.call 20 (.cons (.var 1) (.cons (.int 4) .nil)))) (ct := .nil)
    EG (fun g => g.length ≤ 2 ∧ ∀ q ∈ g, 0 ≤ q.1 ∧ q.1 < q.2 ∧ q.2 ≤ q.1 + 4 ∧ q.2 ≤ 20) w1 (evi_r1 (m := r) (by simp [h1, e1]) (by omega) (by omega)) (fun x hx D hw => by
      have h1' : getS (ρ.set 3 (some (false, x))) 1 = some (.shr 0) := by simp [h1]
      have hl' : (ρ.set 3 (some (false, x))).length = 43 := by simp [hl]
      have s : st1 P40 [3] (.bi .tuple (.cons (.cut (.lc1 [20] (.tup (.cons (.var 20) (.cons (.bin .add (.bin .add (.var 20) (.int 1)) (.call 20 (.cons (.var 1) (.cons (.int 4) .nil)))) .nil))) (.nm 20) (.over (.tup (.cons (.call 20 (.cons (.var 1) (.cons (.int 4) .nil))) (.cons (.bin .add (.int 6) (.call 20 (.cons (.var 1) (.cons (.int 3) .nil)))) .nil)))) .nil) .nil (.cons (.bin .add (.int 1) (.call 20 (.cons (.var 1) (.cons (.int 2) .nil)))) .nil)) .nil)) (.nm 3) .nil ρ x D = (ev P40 (.bi .tuple (.cons (.cut (.lc1 [20] (.tup (.cons (.var 20) (.cons (.bin .add (.bin .add (.var 20) (.int 1)) (.call 20 (.cons (.var 1) (.cons (.int 4) .nil)))) .nil))) (.nm 20) (.over (.tup (.cons (.call 20 (.cons (.var 1) (.cons (.int 4) .nil))) (.cons (.bin .add (.int 6) (.call 20 (.cons (.var 1) (.cons (.int 3) .nil)))) .nil)))) .nil) .nil (.cons (.bin .add (.int 1) (.call 20 (.cons (.var 1) (.cons (.int 2) .nil)))) .nil)) .nil)) (ρ.set 3 (some (false, x))) D).map fun y => ([y.1], y.2) := by
        simp only [st1, bindP, wipE, List.set_set, Option.bind_some, evt_nil, if_true]
      rw [s]
      clear s
      generalize ρ.set 3 (some (false, x)) = τ at *
      obtain ⟨a, Da, ea, a0, a1, wa⟩ := next40 (m := 4) hw (by decide)
      obtain ⟨b, Db, eb, b0, b1, wb⟩ := next40 (m := 3) wa (by decide)
      obtain ⟨g, Dg, eg, wg, gl, gq⟩ := lcX (Φ := P40) (D0 := D) (D := Db) (ρ := τ) (own := [20]) (ce := .tup (.cons (.var 20) (.cons (.bin .add (.bin .add (.var 20) (.int 1)) (.call 20 (.cons (.var 1) (.cons (.int 4) .nil)))) .nil))) (pt := .nm 20) (ci := .over (.tup (.cons (.call 20 (.cons (.var 1) (.cons (.int 4) .nil))) (.cons (.bin .add (.int 6) (.call 20 (.cons (.var 1) (.cons (.int 3) .nil)))) .nil)))) (ct := .nil) (xs := [.int a, .int (6 + b)])
        pv2 (fun q => 0 ≤ q.1 ∧ q.1 < q.2 ∧ q.2 ≤ q.1 + 4 ∧ q.2 ≤ 20) wb (by simp [h1', ea, eb]) (fun x hx D hw => by
          obtain ⟨c, Dc, ec, c0, c1, wc⟩ := next40 (m := 4) hw (by decide)
          have hx : ∃ y : Int, x = .int y ∧ 0 ≤ y ∧ y ≤ 8 := by
            simp only [List.mem_cons, List.not_mem_nil, or_false] at hx
            rcases hx with rfl | rfl
            · exact ⟨a, rfl, by omega, by omega⟩
            · exact ⟨6 + b, rfl, by omega, by omega⟩
          obtain ⟨y, rfl, y0, y1⟩ := hx
          refine ⟨(y, y + 1 + c), Dc, ?_, wc, by simp only; omega⟩
          simp [st1, bindP, wipE, h1', hl', ec, pv2])
      obtain ⟨c, Dc, ec, c0, c1, wc⟩ := next40 (m := 2) wg (by decide)
      refine ⟨g.take (1 + c).toNat, Dc, ?_, wc, ?_, fun q hq => gq q (List.mem_of_mem_take hq)⟩
      · have cu := cut_pre (xs := g.map pv2) (j := 1 + c) (by omega) (by simp at gl; simp [gl]; omega)
        rw [ev_bi, evs_cons, ev_cut, eg]
        simp only [Option.bind_some, evo_nil, evo_one, ev_bin, ev_int, ev_call, evs_cons, ev_var, h1', Option.map_some, evs_nil, ec, add_ok, intOf_int, pCut_lst, cu, mapO_cons, mapO_nil, opd_lst, pTupL]
        exact congrArg (fun z => some ([PV.tup z], Dc)) List.map_take.symm
      · rw [List.length_take]
        simp at gl
        omega)
  refine ⟨gaps, D', by simp [b22, e], w, ?_, gq⟩
  rw [gl, List.length_map, rg_len]; omega
theorem x23 (hl : ρ.length = 43) (h1 : getS ρ 1 = some (.shr 0)) (h15 : getS ρ 15 = some (.tup (gaps.map EG))) (hw : Wst D) : ∃ (longs : List Int) (D' : DS), ex P40 b23 ρ D = some (.nx, (ρ.set 27 (some (false, ET longs))).set 14 (some (false, .lst ([[]].map ET))), D') ∧ Wst D' ∧ longs.length = gaps.length ∧ ∀ l ∈ longs, 1 ≤ l ∧ l ≤ 3 := by
  obtain ⟨longs, D', e, w, ll, lq⟩ := lcX (Φ := P40) (D := D) (ρ := ρ) (own := [5]) (ce := .bin .add (.int 1) (.call 20 (.cons (.var 1) (.cons (.int 3) .nil)))) (pt := .nm 5) (ci := .over (.var 15)) (ct := .nil) PV.int (fun l => 1 ≤ l ∧ l ≤ 3) hw (evi_ovT (by rw [ev_var, h15]; rfl)) (fun x hx D hw => by
    obtain ⟨c, Dc, ec, c0, c1, wc⟩ := next40 (m := 3) hw (by decide)
    exact ⟨1 + c, Dc, by simp [st1, bindP, wipE, h1, ec], wc, by omega⟩)
  exact ⟨longs, D', by simp [b23, e, nms, storeT]; rfl, w, by rw [ll, List.length_map], lq⟩
/-! ### the law's rows of days -/
theorem lrow_rows : ∀ (pre : List (List (Int × Int) × Int)) (rows : List (List Int)) (m : Nat), (∀ r ∈ rows, r.length = m) → ∀ r ∈ pre.foldl (lrow longs) rows, r.length = m + pre.length
  | [], rows, m, h, r, hr => h r hr
  | q :: pre, rows, m, h, r, hr => by
    rw [List.foldl_cons] at hr
    have := lrow_rows pre (lrow longs rows q) (m + 1) (fun r hr => by
      unfold lrow at hr
      obtain ⟨row, h1, h2⟩ := List.mem_flatMap.mp hr
      obtain ⟨d, _, rfl⟩ := List.mem_map.mp h2
      rw [List.length_append, h row h1]; rfl) r hr
    rw [List.length_cons]; omega
theorem lrow_len (rows : List (List Int)) (q : List (Int × Int) × Int) : (lrow longs rows q).length ≤ rows.length * 20 := by
  refine flat_len _ 20 rows fun row _ => ?_
  rw [List.length_map]
  refine Nat.le_trans (List.length_filter_le _ _) (Nat.le_trans (List.length_filter_le _ _) ?_)
  rw [rg_len]; omega
theorem lrow_lens : ∀ (pre : List (List (Int × Int) × Int)) (rows : List (List Int)), (pre.foldl (lrow longs) rows).length ≤ rows.length * 20 ^ pre.length
  | [], rows => by simp
  | q :: pre, rows => by
    have h1 := lrow_lens pre (lrow longs rows q)
    have h2 := lrow_len (longs := longs) rows q
    rw [List.foldl_cons, List.length_cons, Nat.pow_succ]
    calc _ ≤ (lrow longs rows q).length * 20 ^ pre.length := h1
      _ ≤ (rows.length * 20) * 20 ^ pre.length := Nat.mul_le_mul_right _ h2
      _ = rows.length * (20 ^ pre.length * 20) := by rw [Nat.mul_assoc, Nat.mul_comm 20]
def zk (gaps : List (List (Int × Int))) (longs : List Int) (k : Int) : List (Int × Int) × Int := (gaps.getD k.toNat [], longs.getD k.toNat 0)
theorem zip_zk (h : longs.length = gaps.length) : gaps.zip longs = (rg 0 gaps.length).map (zk gaps longs) := by
  apply List.ext_getElem
  · simp [rg_len, h]
  · intro i h1 h2
    have : i < gaps.length := by simp at h1; omega
    simp [rg, zk, this, h]
theorem fr_iff {row : List Int} {d l : Int} (h : row.length ≤ longs.length) : fr row longs d l = decide (((rg 0 row.length).filter fun j => decide (d < row.getD j.toNat 0 + longs.getD j.toNat 0) && decide (row.getD j.toNat 0 < d + l)) = []) := by
  unfold fr
  rw [Bool.eq_iff_iff, List.all_eq_true, decide_eq_true_iff, List.filter_eq_nil_iff]
  constructor
  · intro hz j hj
    obtain ⟨j0, j1⟩ := mem_rg.mp hj
    have j2 : j.toNat < row.length := by omega
    have := hz (row[j.toNat], longs[j.toNat]'(by omega)) (by
      rw [List.mem_iff_getElem]
      exact ⟨j.toNat, by simp; omega, by simp⟩)
    rw [Bool.or_eq_true, decide_eq_true_iff, decide_eq_true_iff] at this
    rw [Bool.and_eq_true, decide_eq_true_iff, decide_eq_true_iff, List.getD_eq_getElem?_getD, List.getD_eq_getElem?_getD, List.getElem?_eq_getElem j2, List.getElem?_eq_getElem (by omega : j.toNat < longs.length)]
    simp only [Option.getD_some]
    simp only at this
    omega
  · intro hz p hp
    obtain ⟨i, hi, rfl⟩ := List.mem_iff_getElem.mp hp
    rw [List.length_zip] at hi
    have hi1 : i < row.length := by omega
    have hi2 : i < longs.length := by omega
    have := hz i (mem_rg.mpr (by omega))
    rw [Bool.and_eq_true, decide_eq_true_iff, decide_eq_true_iff, List.getD_eq_getElem?_getD, List.getD_eq_getElem?_getD, Int.toNat_natCast, List.getElem?_eq_getElem hi1, List.getElem?_eq_getElem hi2] at this
    simp only [Option.getD_some] at this
    rw [Bool.or_eq_true, decide_eq_true_iff, decide_eq_true_iff]
    simp
    omega
/-- a loop as a statement -/
theorem ex_forP {α σ : Type} {Φ : Fns} {b : CSs} {p : Pat} {it : CI} (enc : α → PV) (xs : List α) (R : σ → Envi → Prop) (step : σ → α → σ) (s0 : σ) (hi : evi Φ it ρ D = some (xs.map enc, D)) (h0 : R s0 ρ)
    (H : ∀ pre x post ρ, xs = pre ++ x :: post → R (pre.foldl step s0) ρ → ∃ o ρ', ((bindP p (enc x) ρ).bind fun ρ1 => exs Φ b ρ1 D) = some (o, ρ', D) ∧ (o = .nx ∨ o = .ct) ∧ R (step (pre.foldl step s0) x) ρ') : ∃ ρ', ex Φ (.for_ p it b) ρ D = some (.nx, ρ', D) ∧ R (xs.foldl step s0) ρ' := by
  obtain ⟨ρ1, e1, h1⟩ := forP (f := fun x ρ D => (bindP p x ρ).bind fun ρ1 => exs Φ b ρ1 D) enc R step s0 xs xs [] ρ rfl h0 H
  exact ⟨ρ1, by rw [ex_for, hi, Option.bind_some]; exact e1, h1⟩
end
section
variable {ρ : Envi} {D : DS} {us : List U} {last most long many each gain limit : Int} {gaps : List (List (Int × Int))} {longs lives : List Int} {kinds : List (Int × Int)} {need : Int}
theorem rg_at {n : Int} {pre post : List Int} {k : Int} (h : rg 0 n = pre ++ k :: post) : k = pre.length ∧ (pre.length : Int) < n := by
  have hl := congrArg List.length h
  rw [rg_len, List.length_append, List.length_cons] at hl
  have h1 : (rg 0 n)[pre.length]? = some k := by rw [h]; simp
  unfold rg at h1
  rw [List.getElem?_map, List.getElem?_range (by omega)] at h1
  simp at h1
  omega
def dyl (g : List (Int × Int)) (l : Int) : List Int := (rg 0 20).filter fun d => g.any fun s => decide (s.1 ≤ d) && decide (d + l ≤ s.2)
theorem dyl_srt (g : List (Int × Int)) (l : Int) : pSort ((dyl g l).map .int) = some ((dyl g l).map .int) := by
  have hs : Srt (dyl g l) := srt_filter _ (srt_rg 0 20)
  rw [pSort_ints (hs.imp fun {a b} h => by omega), srt_ext (srt_sset _) hs fun x => mem_sset]
/-- one tool's days, and the rows that go on -/
theorem x24a (hl : ρ.length = 43) {k : Int} {g : List (Int × Int)} {l : Int} {L : List (List Int)} (hk : 0 ≤ k ∧ k < 3) (h3 : getS ρ 3 = some (.int k)) (h15 : getS ρ 15 = some (.tup (gaps.map EG))) (h27 : getS ρ 27 = some (ET longs)) (h14 : getS ρ 14 = some (.lst (L.map ET)))
    (hg : pIdx (.tup (gaps.map EG)) (.int k) = some (EG g)) (hlk : pIdx (ET longs) (.int k) = some (.int l)) (hll : k < longs.length) (hL : L.length ≤ 400) (hr : ∀ r ∈ L, (r.length : Int) = k) :
    ∃ ρ', exs P40 (.cons (.asg false 28 (.bi .sorted (.cons (.lc1 [37] (.var 37) (.nm 37) (.rng1 (.int 20)) (.cons (.cmp .ne (.lc1 [42] (.var 42) (.nm 42) (.over (.idx (.var 15) (.var 3))) (.cons (.and_ (.cons (.cmp .le (.idx (.var 42) (.int 0)) (.var 37)) (.cons (.cmp .le (.bin .add (.var 37) (.idx (.var 27) (.var 3))) (.idx (.var 42) (.int 1))) .nil))) .nil)) (.lst .nil)) .nil)) .nil))) (.cons (.asg false 29 (.lst .nil)) (.cons (.for_ (.nm 30) (.over (.var 14)) (.cons (.asg false 29 (.bin .add (.var 29) (.lc1 [37] (.bin .add (.var 30) (.tup (.cons (.var 37) .nil))) (.nm 37) (.over (.var 28)) (.cons (.cmp .eq (.lc1 [9] (.var 9) (.nm 9) (.rng1 (.var 3)) (.cons (.and_ (.cons (.cmp .lt (.var 37) (.bin .add (.idx (.var 30) (.var 9)) (.idx (.var 27) (.var 9)))) (.cons (.cmp .lt (.idx (.var 30) (.var 9)) (.bin .add (.var 37) (.idx (.var 27) (.var 3)))) .nil))) .nil)) (.lst .nil)) .nil)))) .nil)) (.cons (.asg false 14 (.var 29)) .nil)))) ρ D = some (.nx, ρ', D) ∧ Kp [3, 14, 28, 29, 30] ρ ρ' ∧ getS ρ' 14 = some (.lst ((lrow longs L (g, l)).map ET)) := by
  have e28 : ev P40 (.bi .sorted (.cons (.lc1 [37] (.var 37) (.nm 37) (.rng1 (.int 20)) (.cons (.cmp .ne (.lc1 [42] (.var 42) (.nm 42) (.over (.idx (.var 15) (.var 3))) (.cons (.and_ (.cons (.cmp .le (.idx (.var 42) (.int 0)) (.var 37)) (.cons (.cmp .le (.bin .add (.var 37) (.idx (.var 27) (.var 3))) (.idx (.var 42) (.int 1))) .nil))) .nil)) (.lst .nil)) .nil)) .nil)) ρ D = some (.lst ((dyl g l).map .int), D) := by
    have q := lcP (Φ := P40) (D := D) (ρ := ρ) (own := [37]) (ce := .var 37) (pt := .nm 37) (ci := .rng1 (.int 20)) (ct := .cons (.cmp .ne (.lc1 [42] (.var 42) (.nm 42) (.over (.idx (.var 15) (.var 3))) (.cons (.and_ (.cons (.cmp .le (.idx (.var 42) (.int 0)) (.var 37)) (.cons (.cmp .le (.bin .add (.var 37) (.idx (.var 27) (.var 3))) (.idx (.var 42) (.int 1))) .nil))) .nil)) (.lst .nil)) .nil) PV.int (rg 0 20) (fun d => g.any fun s => decide (s.1 ≤ d) && decide (d + l ≤ s.2)) PV.int (evi_r1 rfl (by omega) (by omega)) (fun d hd => by
      have g3 : getS (ρ.set 37 (some (false, .int d))) 3 = some (.int k) := by simp [h3]
      have g15 : getS (ρ.set 37 (some (false, .int d))) 15 = some (.tup (gaps.map EG)) := by simp [h15]
      have g27 : getS (ρ.set 37 (some (false, .int d))) 27 = some (ET longs) := by simp [h27]
      have g37 : getS (ρ.set 37 (some (false, .int d))) 37 = some (.int d) := by simp [hl]
      have gl : (ρ.set 37 (some (false, .int d))).length = 43 := by simp [hl]
      simp only [st1, bindP, wipE, List.set_set, Option.bind_some]
      generalize ρ.set 37 (some (false, PV.int d)) = τ at *
      have q2 := lcP (Φ := P40) (D := D) (ρ := τ) (own := [42]) (ce := .var 42) (pt := .nm 42) (ci := .over (.idx (.var 15) (.var 3))) (ct := .cons (.and_ (.cons (.cmp .le (.idx (.var 42) (.int 0)) (.var 37)) (.cons (.cmp .le (.bin .add (.var 37) (.idx (.var 27) (.var 3))) (.idx (.var 42) (.int 1))) .nil))) .nil) pv2 g (fun s => decide (s.1 ≤ d) && decide (d + l ≤ s.2)) pv2 (evi_ovT (by rw [ev_idx, ev_var, g15]; simp [g3, hg])) (fun s hs => by
        have p0 : pIdx (pv2 s) (.int 0) = some (.int s.1) := rfl
        have p1 : pIdx (pv2 s) (.int 1) = some (.int s.2) := rfl
        have po : ∀ D : DS, opd D (pv2 s) = some (pv2 s) := fun D => rfl
        by_cases h1 : s.1 ≤ d
        · by_cases h2 : d + l ≤ s.2 <;> simp [st1, bindP, wipE, gl, g3, g27, g37, p0, p1, po, pCmp, hlk, h1, h2]
        · simp [st1, bindP, wipE, gl, g37, p0, po, pCmp, h1])
      have c : ev P40 (.cmp .ne (.lc1 [42] (.var 42) (.nm 42) (.over (.idx (.var 15) (.var 3))) (.cons (.and_ (.cons (.cmp .le (.idx (.var 42) (.int 0)) (.var 37)) (.cons (.cmp .le (.bin .add (.var 37) (.idx (.var 27) (.var 3))) (.idx (.var 42) (.int 1))) .nil))) .nil)) (.lst .nil)) τ D = some (.bl (g.any fun s => decide (s.1 ≤ d) && decide (d + l ≤ s.2)), D) := by
        have e : (g.any fun s => decide (s.1 ≤ d) && decide (d + l ≤ s.2)) = !decide (g.filter (fun s => decide (s.1 ≤ d) && decide (d + l ≤ s.2)) = []) := by
          rw [Bool.eq_iff_iff, Bool.not_eq_true', decide_eq_false_iff_not, List.any_eq_true, List.filter_eq_nil_iff]
          simp
        rw [ev_cmp, q2, e]
        simp only [Option.bind_some, ev_lst, evs_nil, Option.map_some, opd_lst, pCmp, pEq_prs]
      rw [evt_one, c]
      cases (g.any fun s => decide (s.1 ≤ d) && decide (d + l ≤ s.2)) <;> simp [g37])
    rw [ev_bi, evs_cons, q]
    have so : pBi .sorted [.lst ((dyl g l).map .int)] = some (.lst ((dyl g l).map .int)) := by
      show (pSort _).map PV.lst = _
      rw [dyl_srt]; rfl
    unfold dyl at so ⊢
    simp only [Option.bind_some, evs_nil, Option.map_some, mapO_cons, mapO_nil, opd_lst, so]
  have dl : (dyl g l).length ≤ 20 := by
    unfold dyl
    refine Nat.le_trans (List.length_filter_le _ _) ?_
    rw [rg_len]; omega
  rw [xs_nx (show ex P40 (.asg false 28 _) ρ D = some (.nx, ρ.set 28 (some (false, .lst ((dyl g l).map .int))), D) by rw [ex_asg, e28]; rfl)]
  rw [xs_nx (show ex P40 (.asg false 29 (.lst .nil)) (ρ.set 28 (some (false, .lst ((dyl g l).map .int)))) D = some (.nx, (ρ.set 28 (some (false, .lst ((dyl g l).map .int)))).set 29 (some (false, .lst [])), D) from rfl)]
  have k0 : Kp [3, 14, 28, 29, 30] ρ ((ρ.set 28 (some (false, .lst ((dyl g l).map .int)))).set 29 (some (false, .lst []))) := (Kp.refl _ ρ).set.set
  have t28 : getS ((ρ.set 28 (some (false, .lst ((dyl g l).map .int)))).set 29 (some (false, .lst []))) 28 = some (.lst ((dyl g l).map .int)) := by simp [hl]
  have t29 : getS ((ρ.set 28 (some (false, .lst ((dyl g l).map .int)))).set 29 (some (false, .lst []))) 29 = some (.lst ([].map ET)) := by simp [hl]
  have t14 : getS ((ρ.set 28 (some (false, .lst ((dyl g l).map .int)))).set 29 (some (false, .lst []))) 14 = some (.lst (L.map ET)) := by simp [h14]
  have t3 : getS ((ρ.set 28 (some (false, .lst ((dyl g l).map .int)))).set 29 (some (false, .lst []))) 3 = some (.int k) := by simp [h3]
  generalize (ρ.set 28 (some (false, PV.lst ((dyl g l).map .int)))).set 29 (some (false, PV.lst [])) = τ at *
  obtain ⟨ρ', e, ⟨r1, r2⟩⟩ := ex_forP (Φ := P40) (D := D) (ρ := τ) (p := .nm 30) (it := .over (.var 14)) (b := .cons (.asg false 29 (.bin .add (.var 29) (.lc1 [37] (.bin .add (.var 30) (.tup (.cons (.var 37) .nil))) (.nm 37) (.over (.var 28)) (.cons (.cmp .eq (.lc1 [9] (.var 9) (.nm 9) (.rng1 (.var 3)) (.cons (.and_ (.cons (.cmp .lt (.var 37) (.bin .add (.idx (.var 30) (.var 9)) (.idx (.var 27) (.var 9)))) (.cons (.cmp .lt (.idx (.var 30) (.var 9)) (.bin .add (.var 37) (.idx (.var 27) (.var 3)))) .nil))) .nil)) (.lst .nil)) .nil)))) .nil) ET L
    (fun f ρ' => (Kp [3, 14, 28, 29, 30] ρ ρ' ∧ getS ρ' 3 = some (.int k) ∧ getS ρ' 28 = some (.lst ((dyl g l).map .int))) ∧ getS ρ' 29 = some (.lst (f.map ET))) (fun f row => f ++ ((dyl g l).filter fun d => fr row longs d l).map fun d => row ++ [d]) [] (evi_ov (by rw [ev_var, t14]; rfl)) ⟨⟨k0, t3, t28⟩, t29⟩ (fun pre row post ρ1 hx ⟨⟨hk1, g3, g28⟩, g29⟩ => by
      have l1 : ρ1.length = 43 := by rw [hk1.1, hl]
      have hrow : (row.length : Int) = k := hr row (by rw [hx]; simp)
      have fl : (pre.foldl (fun f row => f ++ ((dyl g l).filter fun d => fr row longs d l).map fun d => row ++ [d]) []).length ≤ 8000 := by
        have gen : ∀ pre : List (List Int), (pre.foldl (fun f row => f ++ ((dyl g l).filter fun d => fr row longs d l).map fun d => row ++ [d]) []).length ≤ 20 * pre.length := fun pre => by
          refine snoc_ind (P := fun (pre : List (List Int)) => (pre.foldl (fun f row => f ++ ((dyl g l).filter fun d => fr row longs d l).map fun d => row ++ [d]) []).length ≤ 20 * pre.length) (by simp) (fun pre row ih => ?_) pre
          have h3 := List.length_filter_le (fun d => fr row longs d l) (dyl g l)
          rw [List.foldl_append, List.foldl_cons, List.foldl_nil, List.length_append, List.length_map, List.length_append, List.length_singleton]
          omega
        have := gen pre
        have h2 := congrArg List.length hx
        rw [List.length_append] at h2
        omega
      generalize pre.foldl (fun f row => f ++ ((dyl g l).filter fun d => fr row longs d l).map fun d => row ++ [d]) [] = f at *
      have hk2 : Kp [3, 14, 28, 29, 30] ρ (ρ1.set 30 (some (false, ET row))) := hk1.set
      have q := lcP (Φ := P40) (D := D) (ρ := ρ1.set 30 (some (false, ET row))) (own := [37]) (ce := .bin .add (.var 30) (.tup (.cons (.var 37) .nil))) (pt := .nm 37) (ci := .over (.var 28)) (ct := .cons (.cmp .eq (.lc1 [9] (.var 9) (.nm 9) (.rng1 (.var 3)) (.cons (.and_ (.cons (.cmp .lt (.var 37) (.bin .add (.idx (.var 30) (.var 9)) (.idx (.var 27) (.var 9)))) (.cons (.cmp .lt (.idx (.var 30) (.var 9)) (.bin .add (.var 37) (.idx (.var 27) (.var 3)))) .nil))) .nil)) (.lst .nil)) .nil)
        PV.int (dyl g l) (fun d => fr row longs d l) (fun d => ET (row ++ [d])) (evi_ov (by simp [g28])) (fun d hd => by
          have u3 : getS ((ρ1.set 30 (some (false, ET row))).set 37 (some (false, .int d))) 3 = some (.int k) := by simp [g3]
          have u27 : getS ((ρ1.set 30 (some (false, ET row))).set 37 (some (false, .int d))) 27 = some (ET longs) := by
            have := hk2.2 27 (by decide)
            rw [getS_set, if_neg (by decide), this, h27]
          have u30 : getS ((ρ1.set 30 (some (false, ET row))).set 37 (some (false, .int d))) 30 = some (ET row) := by simp [l1]
          have u37 : getS ((ρ1.set 30 (some (false, ET row))).set 37 (some (false, .int d))) 37 = some (.int d) := by simp [l1]
          have ul : ((ρ1.set 30 (some (false, ET row))).set 37 (some (false, .int d))).length = 43 := by simp [l1]
          simp only [st1, bindP, wipE, List.set_set, Option.bind_some]
          generalize (ρ1.set 30 (some (false, ET row))).set 37 (some (false, PV.int d)) = υ at *
          have q2 := lcP (Φ := P40) (D := D) (ρ := υ) (own := [9]) (ce := .var 9) (pt := .nm 9) (ci := .rng1 (.var 3)) (ct := .cons (.and_ (.cons (.cmp .lt (.var 37) (.bin .add (.idx (.var 30) (.var 9)) (.idx (.var 27) (.var 9)))) (.cons (.cmp .lt (.idx (.var 30) (.var 9)) (.bin .add (.var 37) (.idx (.var 27) (.var 3)))) .nil))) .nil) PV.int (rg 0 k) (fun j => decide (d < row.getD j.toNat 0 + longs.getD j.toNat 0) && decide (row.getD j.toNat 0 < d + l)) PV.int (evi_r1 (by rw [ev_var, u3]; rfl) (by omega) (by omega)) (fun j hj => by
            obtain ⟨j0, j1⟩ := mem_rg.mp hj
            have i1 := ixT (W := row) j0 (by omega)
            have i2 := ixT (W := longs) j0 (by omega)
            generalize row.getD j.toNat 0 = rj at *
            generalize longs.getD j.toNat 0 = lj at *
            by_cases c1 : d < rj + lj
            · by_cases c2 : rj < d + l <;> simp [st1, bindP, wipE, ul, u3, u27, u30, u37, i1, i2, hlk, pCmp, c1, c2]
            · simp [st1, bindP, wipE, ul, u27, u30, u37, i1, i2, pCmp, c1])
          have fi := fr_iff (longs := longs) (row := row) (d := d) (l := l) (by omega)
          rw [hrow] at fi
          have c : ev P40 (.cmp .eq (.lc1 [9] (.var 9) (.nm 9) (.rng1 (.var 3)) (.cons (.and_ (.cons (.cmp .lt (.var 37) (.bin .add (.idx (.var 30) (.var 9)) (.idx (.var 27) (.var 9)))) (.cons (.cmp .lt (.idx (.var 30) (.var 9)) (.bin .add (.var 37) (.idx (.var 27) (.var 3)))) .nil))) .nil)) (.lst .nil)) υ D = some (.bl (fr row longs d l), D) := by
            rw [ev_cmp, q2, fi]
            simp only [Option.bind_some, ev_lst, evs_nil, Option.map_some, opd_lst, pCmp, pEq_lstN]
          rw [evt_one, c]
          have a := row_add (r := row) (k := d) (by omega)
          cases fr row longs d l <;> simp [u30, u37, a])
      have ad := lst_add (a := f.map ET) (b := ((dyl g l).filter fun d => fr row longs d l).map fun d => ET (row ++ [d])) (by
        have h3 := List.length_filter_le (fun d => fr row longs d l) (dyl g l)
        simp only [List.length_map]; omega)
      refine ⟨.nx, (ρ1.set 30 (some (false, ET row))).set 29 (some (false, .lst ((f ++ ((dyl g l).filter fun d => fr row longs d l).map fun d => row ++ [d]).map ET))), ?_, .inl rfl, ⟨hk2.set, by simp [g3], by simp [g28]⟩, by simp [l1]⟩
      have v29 : ev P40 (.var 29) (ρ1.set 30 (some (false, ET row))) D = some (.lst (f.map ET), D) := by simp [g29]
      show exs P40 _ (ρ1.set 30 (some (false, ET row))) D = _
      rw [exs_cons, ex_asg, ev_bin, v29, Option.bind_some, q, Option.bind_some, ad]
      simp [List.map_map, Function.comp_def])
  rw [xs_nx e]
  have fe : ∀ (xs f : List (List Int)), xs.foldl (fun f row => f ++ ((dyl g l).filter fun d => fr row longs d l).map fun d => row ++ [d]) f = f ++ xs.flatMap fun row => ((dyl g l).filter fun d => fr row longs d l).map fun d => row ++ [d] := fun xs => by
    induction xs with
    | nil => intro f; simp
    | cons x xs ih => intro f; rw [List.foldl_cons, ih, List.flatMap_cons, List.append_assoc]
  rw [fe, List.nil_append] at r2
  refine ⟨ρ'.set 14 (some (false, .lst ((lrow longs L (g, l)).map ET))), ?_, r1.1.set, by simp [r1.1.1, hl]⟩
  rw [exs_cons, ex_asg, ev_var, r2]
  rfl
theorem x24 (hl : ρ.length = 43) (hG : Gs gaps longs) (h15 : getS ρ 15 = some (.tup (gaps.map EG))) (h27 : getS ρ 27 = some (ET longs)) (h14 : getS ρ 14 = some (.lst ([[]].map ET))) : ∃ ρ', ex P40 b24 ρ D = some (.nx, ρ', D) ∧ Kp [3, 14, 28, 29, 30] ρ ρ' ∧ getS ρ' 14 = some (.lst (((gaps.zip longs).foldl (lrow longs) [[]]).map ET)) := by
  have gl := hG.len
  obtain ⟨ρ', e, r1, r2⟩ := ex_forP (Φ := P40) (D := D) (ρ := ρ) (p := .nm 3) (it := .rng1 (.bi .len (.cons (.var 15) .nil))) (b := .cons (.asg false 28 (.bi .sorted (.cons (.lc1 [37] (.var 37) (.nm 37) (.rng1 (.int 20)) (.cons (.cmp .ne (.lc1 [42] (.var 42) (.nm 42) (.over (.idx (.var 15) (.var 3))) (.cons (.and_ (.cons (.cmp .le (.idx (.var 42) (.int 0)) (.var 37)) (.cons (.cmp .le (.bin .add (.var 37) (.idx (.var 27) (.var 3))) (.idx (.var 42) (.int 1))) .nil))) .nil)) (.lst .nil)) .nil)) .nil))) (.cons (.asg false 29 (.lst .nil)) (.cons (.for_ (.nm 30) (.over (.var 14)) (.cons (.asg false 29 (.bin .add (.var 29) (.lc1 [37] (.bin .add (.var 30) (.tup (.cons (.var 37) .nil))) (.nm 37) (.over (.var 28)) (.cons (.cmp .eq (.lc1 [9] (.var 9) (.nm 9) (.rng1 (.var 3)) (.cons (.and_ (.cons (.cmp .lt (.var 37) (.bin .add (.idx (.var 30) (.var 9)) (.idx (.var 27) (.var 9)))) (.cons (.cmp .lt (.idx (.var 30) (.var 9)) (.bin .add (.var 37) (.idx (.var 27) (.var 3)))) .nil))) .nil)) (.lst .nil)) .nil)))) .nil)) (.cons (.asg false 14 (.var 29)) .nil)))) PV.int (rg 0 gaps.length)
    (fun L ρ' => Kp [3, 14, 28, 29, 30] ρ ρ' ∧ getS ρ' 14 = some (.lst (L.map ET))) (fun L k => lrow longs L (zk gaps longs k)) [[]] (evi_r1 (by simp [h15]) (by omega) (by omega)) ⟨Kp.refl _ ρ, h14⟩ (fun pre k post ρ1 hx ⟨hk1, g14⟩ => by
      obtain ⟨hkp, hkn⟩ := rg_at hx
      have hf : pre.foldl (fun L k => lrow longs L (zk gaps longs k)) [[]] = (pre.map (zk gaps longs)).foldl (lrow longs) [[]] := by rw [List.foldl_map]
      have b1 := lrow_lens (longs := longs) (pre.map (zk gaps longs)) [[]]
      have b2 := lrow_rows (longs := longs) (pre.map (zk gaps longs)) [[]] 0 (by simp)
      rw [← hf, List.length_map] at b1
      rw [← hf, List.length_map] at b2
      have b3 : (20 : Nat) ^ pre.length ≤ 20 ^ 2 := Nat.pow_le_pow_right (by omega) (by omega)
      generalize pre.foldl (fun L k => lrow longs L (zk gaps longs k)) [[]] = L at *
      have l1 : ρ1.length = 43 := by rw [hk1.1, hl]
      have hk2 : Kp [3, 14, 28, 29, 30] ρ (ρ1.set 3 (some (false, .int k))) := hk1.set
      have k15 := hk2.2 15 (by decide)
      have k27 := hk2.2 27 (by decide)
      obtain ⟨ρ', e, kk, r⟩ := x24a (D := D) (ρ := ρ1.set 3 (some (false, .int k))) (gaps := gaps) (longs := longs) (k := k) (g := (zk gaps longs k).1) (l := (zk gaps longs k).2) (L := L) (by simp [l1]) ⟨by omega, by omega⟩ (by simp [l1]) (by rw [k15, h15]) (by rw [k27, h27]) (by simp [g14])
        (by
          refine ix_tup EG (by omega) ?_
          unfold zk
          rw [List.getD_eq_getElem?_getD, List.getElem?_eq_getElem (by omega)]; rfl) (by
          have := ixT (W := longs) (k := k) (by omega) (by have := hG.ll; omega)
          exact this) (by have := hG.ll; omega) (by simp at b1; omega) (fun r hr => by have := b2 r hr; omega)
      refine ⟨.nx, ρ', e, .inl rfl, ⟨?_, ?_⟩, r⟩
      · rw [kk.1, hk2.1]
      · intro j hj
        rw [kk.2 j hj, hk2.2 j hj])
  refine ⟨ρ', e, r1, ?_⟩
  rw [r2, zip_zk hG.ll, List.foldl_map]
theorem ans_ag {L : List (List Int)} (h : ∀ r ∈ L, r.length ≤ 1000) : ag 2 (ans L) = true := by
  unfold ans
  cases L with
  | nil =>
    show (decide _ && (PySem.PyData.strOk "no" && true)) = true
    rw [str_ok.1]; rfl
  | cons r L => exact ag_yes (h r List.mem_cons_self)
theorem x25 (hG : Gs gaps longs) (h15 : getS ρ 15 = some (.tup (gaps.map EG))) (h27 : getS ρ 27 = some (ET longs)) (h14 : getS ρ 14 = some (.lst (((gaps.zip longs).foldl (lrow longs) [[]]).map ET))) : ex P40 b25 ρ D = some (.nx, ρ, D) := by
  have a := shared_ok (n := 38) (D := D) hG
  rw [bench_eq hG] at a
  have rl := lrow_rows (longs := longs) (gaps.zip longs) [[]] 0 (by simp)
  have gl := hG.len
  have hz : (gaps.zip longs).length ≤ 3 := by rw [List.length_zip]; omega
  generalize (gaps.zip longs).foldl (lrow longs) [[]] = L at *
  refine chk (k := 2) (v := ans L) (by simp [h15, h27, a]) ?_ (ans_ag fun r hr => by have := rl r hr; omega) (by decide)
  cases L with
  | nil =>
    rw [ev_ite, ev_cmp, ev_var, h14]
    have n0 : pCmp .ne (.lst ([].map ET)) (.lst []) = some false := rfl
    simp only [Option.map_some, Option.bind_some, ev_lst, evs_nil, opd_lst, n0, blOf_bl]
    rfl
  | cons r L =>
    have n0 : pCmp .ne (.lst ((r :: L).map ET)) (.lst []) = some true := by
      show (pEq _ _).map _ = _
      rw [pEq_rows]; rfl
    have i0 : pIdx (.lst ((r :: L).map ET)) (.int 0) = some (ET r) := ix_lst ET (by decide) rfl
    rw [ev_ite, ev_cmp, ev_var, h14]
    simp only [Option.map_some, Option.bind_some, ev_lst, evs_nil, opd_lst, n0, blOf_bl, if_true, ev_tup, evs_cons, ev_str, ev_idx, ev_var, h14, ev_int, i0]
    rfl
end
section
variable {ρ : Envi} {D : DS} {us : List U} {last most long many each gain limit : Int} {gaps : List (List (Int × Int))} {longs lives : List Int} {kinds : List (Int × Int)} {need : Int}
theorem x26 (h1 : getS ρ 1 = some (.shr 0)) (hw : Wst D) : ∃ (lives : List Int) (need : Int) (D' : DS), ex P40 b26 ρ D = some (.nx, (ρ.set 31 (some (false, ET lives))).set 32 (some (false, .int need)), D') ∧ Wst D' ∧ lives.length ≤ 3 ∧ (∀ x ∈ lives, 0 < x ∧ x < 100) ∧ 0 ≤ need ∧ need < 30 := by
  obtain ⟨r, D1, e1, r0, r1, w1⟩ := next40 (m := 4) hw (by decide)
  obtain ⟨lives, D2, e, w, ll, lq⟩ := lcX (Φ := P40) (D0 := D) (D := D1) (ρ := ρ) (own := [3]) (ce := .bin .add (.int 1) (.call 20 (.cons (.var 1) (.cons (.int 7) .nil)))) (pt := .nm 3) (ci := .rng1 (.call 20 (.cons (.var 1) (.cons (.int 4) .nil)))) (ct := .nil) PV.int (fun l => 0 < l ∧ l < 100) w1 (evi_r1 (m := r) (by simp [h1, e1]) (by omega) (by omega)) (fun x hx D hw => by
    obtain ⟨c, Dc, ec, c0, c1, wc⟩ := next40 (m := 7) hw (by decide)
    exact ⟨1 + c, Dc, by simp [st1, bindP, wipE, h1, ec], wc, by omega⟩)
  obtain ⟨p, Dp, ep, p0, p1, wp⟩ := next40 (m := 30) w (by decide)
  exact ⟨lives, p, Dp, by simp [b26, e, h1, ep, nms, storeT], wp, by rw [ll, List.length_map, rg_len]; omega, lq, p0, p1⟩
theorem x27 (h1 : getS ρ 1 = some (.shr 0)) (hw : Wst D) : ∃ (kinds : List (Int × Int)) (D' : DS), ex P40 b27 ρ D = some (.nx, (ρ.set 33 (some (false, .tup (kinds.map pv2)))).set 34 (some (false, .lst [])), D') ∧ Wst D' ∧ Ki kinds := by
  obtain ⟨r, D1, e1, r0, r1, w1⟩ := next40 (m := 2) hw (by decide)
  obtain ⟨kinds, D2, e, w, ll, lq⟩ := lcX (Φ := P40) (D0 := D) (D := D1) (ρ := ρ) (own := [3]) (ce := .tup (.cons (.bin .add (.int 1) (.call 20 (.cons (.var 1) (.cons (.int 9) .nil)))) (.cons (.call 20 (.cons (.var 1) (.cons (.int 9) .nil))) .nil))) (pt := .nm 3) (ci := .rng1 (.bin .add (.int 1) (.call 20 (.cons (.var 1) (.cons (.int 2) .nil))))) (ct := .nil) pv2 (fun q => 1 ≤ q.1 ∧ q.1 ≤ 9 ∧ 0 ≤ q.2 ∧ q.2 ≤ 9) w1 (evi_r1 (m := 1 + r) (by simp [h1, e1]) (by omega) (by omega)) (fun x hx D hw => by
    obtain ⟨c, Dc, ec, c0, c1, wc⟩ := next40 (m := 9) hw (by decide)
    obtain ⟨d, Dd, ed, d0, d1, wd⟩ := next40 (m := 9) wc (by decide)
    exact ⟨(1 + c, d), Dd, by simp [st1, bindP, wipE, h1, ec, ed, pv2], wd, by simp only; omega⟩)
  rw [List.length_map, rg_len] at ll
  exact ⟨kinds, D2, by simp [b27, e, nms, storeT], w, by omega, by omega, lq⟩
theorem getLast_some {q : Int × Int} {t : List (Int × Int)} : (q :: t).getLast? = some ((q :: t).getLastD (0, 0)) := by
  rw [List.getLastD_eq_getLast?]
  cases h : (q :: t).getLast? with
  | none => simp at h
  | some x => rfl
theorem ix_m1 {q : Int × Int} {t : List (Int × Int)} : pIdx (.tup ((q :: t).map pv2)) (.int (-1)) = some (pv2 ((q :: t).getLastD (0, 0))) := by
  have h := ix_last pv2 (L := q :: t) (x := (q :: t).getLastD (0, 0)) getLast_some
  exact h
theorem x28 (hl : ρ.length = 43) (hK : Ki kinds) (h32 : getS ρ 32 = some (.int need)) (h33 : getS ρ 33 = some (.tup (kinds.map pv2))) (h34 : getS ρ 34 = some (.lst [])) : ∃ ρ', ex P40 b28 ρ D = some (.nx, ρ', D) ∧ Kp [16, 34, 35, 36] ρ ρ' ∧ getS ρ' 34 = some (.lst ((lbest need kinds).map kc)) := by
  have i0 : pIdx (.tup (kinds.map pv2)) (.int 0) = some (pv2 (kinds.headD (0, 0))) := by
    cases kinds with
    | nil => exact absurd hK.l1 (by simp)
    | cons q t => exact ix_tup pv2 (by decide) rfl
  have im : pIdx (.tup (kinds.map pv2)) (.int (-1)) = some (pv2 (kinds.getLastD (0, 0))) := by
    cases kinds with
    | nil => exact absurd hK.l1 (by simp)
    | cons q t => exact ix_m1
  have hh : kinds.headD (0, 0) ∈ kinds := by
    cases kinds with
    | nil => exact absurd hK.l1 (by simp)
    | cons q t => exact List.mem_cons_self
  have hm : kinds.getLastD (0, 0) ∈ kinds := by
    cases kinds with
    | nil => exact absurd hK.l1 (by simp)
    | cons q t => exact List.mem_of_getLast? (l := q :: t) getLast_some
  have kh := hK.ok _ hh
  have kl := hK.ok _ hm
  have k2 := hK.l2
  have hbo : ∀ a, bbo need kinds a = if 1 < kinds.length then ceil (rst need kinds a) (kinds.getLastD (0, 0)).1 else 0 := fun a => rfl
  have hrs : ∀ a, rst need kinds a = if need - a * (kinds.headD (0, 0)).1 > 0 then need - a * (kinds.headD (0, 0)).1 else 0 := fun a => rfl
  have hlb : ∀ a, lbs need kinds a = if rst need kinds a = 0 ∨ 1 < kinds.length then [(a * (kinds.headD (0, 0)).2 + bbo need kinds a * (kinds.getLastD (0, 0)).2, [a, bbo need kinds a].take kinds.length)] else [] := fun a => rfl
  have p0 : ∀ q : Int × Int, pIdx (pv2 q) (.int 0) = some (.int q.1) := fun q => rfl
  have p1 : ∀ q : Int × Int, pIdx (pv2 q) (.int 1) = some (.int q.2) := fun q => rfl
  have po : ∀ (D : DS) (q : Int × Int), opd D (pv2 q) = some (pv2 q) := fun D q => rfl
  have ng : pNeg (.int 1) = some (.int (-1)) := rfl
  unfold lbest
  generalize kinds.headD (0, 0) = qh at *
  generalize kinds.getLastD (0, 0) = ql at *
  obtain ⟨ρ', e, ⟨r1, r2⟩⟩ := ex_forP (Φ := P40) (D := D) (ρ := ρ) (p := .nm 16) (it := .rng1 (.int 31)) (b := .cons (.asg false 35 (.bi .max (.cons (.int 0) (.cons (.bin .sub (.var 32) (.bin .mul (.var 16) (.idx (.idx (.var 33) (.int 0)) (.int 0)))) .nil)))) (.cons (.asg false 36 (.ite (.cmp .gt (.bi .len (.cons (.var 33) .nil)) (.int 1)) (.bin .div (.bin .sub (.bin .add (.var 35) (.idx (.idx (.var 33) (.neg (.int 1))) (.int 0))) (.int 1)) (.idx (.idx (.var 33) (.neg (.int 1))) (.int 0))) (.int 0))) (.cons (.asg false 34 (.bin .add (.var 34) (.ite (.or_ (.cons (.cmp .eq (.var 35) (.int 0)) (.cons (.cmp .gt (.bi .len (.cons (.var 33) .nil)) (.int 1)) .nil))) (.lst (.cons (.tup (.cons (.bin .add (.bin .mul (.var 16) (.idx (.idx (.var 33) (.int 0)) (.int 1))) (.bin .mul (.var 36) (.idx (.idx (.var 33) (.neg (.int 1))) (.int 1)))) (.cons (.cut (.tup (.cons (.var 16) (.cons (.var 36) .nil))) .nil (.cons (.bi .len (.cons (.var 33) .nil)) .nil)) .nil))) .nil)) (.lst .nil)))) .nil))) PV.int (rg 0 31)
    (fun (L : List (Int × List Int)) ρ' => Kp [16, 34, 35, 36] ρ ρ' ∧ getS ρ' 34 = some (.lst (L.map kc))) (fun L a => L ++ lbs need kinds a) [] rfl ⟨Kp.refl _ ρ, h34⟩ (fun pre a post ρ1 hx ⟨hk1, g34⟩ => by
      have hLl : (pre.foldl (fun L a => L ++ lbs need kinds a) []).length ≤ 31 := by
        have gen : ∀ pre : List Int, (pre.foldl (fun L a => L ++ lbs need kinds a) []).length ≤ pre.length := fun pre => by
          refine snoc_ind (P := fun (pre : List Int) => (pre.foldl (fun L a => L ++ lbs need kinds a) []).length ≤ pre.length) (by simp) (fun pre a ih => ?_) pre
          rw [List.foldl_append, List.foldl_cons, List.foldl_nil, List.length_append, List.length_append, List.length_singleton, hlb]
          split
          · rw [List.length_singleton]; omega
          · rw [List.length_nil]; omega
        have := gen pre
        have h2 := congrArg List.length hx
        rw [List.length_append, rg_len] at h2
        omega
      generalize pre.foldl (fun L a => L ++ lbs need kinds a) [] = L at *
      have l1 : ρ1.length = 43 := by rw [hk1.1, hl]
      have g32 : getS ρ1 32 = some (.int need) := by rw [hk1.2 32 (by decide), h32]
      have g33 : getS ρ1 33 = some (.tup (kinds.map pv2)) := by rw [hk1.2 33 (by decide), h33]
      have m1 := mul_ok (a := a) (b := qh.1) (by omega)
      have m2 := mul_ok (a := a) (b := qh.2) (by omega)
      have e35 : ev P40 (.bi .max (.cons (.int 0) (.cons (.bin .sub (.var 32) (.bin .mul (.var 16) (.idx (.idx (.var 33) (.int 0)) (.int 0)))) .nil))) (ρ1.set 16 (some (false, .int a))) D = some (.int (rst need kinds a), D) := by
        rw [hrs]
        simp [g32, g33, l1, i0, p0, po, m1, pBi]
      have e36 : ev P40 (.ite (.cmp .gt (.bi .len (.cons (.var 33) .nil)) (.int 1)) (.bin .div (.bin .sub (.bin .add (.var 35) (.idx (.idx (.var 33) (.neg (.int 1))) (.int 0))) (.int 1)) (.idx (.idx (.var 33) (.neg (.int 1))) (.int 0))) (.int 0)) ((ρ1.set 16 (some (false, .int a))).set 35 (some (false, .int (rst need kinds a)))) D = some (.int (bbo need kinds a), D) := by
        have d1 := div_ok (a := rst need kinds a + ql.1 - 1) (b := ql.1) (by omega) (by omega)
        rw [hbo]
        by_cases hc : 1 < kinds.length
        · rw [if_pos hc]
          have : (1 : Int) < kinds.length := by omega
          simp [g33, l1, im, p0, po, ng, d1, pCmp, this, ceil]
        · rw [if_neg hc]
          have : ¬ (1 : Int) < kinds.length := by omega
          simp [g33, l1, pCmp, this]
      have m3 := mul_ok (a := bbo need kinds a) (b := ql.2) (by omega)
      have cu := cut_pre (xs := [PV.int a, PV.int (bbo need kinds a)]) (j := (kinds.length : Int)) (by omega) (by simp; omega)
      have cu2 : [PV.int a, PV.int (bbo need kinds a)].take (kinds.length : Int).toNat = ([a, bbo need kinds a].take kinds.length).map .int := by rw [Int.toNat_natCast, List.map_take]; rfl
      rw [cu2] at cu
      have ad : ∀ M : List (Int × List Int), M.length ≤ 1 → pBin .add (.lst (L.map kc)) (.lst (M.map kc)) = some (.lst ((L ++ M).map kc)) := fun M hM => by
        rw [lst_add (by simp; omega), List.map_append]
      have hk2 : Kp [16, 34, 35, 36] ρ (((ρ1.set 16 (some (false, .int a))).set 35 (some (false, .int (rst need kinds a)))).set 36 (some (false, .int (bbo need kinds a)))) := ((hk1.set).set).set
      refine ⟨.nx, (((ρ1.set 16 (some (false, .int a))).set 35 (some (false, .int (rst need kinds a)))).set 36 (some (false, .int (bbo need kinds a)))).set 34 (some (false, .lst ((L ++ lbs need kinds a).map kc))), ?_, .inl rfl, hk2.set, by simp [l1]⟩
      show exs P40 _ (ρ1.set 16 (some (false, .int a))) D = _
      rw [exs_cons, ex_asg, e35]
      show exs P40 _ ((ρ1.set 16 (some (false, .int a))).set 35 (some (false, .int (rst need kinds a)))) D = _
      rw [exs_cons, ex_asg, e36]
      show exs P40 _ (((ρ1.set 16 (some (false, .int a))).set 35 (some (false, .int (rst need kinds a)))).set 36 (some (false, .int (bbo need kinds a)))) D = _
      have u16 : getS (((ρ1.set 16 (some (false, .int a))).set 35 (some (false, .int (rst need kinds a)))).set 36 (some (false, .int (bbo need kinds a)))) 16 = some (.int a) := by simp [l1]
      have u33 : getS (((ρ1.set 16 (some (false, .int a))).set 35 (some (false, .int (rst need kinds a)))).set 36 (some (false, .int (bbo need kinds a)))) 33 = some (.tup (kinds.map pv2)) := by simp [g33]
      have u34 : getS (((ρ1.set 16 (some (false, .int a))).set 35 (some (false, .int (rst need kinds a)))).set 36 (some (false, .int (bbo need kinds a)))) 34 = some (.lst (L.map kc)) := by simp [g34]
      have u35 : getS (((ρ1.set 16 (some (false, .int a))).set 35 (some (false, .int (rst need kinds a)))).set 36 (some (false, .int (bbo need kinds a)))) 35 = some (.int (rst need kinds a)) := by simp [l1]
      have u36 : getS (((ρ1.set 16 (some (false, .int a))).set 35 (some (false, .int (rst need kinds a)))).set 36 (some (false, .int (bbo need kinds a)))) 36 = some (.int (bbo need kinds a)) := by simp [l1]
      generalize (((ρ1.set 16 (some (false, .int a))).set 35 (some (false, .int (rst need kinds a)))).set 36 (some (false, .int (bbo need kinds a)))) = υ at *
      have tst : ev P40 (.or_ (.cons (.cmp .eq (.var 35) (.int 0)) (.cons (.cmp .gt (.bi .len (.cons (.var 33) .nil)) (.int 1)) .nil))) υ D = some (.bl (decide (rst need kinds a = 0 ∨ 1 < kinds.length)), D) := by
        generalize rst need kinds a = x at *
        by_cases h1 : x = 0
        · simp [u35, pCmp, h1]
        · by_cases h2 : 1 < kinds.length
          · have : (1 : Int) < kinds.length := by omega
            simp [u33, u35, pCmp, h1, h2, this]
          · have : ¬ (1 : Int) < kinds.length := by omega
            simp [u33, u35, pCmp, h1, h2, this]
      have val : ev P40 (.lst (.cons (.tup (.cons (.bin .add (.bin .mul (.var 16) (.idx (.idx (.var 33) (.int 0)) (.int 1))) (.bin .mul (.var 36) (.idx (.idx (.var 33) (.neg (.int 1))) (.int 1)))) (.cons (.cut (.tup (.cons (.var 16) (.cons (.var 36) .nil))) .nil (.cons (.bi .len (.cons (.var 33) .nil)) .nil)) .nil))) .nil)) υ D = some (.lst ([(a * qh.2 + bbo need kinds a * ql.2, [a, bbo need kinds a].take kinds.length)].map kc), D) := by
        simp [-List.map_take, u16, u33, u36, i0, im, ng, p1, po, m2, m3, pCut_tup, cu, kc]
      have v34 : ev P40 (.var 34) υ D = some (.lst (L.map kc), D) := by rw [ev_var, u34]; rfl
      rw [exs_cons, ex_asg, ev_bin, v34, Option.bind_some, ev_ite, tst, Option.bind_some, blOf_bl, Option.bind_some, hlb]
      by_cases hc : rst need kinds a = 0 ∨ 1 < kinds.length
      · rw [if_pos hc, if_pos (decide_eq_true hc), val, Option.bind_some, ad _ (by simp)]; rfl
      · rw [if_neg hc, if_neg (by simpa using hc)]
        have := ad [] (by simp)
        simp at this
        simp [this])
  have fe : ∀ (xs : List Int) (f : List (Int × List Int)), xs.foldl (fun L a => L ++ lbs need kinds a) f = f ++ xs.flatMap (lbs need kinds) := fun xs => by
    induction xs with
    | nil => intro f; simp
    | cons x xs ih => intro f; rw [List.foldl_cons, ih, List.flatMap_cons, List.append_assoc]
  rw [fe, List.nil_append] at r2
  exact ⟨ρ', e, r1, r2⟩
theorem x2930 (hl : ρ.length = 43) (hK : Ki kinds) (n0 : 0 ≤ need) (n1 : need < 30) (hll : lives.length ≤ 3) (hlv : ∀ x ∈ lives, 0 < x ∧ x < 100) (h31 : getS ρ 31 = some (ET lives)) (h32 : getS ρ 32 = some (.int need)) (h33 : getS ρ 33 = some (.tup (kinds.map pv2))) (h34 : getS ρ 34 = some (.lst ((lbest need kinds).map kc))) :
    ∃ ρ', exs P40 (.cons b29 (.cons b30 .nil)) ρ D = some (.nx, ρ', D) ∧ Kp [17] ρ ρ' := by
  obtain ⟨m, r, r', hp, hv⟩ := plan_eq hK n0 n1
  have hv := hv 38 D
  have e29 : ex P40 b29 ρ D = some (.nx, ρ.set 17 (some (false, kc (m, r))), D) := by simp [b29, h32, h33, hv]
  rw [xs_nx e29]
  refine ⟨ρ.set 17 (some (false, kc (m, r))), ?_, (Kp.refl _ ρ).set⟩
  have g17 : getS (ρ.set 17 (some (false, kc (m, r)))) 17 = some (kc (m, r)) := by simp [hl]
  have g31 : getS (ρ.set 17 (some (false, kc (m, r)))) 31 = some (ET lives) := by simp [h31]
  have g32 : getS (ρ.set 17 (some (false, kc (m, r)))) 32 = some (.int need) := by simp [h32]
  have g34 : getS (ρ.set 17 (some (false, kc (m, r)))) 34 = some (.lst ((lbest need kinds).map kc)) := by simp [h34]
  have gl : (ρ.set 17 (some (false, kc (m, r)))).length = 43 := by simp [hl]
  generalize ρ.set 17 (some (false, kc (m, r))) = τ at *
  have a := renewed_ok (n := 39) (D := D) (lives := lives) (need := need) n0 hlv
  have q := lcM (Φ := P40) (D := D) (ρ := τ) (own := [41]) (ce := .bin .div (.bin .sub (.bin .add (.var 32) (.var 41)) (.int 1)) (.var 41)) (pt := .nm 41) (ci := .over (.var 31)) (ct := .nil) PV.int lives (fun x => .int (ceil need x)) (evi_ovT (by rw [ev_var, g31]; rfl)) (fun x hx => by
    have hx := hlv x hx
    have d := div_ok (a := need + x - 1) (b := x) (by omega) (by omega)
    simp [st1, bindP, wipE, gl, g32, d, ceil])
  have e2 : ev P40 (.bi .tuple (.cons (.lc1 [41] (.bin .div (.bin .sub (.bin .add (.var 32) (.var 41)) (.int 1)) (.var 41)) (.nm 41) (.over (.var 31)) .nil) .nil)) τ D = some (ET (lives.map fun x => ceil need x), D) := by
    rw [ev_bi, evs_cons, q]
    simp [List.map_map, Function.comp_def]
  have k1 := alk (D := D) (m := 40) (v := ET (lives.map fun x => ceil need x)) (k := 1) (ag_ints (by simp; omega)) (by omega)
  have k2 := alk (D := D) (m := 40) (v := .int m) (k := 0) rfl (by omega)
  have pm : pBi .min [.lst ((lbest need kinds).map kc)] = some (kc (m, r')) := hp
  have c0 : ∀ r, pIdx (kc (m, r)) (.int 0) = some (.int m) := fun r => rfl
  have co : ∀ r, opd D (kc (m, r)) = some (kc (m, r)) := fun r => rfl
  have is1 : pIs .ttup (kc (m, r)) = some true := rfl
  have e1 : ev P40 (.call 16 (.cons (.var 31) (.cons (.var 32) .nil))) τ D = some (ET (lives.map fun x => ceil need x), D) := by simp only [ev_call, evs_cons, ev_var, g31, g32, Option.map_some, Option.bind_some, evs_nil, a]
  have t1 : ev P40 (.not_ (.call 22 (.cons (.call 16 (.cons (.var 31) (.cons (.var 32) .nil))) (.cons (.bi .tuple (.cons (.lc1 [41] (.bin .div (.bin .sub (.bin .add (.var 32) (.var 41)) (.int 1)) (.var 41)) (.nm 41) (.over (.var 31)) .nil) .nil)) .nil)))) τ D = some (.bl false, D) := by
    rw [ev_not, ev_call, evs_cons, e1, Option.bind_some, evs_cons, e2]
    simp only [Option.bind_some, evs_nil, Option.map_some, k1, blOf_bl, Bool.not_true]
  have e3 : ev P40 (.bi .min (.cons (.var 34) .nil)) τ D = some (kc (m, r'), D) := by
    rw [ev_bi, evs_cons, ev_var, g34]
    simp only [Option.map_some, Option.bind_some, evs_nil, mapO_cons, mapO_nil, opd_lst, pm]
  have t3 : ev P40 (.not_ (.call 22 (.cons (.idx (.var 17) (.int 0)) (.cons (.idx (.bi .min (.cons (.var 34) .nil)) (.int 0)) .nil)))) τ D = some (.bl false, D) := by
    rw [ev_not, ev_call, evs_cons, ev_idx, ev_var, g17]
    simp only [Option.map_some, Option.bind_some, ev_int, co, c0, evs_cons, ev_idx, e3, evs_nil, k2, blOf_bl, Bool.not_true]
  have t2 : ev P40 (.not_ (.isi .ttup (.var 17))) τ D = some (.bl false, D) := by
    rw [ev_not, ev_isi, ev_var, g17]
    simp only [Option.map_some, Option.bind_some, is1, blOf_bl, Bool.not_true]
  unfold b30
  rw [exs_cons, ex_ife, ev_or, evor_cons, t1, Option.bind_some, blOf_bl, Option.bind_some]
  simp only [Bool.false_eq_true, if_false]
  rw [evor_cons, t2, Option.bind_some, blOf_bl, Option.bind_some]
  simp only [Bool.false_eq_true, if_false]
  rw [evor_one, t3]
  simp
theorem x31 (h : G ρ us last most long) (hU : Us us) (hw : Wst D) : ex P40 b31 ρ D = some (.nx, ρ, D) := by
  obtain ⟨ds, a, rfl, _⟩ := hw
  have j := judged_ok hU (wD ds a)
  simp [b31, h.s18, j]
/-! ### a turn -/
theorem go {s : CS} {r : CSs} {ρ1 : Envi} {D1 : DS} {Q : Envi → DS → Prop} (h : ex P40 s ρ D = some (.nx, ρ1, D1)) (k : ∃ ρ' D', exs P40 r ρ1 D1 = some (.nx, ρ', D') ∧ Q ρ' D') : ∃ ρ' D', exs P40 (.cons s r) ρ D = some (.nx, ρ', D') ∧ Q ρ' D' := by
  rw [xs_nx h]; exact k
theorem go2 {s t : CS} {r : CSs} {ρ1 : Envi} {D1 : DS} {Q : Envi → DS → Prop} (h : exs P40 (.cons s (.cons t .nil)) ρ D = some (.nx, ρ1, D1)) (k : ∃ ρ' D', exs P40 r ρ1 D1 = some (.nx, ρ', D') ∧ Q ρ' D') : ∃ ρ' D', exs P40 (.cons s (.cons t r)) ρ D = some (.nx, ρ', D') ∧ Q ρ' D' := by
  rw [exs_cons] at h ⊢
  cases e : ex P40 s ρ D with
  | none => rw [e] at h; cases h
  | some q =>
    obtain ⟨o, ρ2, D2⟩ := q
    rw [e] at h
    cases o with
    | nx =>
      have h : exs P40 (.cons t .nil) ρ2 D2 = some (.nx, ρ1, D1) := h
      show ∃ ρ' D', exs P40 (.cons t r) ρ2 D2 = _ ∧ _
      rw [exs_cons] at h ⊢
      cases e2 : ex P40 t ρ2 D2 with
      | none => rw [e2] at h; cases h
      | some q =>
        obtain ⟨o, ρ3, D3⟩ := q
        rw [e2] at h
        cases o with
        | nx =>
          have h : some (Out.nx, ρ3, D3) = some (.nx, ρ1, D1) := h
          cases h
          exact k
        | _ => cases h
    | _ => cases h
theorem turn_ok (hl : ρ.length = 43) (hw : Wst D) (h1 : getS ρ 1 = some (.shr 0)) : ∃ ρ' D', exs P40 bod ρ D = some (.nx, ρ', D') ∧ (ρ'.length = 43 ∧ getS ρ' 1 = some (.shr 0) ∧ Wst D') := by
  unfold bod
  obtain ⟨us, ρ1, D1, e01, w1, l1, g1, g18, hU⟩ := x01 hl h1 hw
  refine go2 e01 ?_
  obtain ⟨last, most, long, ρ2, D2, e2, w2, hg, b1, b2, b3, b4, b5, b6⟩ := x2 l1 g1 g18 w1
  refine go e2 ?_
  obtain ⟨ρ3, e34, hg3, s4⟩ := x34 (D := D2) hg b1 b2
  refine go2 e34 ?_
  refine gof hg3.s18 (go (x5 hg3 hU) (gof hg3.s18 (go (x6 hg3 hU b1 b2 s4) ?_)))
  obtain ⟨some_, D3, e7, w3, sl, sb⟩ := x7 hg3 hU w2
  refine go e7 ?_
  have hg4 : G (ρ3.set 6 (some (false, ET some_))) us last most long := hg3.set
  have s6 : getS (ρ3.set 6 (some (false, ET some_))) 6 = some (ET some_) := by simp [hg3.len]
  generalize ρ3.set 6 (some (false, ET some_)) = τ at *
  refine gof hg4.s18 (go (x8 hg4 hU s6 sb) (gof hg4.s18 ?_))
  obtain ⟨Ls, L1, L2, L3, L4⟩ := law_sets_ok (m := (us.length : Int)) (by omega) (by have := hU.len; omega)
  have hL : LS Ls us := ⟨L1, L2, L3, L4⟩
  refine go (x9 hg4 hU hL) ?_
  have hg5 : G (τ.set 7 (some (false, .lst ((sers Ls us most long last).map ET)))) us last most long := hg4.set
  have t7 : getS (τ.set 7 (some (false, .lst ((sers Ls us most long last).map ET)))) 7 = some (.lst ((sers Ls us most long last).map ET)) := by simp [hg4.len]
  have t6 : getS (τ.set 7 (some (false, .lst ((sers Ls us most long last).map ET)))) 6 = some (ET some_) := by simp [s6]
  generalize τ.set 7 (some (false, PV.lst ((sers Ls us most long last).map ET))) = υ at *
  obtain ⟨ρ4, e1011, k1, u8⟩ := x1011 (D := D3) hg5 hU
  refine go2 e1011 ?_
  have hg6 := k1.G hg5
  have u7 := (k1.2 7 (by decide)).trans t7
  have u6 := (k1.2 6 (by decide)).trans t6
  refine gof hg6.s18 (go (x12 hg6 hU hL u7 u8) ?_)
  obtain ⟨many, D4, e13, w4, m0, m1⟩ := x13 hg6 w3
  refine go e13 (gof (i := 18) (v := EU us) (by simp [hg6.s18]) ?_)
  have hg7 : G (ρ4.set 10 (some (false, .int many))) us last most long := hg6.set
  have v10 : getS (ρ4.set 10 (some (false, .int many))) 10 = some (.int many) := by simp [hg6.len]
  have v6 : getS (ρ4.set 10 (some (false, .int many))) 6 = some (ET some_) := by simp [u6]
  generalize ρ4.set 10 (some (false, PV.int many)) = φ at *
  refine go (x14 hg7 hU hL v10) ?_
  have hg8 : G (φ.set 11 (some (false, .lst (((rg 0 (tot us + 1)).filter (okm us many long last)).map .int)))) us last most long := hg7.set
  have w11 : getS (φ.set 11 (some (false, .lst (((rg 0 (tot us + 1)).filter (okm us many long last)).map .int)))) 11 = some (.lst (((rg 0 (tot us + 1)).filter (okm us many long last)).map .int)) := by simp [hg7.len]
  have w10 : getS (φ.set 11 (some (false, .lst (((rg 0 (tot us + 1)).filter (okm us many long last)).map .int)))) 10 = some (.int many) := by simp [v10]
  have w6 : getS (φ.set 11 (some (false, .lst (((rg 0 (tot us + 1)).filter (okm us many long last)).map .int)))) 6 = some (ET some_) := by simp [v6]
  generalize φ.set 11 (some (false, PV.lst (((rg 0 (tot us + 1)).filter (okm us many long last)).map .int))) = χ at *
  refine gof hg8.s18 (go (x15 hg8 hU m0 w6 w10 w11) ?_)
  obtain ⟨each, gain, limit, D5, e16, w5, n0, n1⟩ := x16 hg8 w4
  refine go e16 ?_
  have hg9 : G (((χ.set 24 (some (false, .int each))).set 25 (some (false, .int gain))).set 26 (some (false, .int limit))) us last most long := (hg8.set).set.set
  have y6 : getS (((χ.set 24 (some (false, .int each))).set 25 (some (false, .int gain))).set 26 (some (false, .int limit))) 6 = some (ET some_) := by simp [w6]
  have y10 : getS (((χ.set 24 (some (false, .int each))).set 25 (some (false, .int gain))).set 26 (some (false, .int limit))) 10 = some (.int many) := by simp [w10]
  have y24 : getS (((χ.set 24 (some (false, .int each))).set 25 (some (false, .int gain))).set 26 (some (false, .int limit))) 24 = some (.int each) := by simp [hg8.len]
  have y25 : getS (((χ.set 24 (some (false, .int each))).set 25 (some (false, .int gain))).set 26 (some (false, .int limit))) 25 = some (.int gain) := by simp [hg8.len]
  have y26 : getS (((χ.set 24 (some (false, .int each))).set 25 (some (false, .int gain))).set 26 (some (false, .int limit))) 26 = some (.int limit) := by simp [hg8.len]
  generalize (((χ.set 24 (some (false, PV.int each))).set 25 (some (false, PV.int gain))).set 26 (some (false, PV.int limit))) = ψ at *
  refine gof hg9.s18 (go (x17 hg9 hU y6 y24 y25) ?_)
  have hg10 : G (ψ.set 12 (some (false, ET (wear us some_ each gain)))) us last most long := hg9.set
  refine go (x18 (us := us) (some_ := some_) (each := each) (gain := gain) (limit := limit) hg10 hU (by simp [hg9.len]) (by simp [y26])) ?_
  have hg11 : G ((ψ.set 12 (some (false, ET (wear us some_ each gain)))).set 13 (some (false, .lst ((abv (wear us some_ each gain) limit).map .int)))) us last most long := hg10.set
  refine gof hg11.s18 (go (x19 (many := many) (each := each) (gain := gain) hg11 hU hL (by simp [y10]) (by simp [y24]) (by simp [y25])) ?_)
  have hg12 : G (((ψ.set 12 (some (false, ET (wear us some_ each gain)))).set 13 (some (false, .lst ((abv (wear us some_ each gain) limit).map .int)))).set 14 (some (false, .lst ((fews Ls us many long last).map (kw us each gain))))) us last most long := hg11.set
  refine gof hg12.s18 (go (x20 (us := us) (some_ := some_) (each := each) (gain := gain) (limit := limit) hg12 hU (by simp [y6]) (by simp [y24]) (by simp [y25]) (by simp [y26]) (by simp [hg9.len]) (by rw [getS_set, if_neg (by decide), getS_set, if_pos rfl, if_pos (by simp [hg9.len])])) ?_)
  refine gof hg12.s18 (go (x21 (many := many) (each := each) (gain := gain) hg12 hU hL m0 (by simp [y10]) (by simp [y24]) (by simp [y25]) (by rw [getS_set, if_pos rfl, if_pos (by simp [hg9.len])])) ?_)
  generalize ((ψ.set 12 (some (false, ET (wear us some_ each gain)))).set 13 (some (false, PV.lst ((abv (wear us some_ each gain) limit).map .int)))).set 14 (some (false, PV.lst ((fews Ls us many long last).map (kw us each gain)))) = α at *
  clear hg11 hg10 y6 y10 y24 y25 y26 hg9 hg8 hg7 hg6 hg5 hg4 hg3 hg
  obtain ⟨gaps, D6, e22, w6', gl, gq⟩ := x22 hg12.len hg12.s1 w5
  refine go e22 ?_
  have hg13 : G (α.set 15 (some (false, .tup (gaps.map EG)))) us last most long := hg12.set
  have z15 : getS (α.set 15 (some (false, .tup (gaps.map EG)))) 15 = some (.tup (gaps.map EG)) := by simp [hg12.len]
  generalize α.set 15 (some (false, PV.tup (gaps.map EG))) = β at *
  obtain ⟨longs, D7, e23, w7, ll, lq⟩ := x23 hg13.len hg13.s1 z15 w6'
  refine go e23 ?_
  have hG : Gs gaps longs := ⟨gl, ll, gq, lq⟩
  have hg14 : G ((β.set 27 (some (false, ET longs))).set 14 (some (false, .lst ([[]].map ET)))) us last most long := (hg13.set).set
  obtain ⟨ρ5, e24, k2, a14⟩ := x24 (ρ := (β.set 27 (some (false, ET longs))).set 14 (some (false, .lst ([[]].map ET)))) (D := D7) (gaps := gaps) (longs := longs) hg14.len hG (by simp [z15]) (by simp [hg13.len]) (by rw [getS_set, if_pos rfl, if_pos (by simp [hg13.len])])
  refine go e24 ?_
  have hg15 := k2.G hg14
  refine go (x25 (gaps := gaps) (longs := longs) hG ?_ ?_ a14) ?_
  · rw [k2.2 15 (by decide)]; simp [z15]
  · rw [k2.2 27 (by decide)]; simp [hg13.len]
  obtain ⟨lives, need, D8, e26, w8, lv1, lv2, nd0, nd1⟩ := x26 hg15.s1 w7
  refine go e26 ?_
  have hg16 : G ((ρ5.set 31 (some (false, ET lives))).set 32 (some (false, .int need))) us last most long := (hg15.set).set
  have b31' : getS ((ρ5.set 31 (some (false, ET lives))).set 32 (some (false, .int need))) 31 = some (ET lives) := by simp [hg15.len]
  have b32' : getS ((ρ5.set 31 (some (false, ET lives))).set 32 (some (false, .int need))) 32 = some (.int need) := by simp [hg15.len]
  generalize (ρ5.set 31 (some (false, ET lives))).set 32 (some (false, PV.int need)) = γ at *
  obtain ⟨kinds, D9, e27, w9, hK⟩ := x27 hg16.s1 w8
  refine go e27 ?_
  have hg17 : G ((γ.set 33 (some (false, .tup (kinds.map pv2)))).set 34 (some (false, .lst []))) us last most long := (hg16.set).set
  obtain ⟨ρ6, e28, k3, c34⟩ := x28 (ρ := (γ.set 33 (some (false, .tup (kinds.map pv2)))).set 34 (some (false, .lst []))) (D := D9) (kinds := kinds) (need := need) hg17.len hK (by simp [b32']) (by simp [hg16.len]) (by simp [hg16.len])
  refine go e28 ?_
  have hg18 := k3.G hg17
  obtain ⟨ρ7, e2930, k4⟩ := x2930 (D := D9) (ρ := ρ6) (kinds := kinds) (need := need) (lives := lives) hg18.len hK nd0 nd1 lv1 lv2 (by rw [k3.2 31 (by decide)]; simp [b31']) (by rw [k3.2 32 (by decide)]; simp [b32']) (by rw [k3.2 33 (by decide)]; simp [hg16.len]) c34
  refine go2 e2930 ?_
  have hg19 := k4.G hg18
  refine gof hg19.s18 (go (x31 hg19 hU w9) ?_)
  exact ⟨ρ7, D9, rfl, hg19.len, hg19.s1, w9⟩
end
end MP.K13

namespace MP.K13
open PySem MP
theorem law_true : ∀ ns : List Int, ns.length ≤ 63 → ∃ D, sem DD 41 30 [.scr ns] [] = some (.bl true, D) := by
  intro ns hn
  obtain ⟨ds, e1, hd⟩ := draws_ok (q0 := 500) (Φ := sem DD 39) (D0 := []) hn
  have e1 : sem DD 40 19 [.scr ns, .int 500] [] = some (.lst (ds.map .int), []) := by
    rw [r_f__law_draws]
    exact e1
  have w0 : Wst [wD ds 0] := ⟨ds, 0, rfl, by decide, hd⟩
  have s1 : ex P40 (.asgS 1 (.dsp 0 (.cons (.str "draws") (.call 19 (.cons (.var 0) (.cons (.int 500) .nil))) (.cons (.str "at") (.int 0) .nil)))) (some (false, .scr ns) :: List.replicate 42 none) [] = some (.nx, (some (false, .scr ns) :: List.replicate 42 none).set 1 (some (false, .shr 0)), [wD ds 0]) := by
    have v0 : ev P40 (.var 0) (some (false, .scr ns) :: List.replicate 42 none) [] = some (.scr ns, []) := rfl
    have dm : dMerge [] [(PV.str "draws", PV.lst (ds.map .int)), (PV.str "at", PV.int 0)] = [(PV.str "draws", PV.lst (ds.map .int)), (PV.str "at", PV.int 0)] := by
      rw [dMerge, dMerge, dMerge]
      simp [dPut, k1]
    rw [ex_asgS, ev_dsp, evd_cons, ev_str, Option.bind_some, ev_call, evs_cons, v0, Option.bind_some, evs_cons, ev_int, Option.bind_some, evs_nil, Option.map_some, Option.map_some, Option.bind_some]
    show ((((sem DD 40 19 [.scr ns, .int 500] []).bind _).bind _).map _) = _
    rw [e1, Option.bind_some, evd_cons, ev_str, Option.bind_some, ev_int, Option.bind_some, evd_nil, Option.map_some, Option.map_some, Option.bind_some]
    rw [if_pos (by rfl), dm]
    rfl
  obtain ⟨ρ', D', e2, hl, h1, hw⟩ := for_inv (f := fun x ρ D => (bindP (.nm 2) x ρ).bind fun ρ1 => exs P40 bod ρ1 D) (xs := rngL 0 7) (ρ := (some (false, .scr ns) :: List.replicate 42 none).set 1 (some (false, .shr 0))) (D := [wD ds 0])
    (I := fun i ρ' D' => ρ'.length = 43 ∧ getS ρ' 1 = some (.shr 0) ∧ Wst D') (h0 := ⟨rfl, rfl, w0⟩)
    (fun i x ρ D hx ⟨hl, h1, hw⟩ => by
      obtain ⟨ρ', D', e, h⟩ := turn_ok (ρ := ρ.set 2 (some (false, x))) (D := D) (by rw [List.length_set, hl]) hw (by rw [getS_set, if_neg (by decide)]; exact h1)
      refine ⟨.nx, ρ', D', ?_, .inl rfl, h⟩
      show (bindP (.nm 2) x ρ).bind (fun ρ1 => exs P40 bod ρ1 D) = _
      rw [show bindP (.nm 2) x ρ = some (ρ.set 2 (some (false, x))) from rfl, Option.bind_some]
      exact e)
  have s2 : ex P40 (.for_ (.nm 2) (.rng1 (.int 7)) bod) ((some (false, .scr ns) :: List.replicate 42 none).set 1 (some (false, .shr 0))) [wD ds 0] = some (.nx, ρ', D') := by
    rw [ex_for, show evi P40 (.rng1 (.int 7)) ((some (false, .scr ns) :: List.replicate 42 none).set 1 (some (false, .shr 0))) [wD ds 0] = some (rngL 0 7, [wD ds 0]) from rfl, Option.bind_some]
    exact e2
  obtain ⟨ds', at', rfl, _⟩ := hw
  refine ⟨[], ?_⟩
  rw [r_f_law]
  unfold Def.run
  rw [if_pos (show [PV.scr ns].length = 1 from rfl)]
  have ee : exs (sem DD 40) c_f_law (some (false, .scr ns) :: List.replicate 42 none) [] = some (.rt (.bl true), ρ', [wD ds' at']) := by
    rw [law_eq, xs_nx s1, xs_nx s2]
    rfl
  show ((exs (sem DD 40) c_f_law (some (false, .scr ns) :: List.replicate 42 none) []).bind _) = _
  rw [ee]
  rfl
end MP.K13

open PySem PySem.W PySem.Calls PyProof.Rows
theorem PySem.Challenge.cw_toolslent_k13_service_between_loans_holds : PySem.Challenge.rw_toolslent_k13_service_between_loans.Holds := by
  w_on; o_law
  refine HandSHeadRun.head_any (r := OpenLaw.row PySem.Challenge.rw_toolslent_k13_service_between_loans) (q := view (OpenLaw.row PySem.Challenge.rw_toolslent_k13_service_between_loans).prog [33]) (H := MP.K13.hk) (ob := MP.K13.ob) (M := 4000) (loose := MP.K13.loose) (d := HandSHeadRun.topDef (OpenLaw.row PySem.Challenge.rw_toolslent_k13_service_between_loans).prog 33) (kwd := []) MP.K13.ob_eq
    (by kernel_rfl) (fun s => by kernel_rfl) MP.K13.run (by kernel_rfl) (by kernel_rfl) (by kernel_rfl) (by rfl) (by first | assumption | decide +kernel) (by decide +kernel) ⟨rfl, rfl, rfl, rfl, rfl, by decide +kernel⟩ ?hw ?hc
  case hw => w_witness2
  case hc =>
    refine L2.walk_ofE (l := PySem.Challenge.rw_toolslent_k13_service_between_loans) (n := 63) (k := 41) (x := "script") (CX := L2.CX0) rfl (by decide) (by kernel_rfl) ⟨rfl, by decide, by decide⟩ ?F (fun _ _ _ _ z => z)
    intro w mg fa h Y G hmg0
    obtain ⟨K, KX, c⟩ := Y
    have hmg : mg ("law" : PySem.Str) = some (.ref fa) := by
      have e : (HandSHeadRun.topDef (OpenLaw.row PySem.Challenge.rw_toolslent_k13_service_between_loans).prog 33).name = ("law" : PySem.Str) := by kernel_rfl
      rw [← e]
      exact hmg0
    obtain ⟨fd, hb, hF⟩ := MP.K13.facts (P := (PySem.Challenge.rw_toolslent_k13_service_between_loans).prog) (w := w) KX G hmg c
    exact ⟨K, fd, _, KX, hb, MP.law_sp MP.K13.law_true, hF⟩

