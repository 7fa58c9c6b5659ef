import PyProof.Rows.All
import Wide.All
import OpenK.AllK
import Wide.FinOn
import KE.KStateDown
import Lean
import HandS.Base
import HandS.Call
import HandS.Ends
import HandS.More
import HandS.Words
import HandS.WordsExc
import HandS.Defaults
import HandS.Head0
import HandS.Head1
import HandS.Head2
import HandS.HeadEnd
import HandS.HeadHook1
import HandS.HeadHook2
import PyProof.ReprReads
import KE.SortData
import HandS.ForMost
import HandS.Exc
import KE.KExcIs
import KE.KExcInit
import HandS.TupAny
import HandS.Conv
import KE.KIndexWalk
import HandS.TupMul
import HandS.Style
import HandS.Flow
import HandS.SortInts
import HandS.SortKw
import HandS.Deep
import HandS.ForExc
import HandS.Codes
import HandS.Zip
import HandS.Walk
import KE.GoesMore
import KE.GoesZip
import KE.GoesEnum
import KE.GoesEnumKw
import HandS.Comp
import HandS.IsInst
import PyProof.ReprRoads
import HandS.ExcInit
import PyProof.ExcFactsAll.ValueError
import PyProof.ExcFactsAll.LookupError
import PyProof.ExcFactsAll.RuntimeError
import PyProof.ExcFactsAll.OverflowError
import PyProof.ExcBaseAll.LookupError
import PyProof.ExcBaseAll.RuntimeError
import PyProof.ExcBaseAll.OverflowError
import PyProof.ExcBaseAll.ValueError
import KE.KTryMore
import KE.KUnpackStar
import HandS.SetFor
import HandS.TupSets
import KE.GoesSet
import PySem.Challenge.RW_balconyrow_k08_whole_seen_from_either_en
set_option Elab.async false
set_option linter.all false
/-! MPLang: a small language of clean values (tuples and lists by value, cells for what is changed), as total functions. -/
namespace MP
open PySem (Str Operator CmpOp PyData)
inductive Val where
  | non | bl (b : Bool) | int (i : Int) | str (x : Str) | tup (xs : List Val) | lst (xs : List Val) | ref (n : Nat) | scr (ns : List Int)
  | set (xs : List Val) | dct (ks vs : List Val) | exc (c : Nat) (fs : List Val)
  deriving Inhabited
inductive Cell where
  | lst (xs : List Val) | dct (ks vs : List Val) | ins (c : Nat) (fs : List Val)
  deriving Inhabited
abbrev M := List Cell
abbrev Env := List (Option Val)
-- no reference within
mutual
def Val.pure : Val → Bool
  | .ref _ => false
  | .tup xs => pureL xs
  | .lst xs => pureL xs
  | .set xs => pureL xs
  | .dct ks vs => pureL ks && pureL vs
  | .exc _ fs => pureL fs
  | _ => true
def pureL : List Val → Bool
  | [] => true
  | x :: r => x.pure && pureL r
end
mutual
def Val.same : Val → Val → Bool
  | .non, .non => true
  | .bl a, .bl b => a == b
  | .int a, .int b => a == b
  | .str a, .str b => a == b
  | .tup xs, .tup ys => sameL xs ys
  | .lst xs, .lst ys => sameL xs ys
  | .ref a, .ref b => a == b
  | .scr a, .scr b => a == b
  | .set xs, .set ys => sameL xs ys
  | .dct a b, .dct c d => sameL a c && sameL b d
  | .exc a b, .exc c d => a == c && sameL b d
  | _, _ => false
def sameL : List Val → List Val → Bool
  | [], [] => true
  | x :: xs, y :: ys => x.same y && sameL xs ys
  | _, _ => false
end
def Cell.same : Cell → Cell → Bool
  | .lst xs, .lst ys => sameL xs ys
  | .dct a b, .dct c d => sameL a c && sameL b d
  | .ins a b, .ins c d => a == c && sameL b d
  | _, _ => false
-- Python's == of clean values
mutual
def Val.eqv : Val → Val → Bool
  | .non, .non => true
  | .bl a, .bl b => a == b
  | .bl a, .int b => (if a then 1 else 0) == b
  | .int a, .bl b => a == (if b then 1 else 0)
  | .int a, .int b => a == b
  | .str a, .str b => a == b
  | .tup xs, .tup ys => eqvL xs ys
  | .lst xs, .lst ys => eqvL xs ys
  | _, _ => false
def eqvL : List Val → List Val → Bool
  | [], [] => true
  | x :: xs, y :: ys => x.eqv y && eqvL xs ys
  | _, _ => false
end
inductive R (α : Type) where
  | ok (a : α) (m : M) | exc (c : Nat) (fs : List Val) (m : M) | stuck
@[reducible] def R.bind {α β : Type} : R α → (α → M → R β) → R β
  | .ok a m, k => k a m
  | .exc c fs m, _ => .exc c fs m
  | .stuck, _ => .stuck
/-- an exception is not served here -/
def R.nox {α : Type} : R α → R α
  | .exc _ _ _ => .stuck
  | r => r
def opt {α : Type} (o : Option α) (m : M) : R α := match o with
  | some a => .ok a m
  | none => .stuck
/-- what a reference to a list or a dict shows -/
def dr (m : M) : Val → Val
  | .ref n => match m[n]? with
    | some (.lst xs) => .lst xs
    | some (.dct ks vs) => .dct ks vs
    | _ => .ref n
  | v => v
-- references from n on told by value
mutual
def frz (n : Nat) (m : M) : Nat → Val → Option Val
  | 0, _ => none
  | f + 1, .ref k => if k < n then some (.ref k) else match m[k]? with
    | some (.lst xs) => if pureL xs then some (.lst xs) else (frzL n m f xs).map .lst
    | some (.dct ks vs) => if pureL ks && pureL vs then some (.dct ks vs) else (frzL n m f ks).bind fun ks => (frzL n m f vs).map (.dct ks)
    | _ => none
  | f + 1, .tup xs => (frzL n m f xs).map .tup
  | f + 1, .lst xs => (frzL n m f xs).map .lst
  | f + 1, v => if v.pure then some v else none
def frzL (n : Nat) (m : M) : Nat → List Val → Option (List Val)
  | _, [] => some []
  | 0, _ => none
  | f + 1, x :: r => (frz n m f x).bind fun x => (frzL n m f r).map (x :: ·)
end
def FUEL : Nat := 4096
/-! ### operators -/
def LINE : Nat := 16777216
def smallI (i : Int) : Bool := decide (-(2 ^ 64) < i ∧ i < 2 ^ 64)
def small63 (i : Int) : Bool := decide (-(2 ^ 63) ≤ i ∧ i < 2 ^ 63)
def repL (xs : List Val) (k : Nat) : List Val := (List.replicate k xs).flatten
def bAdd : Val → Val → Option Val
  | .int i, .int j => some (.int (i + j))
  | .str a, .str b => if a.length + b.length ≤ LINE then some (.str (a ++ b)) else none
  | .lst xs, .lst ys => if xs.length + ys.length ≤ LINE then some (.lst (xs ++ ys)) else none
  | .tup xs, .tup ys => if xs.length + ys.length ≤ LINE then some (.tup (xs ++ ys)) else none
  | _, _ => none
def bSub : Val → Val → Option Val
  | .int i, .int j => some (.int (i - j))
  | _, _ => none
def bMul : Val → Val → Option Val
  | .int i, .int j => if smallI i || smallI j then some (.int (i * j)) else none
  | .lst xs, .int k => if small63 k && decide (xs.length * k.toNat ≤ LINE) then some (.lst (repL xs k.toNat)) else none
  | _, _ => none
def bDiv : Val → Val → Option Val
  | .int i, .int j => if decide (0 < j ∧ j < 2 ^ 200) then some (.int (i / j)) else none
  | _, _ => none
def bMod : Val → Val → Option Val
  | .int i, .int j => if decide (0 < j) then some (.int (i % j)) else none
  | _, _ => none
def bPow : Val → Val → Option Val
  | .int i, .int j => if decide (0 ≤ j ∧ j ≤ 1000000 ∧ i.natAbs < 2 ^ 64) then some (.int (i ^ j.toNat)) else none
  | _, _ => none
def bop : Operator → Val → Val → Option Val
  | .Add => bAdd
  | .Sub => bSub
  | .Mult => bMul
  | .FloorDiv => bDiv
  | .Mod => bMod
  | .Pow => bPow
  | _ => fun _ _ => none
def keyIn (k : Val) : List Val → Bool
  | [] => false
  | x :: r => x.eqv k || keyIn k r
def valOf (k : Val) : List Val → List Val → Option Val
  | x :: r, v :: w => if x.eqv k then some v else valOf k r w
  | _, _ => none
def putK (k v : Val) : List Val → List Val → List Val × List Val
  | x :: r, y :: w => if x.eqv k then (x :: r, v :: w) else let p := putK k v r w; (x :: p.1, y :: p.2)
  | _, _ => ([k], [v])
def isKey : Val → Bool
  | .int _ => true
  | .str _ => true
  | _ => false
def isKeyT : Val → Bool
  | .tup ks => !ks.isEmpty && ks.all isKey
  | _ => false
/-- the keys of a dict are all numbers and texts, or all tuples of such -/
def keysOk (k : Val) (ks : List Val) : Bool := (isKey k && ks.all isKey) || (isKeyT k && ks.all isKeyT)
/-- a text of signs -/
def strV (x : Str) : Bool := x.cps.all (· < 0x110000)
-- data that is compared: None, truths, numbers, texts, tuples, lists
mutual
def Val.data : Val → Bool
  | .non => true
  | .bl _ => true
  | .int _ => true
  | .str x => strV x
  | .tup xs => dataL xs
  | .lst xs => dataL xs
  | _ => false
def dataL : List Val → Bool
  | [] => true
  | x :: r => x.data && dataL r
end
mutual
def Val.deep : Val → Nat
  | .tup xs => deepL xs + 1
  | .lst xs => deepL xs + 1
  | _ => 0
def deepL : List Val → Nat
  | [] => 0
  | x :: r => max x.deep (deepL r)
end
/-- may be compared by == (at most 60 deep) -/
def Val.cmpOk (v : Val) : Bool := v.data && decide (v.deep ≤ 60)
mutual
def toD : Val → PyData
  | .non => .none
  | .bl b => .bool b
  | .int i => .int i
  | .str x => .str x
  | .tup xs => .tuple (toDs xs)
  | .lst xs => .list (toDs xs)
  | _ => .none
def toDs : List Val → List PyData
  | [] => []
  | x :: r => toD x :: toDs r
end
/-- what repr tells of a list or a tuple -/
def reprV (v : Val) : Str := (toD v).shown
def isSeq : Val → Bool
  | .lst _ => true
  | .tup _ => true
  | _ => false
def reprOk (v : Val) : Bool := isSeq v && v.cmpOk && (toD v).showable && decide ((reprV v).length ≤ LINE)
def strIn (a b : Str) : Bool := b.cps.toList.any (fun c => decide (a.cps.toList = [c]))
def cIn : Val → Val → Option Bool
  | x, .lst ys => if x.cmpOk && ys.all Val.cmpOk then some (keyIn x ys) else none
  | x, .tup ys => if x.cmpOk && ys.all Val.cmpOk then some (keyIn x ys) else none
  | x, .dct ks _ => if keysOk x ks then some (keyIn x ks) else none
  | .str a, .str b => if decide (a.length = 1) then some (strIn a b) else none
  | _, _ => none
def cLt : Val → Val → Option Bool
  | .int i, .int j => some (decide (i < j))
  | _, _ => none
def cLe : Val → Val → Option Bool
  | .int i, .int j => some (decide (i ≤ j))
  | _, _ => none
def cGt : Val → Val → Option Bool
  | .int i, .int j => some (decide (j < i))
  | _, _ => none
def cGe : Val → Val → Option Bool
  | .int i, .int j => some (decide (j ≤ i))
  | _, _ => none
def isNon : Val → Bool
  | .non => true
  | _ => false
def isBlV (b : Bool) : Val → Bool
  | .bl a => a == b
  | _ => false
/-- is: None, True, False -/
def cIs : Val → Val → Option Bool
  | x, .non => some (isNon x)
  | x, .bl b => some (isBlV b x)
  | _, _ => none
def cop : CmpOp → Val → Val → Option Bool
  | .Eq => fun x y => if x.cmpOk && y.cmpOk then some (x.eqv y) else none
  | .NotEq => fun x y => if x.cmpOk && y.cmpOk then some (!x.eqv y) else none
  | .Lt => cLt
  | .LtE => cLe
  | .Gt => cGt
  | .GtE => cGe
  | .In => cIn
  | .NotIn => fun x y => (cIn x y).map (!·)
  | .Is => cIs
  | .IsNot => fun x y => (cIs x y).map (!·)
def tru : Val → Option Bool
  | .non => some false
  | .bl b => some b
  | .int i => some (i != 0)
  | .str x => if x.length ≤ LINE then some ((x.length : Int) != 0) else none
  | .tup xs => some (!xs.isEmpty)
  | .lst xs => some (!xs.isEmpty)
  | _ => none
/-- a place from either end -/
def ixN (n : Nat) (i : Int) : Option Nat := if 0 ≤ i then (if i < n then some i.toNat else none) else if -(n : Int) ≤ i then some (i + n).toNat else none
def atV {α : Type} (xs : List α) (i : Int) : Option α := (ixN xs.length i).bind fun j => xs[j]?
def idx : Val → Val → Option Val
  | .lst xs, .int i => atV xs i
  | .tup xs, .int i => atV xs i
  | .str z, .int i => if z.length ≤ LINE then (atV z.cps.toList i).map fun c => .str ⟨#[c]⟩ else none
  | .scr ns, .int i => (atV ns i).map .int
  | .dct ks vs, k => if keysOk k ks then valOf k ks vs else none
  | _, _ => none
def sIx (n d : Nat) : Option Int → Nat
  | none => d
  | some v => if v < 0 then (v + (n : Int)).toNat else min v.toNat n
def cutL {α : Type} (xs : List α) (lo hi : Option Int) : List α := (xs.drop (sIx xs.length 0 lo)).take (sIx xs.length xs.length hi - sIx xs.length 0 lo)
def slc (v : Val) (lo hi : Option Int) : Option Val := match v with
  | .lst xs => some (.lst (cutL xs lo hi))
  | .tup xs => some (.tup (cutL xs lo hi))
  | .str z => if z.length ≤ LINE then some (.str ⟨(cutL z.cps.toList lo hi).toArray⟩) else none
  | _ => none
def rev : Val → Option Val
  | .lst xs => some (.lst xs.reverse)
  | .tup xs => some (.tup xs.reverse)
  | _ => none
/-! ### built-in functions -/
inductive B where
  | len | abs | int | str | list | tuple | sorted | sortedR | sortSet | sortSc | min1 | max1 | min2 | max2 | sum | all | any | divmod | set | repr | dict
  | lrng | trng | index | count | get | join | split | strip
  deriving DecidableEq
def intsOf : List Val → Option (List Int)
  | [] => some []
  | .int i :: r => (intsOf r).map (i :: ·)
  | _ => none
def blsOf : List Val → Option (List Bool)
  | [] => some []
  | .bl b :: r => (blsOf r).map (b :: ·)
  | _ => none
def seqOf : Val → Option (List Val)
  | .lst xs => some xs
  | .tup xs => some xs
  | _ => none
def minI (x : Int) (r : List Int) : Int := r.foldl (fun a b => if b < a then b else a) x
def maxI (x : Int) (r : List Int) : Int := r.foldl (fun a b => if b > a then b else a) x
def insI (x : Int) : List Int → List Int
  | [] => [x]
  | y :: r => if x ≤ y then x :: y :: r else y :: insI x r
def insU (x : Int) : List Int → List Int
  | [] => [x]
  | y :: r => if x < y then x :: y :: r else if x = y then y :: r else y :: insU x r
/-- sorted, each once -/
def sset : List Int → List Int
  | [] => []
  | x :: r => insU x (sset r)
/-- rows of numbers, in the order of tuples -/
def lexLt : List Int → List Int → Bool
  | [], [] => false
  | [], _ :: _ => true
  | _ :: _, [] => false
  | x :: xs, y :: ys => decide (x < y) || (decide (x = y) && lexLt xs ys)
def insT (x : List Int) : List (List Int) → List (List Int)
  | [] => [x]
  | y :: r => if lexLt x y = true then x :: y :: r else if x = y then y :: r else y :: insT x r
/-- sorted, each once -/
def tset : List (List Int) → List (List Int)
  | [] => []
  | x :: r => insT x (tset r)
def rowsOf : List Val → Option (List (List Int))
  | [] => some []
  | .tup xs :: r => (intsOf xs).bind fun ns => (rowsOf r).map (ns :: ·)
  | _ :: _ => none
def encR (ns : List Int) : Val := .tup (ns.map .int)
def rowsOk : List (List Int) → Bool
  | [] => true
  | q :: r => !q.isEmpty && (q :: r).all fun p => decide (p.length = q.length) && p.all fun i => decide (0 ≤ i)
/-- what sorted tells of a list's set -/
def setOfL (xs : List Val) : Option Val := match intsOf xs with
  | some ns => if (sset ns).length < 60 ∧ ns.length < 1000 then some (.lst ((sset ns).map .int)) else none
  | none => (rowsOf xs).bind fun rs => if rs.length < 64 ∧ rowsOk rs = true then some (.lst ((tset rs).map encR)) else none
def isort : List Int → List Int
  | [] => []
  | x :: r => insI x (isort r)
/-- the first of each, as they are met -/
def dedup : List Val → List Val → List Val
  | acc, [] => acc
  | acc, x :: r => if keyIn x acc then dedup acc r else dedup (acc ++ [x]) r
/-- tuples that may be sorted: compared data, all alike -/
def tup1 : Val → Bool
  | .tup (_ :: _) => true
  | _ => false
def lst1 : Val → Bool
  | .lst _ => true
  | _ => false
def sortD (xs : List Val) : Bool := (xs.all tup1 || xs.all lst1) && xs.all fun x => x.cmpOk && xs.all fun y => PySem.W.alike (toD x) (toD y)
def leV (x y : Val) : Bool := PySem.W.dataLe false toD x y
def sortV (xs : List Val) : List Val := xs.mergeSort leV
def rngL (lo : Int) : Nat → List Val
  | 0 => []
  | n + 1 => .int lo :: rngL (lo + 1) n
def rng62 (i : Int) : Bool := decide (-(2 ^ 62) ≤ i ∧ i < 2 ^ 62)
/-- range's numbers: by one, two, or three ends -/
def rngN (lo c : Int) : Nat → List Val
  | 0 => []
  | n + 1 => .int lo :: rngN (lo + c) c n
def rng : List Val → Option (List Val)
  | [.int j] => if rng62 j then some (rngL 0 j.toNat) else none
  | [.int i, .int j] => if rng62 i && rng62 j then some (rngL i (j - i).toNat) else none
  | [.int i, .int j, .int c] => if rng62 i && rng62 j && decide (c = -1) then some (rngN i (-1) (i - j).toNat) else none
  | _ => none
def countV (y : Val) : List Val → Nat
  | [] => 0
  | x :: r => countV y r + if x.eqv y then 1 else 0
/-- the place of a number in a row of numbers -/
def idxV (xs : List Val) (k : Int) : Option Val := (intsOf xs).bind fun ns => if decide (k ∈ ns) = true then some (.int (ns.idxOf k : Nat)) else none
def b2i (b : Bool) : Int := if b then 1 else 0
def blt : B → List Val → Option Val
  | .len, [.lst xs] => some (.int xs.length)
  | .len, [.tup xs] => some (.int xs.length)
  | .len, [.str z] => if z.length ≤ LINE then some (.int z.length) else none
  | .len, [.scr ns] => some (.int ns.length)
  | .len, [.set xs] => some (.int xs.length)
  | .len, [.dct ks _] => some (.int ks.length)
  | .abs, [.int i] => some (.int (if i < 0 then -i else i))
  | .int, [.int i] => some (.int i)
  | .int, [.bl b] => some (.int (b2i b))
  | .str, [.int i] => if i.natAbs.log2 < 1920 then some (.str (toString i : String)) else none
  | .list, [v] => (seqOf v).map .lst
  | .tuple, [v] => (seqOf v).map .tup
  | .sorted, [v] => (seqOf v).bind fun xs => match intsOf xs with
    | some ns => some (.lst ((isort ns).map .int))
    | none => match v with
      | .lst _ => if sortD xs then some (.lst (sortV xs)) else none
      | _ => none
  | .sortedR, [v, .bl true] => (seqOf v).bind fun xs => (intsOf xs).map fun ns => .lst ((isort ns).reverse.map .int)
  | .sortSet, [.tup xs] => (intsOf xs).bind fun ns => if (sset ns).length < 60 ∧ ns.length < 1000 then some (.lst ((sset ns).map .int)) else none
  | .sortSet, [.lst xs] => setOfL xs
  | .sortSc, [.lst xs] => setOfL xs
  | .min2, [.int i, .int j] => some (.int (if j < i then j else i))
  | .max2, [.int i, .int j] => some (.int (if j > i then j else i))
  | .min1, [v] => (seqOf v).bind fun xs => (intsOf xs).bind fun ns => match ns with
    | x :: r => some (.int (minI x r))
    | [] => none
  | .max1, [v] => (seqOf v).bind fun xs => (intsOf xs).bind fun ns => match ns with
    | x :: r => some (.int (maxI x r))
    | [] => none
  | .sum, [.lst xs] => (intsOf xs).map fun ns => .int ns.sum
  | .all, [.lst xs] => (blsOf xs).map fun bs => .bl (bs.all id)
  | .any, [.lst xs] => (blsOf xs).map fun bs => .bl (bs.any id)
  | .divmod, [.int i, .int j] => if decide (0 < j ∧ j < 1073741824) then some (.tup [.int (i / j), .int (i % j)]) else none
  | .set, [v] => (seqOf v).bind fun xs => (intsOf xs).map fun _ => .set (dedup [] xs)
  | .lrng, vs => (rng vs).bind fun xs => if xs.length ≤ LINE then some (.lst xs) else none
  | .index, [.tup xs, .int k] => idxV xs k
  | .index, [.lst xs, .int k] => idxV xs k
  | .count, [.lst xs, y] => (intsOf xs).bind fun _ => (intsOf [y]).map fun _ => .int (countV y xs)
  | .repr, [v] => if reprOk v then some (.str (reprV v)) else none
  | .get, [.dct ks vs, k, d] => if keysOk k ks then some ((valOf k ks vs).getD d) else none
  | _, _ => none
/-! ### the program's exception classes: name, number of the field, number of the base -/
def excTab : List (Str × Nat × Nat) := [("Outside", 0, 0), ("Unlike", 99, 0), ("NoView", 0, 0), ("Known", 0, 0), ("BadText", 1, 0), ("BadRow", 2, 0), ("NoSide", 3, 0), ("NoOne", 0, 1), ("NoPlace", 4, 1), ("NoRow", 2, 1), ("NoFloor", 5, 1),
  ("NoDeed", 6, 1), ("Held", 0, 2), ("Barred", 0, 2), ("Seen", 4, 2), ("Stands", 5, 2), ("Last", 99, 2), ("TooMany", 6, 3)]
def fldTab : List Str := ["who", "at", "number", "side", "place", "floor", "many"]
def baseTab : List String := ["ValueError", "LookupError", "RuntimeError", "OverflowError"]
def baseName (b : Nat) : String := baseTab.getD b "?"
def excName (c : Nat) : Str := ((excTab[c]?).map (·.1)).getD "?"
def fldNo (c : Nat) : Nat := ((excTab[c]?).map (·.2.1)).getD 98
def excBase (c : Nat) : Nat := ((excTab[c]?).map (·.2.2)).getD 99
def fldName (j : Nat) : Str := fldTab.getD j "?"
def excSup (c b : Nat) : Bool := excBase c == b
/-! ### kinds asked by isinstance -/
inductive Ty where
  | int | bool | str | list | tuple | exc (c : Nat) | base (x : Nat)
  deriving DecidableEq
/-- sup c b: the exception class c stands under the built-in one b -/
def isTy (sup : Nat → Nat → Bool) : Val → Ty → Option Bool
  | .non, _ => some false
  | .bl _, t => some (t == .bool || t == .int)
  | .int _, t => some (t == .int)
  | .str _, t => some (t == .str)
  | .tup _, t => some (t == .tuple)
  | .lst _, t => some (t == .list)
  | .exc c _, .exc d => some (c == d)
  | .exc c _, .base b => some (sup c b)
  | _, _ => none
/-! ### the text -/
inductive Cst where
  | non | bl (b : Bool) | int (i : Int) | str (x : Str)
  deriving DecidableEq
def Cst.val : Cst → Val
  | .non => .non
  | .bl b => .bl b
  | .int i => .int i
  | .str x => .str x
inductive Tg where
  | nm (i : Nat) | tup (ts : List Tg) | star (a : List Tg) (i : Nat) (b : List Tg)
inductive Mth where
  | append | pop | popAt | insert | extend | clear | setdefault
  deriving DecidableEq
mutual
inductive E where
  | var (i : Nat)
  | con (c : Cst)
  | glob (x : Nat)
  | bin (op : Operator) (a b : E)
  | neg (a : E)
  | nt (a : E)
  | and (a : E) (r : Es)
  | or (a : E) (r : Es)
  | ite (c a b : E)
  | cmp (a : E) (ops : List CmpOp) (es : Es)
  | idx (a i : E)
  | slc (a lo hi : E)
  | rev (a : E)
  | tup (es : Es)
  | lst (es : Es)
  | comp (st : Bool) (elt : E) (own : List Nat) (tg : Tg) (it : It) (cd : Es)
  | call (f : Nat) (es : Es) (al : Bool)
  | callk (f : Nat) (es kes : Es) (perm : List Nat) (al : Bool)
  | blt (b : B) (es : Es)
  | isi (a : E) (tys : List Ty)
  | mth (k : Mth) (o : E) (es : Es)
  | new (a : E)
  | dict (ks vs : Es)
  | fld (a : E) (j : Nat)
  | emp
inductive Es where
  | nil
  | cons (a : E) (r : Es)
inductive It where
  | val (a : E)
  | rng (es : Es)
  | enu (a : E)
  | zip (a b : E) (st : Bool)
  | items (a : E)
end
mutual
inductive S where
  | asg (tg : Tg) (e : E)
  | set (o i e : E)
  | sets (o lo hi e : E)
  | aug (i : Nat) (op : Operator) (e : E)
  | exp (e : E)
  | ret (e : E)
  | retn
  | iff (c : E) (a b : Ss)
  | for (tg : Tg) (it : It) (body : Ss)
  | whl (c : E) (body : Ss)
  | raise (c : Nat) (es : Es)
  | try (body : Ss) (hs : Hs)
  | pass
  | stop
inductive Ss where
  | nil
  | cons (s : S) (r : Ss)
inductive Hs where
  | nil
  | cons (cls : List Nat) (slot : Option Nat) (body : Ss) (r : Hs)
end
def Es.of : List E → Es
  | [] => .nil
  | a :: r => .cons a (Es.of r)
def Ss.of : List S → Ss
  | [] => .nil
  | a :: r => .cons a (Ss.of r)
/-! ### targets -/
mutual
def bindT : Tg → Val → Env → Option Env
  | .nm i, v, ρ => if i < ρ.length then some (ρ.set i (some v)) else none
  | .tup ts, .tup vs, ρ => bindTs ts vs ρ
  | .tup ts, .lst vs, ρ => bindTs ts vs ρ
  | .star a i b, v, ρ => match seqOf v with
    | some vs => if decide (a.length + b.length ≤ vs.length) && decide (i < ρ.length) then
        (bindTs a (vs.take a.length) ρ).bind fun ρ => bindTs b (vs.drop (vs.length - b.length)) (ρ.set i (some (.lst ((vs.drop a.length).take (vs.length - b.length - a.length))))) else none
    | none => none
  | _, _, _ => none
def bindTs : List Tg → List Val → Env → Option Env
  | [], [], ρ => some ρ
  | t :: ts, v :: vs, ρ => (bindT t v ρ).bind fun ρ => bindTs ts vs ρ
  | _, _, _ => none
end
/-- what a target sees: a list that is told apart is looked through -/
def Tg.see (m : M) : Tg → Val → Val
  | .nm _, v => v
  | _, v => dr m v
def wipeE (ρ : Env) : List Nat → Env
  | [] => ρ
  | v :: vs => (wipeE ρ vs).set v none
/-! ### what runs -/
abbrev CallT := Nat → List Val → Bool → M → R Val
structure Cx where
  call : CallT
  base : Nat
  al : Bool
  glob : Nat → Option Val
  sup : Nat → Nat → Bool
/-- cells that are walked must stand -/
def stands (m m' : M) : List Nat → Bool
  | [] => true
  | n :: r => (match m[n]?, m'[n]? with
    | some a, some b => a.same b
    | _, _ => false) && stands m m' r
def watch : Val → List Nat
  | .ref n => [n]
  | _ => []
def compL (f : Val → M → R (Option Val)) (w : M → Bool) : List Val → List Val → M → R (List Val)
  | acc, [], m => .ok acc m
  | acc, v :: vs, m => (f v m).bind fun o m => if w m then (match o with
    | some y => if acc.length < LINE then compL f w (acc ++ [y]) vs m else .stuck
    | none => compL f w acc vs m) else .stuck
def enuL : Int → List Val → List Val
  | _, [] => []
  | n, x :: r => .tup [.int n, x] :: enuL (n + 1) r
def zipL : List Val → List Val → List Val
  | x :: xs, y :: ys => .tup [x, y] :: zipL xs ys
  | _, _ => []
/-- what zip walks: lists and tuples; strict: as many of both -/
def zipOf (st : Bool) (x y : Val) : Option (List Val) :=
  (seqOf x).bind fun xs => (seqOf y).bind fun ys => if !st || decide (xs.length = ys.length) then some (zipL xs ys) else none
def iterOf : Val → Option (List Val)
  | .lst xs => some xs
  | .tup xs => some xs
  | .str z => some (z.cps.toList.map fun c => .str ⟨#[c]⟩)
  | _ => none
/-- a store of v into cell n is let: v has no reference, or the cell is of this frame -/
def storable (base n : Nat) (v : Val) : Bool := v.pure || decide (base ≤ n)
/-- the object of a method is a list or a dict of its own -/
def mutOk (k : Mth) (m : M) : Val → Bool
  | .ref n => match m[n]? with
    | some (.lst _) => k != .setdefault
    | some (.dct _ _) => k == .setdefault
    | _ => false
  | _ => false
def mthd (base : Nat) (m : M) : Mth → Val → List Val → R Val
  | .append, .ref n, [v] => match m[n]? with
    | some (.lst xs) => if storable base n v && decide (xs.length < LINE) then .ok .non (m.set n (.lst (xs ++ [v]))) else .stuck
    | _ => .stuck
  | .pop, .ref n, [] => match m[n]? with
    | some (.lst xs) => match xs[xs.length - 1]? with
      | some y => .ok y (m.set n (.lst xs.dropLast))
      | none => .stuck
    | _ => .stuck
  | .popAt, .ref n, [.int i] => match m[n]? with
    | some (.lst xs) => match ixN xs.length i with
      | some k => match xs[k]? with
        | some y => if small63 i then .ok y (m.set n (.lst (xs.eraseIdx k))) else .stuck
        | none => .stuck
      | none => .stuck
    | _ => .stuck
  | .insert, .ref n, [.int i, v] => match m[n]? with
    | some (.lst xs) => if storable base n v && decide (xs.length < LINE) && small63 i && decide (0 ≤ i) then
        .ok .non (m.set n (.lst (xs.take (min i.toNat xs.length) ++ v :: xs.drop (min i.toNat xs.length)))) else .stuck
    | _ => .stuck
  | .extend, .ref n, [v] => match m[n]?, dr m v with
    | some (.lst xs), .lst ys => if (pureL ys || decide (base ≤ n)) && decide (xs.length + ys.length ≤ LINE) then .ok .non (m.set n (.lst (xs ++ ys))) else .stuck
    | _, _ => .stuck
  | .setdefault, .ref n, [k, v] => match m[n]? with
    | some (.dct ks vs) => if keysOk k ks && storable base n v then match valOf k ks vs with
        | some y => .ok y m
        | none => if ks.length < LINE then .ok v (m.set n (.dct (ks ++ [k]) (vs ++ [v]))) else .stuck
      else .stuck
    | _ => .stuck
  | _, _, _ => .stuck
def isEmp : E → Bool
  | .emp => true
  | _ => false
def partOf : Val → Option (Option Int)
  | .int i => some (some i)
  | _ => none
/-- a list that nothing else holds -/
def fresh : E → Bool
  | .lst _ => true
  | .comp false _ _ _ _ _ => true
  | .blt .list _ => true
  | .blt .sorted _ => true
  | .blt .sortedR _ => true
  | .blt .sortSet _ => true
  | .blt .sortSc _ => true
  | .blt .lrng _ => true
  | .bin _ _ _ => true
  | _ => false
mutual
def ev (C : Cx) : E → Env → M → R Val
  | .var i, ρ, m => match ρ[i]? with
    | some (some v) => .ok v m
    | _ => .stuck
  | .con c, _, m => .ok c.val m
  | .glob x, _, m => opt (C.glob x) m
  | .bin op a b, ρ, m => (ev C a ρ m).bind fun x m => (ev C b ρ m).bind fun y m => opt (bop op (dr m x) (dr m y)) m
  | .neg a, ρ, m => (ev C a ρ m).bind fun x m => match x with
    | .int i => .ok (.int (-i)) m
    | _ => .stuck
  | .nt a, ρ, m => (ev C a ρ m).bind fun x m => (opt (tru (dr m x)) m).bind fun b m => .ok (.bl (!b)) m
  | .and a r, ρ, m => (ev C a ρ m).bind fun x m => evAnd C r x ρ m
  | .or a r, ρ, m => (ev C a ρ m).bind fun x m => evOr C r x ρ m
  | .ite c a b, ρ, m => (ev C c ρ m).bind fun x m => (opt (tru (dr m x)) m).bind fun k m => if k then ev C a ρ m else ev C b ρ m
  | .cmp a ops es, ρ, m => (ev C a ρ m).bind fun x m => evCmp C es ops x ρ m
  | .idx a i, ρ, m => (ev C a ρ m).bind fun x m => (ev C i ρ m).bind fun y m => opt (idx (dr m x) y) m
  | .slc a lo hi, ρ, m => (ev C a ρ m).bind fun x m =>
      (if isEmp lo then .ok none m else (ev C lo ρ m).bind fun y m => opt (partOf y) m).bind fun l m =>
      (if isEmp hi then .ok none m else (ev C hi ρ m).bind fun y m => opt (partOf y) m).bind fun h m => opt (slc (dr m x) l h) m
  | .rev a, ρ, m => (ev C a ρ m).bind fun x m => opt (rev (dr m x)) m
  | .tup es, ρ, m => (evs C es ρ m).bind fun vs m => if vs.length ≤ LINE then .ok (.tup vs) m else .stuck
  | .lst es, ρ, m => (evs C es ρ m).bind fun vs m => if vs.length ≤ LINE then .ok (.lst vs) m else .stuck
  | .comp st elt own tg it cd, ρ, m => (evIt C it ρ m).bind fun p m0 =>
      (compL (fun v m => match bindT tg v (wipeE ρ own) with
        | none => .stuck
        | some ρ1 => (evCd C cd ρ1 m).nox.bind fun k m => if k then (ev C elt ρ1 m).nox.bind fun y m => .ok (some y) m else .ok none m) (fun m => stands m0 m p.2) [] p.1 m0).bind
      fun vs m => if st then .ok (.set (dedup [] vs)) m else .ok (.lst vs) m
  | .call f es al, ρ, m => (evs C es ρ m).bind fun vs m => C.call f vs al m
  | .callk f es kes perm al, ρ, m => (evs C es ρ m).bind fun vs m => (evs C kes ρ m).bind fun zs m => C.call f (perm.map fun i => (vs ++ zs).getD i .non) al m
  | .blt b es, ρ, m => (evs C es ρ m).bind fun vs m => opt (blt b (vs.map (dr m))) m
  | .isi a tys, ρ, m => (ev C a ρ m).bind fun x m => (opt (tys.mapM fun t => isTy C.sup (dr m x) t) m).bind fun bs m => .ok (.bl (bs.any id)) m
  | .mth k o es, ρ, m => (ev C o ρ m).bind fun x m => if mutOk k m x then (evs C es ρ m).bind fun vs m => mthd C.base m k x vs else .stuck
  | .new a, ρ, m => (ev C a ρ m).bind fun x m => match x with
    | .lst xs => .ok (.ref m.length) (m ++ [.lst xs])
    | _ => .stuck
  | .dict ks vs, ρ, m => (evs C ks ρ m).bind fun ks m => (evs C vs ρ m).bind fun vs m => if ks.length == vs.length && ks.all fun k => keysOk k ks then
      (let p := (ks.zip vs).foldl (fun (p : List Val × List Val) kv => putK kv.1 kv.2 p.1 p.2) ([], []); .ok (.ref m.length) (m ++ [.dct p.1 p.2])) else .stuck
  | .fld a j, ρ, m => (ev C a ρ m).bind fun x m => match x with
    | .exc c fs => if fldNo c = j then opt fs[0]? m else .stuck
    | _ => .stuck
  | .emp, _, _ => .stuck
def evs (C : Cx) : Es → Env → M → R (List Val)
  | .nil, _, m => .ok [] m
  | .cons a r, ρ, m => (ev C a ρ m).bind fun x m => (evs C r ρ m).bind fun xs m => .ok (x :: xs) m
def evAnd (C : Cx) : Es → Val → Env → M → R Val
  | .nil, x, _, m => .ok x m
  | .cons b r, x, ρ, m => (opt (tru (dr m x)) m).bind fun k m => if k then (ev C b ρ m).bind fun y m => evAnd C r y ρ m else .ok x m
def evOr (C : Cx) : Es → Val → Env → M → R Val
  | .nil, x, _, m => .ok x m
  | .cons b r, x, ρ, m => (opt (tru (dr m x)) m).bind fun k m => if k then .ok x m else (ev C b ρ m).bind fun y m => evOr C r y ρ m
def evCmp (C : Cx) : Es → List CmpOp → Val → Env → M → R Val
  | .cons b .nil, [op], x, ρ, m => (ev C b ρ m).bind fun y m => (opt (cop op (dr m x) (dr m y)) m).bind fun k m => .ok (.bl k) m
  | .cons b r, op :: ops, x, ρ, m => (ev C b ρ m).bind fun y m => (opt (cop op (dr m x) (dr m y)) m).bind fun k m => if k then evCmp C r ops y ρ m else .ok (.bl false) m
  | _, _, _, _, _ => .stuck
def evCd (C : Cx) : Es → Env → M → R Bool
  | .nil, _, m => .ok true m
  | .cons c .nil, ρ, m => (ev C c ρ m).bind fun x m => opt (tru (dr m x)) m
  | _, _, _ => .stuck
def evIt (C : Cx) : It → Env → M → R (List Val × List Nat)
  | .val a, ρ, m => (ev C a ρ m).bind fun x m => (opt (iterOf (dr m x)) m).bind fun xs m => .ok (xs, watch x) m
  | .rng es, ρ, m => (evs C es ρ m).bind fun vs m => (opt (rng vs) m).bind fun xs m => .ok (xs, []) m
  | .enu a, ρ, m => (ev C a ρ m).bind fun x m => (opt (seqOf (dr m x)) m).bind fun xs m => .ok (enuL 0 xs, watch x) m
  | .zip a b st, ρ, m => (ev C a ρ m).bind fun x m => (ev C b ρ m).bind fun y m => (opt (zipOf st (dr m x) (dr m y)) m).bind fun zs m => .ok (zs, watch x ++ watch y) m
  | .items a, ρ, m => (ev C a ρ m).bind fun x m => match dr m x with
    | .dct ks vs => .ok (zipL ks vs, watch x) m
    | _ => .stuck
end
inductive Rs where
  | nxt (ρ : Env) (m : M) | ret (v : Val) (m : M) | exc (c : Nat) (fs : List Val) (ρ : Env) (m : M) | stuck
@[reducible] def Rs.bind : Rs → (Env → M → Rs) → Rs
  | .nxt ρ m, k => k ρ m
  | .ret v m, _ => .ret v m
  | .exc c fs ρ m, _ => .exc c fs ρ m
  | .stuck, _ => .stuck
@[reducible] def R.thn {α : Type} : R α → Env → (α → M → Rs) → Rs
  | .ok a m, _, k => k a m
  | .exc c fs m, ρ, _ => .exc c fs ρ m
  | .stuck, _, _ => .stuck
def loopL (f : Val → Env → M → Rs) (w : M → Bool) : List Val → Env → M → Rs
  | [], ρ, m => .nxt ρ m
  | v :: vs, ρ, m => (f v ρ m).bind fun ρ m => if w m then loopL f w vs ρ m else .stuck
def loopW (c : Env → M → R Bool) (f : Env → M → Rs) : Nat → Env → M → Rs
  | 0, _, _ => .stuck
  | n + 1, ρ, m => (c ρ m).thn ρ fun k m => if k then (f ρ m).bind fun ρ m => loopW c f n ρ m else .nxt ρ m
def WF : Nat := 1000000
def setAt (base : Nat) (m : M) (o i v : Val) : Option M := match o, i with
  | .ref n, i => match m[n]? with
    | some (.lst xs) => match i with
      | .int k => (ixN xs.length k).bind fun j => if storable base n v then some (m.set n (.lst (xs.set j v))) else none
      | _ => none
    | some (.dct ks vs) => if keysOk i ks && storable base n v && decide (ks.length < LINE) then (let p := putK i v ks vs; some (m.set n (.dct p.1 p.2))) else none
    | _ => none
  | _, _ => none
def setSl (base : Nat) (m : M) (o lo hi v : Val) : Option M := match o, lo, hi, v with
  | .ref n, .int a, .int b, .lst ys => match m[n]? with
    | some (.lst xs) => if decide (0 ≤ a ∧ a ≤ b ∧ xs.length + ys.length ≤ LINE) && (pureL ys || decide (base ≤ n)) then
        some (m.set n (.lst (xs.take (min a.toNat xs.length) ++ ys ++ xs.drop (min b.toNat xs.length)))) else none
    | _ => none
  | _, _, _, _ => none
mutual
def ex (C : Cx) : S → Env → M → Rs
  | .asg tg e, ρ, m => (ev C e ρ m).thn ρ fun v m => match bindT tg (tg.see m v) ρ with
    | some ρ => .nxt ρ m
    | none => .stuck
  | .set o i e, ρ, m => (ev C e ρ m).thn ρ fun v m => (ev C o ρ m).thn ρ fun ov m => (ev C i ρ m).thn ρ fun iv m => match setAt C.base m ov iv v with
    | some m => .nxt ρ m
    | none => .stuck
  | .sets o lo hi e, ρ, m => (ev C e ρ m).thn ρ fun v m => (ev C o ρ m).thn ρ fun ov m => (ev C lo ρ m).thn ρ fun l m => (ev C hi ρ m).thn ρ fun h m => match setSl C.base m ov l h v with
    | some m => .nxt ρ m
    | none => .stuck
  | .aug i op e, ρ, m => match ρ[i]? with
    | some (some x) => (ev C e ρ m).thn ρ fun y m => match x, y, op with
      | .int a, .int b, .Add => .nxt (ρ.set i (some (.int (a + b)))) m
      | .int a, .int b, .Sub => .nxt (ρ.set i (some (.int (a - b)))) m
      | .int a, .int b, .Mult => if smallI a || smallI b then .nxt (ρ.set i (some (.int (a * b)))) m else .stuck
      | _, _, _ => .stuck
    | _ => .stuck
  | .exp e, ρ, m => (ev C e ρ m).thn ρ fun _ m => .nxt ρ m
  | .ret e, ρ, m => (ev C e ρ m).thn ρ fun v m => .ret v m
  | .retn, _, m => .ret .non m
  | .iff c a b, ρ, m => (ev C c ρ m).thn ρ fun x m => (opt (tru (dr m x)) m).thn ρ fun k m => if k then exs C a ρ m else exs C b ρ m
  | .for tg it body, ρ, m => (evIt C it ρ m).thn ρ fun p m0 => loopL (fun v ρ m => match bindT tg v ρ with
    | some ρ => exs C body ρ m
    | none => .stuck) (fun m => stands m0 m p.2) p.1 ρ m0
  | .whl c body, ρ, m => loopW (fun ρ m => (ev C c ρ m).bind fun x m => opt (tru (dr m x)) m) (exs C body) WF ρ m
  | .raise c es, ρ, m => (evs C es ρ m).thn ρ fun vs m => .exc c vs ρ m
  | .try body hs, ρ, m => match exs C body ρ m with
    | .exc c fs ρ m => exH C hs c fs ρ m
    | r => r
  | .pass, ρ, m => .nxt ρ m
  | .stop, _, _ => .stuck
def exs (C : Cx) : Ss → Env → M → Rs
  | .nil, ρ, m => .nxt ρ m
  | .cons s r, ρ, m => (ex C s ρ m).bind fun ρ m => exs C r ρ m
def exH (C : Cx) : Hs → Nat → List Val → Env → M → Rs
  | .nil, c, fs, ρ, m => .exc c fs ρ m
  | .cons cls slot body r, c, fs, ρ, m => if cls.contains c then (match slot with
    | some i => (exs C body (ρ.set i (some (.exc c fs))) m).bind fun ρ m => .nxt (ρ.set i none) m
    | none => exs C body ρ m) else exH C r c fs ρ m
end
structure Def where
  np : Nat
  ns : Nat
  body : Ss
/-- behind a call: the callee's cells are gone -/
def exitR (al : Bool) (n : Nat) (v : Val) (m : M) : R Val :=
  if v.pure then .ok v (m.take n) else match al, v with
    | true, .ref k => if k < n then .ok v (m.take n) else match m[k]? with
      | some (.lst xs) => if pureL xs then .ok (.ref n) (m.take n ++ [.lst xs]) else .stuck
      | some (.dct ks vs) => if pureL ks && pureL vs then .ok (.ref n) (m.take n ++ [.dct ks vs]) else .stuck
      | _ => .stuck
    | _, _ => match frz n m FUEL v with
      | some v => .ok v (m.take n)
      | none => .stuck
structure Prog where
  defs : Nat → Option Def
  glob : Nat → Option Val
  sup : Nat → Nat → Bool
def ctx (G : Prog) (c : CallT) (base : Nat) (al : Bool) : Cx := ⟨c, base, al, G.glob, G.sup⟩
def runD (G : Prog) (c : CallT) (d : Def) (args : List Val) (al : Bool) (m : M) : R Val :=
  match exs (ctx G c m.length al) d.body (args.map some ++ List.replicate (d.ns - d.np) none) m with
  | .nxt _ m' => .ok .non (m'.take m.length)
  | .ret v m' => exitR al m.length v m'
  | .exc c fs _ m' => if pureL fs then .exc c fs (m'.take m.length) else .stuck
  | .stuck => .stuck
def callN (G : Prog) : Nat → CallT
  | 0 => fun _ _ _ _ => .stuck
  | k + 1 => fun f args al m => match G.defs f with
    | some d => if args.length = d.np then runD G (callN G k) d args al m else .stuck
    | none => .stuck
end MP
set_option Elab.async false
set_option linter.all false
set_option maxRecDepth 100000
set_option maxHeartbeats 1000000
/-! MPRel: what the heap shows of clean values; growth of heaps; what holds behind a clean result. -/
namespace MP
open PySem PySem.Spec PyProof.Rows L2
/-! ### references below a number -/
mutual
def Val.lt_ (n : Nat) : Val → Bool
  | .ref k => decide (k < n)
  | .tup xs => ltAll n xs
  | .lst xs => ltAll n xs
  | .set xs => ltAll n xs
  | .dct ks vs => ltAll n ks && ltAll n vs
  | .exc _ fs => ltAll n fs
  | _ => true
def ltAll (n : Nat) : List Val → Bool
  | [] => true
  | x :: r => x.lt_ n && ltAll n r
end
mutual
theorem lt_of_pure (n : Nat) : ∀ v : Val, v.pure = true → v.lt_ n = true
  | .ref k, h => by simp [Val.pure] at h
  | .tup xs, h => by simp only [Val.pure] at h; simp only [Val.lt_]; exact ltAll_of_pure n xs h
  | .lst xs, h => by simp only [Val.pure] at h; simp only [Val.lt_]; exact ltAll_of_pure n xs h
  | .set xs, h => by simp only [Val.pure] at h; simp only [Val.lt_]; exact ltAll_of_pure n xs h
  | .dct ks vs, h => by
    simp only [Val.pure, Bool.and_eq_true] at h
    simp only [Val.lt_, Bool.and_eq_true]
    exact ⟨ltAll_of_pure n ks h.1, ltAll_of_pure n vs h.2⟩
  | .exc _ fs, h => by simp only [Val.pure] at h; simp only [Val.lt_]; exact ltAll_of_pure n fs h
  | .non, _ => rfl
  | .bl _, _ => rfl
  | .int _, _ => rfl
  | .str _, _ => rfl
  | .scr _, _ => rfl
theorem ltAll_of_pure (n : Nat) : ∀ xs : List Val, pureL xs = true → ltAll n xs = true
  | [], _ => rfl
  | x :: r, h => by
    simp only [pureL, Bool.and_eq_true] at h
    simp only [ltAll, Bool.and_eq_true]
    exact ⟨lt_of_pure n x h.1, ltAll_of_pure n r h.2⟩
end
def Cell.lt_ (n : Nat) : Cell → Bool
  | .lst xs => ltAll n xs
  | .dct ks vs => ltAll n ks && ltAll n vs
  | .ins _ fs => ltAll n fs
/-- the cells' places; places that are hidden -/
structure Al where
  c : List Addr
  h : List Addr
def Al.off (al : Al) (a : Addr) : Prop := a ∉ al.c ∧ a ∉ al.h
def Al.add (al : Al) (be : List Addr) : Al := ⟨al.c ++ be, al.h⟩
def Al.cut (al : Al) (n : Nat) : Al := ⟨al.c.take n, al.h⟩
def Al.hide (al : Al) (a : Addr) : Al := ⟨al.c, a :: al.h⟩
/-! ### what the heap shows -/
/-- a list that is no cell -/
def SqN (K : PySem.W.Frag) (al : Al) (H : Hp) (a : Addr) (xs : List V) : Prop :=
  (Rd H a (.lst xs) ∧ al.off a) ∨ ∃ (o : Obj) (its : Array Value) (n : Nat), K.lookup a = some o ∧ o.cls = .type "list" ∧ o.dict = none ∧ o.data = .seq its n ∧ its.size ≤ sizeLine ∧ Vals xs its.toList
theorem SqN.sq {K : PySem.W.Frag} {al : Al} {H : Hp} {a : Addr} {xs : List V} (h : SqN K al H a xs) : SqL K H a xs := by
  rcases h with h | h
  · exact .inl h.1
  · exact .inr h
/-- an exception object of the class cls, with its dict, at a -/
def ExV (a : Addr) (cls : Value) (d : Option Addr) : HO := .ext fun h => ∃ (oe : Obj) (vs : Array Value), h.get? a = some oe ∧ Zc cls d oe ∧ oe.data = .fields vs
/-- the exception's class c -/
def xcls (K : PySem.W.Frag) (c : Nat) : Addr := He.ga K (excName c)
/-- the module has the class c -/
def hasX (K : PySem.W.Frag) (c : Nat) : Bool := PySem.W.nsIn K mainGlobals (excName c) == some (some (.ref (xcls K c)))
/-- what the written part says of the exception class c -/
def excK (K : PySem.W.Frag) (c : Nat) : Bool :=
  (hasX K c && (PySem.W.clsIn K (xcls K c)).isSome && decide (PySem.W.findIn K (.ref (xcls K c)) "__getattribute__" = some (some (.builtin "BaseException.__getattribute__"))) && decide (PySem.W.findIn K (.ref (xcls K c)) "__getattr__" = some none) &&
    decide (PySem.W.subIn K (.ref (xcls K c)) (.type "BaseException") = some true) && decide (PySem.W.findIn K (.ref (xcls K c)) "__class__" = some (some (.builtin "object.__class__"))) &&
    decide (PySem.W.specialIn K (.builtin "object.__class__") "__get__" = some (some (.builtin "getset_descriptor.__get__"))) && decide (PySem.W.takesIn K (.builtin "object.__class__") = some true) && decide (PySem.W.mroIn K (xcls K c) (.type "object") = some true) &&
    PySem.W.hasDictIn K (xcls K c) && decide (PySem.W.findIn K (.ref (xcls K c)) (fldName (fldNo c)) = some none)) &&
  ((List.range 18).all fun d => !hasX K d || (decide (PySem.W.kitCls K (.ref (xcls K c)) (.ref (xcls K d)) = some (c == d)) && (decide (c = d) || decide (xcls K c ≠ xcls K d)))) &&
  ((List.range 4).all fun b => decide (PySem.W.kitCls K (.ref (xcls K c)) (.type (baseName b)) = some (excSup c b)))
/-- its dict -/
def XFld (H : Hp) (c : Nat) (d : Option Addr) : List V → Prop
  | [] => d = none
  | [u] => ∃ dd, d = some dd ∧ H dd = some (.xd [(fldName (fldNo c), u)])
  | _ => False
/-- the object at a has no dict -/
def NoD (K : PySem.W.Frag) (H : Hp) (a : Addr) : Prop := (∃ (ob : Obj) (u : HO), H a = some (.frz ob u) ∧ ob.dict = none) ∨ ∃ ob : Obj, K.lookup a = some ob ∧ ob.dict = none
def TupN (K : PySem.W.Frag) (H : Hp) (a : Addr) (xs : List V) : Prop := SqT K H a xs ∧ NoD K H a
theorem TupN.new {K : PySem.W.Frag} {H : Hp} {a : Addr} {xs : List V} {ob : Obj} (h : ob.dict = none) : TupN K (upd H a (.frz ob (.tup xs))) a xs := ⟨.inl (.inr ⟨ob, upd_same⟩), .inl ⟨ob, _, upd_same, h⟩⟩
mutual
inductive Rep (K : PySem.W.Frag) (al : Al) (H : Hp) : V → Val → Prop
  | non : Rep K al H .non .non
  | bl (b : Bool) : Rep K al H (.bl b) (.bl b)
  | int (i : Int) : Rep K al H (.int i) (.int i)
  | str (x : Str) : Rep K al H (.str x) (.str x)
  | tup {a : Addr} {us : List V} {xs : List Val} : TupN K H a us → RepL K al H us xs → Rep K al H (.ref a) (.tup xs)
  | lst {a : Addr} {us : List V} {xs : List Val} : H a = some (.lst us) → al.off a → RepL K al H us xs → Rep K al H (.ref a) (.lst xs)
  | ref {n : Nat} {a : Addr} : al.c[n]? = some a → Rep K al H (.ref a) (.ref n)
  | scr {a : Addr} {ns : List Int} : SqN K al H a (ns.map V.int) → Rep K al H (.ref a) (.scr ns)
  | exc {a : Addr} {c : Nat} {d : Option Addr} {us : List V} {fs : List Val} : excK K c = true → H a = some (ExV a (.ref (xcls K c)) d) → XFld H c d us → RepL K al H us fs → Rep K al H (.ref a) (.exc c fs)
inductive RepL (K : PySem.W.Frag) (al : Al) (H : Hp) : List V → List Val → Prop
  | nil : RepL K al H [] []
  | cons {u : V} {us : List V} {x : Val} {xs : List Val} : Rep K al H u x → RepL K al H us xs → RepL K al H (u :: us) (x :: xs)
end
/-- what never changes -/
def Imm : HO → Prop
  | .tup _ => True
  | .frz _ _ => True
  | .ext _ => True
  | .xd _ => True
  | _ => False
/-- growth: cells at al and what's hidden may change, all else stands; cells are added, hidden ones too -/
structure Ex0 (al al' : Al) (H H' : Hp) : Prop where
  more : ∃ be hs, al' = ⟨al.c ++ be, hs ++ al.h⟩ ∧ (∀ p ∈ be, H p = none) ∧ ∀ p ∈ hs, H p = none
  keep : ∀ a o, H a = some o → (al.off a ∨ Imm o) → H' a = some o
/-- .. the hidden stand, too -/
structure Ext (al al' : Al) (H H' : Hp) : Prop where
  more : ∃ be hs, al' = ⟨al.c ++ be, hs ++ al.h⟩ ∧ (∀ p ∈ be, H p = none) ∧ ∀ p ∈ hs, H p = none
  keep : ∀ a o, H a = some o → (a ∉ al.c ∨ Imm o) → H' a = some o
  dom : ∀ a, H' a = none → H a = none
theorem Ext.to0 {al al' : Al} {H H' : Hp} (x : Ext al al' H H') : Ex0 al al' H H' := ⟨x.more, fun a o e h => x.keep a o e (h.imp (·.1) id)⟩
theorem Ext.refl (al : Al) (H : Hp) : Ext al al H H := ⟨⟨[], [], by simp, by simp, by simp⟩, fun _ _ e _ => e, fun _ e => e⟩
theorem Ext.trans {a b c : Al} {H H1 H2 : Hp} (x : Ext a b H H1) (y : Ext b c H1 H2) : Ext a c H H2 := by
  obtain ⟨be, hs, rfl, h1, g1⟩ := x.more
  obtain ⟨be2, hs2, rfl, h2, g2⟩ := y.more
  refine ⟨⟨be ++ be2, hs2 ++ hs, by simp, fun p hp => ?_, fun p hp => ?_⟩, fun p o e h => ?_, fun p e => x.dom p (y.dom p e)⟩
  · rcases List.mem_append.mp hp with hp | hp
    · exact h1 p hp
    · exact x.dom p (h2 p hp)
  · rcases List.mem_append.mp hp with hp | hp
    · exact x.dom p (g2 p hp)
    · exact g1 p hp
  · have e1 := x.keep p o e h
    refine y.keep p o e1 ?_
    rcases h with h | h
    · refine .inl fun hm => ?_
      rcases List.mem_append.mp hm with hm | hm
      · exact h hm
      · rw [h1 p hm] at e; cases e
    · exact .inr h
theorem Ext.of_same {al : Al} {H H' : Hp} (h : Same H H') : Ext al al H H' :=
  ⟨⟨[], [], by simp, by simp, by simp⟩, fun a o e _ => h a o e, fun a e => by
    cases q : H a with
    | none => rfl
    | some o => rw [h a o q] at e; cases e⟩
theorem same_upd {H : Hp} {p : Addr} {o : HO} (h : H p = none) : Same H (upd H p o) := fun b x e => by
  rw [upd_ne (ne_of_none e h)]
  exact e
theorem SqT.ext0 {K : PySem.W.Frag} {al al' : Al} {H H' : Hp} {a : Addr} {us : List V} (h : SqT K H a us) (x : Ex0 al al' H H') : SqT K H' a us := by
  rcases h with (h | ⟨o, h⟩) | h
  · exact .inl (.inl (x.keep _ _ h (.inr trivial)))
  · exact .inl (.inr ⟨o, x.keep _ _ h (.inr trivial)⟩)
  · exact .inr h
theorem SqT.ext {K : PySem.W.Frag} {al al' : Al} {H H' : Hp} {a : Addr} {us : List V} (h : SqT K H a us) (x : Ext al al' H H') : SqT K H' a us := SqT.ext0 h x.to0
theorem TupN.ext0 {K : PySem.W.Frag} {al al' : Al} {H H' : Hp} {a : Addr} {us : List V} (h : TupN K H a us) (x : Ex0 al al' H H') : TupN K H' a us :=
  ⟨SqT.ext0 h.1 x, h.2.imp (fun ⟨ob, u, e, n⟩ => ⟨ob, u, x.keep _ _ e (.inr trivial), n⟩) id⟩
theorem Ex0.sub {al al' : Al} {H H' : Hp} (x : Ex0 al al' H H') {a : Addr} (n : al.off a) (h : H a ≠ none) : al'.off a := by
  obtain ⟨be, hs, rfl, h1, g1⟩ := x.more
  refine ⟨fun hm => ?_, fun hm => ?_⟩
  · rcases List.mem_append.mp hm with hm | hm
    · exact n.1 hm
    · exact h (h1 a hm)
  · rcases List.mem_append.mp hm with hm | hm
    · exact h (g1 a hm)
    · exact n.2 hm
theorem Ext.sub {al al' : Al} {H H' : Hp} (x : Ext al al' H H') {a : Addr} (n : al.off a) (h : H a ≠ none) : al'.off a := x.to0.sub n h
theorem SqN.ext0 {K : PySem.W.Frag} {al al' : Al} {H H' : Hp} {a : Addr} {us : List V} (h : SqN K al H a us) (x : Ex0 al al' H H') : SqN K al' H' a us := by
  rcases h with ⟨h | ⟨o, h⟩, n⟩ | h
  · exact .inl ⟨.inl (x.keep _ _ h (.inl n)), x.sub n (by rw [h]; simp)⟩
  · exact .inl ⟨.inr ⟨o, x.keep _ _ h (.inl n)⟩, x.sub n (by rw [h]; simp)⟩
  · exact .inr h
theorem SqN.ext {K : PySem.W.Frag} {al al' : Al} {H H' : Hp} {a : Addr} {us : List V} (h : SqN K al H a us) (x : Ext al al' H H') : SqN K al' H' a us := SqN.ext0 h x.to0
theorem XFld.ext0 {al al' : Al} {H H' : Hp} {c : Nat} {d : Option Addr} {us : List V} (h : XFld H c d us) (x : Ex0 al al' H H') : XFld H' c d us := by
  cases us with
  | nil => exact h
  | cons u us =>
    cases us with
    | nil =>
      obtain ⟨dd, e, h⟩ := h
      exact ⟨dd, e, x.keep _ _ h (.inr trivial)⟩
    | cons _ _ => exact h.elim
mutual
theorem Rep.ext0 {K : PySem.W.Frag} {al al' : Al} {H H' : Hp} (x : Ex0 al al' H H') : ∀ (v : Val) (u : V), Rep K al H u v → Rep K al' H' u v
  | .non, _, h => by cases h; exact .non
  | .bl b, _, h => by cases h; exact .bl b
  | .int i, _, h => by cases h; exact .int i
  | .str z, _, h => by cases h; exact .str z
  | .tup xs, _, h => by
    cases h with
    | tup h1 h2 => exact .tup (TupN.ext0 h1 x) (RepL.ext0 x xs _ h2)
  | .lst xs, _, h => by
    cases h with
    | lst h1 h2 h3 => exact .lst (x.keep _ _ h1 (.inl h2)) (x.sub h2 (by rw [h1]; simp)) (RepL.ext0 x xs _ h3)
  | .ref n, _, h => by
    cases h with
    | ref h1 =>
      obtain ⟨be, hs, rfl, _, _⟩ := x.more
      refine .ref ?_
      show (al.c ++ be)[n]? = _
      rw [List.getElem?_append_left (List.getElem?_eq_some_iff.mp h1).1]
      exact h1
  | .scr ns, _, h => by
    cases h with
    | scr h1 => exact .scr (h1.ext0 x)
  | .set _, _, h => by cases h
  | .dct _ _, _, h => by cases h
  | .exc _ fs, _, h => by
    cases h with
    | exc h0 h1 h2 h3 => exact .exc h0 (x.keep _ _ h1 (.inr trivial)) (h2.ext0 x) (RepL.ext0 x fs _ h3)
theorem RepL.ext0 {K : PySem.W.Frag} {al al' : Al} {H H' : Hp} (x : Ex0 al al' H H') : ∀ (vs : List Val) (us : List V), RepL K al H us vs → RepL K al' H' us vs
  | [], _, h => by cases h; exact .nil
  | v :: vs, _, h => by
    cases h with
    | cons h1 h2 => exact .cons (Rep.ext0 x v _ h1) (RepL.ext0 x vs _ h2)
end
theorem Rep.ext {K : PySem.W.Frag} {al al' : Al} {H H' : Hp} (x : Ext al al' H H') (v : Val) (u : V) (h : Rep K al H u v) : Rep K al' H' u v := h.ext0 x.to0 v u
theorem RepL.ext {K : PySem.W.Frag} {al al' : Al} {H H' : Hp} (x : Ext al al' H H') (vs : List Val) (us : List V) (h : RepL K al H us vs) : RepL K al' H' us vs := h.ext0 x.to0 vs us
theorem RepL.length {K : PySem.W.Frag} {al : Al} {H : Hp} : ∀ {vs : List Val} {us : List V}, RepL K al H us vs → us.length = vs.length
  | [], _, h => by cases h; rfl
  | v :: vs, _, h => by
    cases h with
    | cons h1 h2 => simp [h2.length]
theorem RepL.get {K : PySem.W.Frag} {al : Al} {H : Hp} : ∀ {vs : List Val} {us : List V} {i : Nat} {v : Val}, RepL K al H us vs → vs[i]? = some v → ∃ u, us[i]? = some u ∧ Rep K al H u v
  | [], _, _, _, h, e => by simp at e
  | v :: vs, _, 0, _, h, e => by
    cases h with
    | cons h1 h2 => simp at e; subst e; exact ⟨_, rfl, h1⟩
  | v :: vs, _, i + 1, _, h, e => by
    cases h with
    | cons h1 h2 =>
      obtain ⟨u, e1, r⟩ := RepL.get (i := i) h2 (by simpa using e)
      exact ⟨u, by simpa using e1, r⟩
theorem RepL.append {K : PySem.W.Frag} {al : Al} {H : Hp} : ∀ {vs ws : List Val} {us ts : List V}, RepL K al H us vs → RepL K al H ts ws → RepL K al H (us ++ ts) (vs ++ ws)
  | [], _, _, _, h, h' => by cases h; exact h'
  | v :: vs, _, _, _, h, h' => by
    cases h with
    | cons h1 h2 => exact .cons h1 (h2.append h')
theorem RepL.take {K : PySem.W.Frag} {al : Al} {H : Hp} : ∀ {vs : List Val} {us : List V} (n : Nat), RepL K al H us vs → RepL K al H (us.take n) (vs.take n)
  | _, _, 0, _ => .nil
  | [], _, _ + 1, h => by cases h; exact .nil
  | v :: vs, _, n + 1, h => by
    cases h with
    | cons h1 h2 => exact .cons h1 (h2.take n)
theorem RepL.drop {K : PySem.W.Frag} {al : Al} {H : Hp} : ∀ {vs : List Val} {us : List V} (n : Nat), RepL K al H us vs → RepL K al H (us.drop n) (vs.drop n)
  | _, _, 0, h => h
  | [], _, _ + 1, h => by cases h; exact .nil
  | v :: vs, _, n + 1, h => by
    cases h with
    | cons h1 h2 => exact h2.drop n
theorem RepL.set {K : PySem.W.Frag} {al : Al} {H : Hp} {x : Val} {u : V} (r : Rep K al H u x) : ∀ {vs : List Val} {us : List V} (n : Nat), RepL K al H us vs → RepL K al H (us.set n u) (vs.set n x)
  | [], _, _, h => by cases h; exact .nil
  | v :: vs, _, 0, h => by
    cases h with
    | cons h1 h2 => exact .cons r h2
  | v :: vs, _, n + 1, h => by
    cases h with
    | cons h1 h2 => exact .cons h1 (h2.set r n)
theorem RepL.eraseIdx {K : PySem.W.Frag} {al : Al} {H : Hp} : ∀ {vs : List Val} {us : List V} (n : Nat), RepL K al H us vs → RepL K al H (us.eraseIdx n) (vs.eraseIdx n)
  | [], _, _, h => by cases h; exact .nil
  | v :: vs, _, 0, h => by
    cases h with
    | cons h1 h2 => exact h2
  | v :: vs, _, n + 1, h => by
    cases h with
    | cons h1 h2 => exact .cons h1 (h2.eraseIdx n)
theorem RepL.dropLast {K : PySem.W.Frag} {al : Al} {H : Hp} {vs : List Val} {us : List V} (h : RepL K al H us vs) : RepL K al H us.dropLast vs.dropLast := by
  rw [List.dropLast_eq_take, List.dropLast_eq_take, h.length]
  exact h.take _
theorem RepL.reverse {K : PySem.W.Frag} {al : Al} {H : Hp} : ∀ {vs : List Val} {us : List V}, RepL K al H us vs → RepL K al H us.reverse vs.reverse
  | [], _, h => by cases h; exact .nil
  | v :: vs, _, h => by
    cases h with
    | cons h1 h2 =>
      rw [List.reverse_cons, List.reverse_cons]
      exact h2.reverse.append (.cons h1 .nil)
theorem RepL.rep {K : PySem.W.Frag} {al : Al} {H : Hp} {vs : List Val} {us : List V} (h : RepL K al H us vs) : ∀ k : Nat, RepL K al H (List.replicate k us).flatten (List.replicate k vs).flatten
  | 0 => .nil
  | k + 1 => by
    rw [List.replicate_succ, List.replicate_succ, List.flatten_cons, List.flatten_cons]
    exact h.append (h.rep k)
theorem RepL.ints {K : PySem.W.Frag} {al : Al} {H : Hp} : ∀ (ns : List Int), RepL K al H (ns.map V.int) (ns.map Val.int)
  | [] => .nil
  | n :: ns => .cons (.int n) (RepL.ints ns)
theorem RepL.of_ints {K : PySem.W.Frag} {al : Al} {H : Hp} : ∀ {vs : List Val} {us : List V} {ns : List Int}, RepL K al H us vs → intsOf vs = some ns → us = ns.map V.int
  | [], _, ns, h, e => by cases h; simp [intsOf] at e; subst e; rfl
  | .int i :: vs, _, ns, h, e => by
    cases h with
    | cons h1 h2 =>
      cases h1
      simp only [intsOf, Option.map_eq_some_iff] at e
      obtain ⟨ms, e1, rfl⟩ := e
      rw [RepL.of_ints h2 e1]
      rfl
  | .non :: _, _, _, _, e => by simp [intsOf] at e
  | .bl _ :: _, _, _, _, e => by simp [intsOf] at e
  | .str _ :: _, _, _, _, e => by simp [intsOf] at e
  | .tup _ :: _, _, _, _, e => by simp [intsOf] at e
  | .lst _ :: _, _, _, _, e => by simp [intsOf] at e
  | .ref _ :: _, _, _, _, e => by simp [intsOf] at e
  | .scr _ :: _, _, _, _, e => by simp [intsOf] at e
  | .set _ :: _, _, _, _, e => by simp [intsOf] at e
  | .dct _ _ :: _, _, _, _, e => by simp [intsOf] at e
  | .exc _ _ :: _, _, _, _, e => by simp [intsOf] at e
theorem RepL.of_bls {K : PySem.W.Frag} {al : Al} {H : Hp} : ∀ {vs : List Val} {us : List V} {ns : List Bool}, RepL K al H us vs → blsOf vs = some ns → us = ns.map V.bl
  | [], _, ns, h, e => by cases h; simp [blsOf] at e; subst e; rfl
  | .bl i :: vs, _, ns, h, e => by
    cases h with
    | cons h1 h2 =>
      cases h1
      simp only [blsOf, Option.map_eq_some_iff] at e
      obtain ⟨ms, e1, rfl⟩ := e
      rw [RepL.of_bls h2 e1]
      rfl
  | .non :: _, _, _, _, e => by simp [blsOf] at e
  | .int _ :: _, _, _, _, e => by simp [blsOf] at e
  | .str _ :: _, _, _, _, e => by simp [blsOf] at e
  | .tup _ :: _, _, _, _, e => by simp [blsOf] at e
  | .lst _ :: _, _, _, _, e => by simp [blsOf] at e
  | .ref _ :: _, _, _, _, e => by simp [blsOf] at e
  | .scr _ :: _, _, _, _, e => by simp [blsOf] at e
  | .set _ :: _, _, _, _, e => by simp [blsOf] at e
  | .dct _ _ :: _, _, _, _, e => by simp [blsOf] at e
  | .exc _ _ :: _, _, _, _, e => by simp [blsOf] at e
/-! ### cells -/
def CellR (K : PySem.W.Frag) (al : Al) (H : Hp) (a : Addr) : Cell → Prop
  | .lst xs => ∃ us, H a = some (.lst us) ∧ RepL K al H us xs
  | _ => False
structure Rl (K : PySem.W.Frag) (bs : List Nat) (al : Al) (m : M) (H : Hp) : Prop where
  nd : al.c.Nodup
  len : al.c.length = m.length
  cell : ∀ (i : Nat) a c, al.c[i]? = some a → m[i]? = some c → CellR K al H a c
  low : ∀ b ∈ bs, ∀ (i : Nat) c, i < b → m[i]? = some c → c.lt_ b = true
  ble : ∀ b ∈ bs, b ≤ m.length
  top : bs.Pairwise fun a b => b ≤ a
  hid : ∀ a ∈ al.h, H a ≠ none
  dis : ∀ a ∈ al.c, a ∉ al.h
theorem Rl.at {K : PySem.W.Frag} {bs : List Nat} {al : Al} {m : M} {H : Hp} (r : Rl K bs al m H) {n : Nat} {a : Addr} (h : al.c[n]? = some a) : ∃ c, m[n]? = some c ∧ CellR K al H a c := by
  have hl : n < m.length := by rw [← r.len]; exact (List.getElem?_eq_some_iff.mp h).1
  exact ⟨m[n], List.getElem?_eq_getElem hl, r.cell n a _ h (List.getElem?_eq_getElem hl)⟩
theorem Rl.dom {K : PySem.W.Frag} {bs : List Nat} {al : Al} {m : M} {H : Hp} (r : Rl K bs al m H) {a : Addr} (h : a ∈ al.c) : ∃ us, H a = some (.lst us) := by
  obtain ⟨n, hn⟩ := List.getElem?_of_mem h
  obtain ⟨c, _, q⟩ := r.at hn
  cases c with
  | lst xs => obtain ⟨us, e, _⟩ := q; exact ⟨us, e⟩
  | dct _ _ => exact q.elim
  | ins _ _ => exact q.elim
theorem Rl.new {K : PySem.W.Frag} {bs : List Nat} {al : Al} {m : M} {H : Hp} (r : Rl K bs al m H) {p : Addr} (h : H p = none) : p ∉ al.c := fun hm => by
  obtain ⟨us, e⟩ := r.dom hm
  rw [h] at e; cases e
theorem CellR.ext {K : PySem.W.Frag} {al al' : Al} {H H' : Hp} {a : Addr} {c : Cell} (h : CellR K al H a c) (x : Ext al al' H H') (e : H' a = H a) : CellR K al' H' a c := by
  cases c with
  | lst xs => obtain ⟨us, e1, q⟩ := h; exact ⟨us, e.trans e1, q.ext x xs us⟩
  | dct _ _ => exact h.elim
  | ins _ _ => exact h.elim
/-- a growth that leaves the cells -/
theorem Rl.ext {K : PySem.W.Frag} {bs : List Nat} {al : Al} {m : M} {H H' : Hp} (r : Rl K bs al m H) (s : Same H H') : Rl K bs al m H' := by
  refine ⟨r.nd, r.len, fun i a c h1 h2 => ?_, r.low, r.ble, r.top, fun a ha e => r.hid a ha ((Ext.of_same (al := al) s).dom a e), r.dis⟩
  obtain ⟨us, e⟩ := r.dom (List.mem_of_getElem? h1)
  exact (r.cell i a c h1 h2).ext (.of_same s) ((s a _ e).trans e.symm)
/-- a cell is stored -/
theorem Ext.store {al : Al} {H : Hp} {a : Addr} {us ws : List V} (ha : a ∈ al.c) (e : H a = some (.lst us)) : Ext al al H (upd H a (.lst ws)) := by
  refine ⟨⟨[], [], by simp, by simp, by simp⟩, fun b o eb h => ?_, fun b eb => ?_⟩
  · by_cases hb : b = a
    · subst hb
      rcases h with h | h
      · exact absurd ha h
      · rw [e] at eb; cases eb; exact h.elim
    · rw [upd_ne hb]; exact eb
  · by_cases hb : b = a
    · subst hb; rw [upd_same] at eb; cases eb
    · rw [upd_ne hb] at eb; exact eb
theorem Rl.store {K : PySem.W.Frag} {bs : List Nat} {al : Al} {m : M} {H : Hp} (r : Rl K bs al m H) {n : Nat} {a : Addr} {us ws : List V} {ys : List Val} (h : al.c[n]? = some a) (e : H a = some (.lst us)) (q : RepL K al H ws ys)
    (hs : ∀ b ∈ bs, n < b → ltAll b ys = true) : Rl K bs al (m.set n (.lst ys)) (upd H a (.lst ws)) := by
  have x : Ext al al H (upd H a (.lst ws)) := .store (List.mem_of_getElem? h) e
  refine ⟨r.nd, by rw [List.length_set]; exact r.len, fun i b c h1 h2 => ?_, fun b hb i c hi h2 => ?_, by rw [List.length_set]; exact r.ble, r.top, fun a ha e => r.hid a ha (x.dom a e), r.dis⟩
  · by_cases hi : i = n
    · subst hi
      rw [h] at h1; cases h1
      rw [List.getElem?_set_self (by rw [← r.len]; exact (List.getElem?_eq_some_iff.mp h).1)] at h2
      cases h2
      exact ⟨ws, upd_same, q.ext x ys ws⟩
    · rw [List.getElem?_set_ne (Ne.symm hi)] at h2
      have hb : b ≠ a := by
        rintro rfl
        obtain ⟨l1, e1⟩ := List.getElem?_eq_some_iff.mp h1
        obtain ⟨l2, e2⟩ := List.getElem?_eq_some_iff.mp h
        exact hi ((List.getElem_inj r.nd).mp (e1.trans e2.symm))
      exact (r.cell i b c h1 h2).ext x (upd_ne hb)
  · by_cases hi' : i = n
    · subst hi'
      rw [List.getElem?_set_self (Nat.lt_of_lt_of_le hi (r.ble b hb))] at h2
      cases h2
      exact hs b hb hi
    · rw [List.getElem?_set_ne (Ne.symm hi')] at h2
      exact r.low b hb i c hi h2
/-- a new list becomes a cell -/
theorem Rl.alloc {K : PySem.W.Frag} {bs : List Nat} {al : Al} {m : M} {H : Hp} (r : Rl K bs al m H) {p : Addr} {us : List V} {xs : List Val} (h : H p = none) (q : RepL K al H us xs) :
    Rl K bs (al.add [p]) (m ++ [.lst xs]) (upd H p (.lst us)) ∧ Ext al (al.add [p]) H (upd H p (.lst us)) := by
  have x : Ext al (al.add [p]) H (upd H p (.lst us)) := by
    refine ⟨⟨[p], [], rfl, fun b hb => ?_, by simp⟩, fun b o e _ => same_upd h b o e, fun b e => ?_⟩
    · rw [List.mem_singleton] at hb; subst hb; exact h
    · by_cases hb : b = p
      · subst hb; exact h
      · rw [upd_ne hb] at e; exact e
  refine ⟨⟨?_, by simp [Al.add, r.len], fun i b c h1 h2 => ?_, fun b hb i c hi h2 => ?_, fun b hb => by rw [List.length_append]; exact Nat.le_trans (r.ble b hb) (Nat.le_add_right _ _), r.top, fun a ha e => r.hid a ha (x.dom a e), fun a ha hm => by
      rcases List.mem_append.mp ha with ha | ha
      · exact r.dis a ha hm
      · rw [List.mem_singleton] at ha
        subst ha
        exact r.hid a hm h⟩, x⟩
  · show (al.c ++ [p]).Nodup
    rw [List.nodup_append]
    refine ⟨r.nd, by simp, fun a ha b hb => ?_⟩
    rw [List.mem_singleton] at hb
    subst hb
    rintro rfl
    exact r.new h ha
  · have h1 : (al.c ++ [p])[i]? = some b := h1
    by_cases hi : i < al.c.length
    · rw [List.getElem?_append_left hi] at h1
      rw [List.getElem?_append_left (by rw [← r.len]; exact hi)] at h2
      have hb : b ≠ p := fun z => r.new h (z ▸ List.mem_of_getElem? h1)
      exact (r.cell i b c h1 h2).ext x (upd_ne hb)
    · have hi' : i = al.c.length := by
        obtain ⟨l1, _⟩ := List.getElem?_eq_some_iff.mp h1
        simp at l1
        omega
      subst hi'
      rw [List.getElem?_append_right (Nat.le_refl _)] at h1
      rw [r.len, List.getElem?_append_right (Nat.le_refl _)] at h2
      simp at h1 h2
      subst h1; subst h2
      exact ⟨us, upd_same, q.ext x xs us⟩
  · have hi' : i < m.length := Nat.lt_of_lt_of_le hi (r.ble b hb)
    rw [List.getElem?_append_left hi'] at h2
    exact r.low b hb i c hi h2
/-! ### the slots -/
structure RE (K : PySem.W.Frag) (al : Al) (H : Hp) (s : L2.St) (r : Env) : Prop where
  len : s.length = r.length
  get : ∀ (i : Nat) v, r[i]? = some (some v) → ∃ u, s[i]? = some (some u) ∧ Rep K al H u v
theorem RE.ext {K : PySem.W.Frag} {al al' : Al} {H H' : Hp} {s : L2.St} {r : Env} (h : RE K al H s r) (x : Ext al al' H H') : RE K al' H' s r :=
  ⟨h.len, fun i v e => let ⟨u, e1, q⟩ := h.get i v e; ⟨u, e1, q.ext x v u⟩⟩
theorem RE.set {K : PySem.W.Frag} {al : Al} {H : Hp} {s : L2.St} {r : Env} {v : Val} {u : V} (h : RE K al H s r) (q : Rep K al H u v) (i : Nat) : RE K al H (s.set i (some u)) (r.set i (some v)) := by
  refine ⟨by simp [h.len], fun j w e => ?_⟩
  by_cases hj : i = j
  · subst hj
    have hl : i < r.length := by
      obtain ⟨l, _⟩ := List.getElem?_eq_some_iff.mp e
      simpa using l
    rw [List.getElem?_set_self hl] at e
    cases e
    exact ⟨u, by rw [List.getElem?_set_self (by rw [h.len]; exact hl)], q⟩
  · rw [List.getElem?_set_ne hj] at e
    rw [List.getElem?_set_ne hj]
    exact h.get j w e
theorem RE.unset {K : PySem.W.Frag} {al : Al} {H : Hp} {s : L2.St} {r : Env} (h : RE K al H s r) (i : Nat) (o : Option V) : RE K al H (s.set i o) (r.set i none) := by
  refine ⟨by simp [h.len], fun j w e => ?_⟩
  by_cases hj : i = j
  · subst hj
    by_cases hl : i < r.length
    · rw [List.getElem?_set_self hl] at e; cases e
    · rw [List.getElem?_eq_none (by simpa using hl)] at e; cases e
  · rw [List.getElem?_set_ne hj] at e
    rw [List.getElem?_set_ne hj]
    exact h.get j w e
theorem RE.wipe {K : PySem.W.Frag} {al : Al} {H : Hp} {s : L2.St} {r : Env} (h : RE K al H s r) : ∀ vs : List Nat, RE K al H (L2.wipe s vs) (wipeE r vs)
  | [] => h
  | v :: vs => (h.wipe vs).unset v none
/-! ### what a reference shows -/
inductive RepD (K : PySem.W.Frag) (al : Al) (H : Hp) : V → Val → Prop
  | of {u : V} {v : Val} : Rep K al H u v → RepD K al H u v
  | lst {a : Addr} {us : List V} {xs : List Val} : H a = some (.lst us) → RepL K al H us xs → RepD K al H (.ref a) (.lst xs)
theorem RepD.dr {K : PySem.W.Frag} {bs : List Nat} {al : Al} {m : M} {H : Hp} {u : V} {v : Val} (h : Rep K al H u v) (r : Rl K bs al m H) : RepD K al H u (dr m v) := by
  cases v with
  | ref n =>
    cases h with
    | ref h1 =>
      obtain ⟨c, e, q⟩ := r.at h1
      cases c with
      | lst xs =>
        have ed : MP.dr m (.ref n) = .lst xs := by simp only [MP.dr, e]
        rw [ed]
        obtain ⟨us, e1, q1⟩ := q
        exact .lst e1 q1
      | dct _ _ => exact q.elim
      | ins _ _ => exact q.elim
  | _ => exact .of h
theorem RepD.int {K : PySem.W.Frag} {al : Al} {H : Hp} {u : V} {i : Int} (h : RepD K al H u (.int i)) : u = .int i := by
  cases h with
  | of h => cases h; rfl
theorem RepD.bl {K : PySem.W.Frag} {al : Al} {H : Hp} {u : V} {i : Bool} (h : RepD K al H u (.bl i)) : u = .bl i := by
  cases h with
  | of h => cases h; rfl
theorem RepD.str {K : PySem.W.Frag} {al : Al} {H : Hp} {u : V} {i : Str} (h : RepD K al H u (.str i)) : u = .str i := by
  cases h with
  | of h => cases h; rfl
theorem RepD.non {K : PySem.W.Frag} {al : Al} {H : Hp} {u : V} (h : RepD K al H u .non) : u = .non := by
  cases h with
  | of h => cases h; rfl
theorem RepD.list {K : PySem.W.Frag} {al : Al} {H : Hp} {u : V} {xs : List Val} (h : RepD K al H u (.lst xs)) : ∃ a us, u = .ref a ∧ H a = some (.lst us) ∧ RepL K al H us xs := by
  cases h with
  | of h => cases h with
    | lst h1 h2 h3 => exact ⟨_, _, rfl, h1, h3⟩
  | lst h1 h3 => exact ⟨_, _, rfl, h1, h3⟩
theorem RepD.tuple {K : PySem.W.Frag} {al : Al} {H : Hp} {u : V} {xs : List Val} (h : RepD K al H u (.tup xs)) : ∃ a us, u = .ref a ∧ SqT K H a us ∧ RepL K al H us xs := by
  cases h with
  | of h => cases h with
    | tup h1 h3 => exact ⟨_, _, rfl, h1.1, h3⟩
theorem RepD.tupleN {K : PySem.W.Frag} {al : Al} {H : Hp} {u : V} {xs : List Val} (h : RepD K al H u (.tup xs)) : ∃ a us, u = .ref a ∧ TupN K H a us ∧ RepL K al H us xs := by
  cases h with
  | of h => cases h with
    | tup h1 h3 => exact ⟨_, _, rfl, h1, h3⟩
theorem RepD.script {K : PySem.W.Frag} {al : Al} {H : Hp} {u : V} {ns : List Int} (h : RepD K al H u (.scr ns)) : ∃ a, u = .ref a ∧ SqL K H a (ns.map V.int) := by
  cases h with
  | of h => cases h with
    | scr h1 => exact ⟨_, rfl, h1.sq⟩
theorem RepD.ext {K : PySem.W.Frag} {al al' : Al} {H H' : Hp} {u : V} {v : Val} (h : RepD K al H u v) (x : Same H H') : RepD K al H' u v := by
  cases h with
  | of h => exact .of (h.ext (.of_same x) v u)
  | lst h1 h3 => exact .lst (x _ _ h1) (h3.ext (.of_same x) _ _)
/-! ### a frame's cells are gone -/
mutual
theorem Rep.lt {K : PySem.W.Frag} {al : Al} {H : Hp} : ∀ (v : Val) (u : V), Rep K al H u v → v.lt_ al.c.length = true
  | .non, _, _ => rfl
  | .bl _, _, _ => rfl
  | .int _, _, _ => rfl
  | .str _, _, _ => rfl
  | .scr _, _, _ => rfl
  | .tup xs, _, h => by
    cases h with
    | tup h1 h2 => exact RepL.lt xs _ h2
  | .lst xs, _, h => by
    cases h with
    | lst h1 h2 h3 => exact RepL.lt xs _ h3
  | .ref n, _, h => by
    cases h with
    | ref h1 => exact decide_eq_true (List.getElem?_eq_some_iff.mp h1).1
  | .set _, _, h => by cases h
  | .dct _ _, _, h => by cases h
  | .exc _ fs, _, h => by
    cases h with
    | exc h0 h1 h2 h3 => exact RepL.lt fs _ h3
theorem RepL.lt {K : PySem.W.Frag} {al : Al} {H : Hp} : ∀ (vs : List Val) (us : List V), RepL K al H us vs → ltAll al.c.length vs = true
  | [], _, _ => rfl
  | v :: vs, _, h => by
    cases h with
    | cons h1 h2 =>
      simp only [ltAll, Bool.and_eq_true]
      exact ⟨Rep.lt v _ h1, RepL.lt vs _ h2⟩
end
/-- a callee begins -/
theorem Rl.enter {K : PySem.W.Frag} {bs : List Nat} {al : Al} {m : M} {H : Hp} (r : Rl K bs al m H) : Rl K (m.length :: bs) al m H := by
  refine ⟨r.nd, r.len, r.cell, fun b hb i c hi h => ?_, fun b hb => ?_, List.pairwise_cons.mpr ⟨r.ble, r.top⟩, r.hid, r.dis⟩
  · rcases List.mem_cons.mp hb with rfl | hb
    · have ha : al.c[i]? = some (al.c[i]'(by rw [r.len]; exact hi)) := List.getElem?_eq_getElem _
      have q := r.cell i _ c ha h
      cases c with
      | lst xs =>
        obtain ⟨us, _, q⟩ := q
        have := q.lt xs us
        rw [r.len] at this
        exact this
      | dct _ _ => exact q.elim
      | ins _ _ => exact q.elim
    · exact r.low b hb i c hi h
  · rcases List.mem_cons.mp hb with rfl | hb
    · exact Nat.le_refl _
    · exact r.ble b hb
theorem take_some {α : Type} {l : List α} {n i : Nat} {x : α} (h : (l.take n)[i]? = some x) : i < n ∧ l[i]? = some x := by
  rw [List.getElem?_take] at h
  split at h
  · exact ⟨by assumption, h⟩
  · cases h
/-- the cells below n as they were, none from elsewhere -/
structure Sub (n : Nat) (al al' : Al) : Prop where
  same : ∀ i, i < n → al'.c[i]? = al.c[i]?
  offA : ∀ a, al.off a → al'.off a
theorem Sub.off {n : Nat} {al al' : Al} (sb : Sub n al al') {a : Addr} (h : al.off a) : al'.off a := sb.offA a h
theorem Sub.by {n : Nat} {al al' : Al} (same : ∀ i, i < n → al'.c[i]? = al.c[i]?) (mem : ∀ a ∈ al'.c, a ∈ al.c) (hid : ∀ a ∈ al'.h, a ∈ al.h) : Sub n al al' := ⟨same, fun a h => ⟨fun hm => h.1 (mem a hm), fun hm => h.2 (hid a hm)⟩⟩
mutual
theorem Rep.low {K : PySem.W.Frag} {al al' : Al} {H : Hp} {n : Nat} (sb : Sub n al al') : ∀ (v : Val) (u : V), Rep K al H u v → v.lt_ n = true → Rep K al' H u v
  | .non, _, h, _ => by cases h; exact .non
  | .bl b, _, h, _ => by cases h; exact .bl b
  | .int i, _, h, _ => by cases h; exact .int i
  | .str z, _, h, _ => by cases h; exact .str z
  | .scr ns, _, h, _ => by
    cases h with
    | scr h =>
      refine .scr ?_
      rcases h with ⟨h1, h2⟩ | h
      · exact .inl ⟨h1, sb.off h2⟩
      · exact .inr h
  | .tup xs, _, h, hn => by
    cases h with
    | tup h1 h2 => exact .tup h1 (RepL.low sb xs _ h2 hn)
  | .lst xs, _, h, hn => by
    cases h with
    | lst h1 h2 h3 => exact .lst h1 (sb.off h2) (RepL.low sb xs _ h3 hn)
  | .ref k, _, h, hn => by
    cases h with
    | ref h1 => exact .ref ((sb.same k (of_decide_eq_true hn)).trans h1)
  | .set _, _, h, _ => by cases h
  | .dct _ _, _, h, _ => by cases h
  | .exc _ fs, _, h, hn => by
    cases h with
    | exc h0 h1 h2 h3 => exact .exc h0 h1 h2 (RepL.low sb fs _ h3 hn)
theorem RepL.low {K : PySem.W.Frag} {al al' : Al} {H : Hp} {n : Nat} (sb : Sub n al al') : ∀ (vs : List Val) (us : List V), RepL K al H us vs → ltAll n vs = true → RepL K al' H us vs
  | [], _, h, _ => by cases h; exact .nil
  | v :: vs, _, h, hn => by
    simp only [ltAll, Bool.and_eq_true] at hn
    cases h with
    | cons h1 h2 => exact .cons (Rep.low sb v _ h1 hn.1) (RepL.low sb vs _ h2 hn.2)
end
theorem Sub.take (n : Nat) (al : Al) : Sub n al (al.cut n) :=
  .by (fun i hi => by show (al.c.take n)[i]? = _; rw [List.getElem?_take, if_pos hi]) (fun _ h => List.mem_of_mem_take h) fun _ h => h
/-- a callee ends: its cells are forgotten -/
theorem Rl.leave {K : PySem.W.Frag} {n : Nat} {bs : List Nat} {al : Al} {m : M} {H : Hp} (r : Rl K (n :: bs) al m H) : Rl K bs (al.cut n) (m.take n) H := by
  have hn := r.ble n List.mem_cons_self
  have hle : ∀ b ∈ bs, b ≤ n := fun b hb => (List.pairwise_cons.mp r.top).1 b hb
  refine ⟨r.nd.sublist (List.take_sublist _ _), by show (al.c.take n).length = _; rw [List.length_take, List.length_take, r.len], fun i a c h1 h2 => ?_, fun b hb i c hi h => r.low b (List.mem_cons_of_mem _ hb) i c hi (take_some h).2, fun b hb => by rw [List.length_take]; have := hle b hb; omega, (List.pairwise_cons.mp r.top).2, r.hid, fun a ha => r.dis a (List.mem_of_mem_take ha)⟩
  · obtain ⟨hi, h1⟩ := take_some h1
    obtain ⟨_, h2⟩ := take_some h2
    have q := r.cell i a c h1 h2
    have l := r.low n List.mem_cons_self i c hi h2
    cases c with
    | lst xs =>
      obtain ⟨us, e, q⟩ := q
      exact ⟨us, e, q.low (.take n al) xs us l⟩
    | dct _ _ => exact q.elim
    | ins _ _ => exact q.elim
theorem Rl.head {K : PySem.W.Frag} {bs : List Nat} {al : Al} {m : M} {H : Hp} (r : Rl K bs al m H) : ∀ b ∈ bs, b ≤ bs.headD 0 := fun b hb => by
  cases bs with
  | nil => cases hb
  | cons c bs =>
    rcases List.mem_cons.mp hb with rfl | hb
    · exact Nat.le_refl _
    · exact (List.pairwise_cons.mp r.top).1 b hb
/-- a new list is hidden -/
theorem Ext.hide {al : Al} {H : Hp} {p : Addr} {us : List V} (h : H p = none) : Ext al al H (upd H p (.lst us)) := .of_same (same_upd h)
mutual
theorem Rep.hide {K : PySem.W.Frag} {al : Al} {H : Hp} {p : Addr} (hp : H p = none) : ∀ (v : Val) (u : V), Rep K al H u v → Rep K (al.hide p) H u v
  | .non, _, h => by cases h; exact .non
  | .bl b, _, h => by cases h; exact .bl b
  | .int i, _, h => by cases h; exact .int i
  | .str z, _, h => by cases h; exact .str z
  | .scr ns, _, h => by
    cases h with
    | scr h =>
      refine .scr ?_
      rcases h with ⟨h1, h2⟩ | h
      · refine .inl ⟨h1, h2.1, fun hm => ?_⟩
        rcases List.mem_cons.mp hm with e | hm
        · subst e
          rcases h1 with h1 | ⟨o, h1⟩ <;> rw [hp] at h1 <;> cases h1
        · exact h2.2 hm
      · exact .inr h
  | .tup xs, _, h => by
    cases h with
    | tup h1 h2 => exact .tup h1 (RepL.hide hp xs _ h2)
  | .lst xs, _, h => by
    cases h with
    | lst h1 h2 h3 =>
      refine .lst h1 ⟨h2.1, fun hm => ?_⟩ (RepL.hide hp xs _ h3)
      rcases List.mem_cons.mp hm with e | hm
      · subst e
        rw [hp] at h1
        cases h1
      · exact h2.2 hm
  | .ref k, _, h => by
    cases h with
    | ref h1 => exact .ref h1
  | .set _, _, h => by cases h
  | .dct _ _, _, h => by cases h
  | .exc _ fs, _, h => by
    cases h with
    | exc h0 h1 h2 h3 => exact .exc h0 h1 h2 (RepL.hide hp fs _ h3)
theorem RepL.hide {K : PySem.W.Frag} {al : Al} {H : Hp} {p : Addr} (hp : H p = none) : ∀ (vs : List Val) (us : List V), RepL K al H us vs → RepL K (al.hide p) H us vs
  | [], _, h => by cases h; exact .nil
  | v :: vs, _, h => by
    cases h with
    | cons h1 h2 => exact .cons (Rep.hide hp v _ h1) (RepL.hide hp vs _ h2)
end
theorem Rl.hide {K : PySem.W.Frag} {bs : List Nat} {al : Al} {m : M} {H : Hp} (r : Rl K bs al m H) {p : Addr} (hp : H p = none) (us : List V) : Rl K bs (al.hide p) m (upd H p (.lst us)) := by
  have r1 := r.ext (same_upd (o := .lst us) hp)
  refine ⟨r.nd, r.len, fun i a c h1 h2 => ?_, r.low, r.ble, r.top, fun a ha e => ?_, fun a ha hm => ?_⟩
  · have q := r.cell i a c h1 h2
    cases c with
    | lst xs =>
      obtain ⟨ws, e, q⟩ := q
      have x : Ext (al.hide p) (al.hide p) H (upd H p (.lst us)) := .of_same (same_upd hp)
      exact ⟨ws, same_upd hp _ _ e, (q.hide hp xs ws).ext x xs ws⟩
    | dct _ _ => exact q.elim
    | ins _ _ => exact q.elim
  · rcases List.mem_cons.mp ha with h | h
    · subst h
      rw [upd_same] at e
      cases e
    · exact r1.hid a h e
  · rcases List.mem_cons.mp hm with h | h
    · subst h
      exact r.new hp ha
    · exact r.dis a ha h
theorem RE.hide {K : PySem.W.Frag} {al : Al} {H : Hp} {s : L2.St} {r : Env} (h : RE K al H s r) {p : Addr} (hp : H p = none) : RE K (al.hide p) H s r :=
  ⟨h.len, fun i v e => let ⟨u, e1, q⟩ := h.get i v e; ⟨u, e1, q.hide hp v u⟩⟩
/-- a fresh address is hidden: growth -/
theorem Ext.hideX {al : Al} {H : Hp} {p : Addr} {o : HO} (h : H p = none) : Ext al (al.hide p) H (upd H p o) :=
  ⟨⟨[], [p], by simp [Al.hide], by simp, by simp [h]⟩, fun a x e _ => same_upd h a x e, fun a e => (Ext.of_same (al := al) (same_upd (o := o) h)).dom a e⟩
/-- a hidden list changes -/
theorem Ex0.hid {al : Al} {H : Hp} {p : Addr} {us ws : List V} (hp : p ∈ al.h) (e : H p = some (.lst us)) : Ex0 al al H (upd H p (.lst ws)) :=
  ⟨⟨[], [], by simp, by simp, by simp⟩, fun a o e1 h => by
    rw [upd_ne]
    · exact e1
    · rintro rfl
      rcases h with h | h
      · exact h.2 hp
      · rw [e] at e1; cases e1; exact h.elim⟩
theorem Rl.updHid {K : PySem.W.Frag} {bs : List Nat} {al : Al} {m : M} {H : Hp} (r : Rl K bs al m H) {p : Addr} {us ws : List V} (hp : p ∈ al.h) (e : H p = some (.lst us)) : Rl K bs al m (upd H p (.lst ws)) := by
  have x := Ex0.hid (ws := ws) hp e
  refine ⟨r.nd, r.len, fun i a c h1 h2 => ?_, r.low, r.ble, r.top, fun a ha e => ?_, r.dis⟩
  · have q := r.cell i a c h1 h2
    have hn : a ≠ p := by
      rintro rfl
      exact r.dis a (List.mem_of_getElem? h1) hp
    cases c with
    | lst xs =>
      obtain ⟨vs, e1, q⟩ := q
      exact ⟨vs, (upd_ne hn).trans e1, q.ext0 x xs vs⟩
    | dct _ _ => exact q.elim
    | ins _ _ => exact q.elim
  · by_cases hn : a = p
    · subst hn
      rw [upd_same] at e
      cases e
    · rw [upd_ne hn] at e
      exact r.hid a ha e
/-- what's hidden at p is seen again -/
theorem Rl.unhid {K : PySem.W.Frag} {bs : List Nat} {al al' : Al} {m : M} {H : Hp} (r : Rl K bs al m H) (hc : al'.c = al.c) (hh : ∀ a ∈ al'.h, a ∈ al.h) : Rl K bs al' m H := by
  have sb : Sub al.c.length al al' := .by (fun _ _ => by rw [hc]) (fun _ h => hc ▸ h) hh
  refine ⟨hc ▸ r.nd, hc ▸ r.len, fun i a c h1 h2 => ?_, r.low, r.ble, r.top, fun a ha => r.hid a (hh a ha), fun a ha hm => r.dis a (hc ▸ ha) (hh a hm)⟩
  have q := r.cell i a c (hc ▸ h1) h2
  cases c with
  | lst xs =>
    obtain ⟨ws, e, q⟩ := q
    exact ⟨ws, e, q.low sb xs ws (RepL.lt xs ws q)⟩
  | dct _ _ => exact q.elim
  | ins _ _ => exact q.elim
/-- .. as a cell -/
theorem Rl.adopt {K : PySem.W.Frag} {bs : List Nat} {al : Al} {hs ho : List Addr} {p : Addr} {m : M} {H : Hp} {us : List V} {xs : List Val} (r : Rl K bs al m H) (eh : al.h = hs ++ p :: ho) (hn : p ∉ hs) (hn2 : p ∉ ho) (e : H p = some (.lst us)) (q : RepL K al H us xs) :
    Rl K bs (Al.add ⟨al.c, hs ++ ho⟩ [p]) (m ++ [.lst xs]) H := by
  have hp : p ∈ al.h := by rw [eh]; simp
  have sb : Sub al.c.length al (Al.add ⟨al.c, hs ++ ho⟩ [p]) := by
    refine ⟨fun i hi => ?_, fun a h => ⟨fun hm => ?_, fun hm => ?_⟩⟩
    · show (al.c ++ [p])[i]? = _
      rw [List.getElem?_append_left hi]
    · rcases List.mem_append.mp hm with hm | hm
      · exact h.1 hm
      · rw [List.mem_singleton] at hm
        subst hm
        exact h.2 hp
    · refine h.2 ?_
      rw [eh]
      have hm : a ∈ hs ++ ho := hm
      simp only [List.mem_append, List.mem_cons] at hm ⊢
      exact hm.imp id .inr
  have hpc : p ∉ al.c := fun h => r.dis p h hp
  refine ⟨?_, by simp [Al.add, r.len], fun i a c h1 h2 => ?_, fun b hb i c hi h2 => ?_, fun b hb => by
    rw [List.length_append]
    exact Nat.le_trans (r.ble b hb) (Nat.le_add_right _ _), r.top, fun a ha => r.hid a ?_, fun a ha hm => ?_⟩
  · show (al.c ++ [p]).Nodup
    rw [List.nodup_append]
    refine ⟨r.nd, by simp, fun x hx y hy => ?_⟩
    rw [List.mem_singleton] at hy
    subst hy
    rintro rfl
    exact hpc hx
  · have h1 : (al.c ++ [p])[i]? = some a := h1
    by_cases hi : i < m.length
    · rw [List.getElem?_append_left (by rw [r.len]; exact hi)] at h1
      rw [List.getElem?_append_left hi] at h2
      have q2 := r.cell i a c h1 h2
      cases c with
      | lst ys =>
        obtain ⟨ws, e2, q2⟩ := q2
        exact ⟨ws, e2, q2.low sb ys ws (RepL.lt ys ws q2)⟩
      | dct _ _ => exact q2.elim
      | ins _ _ => exact q2.elim
    · rw [List.getElem?_append_right (by rw [r.len]; omega), r.len] at h1
      rw [List.getElem?_append_right (by omega)] at h2
      have hi0 : i - m.length = 0 := by
        obtain ⟨l, _⟩ := List.getElem?_eq_some_iff.mp h1
        simp at l
        omega
      rw [hi0] at h1 h2
      simp at h1 h2
      subst h1
      subst h2
      exact ⟨us, e, q.low sb xs us (RepL.lt xs us q)⟩
  · rw [List.getElem?_append_left (Nat.lt_of_lt_of_le hi (r.ble b hb))] at h2
    exact r.low b hb i c hi h2
  · rw [eh]
    have ha : a ∈ hs ++ ho := ha
    simp only [List.mem_append, List.mem_cons] at ha ⊢
    exact ha.imp id .inr
  · have hm : a ∈ hs ++ ho := hm
    rcases List.mem_append.mp ha with ha | ha
    · refine r.dis a ha ?_
      rw [eh]
      simp only [List.mem_append, List.mem_cons] at hm ⊢
      exact hm.imp id .inr
    · rw [List.mem_singleton] at ha
      subst ha
      rcases List.mem_append.mp hm with hm | hm
      · exact hn hm
      · exact hn2 hm
end MP
set_option Elab.async false
set_option linter.all false
set_option maxRecDepth 100000
set_option maxHeartbeats 1000000
/-! MPTN: new tuples, told with their object (which has no dict); t.index(i), xs.index(i). -/
namespace MP
open PySem PySem.Spec PyProof.Rows L2
section
variable {X : L2.Cx}
/-- a new tuple: tracked with its object -/
theorem laidN {pins : List (Addr × Obj)} {sg : L2.St} {F : Hp} {sh : Shared} {ys : List V} {vs : List Value} {tk : Nat} (J : Inv X pins sg F sh) (rv : Vals ys vs) (hz : ys.length ≤ sizeLine) {Q : VK}
    (q : ∀ (ob : Obj) (l : Addr), ob.dict = none → F l = none → Q (.ref l) (upd F l (.frz ob (.tup ys)))) :
    EP X pins sg Q (Value.ref sh.heap.objs.size) { sh with heap := sh.heap.push { cls := .type "tuple", data := .seq vs.toArray }, toks := tk } := by
  have fr0 : F sh.heap.objs.size = none := J.hok.fresh (Nat.le_refl _)
  refine ⟨.ref sh.heap.objs.size, _, J.laid (t' := tk) (o := .frz { cls := .type "tuple", data := .seq vs.toArray } (.tup ys)) (fun bb uu ee => Heap.get?_push_of_some _ ee) (Nat.le_refl _) ?_, rfl, q _ _ rfl fr0⟩
  exact ⟨Heap.get?_push_size _ rfl, hz, vs, rv, IsTup.new _ _⟩
def tTupN (t : TA) : TE := fun σ H Q => t σ H fun ys F => ys.length ≤ sizeLine ∧ ∀ (ob : Obj) (l : Addr), ob.dict = none → F l = none → Q (.ref l) (upd F l (.frz ob (.tup ys)))
theorem pe_tupN {es : List Expr} {t : TA} {x1} {pos : Pos} (ht : PA X es t) : PE X (.Tuple es x1 pos) (tTupN t) := by
  refine ⟨fun pins sh sg F Q J hq => ?_⟩
  refine wpAny_Tuple_spliced (thn (ht.run pos pins sh sg F _ J hq) fun us sh1 ⟨ys, F1, J1, rv, hz, q⟩ => ⟨by rw [← rv.length]; exact hz, ?_⟩)
  exact laidN J1 rv hz q
/-- t + u -/
def rCatN (K : PySem.W.Frag) : R2 := fun x y F Q => ∃ a b xs ys, x = .ref a ∧ y = .ref b ∧ SqT K F a xs ∧ SqT K F b ys ∧ xs.length + ys.length ≤ sizeLine ∧
  (xs = [] → Q (.ref b) F) ∧ (xs ≠ [] → ys = [] → Q (.ref a) F) ∧ (xs ≠ [] → ys ≠ [] → ∀ (ob : Obj) (l : Addr), ob.dict = none → F l = none → Q (.ref l) (upd F l (.frz ob (.tup (xs ++ ys)))))
theorem op_catN : OpR X (binaryOp .Add) (rCatN X.K) := by
  intro pins sh sg F x y v u Q J rx ry ⟨a, b, xs, ys, ex, ey, ha, hb, hz, q0, q1, q2⟩
  subst ex ey
  by_cases h0 : xs = []
  · exact op_catA pins sh sg F _ _ v u Q J rx ry ⟨a, b, xs, ys, rfl, rfl, ha, hb, hz, q0, fun n => absurd h0 n, fun n => absurd h0 n⟩
  · cases rx
    cases ry
    obtain ⟨vs, rv, p1, _⟩ := J.tuple ha
    obtain ⟨ws, rw2, p2, _⟩ := J.tuple hb
    refine HT.cat_tup p1 p2 (fun n => h0 (rv.nil_iff.mp n)) (fun n => ⟨.ref a, F, J, rfl, q1 h0 (rw2.nil_iff.mp n)⟩) (fun n => ?_) (by rw [← rv.length, ← rw2.length]; exact hz)
    exact laidN (tk := sh.toks) J (rv.append rw2) (by rw [List.length_append]; exact hz) (q2 h0 fun m => n (rw2.nil_iff.mpr m))
/-- t[lo:hi] -/
def rSlN (K : PySem.W.Frag) : V → Option Int → Option Int → Hp → VK → Prop := fun x lo hi F Q => ∃ a xs, x = .ref a ∧ SqT K F a xs ∧
  (HT.sIx xs.length 0 lo = 0 ∧ HT.sIx xs.length xs.length hi = xs.length → Q (.ref a) F) ∧
    (¬ (HT.sIx xs.length 0 lo = 0 ∧ HT.sIx xs.length xs.length hi = xs.length) → ∀ (ob : Obj) (l : Addr), ob.dict = none → F l = none → Q (.ref l) (upd F l (.frz ob (.tup (cutV xs lo hi)))))
theorem sl_tupN : SlR X (rSlN X.K) := by
  intro pins sh sg F x v vl vu lo hi sl Q J rx hs pl pu ⟨a, xs, ex, ha, q1, q2⟩
  subst ex
  by_cases hw : HT.sIx xs.length 0 lo = 0 ∧ HT.sIx xs.length xs.length hi = xs.length
  · exact sl_tupA pins sh sg F _ v vl vu lo hi sl Q J rx hs pl pu ⟨a, xs, rfl, ha, q1, fun n => absurd hw n⟩
  · cases rx
    obtain ⟨vs, rv, ht, hz⟩ := J.tuple ha
    have hlen : vs.toArray.size = xs.length := by rw [List.size_toArray, rv.length]
    refine ⟨"tuple", _, PyProof.Rows.slot_tuple_getitem.lookup, ht.typeIs, HT.getItem_tuple_cut ht hs pl pu (by rw [hlen]; exact hw) ?_ (by rw [hlen]; exact hz)⟩
    rw [hlen]
    exact laidN (tk := sh.toks) J ((rv.drop (HT.sIx xs.length 0 lo)).take (HT.sIx xs.length xs.length hi - HT.sIx xs.length 0 lo)) (Nat.le_trans (cutV_length xs lo hi) hz) (q2 hw)
/-- tuple(x) -/
theorem call_tupleN : CallR X (.type "tuple") (fun xs F Q => ∃ p ys, xs = [.ref p] ∧ ((SqL X.K F p ys ∧ ∀ (ob : Obj) (l : Addr), ob.dict = none → F l = none → Q (.ref l) (upd F l (.frz ob (.tup ys)))) ∨ (SqT X.K F p ys ∧ Q (.ref p) F))) := by
  intro pins sh sg F xs us Q J r ⟨p, ys, ex, hh⟩
  subst ex
  rcases hh with ⟨hq, q⟩ | ⟨hq, q⟩
  · obtain ⟨u, rfl, rx⟩ := vals1 r
    cases rx
    obtain ⟨vs, rv, pl, hz⟩ := J.list hq
    have hlen := rv.length
    refine call_tuple_list pl.isList (fun g kp => ?_) (by simp only [List.size_toArray] <;> omega)
    have J1 : Inv X pins sg F { sh with heap := g } := J.kept (t' := sh.toks) kp
    exact laidN (tk := sh.toks) J1 rv hz q
  · exact call_tuple_of pins sh sg F _ us Q J r ⟨p, ys, rfl, .inr ⟨hq, q⟩⟩
/-- divmod -/
theorem call_divmodN : CallR X (.builtin "divmod") (fun xs F Q => ∃ i j, xs = [.int i, .int j] ∧ CDiv i j ∧ ∀ (ob : Obj) (l : Addr), ob.dict = none → F l = none → Q (.ref l) (upd F l (.frz ob (.tup [.int (i / j), .int (i % j)])))) := by
  intro pins sh sg F xs us Q J r ⟨i, j, ex, ⟨g1, g2⟩, q⟩
  subst ex
  obtain ⟨u, w', rfl, ⟨t, rfl⟩, ⟨t', rfl⟩⟩ := vals2 r
  refine divmod_int (by omega) ?_ (.inl (PyProof.noPylong_small (by omega)))
  rw [Int.fdiv_eq_ediv_of_nonneg i (by omega), Int.fmod_eq_emod_of_nonneg i (by omega)]
  exact laidN (ys := [.int (i / j), .int (i % j)]) (vs := [.int (i / j) sh.toks, .int (i % j) (sh.toks + 1)]) J (.cons ⟨_, rfl⟩ (.cons ⟨_, rfl⟩ .nil)) (by rw [sizeLine_eq]; simp) q
/-! ### t.index(i), xs.index(i) -/
/-- the value is a list, or a tuple without a dict -/
def tyN (K : PySem.W.Frag) (T : String) (x : V) (F : Hp) : Prop := ∃ p, x = .ref p ∧ ((T = "list" ∧ ∃ xs, SqL K F p xs) ∨ (T = "tuple" ∧ ∃ xs, TupN K F p xs))
theorem tyN_is {pins : List (Addr × Obj)} {sg : L2.St} {F : Hp} {sh : Shared} {T : String} {x : V} {v : Value} (J : Inv X pins sg F sh) (r : RelV x v) (ty : tyN X.K T x F) :
    sh.TypeIs v T ∧ ∀ a, v = .ref a → ∃ ob, sh.heap.get? a = some ob ∧ ob.dict = none := by
  obtain ⟨p, rfl, ty⟩ := ty
  cases r
  rcases ty with ⟨rfl, xs, hq⟩ | ⟨rfl, xs, hq, hn⟩
  · obtain ⟨vs, _, pl, _⟩ := J.list hq
    refine ⟨pl.isList.typeIs, fun a e => ?_⟩
    cases e
    obtain ⟨ob, n, e, c, hd, _⟩ := pl
    exact ⟨ob, e, hd⟩
  · obtain ⟨vs, _, pl, _⟩ := J.tuple hq
    refine ⟨pl.typeIs, fun a e => ?_⟩
    cases e
    rcases hn with ⟨ob, u, h1, h2⟩ | ⟨ob, h1, h2⟩
    · exact ⟨ob, (J.hok _ _ h1).1, h2⟩
    · exact ⟨ob, J.kIn _ ob h1, h2⟩
def rIdxT (K : PySem.W.Frag) : V → List V → Hp → VK → Prop := fun x xs F Q => ∃ (p : Addr) (ns : List Int) (i : Int), x = .ref p ∧ xs = [.int i] ∧ SqT K F p (ns.map V.int) ∧ i ∈ ns ∧ Q (.int (ns.idxOf i : Nat)) F
theorem mt_idxT : MtR X "tuple.index" (rIdxT X.K) := by
  intro pins sh sg F x xs v us Q J rx rxs ⟨p, ns, i, ex, exs, hq, hi, q⟩
  subst ex exs
  cases rx
  obtain ⟨u, rfl, ⟨t, rfl⟩⟩ := vals1 rxs
  obtain ⟨vs, rv, pl, hz⟩ := J.tuple hq
  refine PySem.SeqAt.tuple_index_ints pl (intsAre_of rv) hi ⟨.int (ns.idxOf i : Nat), F, J.tok _, ⟨_, rfl⟩, q⟩
def rIdxL (K : PySem.W.Frag) : V → List V → Hp → VK → Prop := fun x xs F Q => ∃ (p : Addr) (ns : List Int) (i : Int), x = .ref p ∧ xs = [.int i] ∧ SqL K F p (ns.map V.int) ∧ i ∈ ns ∧ Q (.int (ns.idxOf i : Nat)) F
theorem mt_idxL : MtR X "list.index" (rIdxL X.K) := by
  intro pins sh sg F x xs v us Q J rx rxs ⟨p, ns, i, ex, exs, hq, hi, q⟩
  subst ex exs
  cases rx
  obtain ⟨u, rfl, ⟨t, rfl⟩⟩ := vals1 rxs
  obtain ⟨vs, rv, pl, hz⟩ := J.list hq
  refine PySem.SeqAt.list_index_ints pl.isList (intsAre_of rv) (by simpa using hz) hi ⟨.int (ns.idxOf i : Nat), F, J.tok _, ⟨_, rfl⟩, q⟩
/-- x.index(i): x a list, or a tuple without a dict -/
def tIdx (K : PySem.W.Frag) (to : TE) (t : TA) : TE := fun σ H Q => to σ H fun x F => ∃ p, x = .ref p ∧ (((∃ xs, SqL K F p xs) ∧ t σ F fun as F2 => rIdxL K x as F2 Q) ∨ ((∃ xs, TupN K F p xs) ∧ t σ F fun as F2 => rIdxT K x as F2 Q))
theorem pe_idx {o e : Expr} {es : List Expr} {to : TE} {t : TA} {apos cpos : Pos}
    (ho : PE X o to) (ha : PA X (e :: es) t)
    (hbase : attributeBase o (Str.ofString "index") X.env (eval o X.env) = eval o X.env := by rfl)
    (hfew : ((backTo cpos (starEach (e :: es) X.env)).all (fun x => !x.1) && (backToKw cpos (keywordEach [] X.env)).all (fun x => x.1.isSome)
      && decide ((e :: es).length + ([] : List PySem.Keyword).length + (if ([] : List PySem.Keyword).isEmpty then 0 else 1) < 30)) = true := by rfl)
    (hline : (apos.endLine == cpos.line) = true := by rfl) (hs : starEach (e :: es) X.env = (false, eval e X.env) :: starEach es X.env := by rfl) (hplain : (backTo cpos (starEach es X.env)).any (·.1) = false := by rfl) :
    PE X (.Call (.Attribute o (Str.ofString "index") apos) (e :: es) [] cpos) (tIdx X.K to t) := by
  refine ⟨fun pins sh sg F Q J hh => ?_⟩
  refine wpAny_Call_method_late hbase hfew hline rfl (thn (ho.run pins sh sg F _ J hh) fun v sh1 ⟨x, F1, J1, r1, p, ex, q1⟩ => ?_)
  rcases q1 with ⟨ty, q1⟩ | ⟨ty, q1⟩
  · obtain ⟨g1, g2⟩ := tyN_is J1 r1 (⟨p, ex, .inl ⟨rfl, ty⟩⟩ : tyN X.K "list" x F1)
    refine ⟨"list", "list.index", PySem.F.plainAttrs_list, PySem.F.slot_list_index, PySem.F.type_list_index, g1, g2, ?_⟩
    have hA := ha.run cpos pins sh1 sg F1 _ J1 q1
    rw [hs] at hA ⊢
    refine PySem.Calls.callWith_builtin (by show (false || (backTo cpos (starEach es X.env)).any (·.1)) = false; rw [hplain] <;> rfl) (PySem.Calls.evalArgs_plain ?_)
    exact thn hA fun us sh2 ⟨vs, F2, J2, r2, q2⟩ => mt_idxL pins sh2 sg F2 x vs v us Q J2 r1 r2 q2
  · obtain ⟨g1, g2⟩ := tyN_is J1 r1 (⟨p, ex, .inr ⟨rfl, ty⟩⟩ : tyN X.K "tuple" x F1)
    refine ⟨"tuple", "tuple.index", PySem.F.plainAttrs_tuple, PySem.F.slot_tuple_index, PySem.F.type_tuple_index, g1, g2, ?_⟩
    have hA := ha.run cpos pins sh1 sg F1 _ J1 q1
    rw [hs] at hA ⊢
    refine PySem.Calls.callWith_builtin (by show (false || (backTo cpos (starEach es X.env)).any (·.1)) = false; rw [hplain] <;> rfl) (PySem.Calls.evalArgs_plain ?_)
    exact thn hA fun us sh2 ⟨vs, F2, J2, r2, q2⟩ => mt_idxT pins sh2 sg F2 x vs v us Q J2 r1 r2 q2
end
end MP
set_option Elab.async false
set_option linter.all false
set_option maxRecDepth 100000
set_option maxHeartbeats 1000000
/-! MPOps: the operators by values, over what the heap shows. -/
namespace MP
open PySem PySem.Spec PyProof.Rows L2
theorem LINE_eq : LINE = sizeLine := by rw [sizeLine_eq]; rfl
def Dm (al : Al) (H : Hp) : Prop := (∀ a ∈ al.c, H a ≠ none) ∧ ∀ a ∈ al.h, H a ≠ none
theorem Dm.off {al : Al} {H : Hp} (d : Dm al H) {p : Addr} (h : H p = none) : al.off p := ⟨fun hm => d.1 p hm h, fun hm => d.2 p hm h⟩
theorem Rl.dm {K : PySem.W.Frag} {bs : List Nat} {al : Al} {m : M} {H : Hp} (r : Rl K bs al m H) : Dm al H := by
  refine ⟨fun a ha e => ?_, r.hid⟩
  obtain ⟨us, q⟩ := r.dom ha
  rw [q] at e
  cases e
/-- behind a pure operation: its result, the heap grown -/
def Done (K : PySem.W.Frag) (al : Al) (H : Hp) (fr : Bool) (z : Val) (Q : VK) : Prop :=
  ∀ u H', Same H H' → Rep K al H' u z → (fr = true → ∀ xs, z = .lst xs → ∃ a us, u = .ref a ∧ H a = none ∧ H' = upd H a (.lst us) ∧ RepL K al H us xs) → Q u H'
section
variable {K : PySem.W.Frag} {al : Al} {H : Hp} {fr : Bool} {Q : VK}
theorem Done.int {i : Int} (d : Done K al H fr (.int i) Q) : Q (.int i) H := d _ _ (Same.refl H) (.int i) fun _ _ e => by cases e
theorem Done.bl {i : Bool} (d : Done K al H fr (.bl i) Q) : Q (.bl i) H := d _ _ (Same.refl H) (.bl i) fun _ _ e => by cases e
theorem Done.str {i : Str} (d : Done K al H fr (.str i) Q) : Q (.str i) H := d _ _ (Same.refl H) (.str i) fun _ _ e => by cases e
theorem Done.non (d : Done K al H fr .non Q) : Q .non H := d _ _ (Same.refl H) .non fun _ _ e => by cases e
theorem Done.val {z : Val} {u : V} (d : Done K al H false z Q) (r : Rep K al H u z) : Q u H := d _ _ (Same.refl H) r fun e => by cases e
theorem Done.lst {xs : List Val} {us : List V} (d : Done K al H fr (.lst xs) Q) (dm : Dm al H) (r : RepL K al H us xs) : ∀ p, H p = none → Q (.ref p) (upd H p (.lst us)) := fun p hp =>
  d _ _ (same_upd hp) (.lst upd_same (dm.off hp) (r.ext (.of_same (same_upd hp)) xs us)) fun _ ys e => by
    cases e
    exact ⟨p, us, rfl, hp, rfl, r⟩
theorem Done.tup {xs : List Val} {us : List V} (d : Done K al H fr (.tup xs) Q) (r : RepL K al H us xs) : ∀ (ob : Obj) (p : Addr), ob.dict = none → H p = none → Q (.ref p) (upd H p (.frz ob (.tup us))) := fun ob p hd hp =>
  d _ _ (same_upd hp) (.tup (.new hd) (r.ext (.of_same (same_upd hp)) xs us)) fun _ ys e => by cases e
theorem Done.tupAt {xs : List Val} {us : List V} {a : Addr} (d : Done K al H fr (.tup xs) Q) (h : TupN K H a us) (r : RepL K al H us xs) : Q (.ref a) H :=
  d _ _ (Same.refl H) (.tup h r) fun _ ys e => by cases e
end
theorem RepL.nil_iff {K : PySem.W.Frag} {al : Al} {H : Hp} {us : List V} {xs : List Val} (r : RepL K al H us xs) : us = [] ↔ xs = [] := by
  cases r <;> simp
/-! ### a op b -/
def rBop (K : PySem.W.Frag) (op : Operator) (fr : Bool) : R2 := fun u w H Q => ∃ al x y z, Dm al H ∧ RepD K al H u x ∧ RepD K al H w y ∧ bop op x y = some z ∧ Done K al H fr z Q
theorem smallI_iff {i : Int} : smallI i = true ↔ (-(2 ^ 64) < i ∧ i < 2 ^ 64) := by unfold smallI; simp
theorem small63_iff {i : Int} : small63 i = true ↔ (-(2 ^ 63) ≤ i ∧ i < 2 ^ 63) := by unfold small63; simp
theorem op_bop_add {X : L2.Cx} {fr : Bool} : OpR X (binaryOp .Add) (rBop X.K .Add fr) := fun pins s σ H u w v v' Q I r1 r2 ⟨al, x, y, z, dm, h1, h2, e, q⟩ => by
  have e : bAdd x y = some z := e
  unfold bAdd at e
  split at e <;> first | (cases e; done) | skip
  · have e1 := h1.int; have e2 := h2.int; subst e1; subst e2
    cases e
    exact op_add pins s σ H _ _ _ _ Q I r1 r2 ⟨_, _, rfl, rfl, q.int⟩
  · have e1 := h1.str; have e2 := h2.str; subst e1; subst e2
    split at e
    · rename_i hz
      cases e
      exact op_add_str pins s σ H _ _ _ _ Q I r1 r2 ⟨_, _, rfl, rfl, LINE_eq ▸ hz, q.str⟩
    · cases e
  · split at e
    · rename_i hz
      cases e
      obtain ⟨a, us, rfl, ha, ra⟩ := h1.list
      obtain ⟨b, ws, rfl, hb, rb⟩ := h2.list
      exact op_cat pins s σ H _ _ _ _ Q I r1 r2 ⟨a, b, us, ws, rfl, rfl, ha, hb, by rw [ra.length, rb.length]; exact LINE_eq ▸ hz, q.lst dm (ra.append rb)⟩
    · cases e
  · split at e
    · rename_i hz
      cases e
      obtain ⟨a, us, rfl, ha, ra⟩ := h1.tupleN
      obtain ⟨b, ws, rfl, hb, rb⟩ := h2.tupleN
      refine op_catN pins s σ H _ _ _ _ Q I r1 r2 ⟨a, b, us, ws, rfl, rfl, ha.1, hb.1, by rw [ra.length, rb.length]; exact LINE_eq ▸ hz, fun e => ?_, fun _ e => ?_, fun _ _ => q.tup (ra.append rb)⟩
      · have z1 := ra.nil_iff.mp e
        subst z1
        exact Done.tupAt (xs := _) q hb rb
      · have z1 := rb.nil_iff.mp e
        subst z1
        rw [List.append_nil] at q
        exact q.tupAt ha ra
    · cases e
theorem op_bop_sub {X : L2.Cx} {fr : Bool} : OpR X (binaryOp .Sub) (rBop X.K .Sub fr) := fun pins s σ H u w v v' Q I r1 r2 ⟨al, x, y, z, dm, h1, h2, e, q⟩ => by
  have e : bSub x y = some z := e
  unfold bSub at e
  split at e <;> first | (cases e; done) | skip
  have e1 := h1.int; have e2 := h2.int; subst e1; subst e2
  cases e
  exact op_sub pins s σ H _ _ _ _ Q I r1 r2 ⟨_, _, rfl, rfl, q.int⟩
theorem op_bop_mul {X : L2.Cx} : OpR X (binaryOp .Mult) (rBop X.K .Mult true) := fun pins s σ H u w v v' Q I r1 r2 ⟨al, x, y, z, dm, h1, h2, e, q⟩ => by
  have e : bMul x y = some z := e
  unfold bMul at e
  split at e <;> first | (cases e; done) | skip
  · have e1 := h1.int; have e2 := h2.int; subst e1; subst e2
    split at e
    · rename_i hz
      cases e
      rw [Bool.or_eq_true, smallI_iff, smallI_iff] at hz
      exact op_mul pins s σ H _ _ _ _ Q I r1 r2 ⟨_, _, rfl, rfl, hz, q.int⟩
    · cases e
  · have e2 := h2.int; subst e2
    split at e
    · rename_i hz
      cases e
      rw [Bool.and_eq_true, small63_iff, decide_eq_true_eq, LINE_eq] at hz
      obtain ⟨a, us, rfl, ha, ra⟩ := h1.list
      exact op_rep pins s σ H _ _ _ _ Q I r1 r2 ⟨a, _, us, rfl, rfl, ha, hz.1.1, hz.1.2, by rw [ra.length]; exact hz.2, q.lst dm (ra.rep _)⟩
    · cases e
theorem op_fdivB {X : L2.Cx} : OpR X (binaryOp .FloorDiv) (rI (fun _ j => 0 < j ∧ j < 2 ^ 200) fun i j => .int (i / j)) := opI fun i j _ _ _ _ _ hc q => by
  have h1 : (0 : Int) < j := hc.1
  have h2 : j < 2 ^ 200 := hc.2
  have h3 : j.natAbs.log2 < 9000 := (Nat.log2_lt (by omega)).mpr (Nat.lt_of_lt_of_le (show j.natAbs < 2 ^ 200 by omega) (Nat.pow_le_pow_right (by decide) (by decide)))
  refine floordiv_int (by omega) ?_ (.inl (PyProof.noPylong_of_log2 h3))
  rw [Int.fdiv_eq_ediv_of_nonneg i (by omega)]
  exact q
theorem op_bop_div {X : L2.Cx} {fr : Bool} : OpR X (binaryOp .FloorDiv) (rBop X.K .FloorDiv fr) := fun pins s σ H u w v v' Q I r1 r2 ⟨al, x, y, z, dm, h1, h2, e, q⟩ => by
  have e : bDiv x y = some z := e
  unfold bDiv at e
  split at e <;> first | (cases e; done) | skip
  have e1 := h1.int; have e2 := h2.int; subst e1; subst e2
  split at e
  · rename_i hz
    cases e
    exact op_fdivB pins s σ H _ _ _ _ Q I r1 r2 ⟨_, _, rfl, rfl, of_decide_eq_true hz, q.int⟩
  · cases e
theorem op_bop_mod {X : L2.Cx} {fr : Bool} : OpR X (binaryOp .Mod) (rBop X.K .Mod fr) := fun pins s σ H u w v v' Q I r1 r2 ⟨al, x, y, z, dm, h1, h2, e, q⟩ => by
  have e : bMod x y = some z := e
  unfold bMod at e
  split at e <;> first | (cases e; done) | skip
  have e1 := h1.int; have e2 := h2.int; subst e1; subst e2
  split at e
  · rename_i hz
    cases e
    exact op_mod pins s σ H _ _ _ _ Q I r1 r2 ⟨_, _, rfl, rfl, by have h := of_decide_eq_true hz; exact h, q.int⟩
  · cases e
theorem op_bop_pow {X : L2.Cx} {fr : Bool} : OpR X (binaryOp .Pow) (rBop X.K .Pow fr) := fun pins s σ H u w v v' Q I r1 r2 ⟨al, x, y, z, dm, h1, h2, e, q⟩ => by
  have e : bPow x y = some z := e
  unfold bPow at e
  split at e <;> first | (cases e; done) | skip
  have e1 := h1.int; have e2 := h2.int; subst e1; subst e2
  split at e
  · rename_i hz
    cases e
    exact op_pow pins s σ H _ _ _ _ Q I r1 r2 ⟨_, _, rfl, rfl, by have h := of_decide_eq_true hz; exact h, q.int⟩
  · cases e
theorem op_bop {X : L2.Cx} (op : Operator) : OpR X (binaryOp op) (rBop X.K op true) := by
  cases op
  case Add => exact op_bop_add
  case Sub => exact op_bop_sub
  case Mult => exact op_bop_mul
  case FloorDiv => exact op_bop_div
  case Mod => exact op_bop_mod
  case Pow => exact op_bop_pow
  all_goals
    intro pins s σ H u w v v' Q I r1 r2 ⟨al, x, y, z, dm, h1, h2, e, q⟩
    simp [bop] at e
/-! ### == of data -/
mutual
theorem eqv_toD : ∀ x y : Val, x.data = true → y.data = true → PyData.eqv (toD x) (toD y) = x.eqv y
  | .non, y, _, hy => by cases y <;> first | rfl | simp [Val.data] at hy
  | .bl _, y, _, hy => by cases y <;> first | rfl | simp [Val.data] at hy
  | .int _, y, _, hy => by cases y <;> first | rfl | simp [Val.data] at hy
  | .str _, y, _, hy => by cases y <;> first | rfl | simp [Val.data] at hy
  | .tup xs, .tup ys, hx, hy => by
    simp only [toD, PyData.eqv, Val.eqv]
    exact eqvL_toD xs ys hx hy
  | .tup _, .non, _, hy => rfl
  | .tup _, .bl _, _, hy => rfl
  | .tup _, .int _, _, hy => rfl
  | .tup _, .str _, _, hy => rfl
  | .tup _, .lst _, _, hy => rfl
  | .tup _, .ref _, _, hy => by simp [Val.data] at hy
  | .tup _, .scr _, _, hy => by simp [Val.data] at hy
  | .tup _, .set _, _, hy => by simp [Val.data] at hy
  | .tup _, .dct _ _, _, hy => by simp [Val.data] at hy
  | .tup _, .exc _ _, _, hy => by simp [Val.data] at hy
  | .lst xs, .lst ys, hx, hy => by
    simp only [toD, PyData.eqv, Val.eqv]
    exact eqvL_toD xs ys hx hy
  | .lst _, .non, _, hy => rfl
  | .lst _, .bl _, _, hy => rfl
  | .lst _, .int _, _, hy => rfl
  | .lst _, .str _, _, hy => rfl
  | .lst _, .tup _, _, hy => rfl
  | .lst _, .ref _, _, hy => by simp [Val.data] at hy
  | .lst _, .scr _, _, hy => by simp [Val.data] at hy
  | .lst _, .set _, _, hy => by simp [Val.data] at hy
  | .lst _, .dct _ _, _, hy => by simp [Val.data] at hy
  | .lst _, .exc _ _, _, hy => by simp [Val.data] at hy
  | .ref _, _, hx, _ => by simp [Val.data] at hx
  | .scr _, _, hx, _ => by simp [Val.data] at hx
  | .set _, _, hx, _ => by simp [Val.data] at hx
  | .dct _ _, _, hx, _ => by simp [Val.data] at hx
  | .exc _ _, _, hx, _ => by simp [Val.data] at hx
theorem eqvL_toD : ∀ xs ys : List Val, dataL xs = true → dataL ys = true → PyData.eqvAll (toDs xs) (toDs ys) = eqvL xs ys
  | [], [], _, _ => by simp [toDs, PyData.eqvAll, eqvL]
  | [], _ :: _, _, _ => by simp [toDs, PyData.eqvAll, eqvL]
  | _ :: _, [], _, _ => by simp [toDs, PyData.eqvAll, eqvL]
  | x :: xs, y :: ys, hx, hy => by
    simp only [dataL, Bool.and_eq_true] at hx hy
    simp only [toDs, PyData.eqvAll, eqvL, eqv_toD x y hx.1 hy.1, eqvL_toD xs ys hx.2 hy.2]
end
mutual
theorem depth_toD : ∀ x : Val, (toD x).depth = x.deep
  | .non => rfl
  | .bl _ => rfl
  | .int _ => rfl
  | .str _ => rfl
  | .tup xs => by simp only [toD, PyData.depth, Val.deep, depthL_toD xs]
  | .lst xs => by simp only [toD, PyData.depth, Val.deep, depthL_toD xs]
  | .ref _ => rfl
  | .scr _ => rfl
  | .set _ => rfl
  | .dct _ _ => rfl
  | .exc _ _ => rfl
theorem depthL_toD : ∀ xs : List Val, PyData.depthAll (toDs xs) = deepL xs
  | [] => rfl
  | x :: xs => by simp only [toDs, PyData.depthAll, deepL, depth_toD x, depthL_toD xs]
end
mutual
theorem canLay_toD : ∀ x : Val, x.data = true → (toD x).canLay0 = true
  | .non, _ => rfl
  | .bl _, _ => rfl
  | .int _, _ => rfl
  | .str _, h => h
  | .tup xs, h => by
    simp only [toD, PyData.canLay0]
    exact canLayL_toD xs h
  | .lst xs, h => by
    simp only [toD, PyData.canLay0]
    exact canLayL_toD xs h
  | .ref _, h => by simp [Val.data] at h
  | .scr _, h => by simp [Val.data] at h
  | .set _, h => by simp [Val.data] at h
  | .dct _ _, h => by simp [Val.data] at h
  | .exc _ _, h => by simp [Val.data] at h
theorem canLayL_toD : ∀ xs : List Val, dataL xs = true → PyData.canLayAll0 (toDs xs) = true
  | [], _ => rfl
  | x :: xs, h => by
    simp only [dataL, Bool.and_eq_true] at h
    simp only [toDs, PyData.canLayAll0, canLay_toD x h.1, canLayL_toD xs h.2, Bool.and_self]
end
theorem data_of {x : Val} (h : x.cmpOk = true) : x.data = true := by
  unfold Val.cmpOk at h
  rw [Bool.and_eq_true] at h
  exact h.1
theorem shaped_toD {x : Val} (h : x.cmpOk = true) : SeqAt.shaped (toD x) = true := by
  unfold Val.cmpOk at h
  rw [Bool.and_eq_true, decide_eq_true_eq] at h
  unfold SeqAt.shaped
  rw [canLay_toD x h.1, depth_toD, Bool.true_and, decide_eq_true_eq]
  omega
mutual
theorem Rep.dp {K : PySem.W.Frag} {al : Al} {H : Hp} : ∀ (x : Val) (u : V), x.data = true → Rep K al H u x → Dp K H u (toD x)
  | .non, _, _, h => by cases h; exact .non
  | .bl b, _, _, h => by cases h; exact .bl b
  | .int i, _, _, h => by cases h; exact .int i
  | .str z, _, _, h => by cases h; exact .str z
  | .tup xs, _, hd, h => by
    cases h with
    | tup h1 h2 => exact .tup h1.1 (RepL.dp xs _ hd h2)
  | .lst xs, _, hd, h => by
    cases h with
    | lst h1 h2 h3 => exact .lst (.of h1) (RepL.dp xs _ hd h3)
  | .ref _, _, hd, _ => by simp [Val.data] at hd
  | .scr _, _, hd, _ => by simp [Val.data] at hd
  | .set _, _, hd, _ => by simp [Val.data] at hd
  | .dct _ _, _, hd, _ => by simp [Val.data] at hd
  | .exc _ _, _, hd, _ => by simp [Val.data] at hd
theorem RepL.dp {K : PySem.W.Frag} {al : Al} {H : Hp} : ∀ (xs : List Val) (us : List V), dataL xs = true → RepL K al H us xs → DpAll K H us (toDs xs)
  | [], _, _, h => by cases h; exact .nil
  | x :: xs, _, hd, h => by
    simp only [dataL, Bool.and_eq_true] at hd
    cases h with
    | cons h1 h2 => exact .cons (Rep.dp x _ hd.1 h1) (RepL.dp xs _ hd.2 h2)
end
theorem RepD.dp {K : PySem.W.Frag} {al : Al} {H : Hp} {x : Val} {u : V} (hd : x.data = true) (h : RepD K al H u x) : Dp K H u (toD x) := by
  cases h with
  | of h => exact h.dp x u hd
  | lst h1 h3 => exact .lst (.of h1) (h3.dp _ _ hd)
theorem keyIn_toD {x : Val} (hx : x.data = true) : ∀ {ys : List Val}, ys.all Val.cmpOk = true → ((toDs ys).any fun z => PyData.eqv z (toD x)) = keyIn x ys
  | [], _ => rfl
  | y :: ys, h => by
    simp only [List.all_cons, Bool.and_eq_true] at h
    simp only [toDs, List.any_cons, keyIn, eqv_toD y x (data_of h.1) hx, keyIn_toD hx h.2]
theorem shapedL_toD {ys : List Val} (h : ys.all Val.cmpOk = true) : SeqAt.shaped (.list (toDs ys)) = true ∧ dataL ys = true := by
  have : deepL ys ≤ 60 ∧ dataL ys = true := by
    induction ys with
    | nil => exact ⟨Nat.zero_le _, rfl⟩
    | cons y ys ih =>
      simp only [List.all_cons, Bool.and_eq_true] at h
      have h1 := h.1
      unfold Val.cmpOk at h1
      rw [Bool.and_eq_true, decide_eq_true_eq] at h1
      have h2 := ih h.2
      simp only [deepL, dataL, Bool.and_eq_true]
      exact ⟨by omega, h1.1, h2.2⟩
  refine ⟨?_, this.2⟩
  unfold SeqAt.shaped
  simp only [PyData.canLay0, canLayL_toD ys this.2, PyData.depth, depthL_toD, Bool.true_and, decide_eq_true_eq]
  omega
/-! ### comparisons -/
def rCop (K : PySem.W.Frag) (op : CmpOp) : R2 := fun u w H Q => ∃ al x y k, RepD K al H u x ∧ RepD K al H w y ∧ cop op x y = some k ∧ Q (.bl k) H
theorem isNon_iff {K : PySem.W.Frag} {al : Al} {H : Hp} {u : V} {x : Val} (h : RepD K al H u x) : decide (u = .non) = isNon x := by
  cases h with
  | of h => cases h <;> simp [isNon]
  | lst _ _ => simp [isNon]
section
variable {X : L2.Cx}
theorem cop_eq (hu : X.A.units + 65 < cLine) : OpR X (compareOp .Eq) (rCop X.K .Eq) := fun pins s σ H u w v v' Q I r1 r2 ⟨al, x, y, k, h1, h2, e, q⟩ => by
  simp only [cop] at e
  split at e
  · rename_i hz
    rw [Bool.and_eq_true] at hz
    cases e
    exact op_eqD (by omega) pins s σ H _ _ _ _ Q I r1 r2 ⟨_, _, h1.dp (data_of hz.1), h2.dp (data_of hz.2), shaped_toD hz.1, shaped_toD hz.2, by rw [eqv_toD x y (data_of hz.1) (data_of hz.2)]; exact q⟩
  · cases e
theorem cop_ne (hu : X.A.units + 65 < cLine) : OpR X (compareOp .NotEq) (rCop X.K .NotEq) := fun pins s σ H u w v v' Q I r1 r2 ⟨al, x, y, k, h1, h2, e, q⟩ => by
  simp only [cop] at e
  split at e
  · rename_i hz
    rw [Bool.and_eq_true] at hz
    cases e
    exact op_neD (by omega) pins s σ H _ _ _ _ Q I r1 r2 ⟨_, _, h1.dp (data_of hz.1), h2.dp (data_of hz.2), shaped_toD hz.1, shaped_toD hz.2, by rw [eqv_toD x y (data_of hz.1) (data_of hz.2)]; exact q⟩
  · cases e
theorem cop_lt : OpR X (compareOp .Lt) (rCop X.K .Lt) := fun pins s σ H u w v v' Q I r1 r2 ⟨al, x, y, k, h1, h2, e, q⟩ => by
  have e : cLt x y = some k := e
  unfold cLt at e
  split at e <;> first | (cases e; done) | skip
  have e1 := h1.int; have e2 := h2.int; subst e1; subst e2; cases e
  exact op_lt pins s σ H _ _ _ _ Q I r1 r2 ⟨_, _, rfl, rfl, q⟩
theorem cop_le : OpR X (compareOp .LtE) (rCop X.K .LtE) := fun pins s σ H u w v v' Q I r1 r2 ⟨al, x, y, k, h1, h2, e, q⟩ => by
  have e : cLe x y = some k := e
  unfold cLe at e
  split at e <;> first | (cases e; done) | skip
  have e1 := h1.int; have e2 := h2.int; subst e1; subst e2; cases e
  exact op_le pins s σ H _ _ _ _ Q I r1 r2 ⟨_, _, rfl, rfl, q⟩
theorem cop_gt : OpR X (compareOp .Gt) (rCop X.K .Gt) := fun pins s σ H u w v v' Q I r1 r2 ⟨al, x, y, k, h1, h2, e, q⟩ => by
  have e : cGt x y = some k := e
  unfold cGt at e
  split at e <;> first | (cases e; done) | skip
  have e1 := h1.int; have e2 := h2.int; subst e1; subst e2; cases e
  exact op_gt pins s σ H _ _ _ _ Q I r1 r2 ⟨_, _, rfl, rfl, q⟩
theorem cop_ge : OpR X (compareOp .GtE) (rCop X.K .GtE) := fun pins s σ H u w v v' Q I r1 r2 ⟨al, x, y, k, h1, h2, e, q⟩ => by
  have e : cGe x y = some k := e
  unfold cGe at e
  split at e <;> first | (cases e; done) | skip
  have e1 := h1.int; have e2 := h2.int; subst e1; subst e2; cases e
  exact op_ge pins s σ H _ _ _ _ Q I r1 r2 ⟨_, _, rfl, rfl, q⟩
theorem op_isB {d : Bool} : OpR X (compareOp .Is) (fun x y H Q => y = .bl d ∧ Q (.bl (decide (x = .bl d))) H) := by
  intro pins s σ H x y v u Q I rx ry h
  obtain ⟨rfl, q⟩ := h
  cases ry
  cases x <;> first
    | (cases rx; exact wpAny_pure (fin_bl I q rfl))
    | (obtain ⟨t, rfl⟩ := rx; exact wpAny_pure (fin_bl I q rfl))
    | (cases rx; exact wpAny_pure (fin_bl I q (by rename_i b; cases b <;> cases d <;> rfl)))
theorem op_isnotB {d : Bool} : OpR X (compareOp .IsNot) (fun x y H Q => y = .bl d ∧ Q (.bl (!decide (x = .bl d))) H) := by
  intro pins s σ H x y v u Q I rx ry h
  obtain ⟨rfl, q⟩ := h
  cases ry
  cases x <;> first
    | (cases rx; exact wpAny_pure (fin_bl I q rfl))
    | (obtain ⟨t, rfl⟩ := rx; exact wpAny_pure (fin_bl I q rfl))
    | (cases rx; exact wpAny_pure (fin_bl I q (by rename_i b; cases b <;> cases d <;> rfl)))
theorem isBl_iff {K : PySem.W.Frag} {al : Al} {H : Hp} {u : V} {x : Val} {d : Bool} (h : RepD K al H u x) : decide (u = .bl d) = isBlV d x := by
  cases h with
  | lst _ _ => rfl
  | of h =>
    cases h <;> try rfl
    rename_i a
    cases a <;> cases d <;> rfl
theorem cop_is : OpR X (compareOp .Is) (rCop X.K .Is) := fun pins s σ H u w v v' Q I r1 r2 ⟨al, x, y, k, h1, h2, e, q⟩ => by
  simp only [cop] at e
  unfold cIs at e
  split at e
  · cases e
    have hz := h2.non
    subst hz
    exact op_isN pins s σ H _ _ _ _ Q I r1 r2 ⟨rfl, by rw [isNon_iff h1]; exact q⟩
  · cases e
    have hz := h2.bl
    subst hz
    exact op_isB pins s σ H _ _ _ _ Q I r1 r2 ⟨rfl, by rw [isBl_iff h1]; exact q⟩
  · cases e
theorem cop_isnot : OpR X (compareOp .IsNot) (rCop X.K .IsNot) := fun pins s σ H u w v v' Q I r1 r2 ⟨al, x, y, k, h1, h2, e, q⟩ => by
  simp only [cop, Option.map_eq_some_iff] at e
  obtain ⟨k', e, rfl⟩ := e
  unfold cIs at e
  split at e
  · cases e
    have hz := h2.non
    subst hz
    exact op_notN pins s σ H _ _ _ _ Q I r1 r2 ⟨rfl, by rw [isNon_iff h1]; exact q⟩
  · cases e
    have hz := h2.bl
    subst hz
    exact op_isnotB pins s σ H _ _ _ _ Q I r1 r2 ⟨rfl, by rw [isBl_iff h1]; exact q⟩
  · cases e
theorem str_one {a : Str} (h : a.length = 1) : ∃ c, a = ⟨#[c]⟩ := by
  obtain ⟨cs⟩ := a
  have h : cs.size = 1 := h
  refine ⟨cs[0]'(by omega), ?_⟩
  congr
  apply Array.ext
  · simp [h]
  · intro i h1 h2
    have : i = 0 := by omega
    subst this
    rfl
theorem strIn_one (c : Nat) (z : Str) : strIn ⟨#[c]⟩ z = decide (c ∈ z.cps.toList) := by
  unfold strIn
  rw [Bool.eq_iff_iff, List.any_eq_true, decide_eq_true_eq]
  constructor
  · rintro ⟨d, h, e⟩
    rw [decide_eq_true_eq] at e
    have : c = d := by simpa using e
    subst this
    exact h
  · intro h
    exact ⟨c, h, by simp⟩
theorem cop_in (hu : X.A.units + 65 < cLine) : OpR X (compareOp .In) (rCop X.K .In) := fun pins s σ H u w v v' Q I r1 r2 ⟨al, x, y, k, h1, h2, e, q⟩ => by
  have e : cIn x y = some k := e
  unfold cIn at e
  split at e <;> first | (cases e; done) | skip
  · split at e
    · rename_i hz
      rw [Bool.and_eq_true] at hz
      cases e
      obtain ⟨as, q1⟩ := Dp.reads I _ _ _ (h1.dp (data_of hz.1)) r1
      obtain ⟨bs, q2⟩ := Dp.reads I _ _ _ (h2.dp (x := .lst _) (shapedL_toD hz.2).2) r2
      exact SeqAt.in_list_reads q2 q1 (canLayL_toD _ (shapedL_toD hz.2).2) (canLay_toD _ (data_of hz.1)) (room_in_shaped (shaped_toD hz.1) hu) ⟨.bl _, H, I, rfl, by rw [keyIn_toD (data_of hz.1) hz.2]; exact q⟩
    · cases e
  · split at e
    · rename_i hz
      rw [Bool.and_eq_true] at hz
      cases e
      obtain ⟨as, q1⟩ := Dp.reads I _ _ _ (h1.dp (data_of hz.1)) r1
      obtain ⟨bs, q2⟩ := Dp.reads I _ _ _ (h2.dp (x := .tup _) (shapedL_toD hz.2).2) r2
      exact SeqAt.in_tuple_reads q2 q1 (canLayL_toD _ (shapedL_toD hz.2).2) (canLay_toD _ (data_of hz.1)) (room_in_shaped (shaped_toD hz.1) hu) ⟨.bl _, H, I, rfl, by rw [keyIn_toD (data_of hz.1) hz.2]; exact q⟩
    · cases e
  · cases h2 with
    | of h2 => cases h2
  · split at e
    · rename_i hz
      cases e
      rw [decide_eq_true_eq] at hz
      obtain ⟨c, rfl⟩ := str_one hz
      have e1 := h1.str; have e2 := h2.str; subst e1; subst e2
      exact op_in_sign pins s σ H _ _ _ _ Q I r1 r2 ⟨_, _, rfl, rfl, by rw [← strIn_one]; exact q⟩
    · cases e
theorem cop_notin (hu : X.A.units + 65 < cLine) : OpR X (compareOp .NotIn) (rCop X.K .NotIn) := fun pins s σ H u w v v' Q I r1 r2 ⟨al, x, y, k, h1, h2, e, q⟩ => by
  have e : (cIn x y).map (!·) = some k := e
  unfold cIn at e
  split at e <;> first | (cases e; done) | skip
  · split at e
    · rename_i hz
      rw [Bool.and_eq_true] at hz
      cases e
      obtain ⟨as, q1⟩ := Dp.reads I _ _ _ (h1.dp (data_of hz.1)) r1
      obtain ⟨bs, q2⟩ := Dp.reads I _ _ _ (h2.dp (x := .lst _) (shapedL_toD hz.2).2) r2
      exact SeqAt.notIn_list_reads q2 q1 (canLayL_toD _ (shapedL_toD hz.2).2) (canLay_toD _ (data_of hz.1)) (room_in_shaped (shaped_toD hz.1) hu) ⟨.bl _, H, I, rfl, by rw [keyIn_toD (data_of hz.1) hz.2]; exact q⟩
    · cases e
  · split at e
    · rename_i hz
      rw [Bool.and_eq_true] at hz
      cases e
      obtain ⟨as, q1⟩ := Dp.reads I _ _ _ (h1.dp (data_of hz.1)) r1
      obtain ⟨bs, q2⟩ := Dp.reads I _ _ _ (h2.dp (x := .tup _) (shapedL_toD hz.2).2) r2
      exact SeqAt.notIn_tuple_reads q2 q1 (canLayL_toD _ (shapedL_toD hz.2).2) (canLay_toD _ (data_of hz.1)) (room_in_shaped (shaped_toD hz.1) hu) ⟨.bl _, H, I, rfl, by rw [keyIn_toD (data_of hz.1) hz.2]; exact q⟩
    · cases e
  · cases h2 with
    | of h2 => cases h2
  · split at e
    · rename_i hz
      cases e
      rw [decide_eq_true_eq] at hz
      obtain ⟨c, rfl⟩ := str_one hz
      have e1 := h1.str; have e2 := h2.str; subst e1; subst e2
      exact op_notIn_sign pins s σ H _ _ _ _ Q I r1 r2 ⟨_, _, rfl, rfl, by rw [← strIn_one]; exact q⟩
    · cases e
theorem op_cop (hu : X.A.units + 65 < cLine) (op : CmpOp) : OpR X (compareOp op) (rCop X.K op) := by
  cases op
  case Eq => exact cop_eq hu
  case NotEq => exact cop_ne hu
  case Lt => exact cop_lt
  case LtE => exact cop_le
  case Gt => exact cop_gt
  case GtE => exact cop_ge
  case Is => exact cop_is
  case IsNot => exact cop_isnot
  case In => exact cop_in hu
  case NotIn => exact cop_notin hu
/-! ### truth, subscripts, slices -/
theorem RepL.isEmpty {K : PySem.W.Frag} {al : Al} {H : Hp} {us : List V} {xs : List Val} (r : RepL K al H us xs) : us.isEmpty = xs.isEmpty := by
  cases r <;> rfl
theorem tru_of {K : PySem.W.Frag} {al : Al} {H : Hp} {u : V} {x : Val} {k : Bool} (h : RepD K al H u x) (e : tru x = some k) : TruV K u H k := by
  unfold tru at e
  split at e <;> first | (cases e; done) | skip
  · have := h.non; subst this; cases e; rfl
  · have := h.bl; subst this; cases e; rfl
  · have := h.int; subst this; cases e; rfl
  · have := h.str; subst this
    split at e
    · rename_i hz
      cases e
      exact ⟨LINE_eq ▸ hz, rfl⟩
    · cases e
  · obtain ⟨a, us, rfl, ha, ra⟩ := h.tuple
    cases e
    exact .inr (.inl ⟨us, ha, by rw [ra.isEmpty]⟩)
  · obtain ⟨a, us, rfl, ha, ra⟩ := h.list
    cases e
    exact .inl ⟨us, .of ha, by rw [ra.isEmpty]⟩
theorem RepL.atV {K : PySem.W.Frag} {al : Al} {H : Hp} {us : List V} {xs : List Val} {i : Int} {v : Val} (r : RepL K al H us xs) (e : MP.atV xs i = some v) : ∃ u, atI us i = some u ∧ Rep K al H u v := by
  unfold MP.atV at e
  unfold atI
  rw [r.length]
  cases q : MP.ixN xs.length i with
  | none => rw [q] at e; cases e
  | some j =>
    rw [q] at e
    have q' : L2.ixN xs.length i = some j := q
    rw [q']
    obtain ⟨u, e1, r1⟩ := r.get (show xs[j]? = some v from e)
    exact ⟨u, e1, r1⟩
def rIdx (K : PySem.W.Frag) : R2 := fun u w H Q => ∃ al x y z, RepD K al H u x ∧ Rep K al H w y ∧ idx x y = some z ∧ ∀ u', Rep K al H u' z → Q u' H
theorem ix_idx : IxR X (rIdx X.K) := by
  intro value slice pins s σ H u w v v' Q I r1 r2 ⟨al, x, y, z, h1, h2, e, q⟩ hs
  unfold idx at e
  split at e <;> first | (cases e; done) | skip
  · obtain ⟨a, us, rfl, ha, ra⟩ := h1.list
    cases h2
    obtain ⟨u', e1, r3⟩ := ra.atV e
    exact ix_list value slice pins s σ H _ _ _ _ Q I r1 r2 ⟨a, us, _, u', rfl, rfl, .of ha, e1, q u' r3⟩ hs
  · obtain ⟨a, us, rfl, ha, ra⟩ := h1.tuple
    cases h2
    obtain ⟨u', e1, r3⟩ := ra.atV e
    exact ix_tup value slice pins s σ H _ _ _ _ Q I r1 r2 ⟨a, us, _, u', rfl, rfl, ha, e1, q u' r3⟩ hs
  · have := h1.str; subst this
    cases h2
    split at e
    · rename_i hz
      rw [Option.map_eq_some_iff] at e
      obtain ⟨c, e, rfl⟩ := e
      exact ix_str value slice pins s σ H _ _ _ _ Q I r1 r2 ⟨_, _, c, rfl, rfl, LINE_eq ▸ hz, e, q _ (.str _)⟩ hs
    · cases e
  · obtain ⟨a, rfl, ha⟩ := h1.script
    cases h2
    rw [Option.map_eq_some_iff] at e
    obtain ⟨c, e, rfl⟩ := e
    refine ix_list value slice pins s σ H _ _ _ _ Q I r1 r2 ⟨a, _, _, .int c, rfl, rfl, ha, ?_, q _ (.int _)⟩ hs
    unfold MP.atV at e
    unfold atI
    rw [List.length_map]
    cases q : MP.ixN _ _ with
    | none => rw [q] at e; cases e
    | some j =>
      rw [q] at e
      have q' : L2.ixN _ _ = some j := q
      rw [q']
      show (List.map V.int _)[j]? = _
      rw [List.getElem?_map]
      exact congrArg (Option.map V.int) e
  · cases h1 with
    | of h1 => cases h1
theorem RepL.cut {K : PySem.W.Frag} {al : Al} {H : Hp} {us : List V} {xs : List Val} (r : RepL K al H us xs) (lo hi : Option Int) : RepL K al H (cutV us lo hi) (cutL xs lo hi) := by
  unfold cutV cutL
  rw [r.length]
  exact (r.drop _).take _
def rSlc (K : PySem.W.Frag) (fr : Bool) : V → Option Int → Option Int → Hp → VK → Prop := fun u lo hi H Q => ∃ al x z, Dm al H ∧ RepD K al H u x ∧ slc x lo hi = some z ∧ Done K al H fr z Q
theorem cut_whole {α : Type} (xs : List α) (lo hi : Option Int) (h : HT.sIx xs.length 0 lo = 0 ∧ HT.sIx xs.length xs.length hi = xs.length) : cutL xs lo hi = xs := by
  unfold cutL
  have h1 : sIx xs.length 0 lo = 0 := h.1
  have h2 : sIx xs.length xs.length hi = xs.length := h.2
  rw [h1, h2]
  simp
theorem sl_slc {fr : Bool} : SlR X (rSlc X.K fr) := by
  intro pins s σ H u v vl vu lo hi sl Q I rx hs pl pu ⟨al, x, z, dm, h1, e, q⟩
  unfold slc at e
  split at e <;> first | (cases e; done) | skip
  · cases e
    obtain ⟨a, us, rfl, ha, ra⟩ := h1.list
    exact sl_list pins s σ H _ v vl vu lo hi sl Q I rx hs pl pu ⟨a, us, rfl, .of ha, q.lst dm (ra.cut lo hi)⟩
  · cases e
    obtain ⟨a, us, rfl, ha, ra⟩ := h1.tupleN
    refine sl_tupN pins s σ H _ v vl vu lo hi sl Q I rx hs pl pu ⟨a, us, rfl, ha.1, fun hw => ?_, fun _ => q.tup (ra.cut lo hi)⟩
    rw [ra.length] at hw
    rw [cut_whole _ lo hi hw] at q
    exact q.tupAt ha ra
  · have := h1.str; subst this
    split at e
    · rename_i hz
      cases e
      exact sl_str pins s σ H _ v vl vu lo hi sl Q I rx hs pl pu ⟨_, rfl, LINE_eq ▸ hz, (show cutS _ lo hi = _ from rfl) ▸ q.str⟩
    · cases e
end
end MP
set_option Elab.async false
set_option linter.all false
set_option maxRecDepth 100000
set_option maxHeartbeats 1000000
/-! MPExp: expressions: what a clean evaluation says of the machine's. -/
namespace MP
open PySem PySem.Spec PyProof.Rows L2
/-- the setting: the written part, the frame's first cell, what is wished of an exception, how an exception is told -/
structure Sg where
  K : PySem.W.Frag
  bs : List Nat
  W : WX
  xr : Al → Hp → Value → Option Addr → Nat → List Val → Prop
/-- behind a clean result -/
def Post {g b : Type} (S : Sg) (rel : Al → Hp → g → b → M → Prop) (al : Al) (H : Hp) (s : L2.St) (Q : g → Hp → Prop) : R b → Prop
  | .ok v m' => ∀ u H' al', Ext al al' H H' → Rl S.K S.bs al' m' H' → rel al' H' u v m' → Q u H'
  | .exc c fs m' => ∀ cls d H' al', Ext al al' H H' → Rl S.K S.bs al' m' H' → S.xr al' H' cls d c fs → S.W cls d s H'
  | .stuck => False
section
variable {S : Sg} {g b g2 b2 : Type} {rel : Al → Hp → g → b → M → Prop} {rel2 : Al → Hp → g2 → b2 → M → Prop} {al al1 : Al} {H H1 : Hp} {s : L2.St} {Q : g → Hp → Prop} {Q2 : g2 → Hp → Prop}
theorem Post.shift {r : R b} (x : Ext al al1 H H1) (h : Post S rel al H s Q r) : Post S rel al1 H1 s Q r := by
  cases r with
  | ok v m' => exact fun u H' al' y r q => h u H' al' (x.trans y) r q
  | exc c fs m' => exact fun cls d H' al' y r q => h cls d H' al' (x.trans y) r q
  | stuck => exact h
theorem Post.mono {Q' : g → Hp → Prop} {r : R b} (h : Post S rel al H s Q r) (f : ∀ u H', Q u H' → Q' u H') : Post S rel al H s Q' r := by
  cases r with
  | ok v m' => exact fun u H' al' y r q => f u H' (h u H' al' y r q)
  | exc c fs m' => exact h
  | stuck => exact h
/-- first r, then k -/
theorem Post.seq {r : R b} {k : b → M → R b2} (h : Post S rel2 al H s Q2 (r.bind k)) :
    Post S rel al H s (fun u H1 => ∃ v m1 al1, Ext al al1 H H1 ∧ Rl S.K S.bs al1 m1 H1 ∧ rel al1 H1 u v m1 ∧ Post S rel2 al1 H1 s Q2 (k v m1)) r := by
  cases r with
  | ok v m' => exact fun u H' al' x rl q => ⟨v, m', al', x, rl, q, h.shift x⟩
  | exc c fs m' => exact h
  | stuck => exact h
theorem Post.done {v : b} {m' : M} (h : Post S rel al H s Q (.ok v m')) {u : g} (rl : Rl S.K S.bs al m' H) (q : rel al H u v m') : Q u H := h u H al (.refl _ _) rl q
theorem Post.opt {o : Option b} {m' : M} (h : Post S rel al H s Q (MP.opt o m')) : ∃ v, o = some v ∧ Post S rel al H s Q (.ok v m') := by
  cases o with
  | none => exact h.elim
  | some v => exact ⟨v, rfl, h⟩
end
/-- a value; a fresh list (H0: the heap ahead) may be made a cell -/
def relV (S : Sg) (fr : Bool) (H0 : Hp) (al : Al) (H : Hp) (u : V) (v : Val) (m : M) : Prop :=
  Rep S.K al H u v ∧ (fr = true → ∀ xs, v = .lst xs → ∃ a, u = .ref a ∧ H0 a = none ∧ Rl S.K S.bs (al.add [a]) (m ++ [.lst xs]) H)
def tE (S : Sg) (fr : Bool) (f : Env → M → R Val) : TE := fun s H Q => ∃ r m al, RE S.K al H s r ∧ Rl S.K S.bs al m H ∧ Post S (relV S fr H) al H s Q (f r m)
def tEs (S : Sg) (f : Env → M → R (List Val)) : TA := fun s H Q => ∃ r m al, RE S.K al H s r ∧ Rl S.K S.bs al m H ∧ Post S (fun al H us vs _ => RepL S.K al H us vs) al H s Q (f r m)
def tBl (S : Sg) (f : Env → M → R Bool) : TT := fun s H Q => ∃ r m al, RE S.K al H s r ∧ Rl S.K S.bs al m H ∧ Post S (fun _ _ u v _ => u = v) al H s Q (f r m)
def tPt (S : Sg) (f : Env → M → R (Option Int)) : TO := fun s H Q => ∃ r m al, RE S.K al H s r ∧ Rl S.K S.bs al m H ∧ Post S (fun _ _ u v _ => u = v) al H s Q (f r m)
theorem pe_imp {X : L2.Cx} {e : Expr} {t t' : TE} (h : PE X e t) (f : ∀ s H Q, t' s H Q → t s H Q) : PE X e t' := ⟨fun pins s σ H Q I q => h.run pins s σ H Q I (f _ _ _ q)⟩
theorem pt_imp {X : L2.Cx} {e : Expr} {t t' : TT} (h : PT X e t) (f : ∀ s H Q, t' s H Q → t s H Q) : PT X e t' := ⟨fun pins s σ H Q I q => h.run pins s σ H Q I (f _ _ _ q)⟩
theorem pw_imp {X : L2.Cx} {e : Expr} {t t' : TT} (h : PW X e t) (f : ∀ s H Q, t' s H Q → t s H Q) : PW X e t' := ⟨fun wh pins s σ H Q I q => h.run wh pins s σ H Q I (f _ _ _ q)⟩
theorem pa_imp {X : L2.Cx} {e : List Expr} {t t' : TA} (h : PA X e t) (f : ∀ s H Q, t' s H Q → t s H Q) : PA X e t' := ⟨fun pos pins s σ H Q I q => h.run pos pins s σ H Q I (f _ _ _ q)⟩
section
variable {S : Sg} {fr : Bool} {H0 : Hp} {al : Al} {m : M} {H : Hp} {s : L2.St} {Q : VK}
/-- a pure operation's end -/
theorem Done.of {z : Val} (p : Post S (relV S fr H0) al H s Q (.ok z m)) (rl : Rl S.K S.bs al m H) (d : ∀ a, H a = none → H0 a = none) : Done S.K al H fr z Q := fun u H' sm rp f =>
  p u H' al (.of_same sm) (rl.ext sm) ⟨rp, fun h xs ez => by
    obtain ⟨a, us, e1, e2, e3, e4⟩ := f h xs ez
    subst e3
    exact ⟨a, e1, d a e2, (rl.alloc e2 e4).1⟩⟩
theorem Post.val {z : Val} {u : V} (p : Post S (relV S false H0) al H s Q (.ok z m)) (rl : Rl S.K S.bs al m H) (r : Rep S.K al H u z) : Q u H :=
  p.done rl ⟨r, fun h => by cases h⟩
end
def tru_ (f : Env → M → R Val) : Env → M → R Bool := fun r m => (f r m).bind fun x m => opt (tru (dr m x)) m
section
variable {X : L2.Cx} {S : Sg} {a b c : Expr} {f1 f2 f3 : Bool} {fa fb fc : Env → M → R Val} {pos : Pos} {rest : List Expr}
/-! ### names, constants -/
theorem me_var {i : Nat} {x : Str} (hN : X.N[i]? = some x) (hv : Vis X.env.scope x) (hd : (x == ("__debug__" : Str)) = false) (hcd : (x == ("__classdict__" : Str)) = false) :
    PE X (.Name x pos) (tE S false (fun r m => match r[i]? with
      | some (some v) => .ok v m
      | _ => .stuck)) := by
  refine pe_imp (pe_var hN hv hd hcd) fun s H Q ⟨r, m, al, re, rl, p⟩ => ?_
  cases e : r[i]? with
  | none => simp only [e] at p; exact p.elim
  | some o =>
    cases o with
    | none => simp only [e] at p; exact p.elim
    | some v =>
      simp only [e] at p
      obtain ⟨u, e1, q⟩ := re.get i v e
      exact ⟨u, e1, p.val rl q⟩
theorem me_int {i : Int} {j : Nat} : PE X (.Constant (.int i) j pos) (tE S false fun _ m => .ok (.int i) m) := pe_imp pe_int fun s H Q ⟨r, m, al, re, rl, p⟩ => p.val rl (.int i)
theorem me_bl {i : Bool} {j : Nat} : PE X (.Constant (.bool i) j pos) (tE S false fun _ m => .ok (.bl i) m) := pe_imp pe_bl fun s H Q ⟨r, m, al, re, rl, p⟩ => p.val rl (.bl i)
theorem me_non {j : Nat} : PE X (.Constant .none j pos) (tE S false fun _ m => .ok .non m) := pe_imp pe_non fun s H Q ⟨r, m, al, re, rl, p⟩ => p.val rl .non
theorem me_str {i : Str} {j : Nat} : PE X (.Constant (.str i) j pos) (tE S false fun _ m => .ok (.str i) m) := pe_imp pe_str fun s H Q ⟨r, m, al, re, rl, p⟩ => p.val rl (.str i)
/-! ### operators -/
theorem me_bin (hK : X.K = S.K) {op : Operator} (ha : PE X a (tE S f1 fa)) (hb : PE X b (tE S f2 fb)) :
    PE X (.BinOp a op b pos) (tE S true fun r m => (fa r m).bind fun x m => (fb r m).bind fun y m => opt (bop op (dr m x) (dr m y)) m) := by
  have ho : OpR X (binaryOp op) (rBop S.K op true) := hK ▸ op_bop op
  refine pe_imp (pe_op ho ha hb) fun s H Q ⟨r, m, al, re, rl, p⟩ => ?_
  refine ⟨r, m, al, re, rl, p.seq.mono ?_⟩
  rintro u H1 ⟨v, m1, al1, x1, rl1, q1, p1⟩
  refine ⟨r, m1, al1, re.ext x1, rl1, p1.seq.mono ?_⟩
  rintro w H2 ⟨v2, m2, al2, x2, rl2, q2, p2⟩
  obtain ⟨z, e, p3⟩ := p2.opt
  exact ⟨al2, _, _, z, rl2.dm, .dr (q1.1.ext x2 _ _) rl2, .dr q2.1 rl2, e, .of p3 rl2 fun a h => x1.dom a (x2.dom a h)⟩
theorem me_neg (ha : PE X a (tE S f1 fa)) : PE X (.UnaryOp .USub a pos) (tE S false fun r m => (fa r m).bind fun x m => match x with
    | .int i => .ok (.int (-i)) m
    | _ => .stuck) := by
  refine pe_imp (pe_un un_neg ha) fun s H Q ⟨r, m, al, re, rl, p⟩ => ?_
  refine ⟨r, m, al, re, rl, p.seq.mono ?_⟩
  rintro u H1 ⟨v, m1, al1, x1, rl1, q1, p1⟩
  cases v with
  | int i =>
    cases q1.1
    exact ⟨i, rfl, p1.val rl1 (.int _)⟩
  | _ => exact p1.elim
theorem me_not (hK : X.K = S.K) (ha : PE X a (tE S f1 fa)) : PE X (.UnaryOp .Not a pos) (tE S false fun r m => (fa r m).bind fun x m => (opt (tru (dr m x)) m).bind fun b m => .ok (.bl (!b)) m) := by
  refine pe_imp (pe_notT ha) fun s H Q ⟨r, m, al, re, rl, p⟩ => ?_
  refine ⟨r, m, al, re, rl, p.seq.mono ?_⟩
  rintro u H1 ⟨v, m1, al1, x1, rl1, q1, p1⟩
  cases e : tru (dr m1 v) with
  | none => rw [e] at p1; exact p1.elim
  | some k =>
    rw [e] at p1
    exact ⟨k, hK ▸ tru_of (.dr q1.1 rl1) e, Post.val (z := .bl (!k)) p1 rl1 (.bl _)⟩
theorem me_one {op : BoolOp} (ha : PE X a (tE S f1 fa)) : PE X (.BoolOp op [a] pos) (tE S false fa) := by
  refine pe_imp (pe_one ha) fun s H Q ⟨r, m, al, re, rl, p⟩ => ⟨r, m, al, re, rl, ?_⟩
  cases e : fa r m with
  | ok v m' => rw [e] at p; exact fun u H' al' x rl' q => p u H' al' x rl' ⟨q.1, fun h => by cases h⟩
  | exc _ _ _ => rw [e] at p; exact p
  | stuck => rw [e] at p; exact p
theorem me_and (hK : X.K = S.K) (ha : PE X a (tE S f1 fa)) (hb : PE X (.BoolOp .And (b :: rest) pos) (tE S false fb)) :
    PE X (.BoolOp .And (a :: b :: rest) pos) (tE S false fun r m => (fa r m).bind fun x m => (opt (tru (dr m x)) m).bind fun k m => if k then fb r m else .ok x m) := by
  refine pe_imp (pe_andT ha hb) fun s H Q ⟨r, m, al, re, rl, p⟩ => ?_
  refine ⟨r, m, al, re, rl, p.seq.mono ?_⟩
  rintro u H1 ⟨v, m1, al1, x1, rl1, q1, p1⟩
  cases e : tru (dr m1 v) with
  | none => rw [e] at p1; exact p1.elim
  | some k =>
    rw [e] at p1
    refine ⟨k, hK ▸ tru_of (.dr q1.1 rl1) e, ?_⟩
    cases k with
    | true =>
      refine ⟨r, m1, al1, re.ext x1, rl1, ?_⟩
      have p1 : Post S (relV S false H) al1 H1 s Q (fb r m1) := p1
      cases e2 : fb r m1 with
      | ok v m' => rw [e2] at p1; exact fun u H' al' x rl' q => p1 u H' al' x rl' ⟨q.1, fun h => by cases h⟩
      | exc _ _ _ => rw [e2] at p1; exact p1
      | stuck => rw [e2] at p1; exact p1
    | false => exact Post.val (z := v) p1 rl1 q1.1
theorem me_or (hK : X.K = S.K) (ha : PE X a (tE S f1 fa)) (hb : PE X (.BoolOp .Or (b :: rest) pos) (tE S false fb)) :
    PE X (.BoolOp .Or (a :: b :: rest) pos) (tE S false fun r m => (fa r m).bind fun x m => (opt (tru (dr m x)) m).bind fun k m => if k then .ok x m else fb r m) := by
  refine pe_imp (pe_orT ha hb) fun s H Q ⟨r, m, al, re, rl, p⟩ => ?_
  refine ⟨r, m, al, re, rl, p.seq.mono ?_⟩
  rintro u H1 ⟨v, m1, al1, x1, rl1, q1, p1⟩
  cases e : tru (dr m1 v) with
  | none => rw [e] at p1; exact p1.elim
  | some k =>
    rw [e] at p1
    refine ⟨k, hK ▸ tru_of (.dr q1.1 rl1) e, ?_⟩
    cases k with
    | false =>
      refine ⟨r, m1, al1, re.ext x1, rl1, ?_⟩
      have p1 : Post S (relV S false H) al1 H1 s Q (fb r m1) := p1
      cases e2 : fb r m1 with
      | ok v m' => rw [e2] at p1; exact fun u H' al' x rl' q => p1 u H' al' x rl' ⟨q.1, fun h => by cases h⟩
      | exc _ _ _ => rw [e2] at p1; exact p1
      | stuck => rw [e2] at p1; exact p1
    | true => exact Post.val (z := v) p1 rl1 q1.1
/-! ### tests -/
theorem mt_val (hK : X.K = S.K) (ha : PE X a (tE S f1 fa)) (he : ∀ whole, isTrue a X.env whole = (do let v ← whole; standAt a.pos; holding [v] (truthy v))) : PT X a (tBl S (tru_ fa)) := by
  refine pt_imp (pt_truth ha he) fun s H Q ⟨r, m, al, re, rl, p⟩ => ?_
  refine ⟨r, m, al, re, rl, p.seq.mono ?_⟩
  rintro u H1 ⟨v, m1, al1, x1, rl1, q1, p1⟩
  obtain ⟨k, e, p2⟩ := p1.opt
  exact ⟨k, hK ▸ tru_of (.dr q1.1 rl1) e, p2.done rl1 rfl⟩
variable {ga gb gc : Env → M → R Bool}
theorem mt_not (ha : PT X a (tBl S ga)) : PT X (.UnaryOp .Not a pos) (tBl S fun r m => (ga r m).bind fun k m => .ok (!k) m) := by
  refine pt_imp (pt_not ha) fun s H Q ⟨r, m, al, re, rl, p⟩ => ?_
  refine ⟨r, m, al, re, rl, p.seq.mono ?_⟩
  rintro u H1 ⟨v, m1, al1, x1, rl1, q1, p1⟩
  cases q1
  exact p1.done rl1 rfl
theorem mw_and (ha : PT X a (tBl S ga)) (hb : PW X (.BoolOp .And (b :: rest) pos) (tBl S gb)) : PW X (.BoolOp .And (a :: b :: rest) pos) (tBl S fun r m => (ga r m).bind fun k m => if k then gb r m else .ok false m) := by
  refine pw_imp (pw_and ha hb) fun s H Q ⟨r, m, al, re, rl, p⟩ => ?_
  refine ⟨r, m, al, re, rl, p.seq.mono ?_⟩
  rintro u H1 ⟨v, m1, al1, x1, rl1, q1, p1⟩
  cases q1
  cases u with
  | true => exact ⟨r, m1, al1, re.ext x1, rl1, p1⟩
  | false => exact Post.done (v := false) p1 rl1 rfl
theorem mw_or (ha : PT X a (tBl S ga)) (hb : PW X (.BoolOp .Or (b :: rest) pos) (tBl S gb)) : PW X (.BoolOp .Or (a :: b :: rest) pos) (tBl S fun r m => (ga r m).bind fun k m => if k then .ok true m else gb r m) := by
  refine pw_imp (pw_or ha hb) fun s H Q ⟨r, m, al, re, rl, p⟩ => ?_
  refine ⟨r, m, al, re, rl, p.seq.mono ?_⟩
  rintro u H1 ⟨v, m1, al1, x1, rl1, q1, p1⟩
  cases q1
  cases u with
  | false => exact ⟨r, m1, al1, re.ext x1, rl1, p1⟩
  | true => exact Post.done (v := true) p1 rl1 rfl
theorem mt_ite (hc : PT X c (tBl S gc)) (ha : PT X a (tBl S ga)) (hb : PT X b (tBl S gb)) : PT X (.IfExp c a b pos) (tBl S fun r m => (gc r m).bind fun k m => if k then ga r m else gb r m) := by
  refine ⟨fun pins s σ H Q I ⟨r, m, al, re, rl, p⟩ => ?_⟩
  refine isTrue_IfExp (thn (hc.run pins s σ H _ I ⟨r, m, al, re, rl, p.seq⟩) fun d s1 ⟨H1, I1, v, m1, al1, x1, rl1, q1, p1⟩ => ?_)
  cases q1
  cases d with
  | true => exact ha.run pins s1 σ H1 Q I1 ⟨r, m1, al1, re.ext x1, rl1, p1⟩
  | false => exact hb.run pins s1 σ H1 Q I1 ⟨r, m1, al1, re.ext x1, rl1, p1⟩
theorem me_ite (hc : PT X c (tBl S gc)) (ha : PE X a (tE S f1 fa)) (hb : PE X b (tE S f2 fb)) : PE X (.IfExp c a b pos) (tE S false fun r m => (gc r m).bind fun k m => if k then fa r m else fb r m) := by
  refine pe_imp (pe_ifExp hc ha hb) fun s H Q ⟨r, m, al, re, rl, p⟩ => ?_
  refine ⟨r, m, al, re, rl, p.seq.mono ?_⟩
  rintro u H1 ⟨v, m1, al1, x1, rl1, q1, p1⟩
  cases q1
  have weak : ∀ {rr : R Val} {f : Bool}, Post S (relV S false H) al1 H1 s Q rr → Post S (relV S f H1) al1 H1 s Q rr := fun {rr f} p => by
    cases rr with
    | ok v m' => exact fun u H' al' x rl' q => p u H' al' x rl' ⟨q.1, fun h => by cases h⟩
    | exc _ _ _ => exact p
    | stuck => exact p
  cases u with
  | true => exact ⟨r, m1, al1, re.ext x1, rl1, weak p1⟩
  | false => exact ⟨r, m1, al1, re.ext x1, rl1, weak p1⟩
/-! ### comparisons -/
/-- what follows a left side -/
def tCh (S : Sg) (g : Val → Env → M → R Val) : V → TE := fun u s H Q => ∃ r m al x, RE S.K al H s r ∧ Rl S.K S.bs al m H ∧ Rep S.K al H u x ∧ Post S (relV S false H) al H s Q (g x r m)
structure PCh (X : L2.Cx) (S : Sg) (pos : Pos) (ops : List CmpOp) (es : List Expr) (g : Val → Env → M → R Val) : Prop where
  run : ∀ (pins : List (Addr × Obj)) (s : Shared) (σ : L2.St) (H : Hp) (x : V) (v : Value) (Q : VK), Inv X pins σ H s → RelV x v → tCh S g x σ H Q → wpAny (model X.prog X.w) X.A (compareChain pos v ops (evalEach es X.env)) (EP X pins σ Q) X.xe s
  test : ∀ (pins : List (Addr × Obj)) (s : Shared) (σ : L2.St) (H : Hp) (x : V) (v : Value) (Q : Bool → Hp → Prop), Inv X pins σ H s → RelV x v → tCh S g x σ H (fun u H => ∃ k, u = .bl k ∧ Q k H) → wpAny (model X.prog X.w) X.A (testChain pos v ops (evalEach es X.env)) (TP X pins σ Q) X.xe s
def cmpG (op : CmpOp) (fb : Env → M → R Val) : Val → Env → M → R Val := fun x r m => (fb r m).bind fun y m => (opt (cop op (dr m x) (dr m y)) m).bind fun k m => .ok (.bl k) m
def cmpN (op : CmpOp) (fb : Env → M → R Val) (g : Val → Env → M → R Val) : Val → Env → M → R Val := fun x r m => (fb r m).bind fun y m => (opt (cop op (dr m x) (dr m y)) m).bind fun k m => if k then g y r m else .ok (.bl false) m
theorem mc_last (hK : X.K = S.K) (hu : X.A.units + 65 < cLine) {op : CmpOp} (hb : PE X b (tE S f2 fb)) : PCh X S pos [op] [b] (cmpG op fb) := by
  have key : ∀ (pins : List (Addr × Obj)) (s : Shared) (σ : L2.St) (H : Hp) (x : V) (v : Value) (Q : VK), Inv X pins σ H s → RelV x v → tCh S (cmpG op fb) x σ H Q →
      wpAny (model X.prog X.w) X.A (eval b X.env) (fun w s1 => wpAny (model X.prog X.w) X.A (compareOp op v w) (EP X pins σ Q) X.xe s1) X.xe s := fun pins s σ H x v Q I rx ⟨r, m, al, y, re, rl, q, p⟩ => by
    refine thn (hb.run pins s σ H _ I ⟨r, m, al, re, rl, p.seq⟩) fun w s1 ⟨u1, H1, I1, r1, v1, m1, al1, x1, rl1, q1, p1⟩ => ?_
    have ho : OpR X (compareOp op) (rCop S.K op) := hK ▸ op_cop hu op
    cases e : cop op (dr m1 y) (dr m1 v1) with
    | none => rw [e] at p1; exact p1.elim
    | some k =>
      rw [e] at p1
      exact ho pins s1 σ H1 x u1 v w Q I1 rx r1 ⟨al1, _, _, k, .dr (q.ext x1 _ _) rl1, .dr q1.1 rl1, e, Post.val (z := .bl k) p1 rl1 (.bl k)⟩
  refine ⟨fun pins s σ H x v Q I rx t => chain_last (key pins s σ H x v Q I rx t), fun pins s σ H x v Q I rx t => test_last (thn (key pins s σ H x v _ I rx t) fun w s1 h1 => thn h1 fun c s2 ⟨z, H2, I2, r2, k, e, q⟩ => ?_)⟩
  subst e
  cases r2
  exact wpAny_truthy_bool ⟨H2, I2, q⟩
theorem mc_cons (hK : X.K = S.K) (hu : X.A.units + 65 < cLine) {op op' : CmpOp} {ops : List CmpOp} {g : Val → Env → M → R Val} (hb : PE X b (tE S f2 fb)) (hr : PCh X S pos (op' :: ops) (c :: rest) g) : PCh X S pos (op :: op' :: ops) (b :: c :: rest) (cmpN op fb g) := by
  have key : ∀ (pins : List (Addr × Obj)) (s : Shared) (σ : L2.St) (H : Hp) (x : V) (v : Value) (Q : VK), Inv X pins σ H s → RelV x v → tCh S (cmpN op fb g) x σ H Q →
      wpAny (model X.prog X.w) X.A (eval b X.env) (fun w s1 => wpAny (model X.prog X.w) X.A (compareOp op v w) (fun z s2 => ∃ (k : Bool) (y : V) (H2 : Hp), z = .bool k ∧ Inv X pins σ H2 s2 ∧ RelV y w ∧ if k then tCh S g y σ H2 Q else Q (.bl false) H2) X.xe s1) X.xe s := fun pins s σ H x v Q I rx ⟨r, m, al, y, re, rl, q, p⟩ => by
    refine thn (hb.run pins s σ H _ I ⟨r, m, al, re, rl, p.seq⟩) fun w s1 ⟨u1, H1, I1, r1, v1, m1, al1, x1, rl1, q1, p1⟩ => ?_
    have ho : OpR X (compareOp op) (rCop S.K op) := hK ▸ op_cop hu op
    cases e : cop op (dr m1 y) (dr m1 v1) with
    | none => rw [e] at p1; exact p1.elim
    | some k =>
      rw [e] at p1
      refine thn (ho pins s1 σ H1 x u1 v w (fun z H2 => z = .bl k ∧ H2 = H1) I1 rx r1 ⟨al1, _, _, k, .dr (q.ext x1 _ _) rl1, .dr q1.1 rl1, e, rfl, rfl⟩) fun z s2 ⟨z', H2, I2, r2, e1, e2⟩ => ?_
      subst e1 e2
      cases r2
      refine ⟨k, u1, H2, rfl, I2, r1, ?_⟩
      cases k with
      | true => exact ⟨r, m1, al1, v1, re.ext x1, rl1, q1.1, by
          have p1 : Post S (relV S false H) al1 H2 σ Q (g v1 r m1) := p1
          cases e3 : g v1 r m1 with
          | ok v m' => rw [e3] at p1; exact fun u H' al' x rl' q => p1 u H' al' x rl' ⟨q.1, fun h => by cases h⟩
          | exc _ _ _ => rw [e3] at p1; exact p1
          | stuck => rw [e3] at p1; exact p1⟩
      | false => exact Post.val (z := .bl false) p1 rl1 (.bl false)
  refine ⟨fun pins s σ H x v Q I rx t => chain_link (thn (key pins s σ H x v Q I rx t) fun w s1 h1 => thn h1 fun z s2 ⟨k, y, H2, e, I2, r2, q⟩ => ?_),
    fun pins s σ H x v Q I rx t => test_link (thn (key pins s σ H x v _ I rx t) fun w s1 h1 => thn h1 fun z s2 ⟨k, y, H2, e, I2, r2, q⟩ => ?_)⟩
  · subst e
    refine wpAny_truthy_bool ?_
    cases k with
    | true => exact hr.run pins s2 σ H2 y w Q I2 r2 q
    | false => exact ⟨.bl false, H2, I2, rfl, q⟩
  · subst e
    refine wpAny_truthy_bool ?_
    cases k with
    | true => exact hr.test pins s2 σ H2 y w Q I2 r2 q
    | false =>
      obtain ⟨k', e, q⟩ := q
      cases e
      exact ⟨H2, I2, q⟩
end
end MP
set_option Elab.async false
set_option linter.all false
set_option maxRecDepth 100000
set_option maxHeartbeats 1000000
/-! MPExp2: comparisons, subscripts, displays, built-in functions, targets. -/
namespace MP
open PySem PySem.Spec PyProof.Rows L2
section
variable {S : Sg} {fr : Bool} {H0 H1 : Hp} {al : Al} {m : M} {H : Hp} {s : L2.St} {Q : VK}
theorem Post.weak {r : R Val} (h : Post S (relV S false H0) al H s Q r) : Post S (relV S fr H1) al H s Q r := by
  cases r with
  | ok v m' => exact fun u H' al' x rl' q => h u H' al' x rl' ⟨q.1, fun h => by cases h⟩
  | exc _ _ _ => exact h
  | stuck => exact h
end
section
variable {X : L2.Cx} {S : Sg} {a b c : Expr} {es : List Expr} {f1 f2 f3 : Bool} {fa fb fc : Env → M → R Val} {pos : Pos} {rest : List Expr}
theorem me_cmp {ops : List CmpOp} {g : Val → Env → M → R Val} (ha : PE X a (tE S f1 fa)) (hc : PCh X S pos ops es g) (hm : lastMarks ops es = false) :
    PE X (.Compare a ops es pos) (tE S false fun r m => (fa r m).bind fun x m => g x r m) := by
  refine ⟨fun pins s σ H Q I ⟨r, m, al, re, rl, p⟩ => ?_⟩
  show wpAny _ _ (do compareChain pos (← eval a X.env) ops (markedEach ops es (evalEach es X.env))) _ _ s
  rw [markedEach_of_false _ _ _ hm]
  refine wpAny_bind (thn (ha.run pins s σ H _ I ⟨r, m, al, re, rl, p.seq⟩) fun v s1 ⟨u, H1, I1, r1, v1, m1, al1, x1, rl1, q1, p1⟩ => ?_)
  exact hc.run pins s1 σ H1 u v Q I1 r1 ⟨r, m1, al1, v1, re.ext x1, rl1, q1.1, p1.weak⟩
theorem mt_cmp {ops : List CmpOp} {g : Val → Env → M → R Val} (ha : PE X a (tE S f1 fa)) (hc : PCh X S pos ops es g) (hm : lastMarks ops es = false) (hg : ∀ x r m v m', g x r m = .ok v m' → ∃ k, v = .bl k) :
    PT X (.Compare a ops es pos) (tBl S (tru_ fun r m => (fa r m).bind fun x m => g x r m)) := by
  refine ⟨fun pins s σ H Q I ⟨r, m, al, re, rl, p⟩ => ?_⟩
  show wpAny _ _ (do testChain pos (← eval a X.env) ops (markedEach ops es (evalEach es X.env))) _ _ s
  rw [markedEach_of_false _ _ _ hm]
  have p : Post S (fun _ _ u v _ => u = v) al H σ Q ((fa r m).bind fun x m => (g x r m).bind fun x m => opt (tru (dr m x)) m) := by
    have e : tru_ (fun r m => (fa r m).bind fun x m => g x r m) r m = (fa r m).bind fun x m => (g x r m).bind fun x m => opt (tru (dr m x)) m := by
      show R.bind (R.bind (fa r m) _) _ = _
      cases fa r m <;> rfl
    rw [← e]
    exact p
  refine wpAny_bind (thn (ha.run pins s σ H _ I ⟨r, m, al, re, rl, p.seq⟩) fun v s1 ⟨u, H1, I1, r1, v1, m1, al1, x1, rl1, q1, p1⟩ => ?_)
  refine hc.test pins s1 σ H1 u v Q I1 r1 ⟨r, m1, al1, v1, re.ext x1, rl1, q1.1, ?_⟩
  cases e : g v1 r m1 with
  | ok w m' =>
    rw [e] at p1
    obtain ⟨k, rfl⟩ := hg _ _ _ _ _ e
    intro u' H' al' x rl' q
    cases q.1
    exact ⟨k, rfl, p1 k H' al' x rl' rfl⟩
  | exc _ _ _ => rw [e] at p1; exact p1
  | stuck => rw [e] at p1; exact p1.elim
/-! ### subscripts -/
def plainIx : Expr → Bool
  | .Slice _ _ none _ => false
  | _ => true
theorem plainIx_of {b : Expr} (h : plainIx b = true) : PlainIx b := by
  intro o i
  unfold subscripted
  split
  · rename_i h1
    simp [plainIx] at h
  · rename_i h1
    cases h1
  · rfl
theorem me_idx (hK : X.K = S.K) (ha : PE X a (tE S f1 fa)) (hb : PE X b (tE S f2 fb)) (hs : plainIx b = true) :
    PE X (.Subscript a b pos) (tE S false fun r m => (fa r m).bind fun x m => (fb r m).bind fun y m => opt (idx (dr m x) y) m) := by
  have ho : IxR X (rIdx S.K) := hK ▸ ix_idx
  refine pe_imp (pe_ix ho ha hb (plainIx_of hs)) fun s H Q ⟨r, m, al, re, rl, p⟩ => ?_
  refine ⟨r, m, al, re, rl, p.seq.mono ?_⟩
  rintro u H1 ⟨v, m1, al1, x1, rl1, q1, p1⟩
  refine ⟨r, m1, al1, re.ext x1, rl1, p1.seq.mono ?_⟩
  rintro w H2 ⟨v2, m2, al2, x2, rl2, q2, p2⟩
  obtain ⟨z, e, p3⟩ := p2.opt
  exact ⟨al2, _, _, z, .dr (q1.1.ext x2 _ _) rl2, q2.1, e, fun u' r' => p3.val rl2 r'⟩
def partO (o : Option (Env → M → R Val)) : Env → M → R (Option Int) := match o with
  | none => fun _ m => .ok none m
  | some f => fun r m => (f r m).bind fun y m => opt (partOf y) m
inductive PartOk (X : L2.Cx) (S : Sg) : Option Expr → Option (Env → M → R Val) → Prop
  | none : PartOk X S none none
  | some {e : Expr} {f : Bool} {g : Env → M → R Val} : PE X e (tE S f g) → PartOk X S (some e) (some g)
theorem mo_part {o : Option Expr} {g : Option (Env → M → R Val)} (h : PartOk X S o g) : ∃ t, PO X o t ∧ ∀ s H Q, tPt S (partO g) s H Q → t s H Q := by
  cases h with
  | none => exact ⟨_, po_none, fun s H Q ⟨r, m, al, re, rl, p⟩ => Post.done (v := (none : Option Int)) p rl rfl⟩
  | some h =>
    refine ⟨_, po_some h, fun s H Q ⟨r, m, al, re, rl, p⟩ => ?_⟩
    refine ⟨r, m, al, re, rl, Post.mono (Post.seq p) ?_⟩
    rintro u H1 ⟨v, m1, al1, x1, rl1, q1, p1⟩
    obtain ⟨z, e, p3⟩ := p1.opt
    cases v <;> simp only [partOf, Option.some.injEq, reduceCtorEq] at e
    subst e
    cases q1.1
    exact ⟨_, rfl, p3.done rl1 rfl⟩
theorem me_slc (hK : X.K = S.K) {lo hi : Option Expr} {gl gh : Option (Env → M → R Val)} {p2 : Pos} (ha : PE X a (tE S f1 fa)) (hl : PartOk X S lo gl) (hh : PartOk X S hi gh) :
    PE X (.Subscript a (.Slice lo hi none p2) pos) (tE S true fun r m => (fa r m).bind fun x m => (partO gl r m).bind fun l m => (partO gh r m).bind fun h m => opt (slc (dr m x) l h) m) := by
  obtain ⟨tl, pl, el⟩ := mo_part hl
  obtain ⟨th, ph, eh⟩ := mo_part hh
  have ho : SlR X (rSlc S.K true) := hK ▸ sl_slc
  refine pe_imp (pe_slice ho ha pl ph) fun s H Q ⟨r, m, al, re, rl, p⟩ => ?_
  refine ⟨r, m, al, re, rl, p.seq.mono ?_⟩
  rintro u H1 ⟨v, m1, al1, x1, rl1, q1, p1⟩
  refine el _ _ _ ⟨r, m1, al1, re.ext x1, rl1, p1.seq.mono ?_⟩
  rintro w H2 ⟨v2, m2, al2, x2, rl2, q2, p2⟩
  refine eh _ _ _ ⟨r, m2, al2, (re.ext x1).ext x2, rl2, p2.seq.mono ?_⟩
  rintro w3 H3 ⟨v3, m3, al3, x3, rl3, q3, p3⟩
  obtain ⟨z, e, p4⟩ := p3.opt
  subst q2 q3
  exact ⟨al3, _, z, rl3.dm, .dr ((q1.1.ext x2 _ _).ext x3 _ _) rl3, e, .of p4 rl3 fun a h => (x1.dom a (x2.dom a (x3.dom a h)))⟩
/-! ### displays -/
variable {fs : Env → M → R (List Val)}
theorem ms_nil : PA X [] (tEs S fun _ m => .ok [] m) := pa_imp pa_nil fun s H Q ⟨r, m, al, re, rl, p⟩ => Post.done (v := ([] : List Val)) p rl .nil
theorem ms_cons (ha : PE X a (tE S f1 fa)) (hr : PA X es (tEs S fs)) (hs : starEach (a :: es) X.env = (false, eval a X.env) :: starEach es X.env) :
    PA X (a :: es) (tEs S fun r m => (fa r m).bind fun x m => (fs r m).bind fun xs m => .ok (x :: xs) m) := by
  refine pa_imp (pa_cons ha hr hs) fun s H Q ⟨r, m, al, re, rl, p⟩ => ?_
  refine ⟨r, m, al, re, rl, p.seq.mono ?_⟩
  rintro u H1 ⟨v, m1, al1, x1, rl1, q1, p1⟩
  refine ⟨r, m1, al1, re.ext x1, rl1, p1.seq.mono ?_⟩
  rintro w H2 ⟨v2, m2, al2, x2, rl2, q2, p2⟩
  exact p2.done rl2 (.cons (q1.1.ext x2 _ _) q2)
theorem me_tup {k : Nat} (h : PA X es (tEs S fs)) : PE X (.Tuple es k pos) (tE S false fun r m => (fs r m).bind fun vs m => if vs.length ≤ LINE then .ok (.tup vs) m else .stuck) := by
  refine pe_imp (pe_tupN h) fun s H Q ⟨r, m, al, re, rl, p⟩ => ?_
  refine ⟨r, m, al, re, rl, p.seq.mono ?_⟩
  rintro u H1 ⟨v, m1, al1, x1, rl1, q1, p1⟩
  split at p1
  · rename_i hz
    exact ⟨by rw [q1.length]; exact LINE_eq ▸ hz, (Done.of p1 rl1 fun a h => x1.dom a h).tup q1⟩
  · exact p1.elim
theorem me_lst (h : PA X es (tEs S fs)) : PE X (.List es pos) (tE S true fun r m => (fs r m).bind fun vs m => if vs.length ≤ LINE then .ok (.lst vs) m else .stuck) := by
  refine pe_imp (pe_lst h) fun s H Q ⟨r, m, al, re, rl, p⟩ => ?_
  refine ⟨r, m, al, re, rl, p.seq.mono ?_⟩
  rintro u H1 ⟨v, m1, al1, x1, rl1, q1, p1⟩
  split at p1
  · rename_i hz
    exact ⟨by rw [q1.length]; exact LINE_eq ▸ hz, (Done.of p1 rl1 fun a h => x1.dom a h).lst rl1.dm q1⟩
  · exact p1.elim
/-- a fresh list becomes a cell -/
theorem me_new (ha : PE X a (tE S true fa)) : PE X a (tE S false fun r m => (fa r m).bind fun x m => match x with
    | .lst xs => .ok (.ref m.length) (m ++ [.lst xs])
    | _ => .stuck) := by
  refine pe_imp ha fun s H Q ⟨r, m, al, re, rl, p⟩ => ?_
  refine ⟨r, m, al, re, rl, ?_⟩
  dsimp only at p
  cases e : fa r m with
  | stuck => rw [e] at p; exact p
  | exc _ _ _ => rw [e] at p; exact p
  | ok v m1 =>
    rw [e] at p
    intro u H1 al1 x1 rl1 q1
    cases v with
    | lst xs =>
      obtain ⟨a', rfl, h0, rl2⟩ := q1.2 rfl xs rfl
      have p : Post S (relV S false H) al H s Q (.ok (.ref m1.length) (m1 ++ [.lst xs])) := p
      refine p (.ref a') H1 (al1.add [a']) ⟨?_, x1.keep, x1.dom⟩ rl2 ⟨.ref ?_, fun h => by cases h⟩
      · obtain ⟨be, hs, rfl, hb, hh⟩ := x1.more
        refine ⟨be ++ [a'], hs, by simp [Al.add], fun p hp => ?_, hh⟩
        rcases List.mem_append.mp hp with hp | hp
        · exact hb p hp
        · rw [List.mem_singleton] at hp; subst hp; exact h0
      · rw [← rl1.len]
        show (al1.c ++ [a'])[al1.c.length]? = _
        rw [List.getElem?_append_right (Nat.le_refl _)]
        simp
    | _ => exact p.elim
end
end MP
set_option Elab.async false
set_option linter.all false
set_option maxRecDepth 100000
set_option maxHeartbeats 1000000
/-! MPCall: the call of a def of the text's own, its end. -/
namespace MP
open PySem PySem.Spec PyProof.Rows L2
/-! ### what is handed back -/
mutual
theorem frz_rep {K : PySem.W.Frag} {n : Nat} {bs : List Nat} {al : Al} {m : M} {H : Hp} (rl : Rl K (n :: bs) al m H) : ∀ (f : Nat) (v v' : Val) (u : V), Rep K al H u v → frz n m f v = some v' → Rep K (al.cut n) H u v'
  | 0, _, _, _, _, e => by simp [frz] at e
  | f + 1, .ref k, v', _, h, e => by
    rw [frz] at e
    cases h with
    | ref h1 =>
      split at e
      · rename_i hk
        cases e
        exact Rep.low (.take n al) (.ref k) _ (.ref h1) (decide_eq_true hk)
      · rename_i hk
        obtain ⟨c, ec, q⟩ := rl.at h1
        cases c with
        | lst xs =>
          rw [ec] at e
          dsimp only at e
          obtain ⟨us, e1, q1⟩ := q
          have key : ∃ ys, v' = .lst ys ∧ RepL K (al.cut n) H us ys := by
            split at e
            · rename_i hp
              cases e
              exact ⟨xs, rfl, q1.low (.take n al) xs us (ltAll_of_pure n xs hp)⟩
            · simp only [Option.map_eq_some_iff] at e
              obtain ⟨ys, e, rfl⟩ := e
              exact ⟨ys, rfl, frzL_rep rl f xs ys us q1 e⟩
          obtain ⟨ys, rfl, q2⟩ := key
          refine .lst e1 ⟨fun hm => ?_, fun hm => ?_⟩ q2
          obtain ⟨j, hj⟩ := List.getElem?_of_mem hm
          obtain ⟨h2, h3⟩ := take_some hj
          obtain ⟨l1, z1⟩ := List.getElem?_eq_some_iff.mp h1
          obtain ⟨l2, z2⟩ := List.getElem?_eq_some_iff.mp h3
          have := (List.getElem_inj rl.nd).mp (z1.trans z2.symm)
          omega
          exact rl.dis _ (List.mem_of_getElem? h1) hm
        | dct _ _ => exact q.elim
        | ins _ _ => exact q.elim
  | f + 1, .tup xs, v', _, h, e => by
    simp only [frz, Option.map_eq_some_iff] at e
    obtain ⟨ys, e, rfl⟩ := e
    cases h with
    | tup h1 h2 => exact .tup h1 (frzL_rep rl f xs ys _ h2 e)
  | f + 1, .lst xs, v', _, h, e => by
    simp only [frz, Option.map_eq_some_iff] at e
    obtain ⟨ys, e, rfl⟩ := e
    cases h with
    | lst h1 h2 h3 => exact .lst h1 ((Sub.take n al).off h2) (frzL_rep rl f xs ys _ h3 e)
  | f + 1, .non, v', _, h, e => by
    simp only [frz, Val.pure, if_true, Option.some.injEq] at e
    subst e
    exact h.low (.take n al) _ _ rfl
  | f + 1, .bl _, v', _, h, e => by
    simp only [frz, Val.pure, if_true, Option.some.injEq] at e
    subst e
    exact h.low (.take n al) _ _ rfl
  | f + 1, .int _, v', _, h, e => by
    simp only [frz, Val.pure, if_true, Option.some.injEq] at e
    subst e
    exact h.low (.take n al) _ _ rfl
  | f + 1, .str _, v', _, h, e => by
    simp only [frz, Val.pure, if_true, Option.some.injEq] at e
    subst e
    exact h.low (.take n al) _ _ rfl
  | f + 1, .scr _, v', _, h, e => by
    simp only [frz, Val.pure, if_true, Option.some.injEq] at e
    subst e
    exact h.low (.take n al) _ _ rfl
  | f + 1, .set _, _, _, h, _ => by cases h
  | f + 1, .dct _ _, _, _, h, _ => by cases h
  | f + 1, .exc c fs, v', _, h, e => by
    rw [frz] at e
    · split at e
      · rename_i hp
        cases e
        exact h.low (.take n al) _ _ (lt_of_pure n _ hp)
      · cases e
    all_goals (intros; rename_i z; cases z)
theorem frzL_rep {K : PySem.W.Frag} {n : Nat} {bs : List Nat} {al : Al} {m : M} {H : Hp} (rl : Rl K (n :: bs) al m H) : ∀ (f : Nat) (vs vs' : List Val) (us : List V), RepL K al H us vs → frzL n m f vs = some vs' → RepL K (al.cut n) H us vs'
  | _, [], vs', _, h, e => by
    cases h
    simp only [frzL, Option.some.injEq] at e
    subst e
    exact .nil
  | 0, _ :: _, _, _, _, e => by simp [frzL] at e
  | f + 1, x :: r, vs', _, h, e => by
    simp only [frzL, Option.bind_eq_some_iff, Option.map_eq_some_iff] at e
    obtain ⟨y, e1, ys, e2, rfl⟩ := e
    cases h with
    | cons h1 h2 => exact .cons (frz_rep rl f x y _ h1 e1) (frzL_rep rl f r ys _ h2 e2)
end
/-- the frame's end: what it hands back, the cells below -/
theorem exit_rep {K : PySem.W.Frag} {n : Nat} {bs : List Nat} {al : Al} {m m' : M} {H : Hp} {fl : Bool} {v z : Val} {u : V} (rl : Rl K (n :: bs) al m H) (h : Rep K al H u v) (e : exitR fl n v m = .ok z m') :
    ∃ al', (al' = al.cut n ∨ ∃ a ∈ al.c.drop n, al' = (al.cut n).add [a]) ∧ Rl K bs al' m' H ∧ Rep K al' H u z := by
  unfold exitR at e
  split at e
  · rename_i hp
    cases e
    exact ⟨_, .inl rfl, rl.leave, h.low (.take n al) _ _ (lt_of_pure n _ hp)⟩
  · split at e
    · rename_i k _
      cases h with
      | ref h1 =>
        rename_i a
        split at e
        · rename_i hk
          cases e
          exact ⟨_, .inl rfl, rl.leave, Rep.low (.take n al) _ _ (.ref h1) (decide_eq_true hk)⟩
        · rename_i hk
          obtain ⟨c, ec, q⟩ := rl.at h1
          cases c with
          | lst xs =>
            rw [ec] at e
            dsimp only at e
            split at e
            · rename_i hp
              cases e
              obtain ⟨us, e1, q1⟩ := q
              have hn := rl.ble n List.mem_cons_self
              have hlen : (al.c.take n).length = n := by
                rw [List.length_take, rl.len]
                omega
              have hmlen : (m.take n).length = n := by
                rw [List.length_take]
                omega
              have ha : a ∉ al.c.take n := fun hm => by
                obtain ⟨j, hj⟩ := List.getElem?_of_mem hm
                obtain ⟨h2, h3⟩ := take_some hj
                obtain ⟨l1, z1⟩ := List.getElem?_eq_some_iff.mp h1
                obtain ⟨l2, z2⟩ := List.getElem?_eq_some_iff.mp h3
                have := (List.getElem_inj rl.nd).mp (z1.trans z2.symm)
                omega
              have hd : a ∈ al.c.drop n := by
                refine List.mem_of_getElem? (i := k - n) ?_
                rw [List.getElem?_drop, show n + (k - n) = k by omega]
                exact h1
              have sb : Sub n al ((al.cut n).add [a]) := by
                refine .by (fun i hi => ?_) (fun b hb => ?_) fun _ h => h
                · show (al.c.take n ++ [a])[i]? = _
                  rw [List.getElem?_append_left (by omega), List.getElem?_take, if_pos hi]
                · rcases List.mem_append.mp hb with hb | hb
                  · exact List.mem_of_mem_take hb
                  · rw [List.mem_singleton] at hb
                    subst hb
                    exact List.mem_of_getElem? h1
              have r1 := rl.leave
              refine ⟨_, .inr ⟨a, hd, rfl⟩, ⟨?_, by simp [Al.add, r1.len], fun i b c h2 h3 => ?_, fun b hb i c hi h3 => ?_, fun b hb => by
                rw [List.length_append]
                exact Nat.le_trans (r1.ble b hb) (Nat.le_add_right _ _), r1.top, r1.hid, fun x hx hm => ?_⟩, ?_⟩
              · show (al.c.take n ++ [a]).Nodup
                rw [List.nodup_append]
                refine ⟨r1.nd, by simp, fun x hx y hy => ?_⟩
                rw [List.mem_singleton] at hy
                subst hy
                rintro rfl
                exact ha hx
              · have h2 : (al.c.take n ++ [a])[i]? = some b := h2
                by_cases hi : i < n
                · rw [List.getElem?_append_left (by omega)] at h2
                  rw [List.getElem?_append_left (by omega)] at h3
                  have h2 := (take_some h2).2
                  have h3 := (take_some h3).2
                  have q2 := rl.cell i b c h2 h3
                  have l := rl.low n List.mem_cons_self i c hi h3
                  cases c with
                  | lst ys =>
                    obtain ⟨ws, e2, q2⟩ := q2
                    exact ⟨ws, e2, q2.low sb ys ws l⟩
                  | dct _ _ => exact q2.elim
                  | ins _ _ => exact q2.elim
                · rw [List.getElem?_append_right (by omega), hlen] at h2
                  rw [List.getElem?_append_right (by omega), hmlen] at h3
                  have hi0 : i - n = 0 := by
                    obtain ⟨l, _⟩ := List.getElem?_eq_some_iff.mp h2
                    simp at l
                    omega
                  rw [hi0] at h2 h3
                  simp at h2 h3
                  subst h2
                  subst h3
                  exact ⟨us, e1, q1.low sb xs us (ltAll_of_pure n xs hp)⟩
              · have hb' := r1.ble b hb
                rw [List.getElem?_append_left (by omega)] at h3
                exact r1.low b hb i c hi h3
              · rcases List.mem_append.mp hx with hx | hx
                · exact r1.dis x hx hm
                · rw [List.mem_singleton] at hx
                  subst hx
                  exact rl.dis _ (List.mem_of_getElem? h1) hm
              · refine .ref ?_
                show (al.c.take n ++ [a])[n]? = _
                rw [List.getElem?_append_right (by omega), hlen]
                simp
            · cases e
          | dct _ _ => exact q.elim
          | ins _ _ => exact q.elim
    · split at e
      · rename_i v' ef
        cases e
        exact ⟨_, .inl rfl, rl.leave, frz_rep rl _ _ _ _ h ef⟩
      · cases e
end MP
set_option Elab.async false
set_option linter.all false
set_option maxRecDepth 100000
set_option maxHeartbeats 1000000
/-! MPFn: defs that keep a promise where no repr runs around; their calls. -/
namespace MP
open PySem PySem.Spec PyProof.Rows L2
structure FnG (P : Program) (w : World) (K : PySem.W.Frag) (mg : Str → Option Value) (base : Heap) (k : Nat) (f : Addr) (fd : FuncData) (ps : List Str) (sp : Sp) : Prop where
  len : ∀ vs H Q E, sp vs H Q E → vs.length = ps.length
  run : ∀ (A : Around) (outer : List PySem.Env) (s : Shared) (H : Hp) (args : Args) (us : List Value) (vs : List V) (Q : VK) (E : XK), A.guards = some [] → Room k A →
    Env0 P w K mg base A outer s H → BindsTo s fd args (ps.zip us) → Vals vs us → sp vs H Q E → codeAny (model P w) A (.call (.ref f) args) (CR (L2.CX P w) outer P w H s Q E) s
theorem FnG.mono {P : Program} {w : World} {K : PySem.W.Frag} {mg : Str → Option Value} {base : Heap} {j k : Nat} {f : Addr} {fd : FuncData} {ps : List Str} {sp : Sp} (F : FnG P w K mg base j f fd ps sp) (h : j ≤ k) : FnG P w K mg base k f fd ps sp :=
  ⟨F.len, fun A o s H a us vs Q E g r => F.run A o s H a us vs Q E g (r.mono h)⟩
/-- a def's body keeps it -/
theorem fnG_of {P : Program} {w : World} {K : PySem.W.Frag} {mg : Str → Option Value} {base : Heap} {k : Nat} {f : Addr} {x qual : Str} {st : Stmt} {fd : FuncData} {N ps : List Str} {sp : Sp}
    (F : FunD K x qual (defArgs st) (defBody st) (defScope st) [] [] f fd) (S : FnScope N ps (defScope st)) (len : ∀ vs H Q E, sp vs H Q E → vs.length = ps.length)
    (hb : ∀ (cdv : Value) (A : Around) (outer : List PySem.Env) (s : Shared) (H : Hp) (vs : List V) (Q : VK) (E : XK), A.guards = some [] → Room k (A.deeper (envOfC qual (defScope st) s.heap.objs.size f cdv)) → sp vs H Q E →
      ∃ t, PSs (cxOf (L2.CX P w) P w K mg base N qual (defScope st) f cdv A outer s H E) (defBody st) t ∧ t { nx := fun _ H' => Q .non H', rt := Q } (start N vs) H) : FnG P w K mg base (k + 1) f fd ps sp := by
  obtain ⟨oc, od, dV, kV, doc, pm, an, cdv, ct, osl, rfl, lk, hcd, _, _⟩ := F.ex
  refine ⟨len, fun A outer s H args us vs Q E hg hr e0 hbi rv hsp => ?_⟩
  have ln := len _ _ _ _ hsp
  have kx : K.In s.heap := e0.mod.kin.keeps fun b o e => (e0.bs b o e).1
  have nl : s.heap.NoLimit := e0.mod.nolimit.keeps fun b o e => (e0.bs b o e).1
  have hkinds : ∀ y ∈ ps.zip us, (defScope st).names.lookup y.1 = some .local ∨ ((defScope st).names.lookup y.1 = some .cell ∧ ((cellsFrom (s.heap.objs.size + 1) (defScope st).names []).lookup y.1).isSome = true) := by
    rintro ⟨n, v⟩ hy
    rcases S.par n (List.of_mem_zip hy).1 with q | q
    · exact .inl q
    · exact .inr ⟨q, PySem.W.cellsFrom_some _ _ _ (.inl q)⟩
  refine codeAny_call_function hr.depth (kx _ _ lk) rfl S.co S.gen rfl (PySem.W.codeRec_of kx hcd) (hbi _ _ _ _ ?_)
  refine wpAny_newFunctionEnv_cells S.kind hkinds fun env he s1 x => ?_
  subst he
  refine ⟨nl.keeps x.toInCall.keep, codeAny_func ?_⟩
  obtain ⟨t, ht, hq⟩ := hb cdv A outer s H vs Q E hg (hr.deeper _) hsp
  have J0 := inv_start (CX := L2.CX P w) (E := E) S hr.hd e0 ln rv x
  refine wpAny_mono (ht.run [] s1 (start N vs) H _ J0 hq) ?_ fun e s' hs => hs
  rintro fl s' hs
  cases fl with
  | ret u =>
    obtain ⟨v, σ', H', J, r, q⟩ := hs
    exact ⟨v, H', J.os, J.bare, J.base, J.hok, r, q⟩
  | next =>
    obtain ⟨σ', H', J, q⟩ := hs
    exact ⟨V.non, H', J.os, J.bare, J.base, J.hok, rfl, q⟩
  | brk =>
    obtain ⟨_, _, _, q⟩ := hs
    exact q.elim
  | cont =>
    obtain ⟨_, _, _, q⟩ := hs
    exact q.elim
/-- a call: positional and by keywords; g tells the parameters' order -/
structure KwB (K : PySem.W.Frag) (fd : FuncData) (ps : List Str) (n : Nat) (ks : List Str) (perm : List Nat) : Prop where
  to : ∀ (s : Shared) (us ws : List Value), K.In s.heap → us.length = n → ws.length = ks.length → BindsTo s fd ⟨us, ks.zip ws⟩ (ps.zip (perm.map fun i => (us ++ ws).getD i .none))
  len : perm.length = ps.length
  lt : ∀ i ∈ perm, i < n + ks.length
section
variable {X : L2.Cx} {k : Nat} {f : Addr} {fd : FuncData} {ps : List Str} {sp : Sp} {W : WX} {x : Str} {p pos : Pos} {e : Expr} {es : List Expr} {ta : TA}
theorem runG {pins : List (Addr × Obj)} {σ : L2.St} {H : Hp} {s : Shared} {Q : VK} {args : Args} {us : List Value} {vs : List V} (F : FnG X.prog X.w X.K X.mg X.base k f fd ps sp) (hr : Room k X.A) (hg : X.A.guards = some []) (tk : Takes X W)
    (I : Inv X pins σ H s) (hb : BindsTo s fd args (ps.zip us)) (r : Vals vs us) (h : sp vs H Q (WE W σ)) : wpAny (model X.prog X.w) X.A (PySem.call (.ref f) args.pos args.kw) (EP X pins σ Q) X.xe s := by
  refine wpAny_call (codeAny_mono (F.run X.A X.stack s H args us vs Q (WE W σ) hg hr I.env0 hb r h) ?_)
  intro res s' hq
  cases res with
  | error u => exact tk u s' (XE.of_call I (fun _ _ _ z => z) hq)
  | ok fl =>
    cases fl with
    | ret u => exact I.after hq
    | next => exact hq.elim
    | brk => exact hq.elim
    | cont => exact hq.elim
theorem pe_callG (F : FnG X.prog X.w X.K X.mg X.base k f fd ps sp) (hr : Room k X.A) (hg : X.A.guards = some []) (tk : Takes X W) (hgl : Gl X x) (hm : X.mg x = some (.ref f)) (hk : PySem.W.keepIn X.K (.ref f) = true) (hb : Binds X.K fd ps [])
    (ha : PA X (e :: es) ta) (hdb : (x == ("__debug__" : Str)) = false) (he : starEach (e :: es) X.env = (false, eval e X.env) :: starEach es X.env) (hpl : (backTo pos (starEach es X.env)).any (·.1) = false) :
    PE X (.Call (.Name x p) (e :: es) [] pos) (fun σ H Q => ta σ H fun vs H1 => sp vs H1 Q (WE W σ)) := by
  refine ⟨fun pins s σ H Q I h => wpAny_Call_Name_kw (ld_glob I hgl hm ?_ hdb)⟩
  refine PySem.W.callWith_K (h₀ := X.base) I.ok.mod.kin hk (thn (ha.run pos pins s σ H _ I h) ?_) he hpl
  rintro us s1 ⟨vs, H1, I1, r, q⟩
  refine ⟨I1.kIn, ?_⟩
  have b := hb s1 us I1.kIn (by rw [List.append_nil, ← r.length]; exact F.len _ _ _ _ q)
  rw [List.append_nil] at b
  exact runG (args := ⟨us, []⟩) F hr hg tk I1 b r q
theorem pe_callG0 (F : FnG X.prog X.w X.K X.mg X.base k f fd ps sp) (hr : Room k X.A) (hg : X.A.guards = some []) (tk : Takes X W) (hgl : Gl X x) (hm : X.mg x = some (.ref f)) (hk : PySem.W.keepIn X.K (.ref f) = true) (hb : Binds X.K fd ps [])
    (hdb : (x == ("__debug__" : Str)) = false) : PE X (.Call (.Name x p) [] [] pos) (fun σ H Q => sp [] H Q (WE W σ)) := by
  refine ⟨fun pins s σ H Q I h => wpAny_Call_Name_kw (ld_glob I hgl hm ?_ hdb)⟩
  have b := hb s [] I.kIn (F.len _ _ _ _ h)
  exact PySem.W.callWith_K0 I.kIn hk (runG (args := ⟨[], []⟩) F hr hg tk I b .nil h)
theorem Vals.getD {xs : List V} {us : List Value} (r : Vals xs us) (i : Nat) (hi : i < xs.length) : RelV (xs.getD i .non) (us.getD i .none) := by
  obtain ⟨u, e, q⟩ := r.get (i := i) (x := xs[i]) (List.getElem?_eq_getElem hi)
  rw [List.getD_eq_getElem?_getD, List.getD_eq_getElem?_getD, List.getElem?_eq_getElem hi, e]
  exact q
theorem Vals.pick {xs : List V} {us : List Value} (r : Vals xs us) : ∀ (perm : List Nat), (∀ i ∈ perm, i < xs.length) → Vals (perm.map fun i => xs.getD i .non) (perm.map fun i => us.getD i .none)
  | [], _ => .nil
  | i :: l, h => .cons (Vals.getD r i (h i List.mem_cons_self)) (Vals.pick r l fun j hj => h j (List.mem_cons_of_mem _ hj))
variable {n : Nat} {ks : List Str} {perm : List Nat} {kws : List Keyword} {tk' : TA}
theorem pe_callKG (F : FnG X.prog X.w X.K X.mg X.base k f fd ps sp) (hr : Room k X.A) (hg : X.A.guards = some []) (tk : Takes X W) (hgl : Gl X x) (hm : X.mg x = some (.ref f)) (hk : PySem.W.keepIn X.K (.ref f) = true) (hb : KwB X.K fd ps n ks perm)
    (ha : PA X (e :: es) ta) (hkw : PK X kws tk') (hdb : (x == ("__debug__" : Str)) = false) (he : starEach (e :: es) X.env = (false, eval e X.env) :: starEach es X.env)
    (hall : (backToKw pos (keywordEach kws X.env)).all (·.1.isSome) = true) (hks : (backToKw pos (keywordEach kws X.env)).filterMap (·.1) = ks)
    (hpl : ((backTo pos (starEach (e :: es) X.env)).any (·.1) || (backToKw pos (keywordEach kws X.env)).any (·.1.isNone)) = false) :
    PE X (.Call (.Name x p) (e :: es) kws pos) (fun σ H Q => ta σ H fun vs H1 => tk' σ H1 fun zs H2 => vs.length = n ∧ zs.length = ks.length ∧ sp (perm.map fun i => (vs ++ zs).getD i .non) H2 Q (WE W σ)) := by
  refine ⟨fun pins s σ H Q I h => wpAny_Call_Name_kw (ld_glob I hgl hm ?_ hdb)⟩
  refine PySem.W.callWith_KW (h₀ := X.base) I.ok.mod.kin hk hall (thn (ha.run pos pins s σ H _ I h) ?_) hpl he
  rintro us s1 ⟨vs, H1, I1, r, q⟩
  refine thn (hkw.run pos pins s1 σ H1 _ I1 q) ?_
  rintro ws s2 ⟨zs, H2, I2, rz, l1, l2, q2⟩
  refine ⟨I2.kIn, ?_⟩
  rw [hks]
  have rr := Vals.append r rz
  have b := hb.to s2 us ws I2.kIn (r.length.symm.trans l1) (rz.length.symm.trans l2)
  exact runG (args := ⟨us, ks.zip ws⟩) F hr hg tk I2 b (Vals.pick rr perm fun i hi => by
    have := hb.lt i hi
    rw [List.length_append]
    omega) q2
theorem pe_callKG0 (F : FnG X.prog X.w X.K X.mg X.base k f fd ps sp) (hr : Room k X.A) (hg : X.A.guards = some []) (tk : Takes X W) (hgl : Gl X x) (hm : X.mg x = some (.ref f)) (hk : PySem.W.keepIn X.K (.ref f) = true) (hb : KwB X.K fd ps 0 ks perm)
    (hkw : PK X kws tk') (hdb : (x == ("__debug__" : Str)) = false)
    (hall : (backToKw pos (keywordEach kws X.env)).all (·.1.isSome) = true) (hks : (backToKw pos (keywordEach kws X.env)).filterMap (·.1) = ks)
    (hpl : ((backTo pos (starEach [] X.env)).any (·.1) || (backToKw pos (keywordEach kws X.env)).any (·.1.isNone)) = false) :
    PE X (.Call (.Name x p) [] kws pos) (fun σ H Q => tk' σ H fun zs H2 => zs.length = ks.length ∧ sp (perm.map fun i => zs.getD i .non) H2 Q (WE W σ)) := by
  refine ⟨fun pins s σ H Q I h => wpAny_Call_Name_kw (ld_glob I hgl hm ?_ hdb)⟩
  refine PySem.W.callWith_KW0 (h₀ := X.base) I.ok.mod.kin hk hall (thn (hkw.run pos pins s σ H _ I h) ?_) hpl
  rintro ws s2 ⟨zs, H2, I2, rz, l2, q2⟩
  refine ⟨I2.kIn, ?_⟩
  rw [hks]
  have b := hb.to s2 [] ws I2.kIn rfl (rz.length.symm.trans l2)
  exact runG (args := ⟨[], ks.zip ws⟩) F hr hg tk I2 b (Vals.pick rz perm fun i hi => by
    have := hb.lt i hi
    omega) q2
end
end MP
set_option Elab.async false
set_option linter.all false
set_option maxRecDepth 100000
set_option maxHeartbeats 1000000
/-! MPSt: targets, statements, loops, comprehensions. -/
namespace MP
open PySem PySem.Spec PyProof.Rows L2
def PostS (S : Sg) (al : Al) (H : Hp) (D : Ends) : Rs → Prop
  | .nxt r' m' => ∀ s' H' al', Ext al al' H H' → Rl S.K S.bs al' m' H' → RE S.K al' H' s' r' → D.nx s' H'
  | .ret v m' => ∀ u H' al', Ext al al' H H' → Rl S.K S.bs al' m' H' → Rep S.K al' H' u v → D.rt u H'
  | .exc c fs r' m' => ∀ cls d s' H' al', Ext al al' H H' → Rl S.K S.bs al' m' H' → RE S.K al' H' s' r' → S.xr al' H' cls d c fs → S.W cls d s' H'
  | .stuck => False
def tS (S : Sg) (f : Env → M → Rs) : TS := fun D s H => ∃ r m al, RE S.K al H s r ∧ Rl S.K S.bs al m H ∧ PostS S al H D (f r m)
section
variable {S : Sg} {al al1 : Al} {H H1 : Hp} {s : L2.St} {D : Ends}
theorem PostS.shift {r : Rs} (x : Ext al al1 H H1) (h : PostS S al H D r) : PostS S al1 H1 D r := by
  cases r with
  | nxt r' m' => exact fun s' H' al' y => h s' H' al' (x.trans y)
  | ret v m' => exact fun u H' al' y => h u H' al' (x.trans y)
  | exc c fs r' m' => exact fun cls d s' H' al' y => h cls d s' H' al' (x.trans y)
  | stuck => exact h
/-- an expression ahead of the rest -/
theorem PostS.thn {b g : Type} {rel : Al → Hp → g → b → M → Prop} {rr : R b} {r : Env} {k : b → M → Rs} (h : PostS S al H D (rr.thn r k)) (re : RE S.K al H s r) :
    Post S rel al H s (fun u H1 => ∃ v m1 al1, Ext al al1 H H1 ∧ Rl S.K S.bs al1 m1 H1 ∧ rel al1 H1 u v m1 ∧ PostS S al1 H1 D (k v m1)) rr := by
  cases rr with
  | ok v m' => exact fun u H' al' x rl q => ⟨v, m', al', x, rl, q, h.shift x⟩
  | exc c fs m' => exact fun cls d H' al' x rl q => h cls d s H' al' x rl (re.ext x) q
  | stuck => exact h
/-- a statement ahead of the rest -/
theorem PostS.seq {rr : Rs} {k : Env → M → Rs} (h : PostS S al H D (rr.bind k)) : PostS S al H { D with nx := tS S k D } rr := by
  cases rr with
  | nxt r' m' => exact fun s' H' al' x rl re => ⟨r', m', al', re, rl, PostS.shift x h⟩
  | ret v m' => exact h
  | exc c fs r' m' => exact h
  | stuck => exact h
theorem PostS.seq' {D' : Ends} {rr : Rs} {k : Env → M → Rs} (h : PostS S al H D (rr.bind k)) (hr : D'.rt = D.rt)
    (hn : ∀ s' H' r' m' al', Ext al al' H H' → Rl S.K S.bs al' m' H' → RE S.K al' H' s' r' → PostS S al' H' D (k r' m') → D'.nx s' H') : PostS S al H D' rr := by
  cases rr with
  | nxt r' m' => exact fun s' H' al' x rl re => hn s' H' r' m' al' x rl re (PostS.shift x h)
  | ret v m' => exact fun u H' al' x rl q => hr ▸ h u H' al' x rl q
  | exc c fs r' m' => exact h
  | stuck => exact h
end
theorem ps_imp {X : L2.Cx} {st : Stmt} {t t' : TS} (h : PS X st t) (f : ∀ D s H, t' D s H → t D s H) : PS X st t' := ⟨fun pins s σ H D I q => h.run pins s σ H D I (f _ _ _ q)⟩
theorem pss_imp {X : L2.Cx} {st : List Stmt} {t t' : TS} (h : PSs X st t) (f : ∀ D s H, t' D s H → t D s H) : PSs X st t' := ⟨fun pins s σ H D I q => h.run pins s σ H D I (f _ _ _ q)⟩
theorem pg_imp {X : L2.Cx} {e : Expr} {t t' : TG} (h : PG X e t) (f : ∀ v s H Q, t' v s H Q → t v s H Q) : PG X e t' := ⟨fun pins s σ H v u Q I r q => h.run pins s σ H v u Q I r (f _ _ _ _ q)⟩
theorem pgs_imp {X : L2.Cx} {e : List Expr} {t t' : TGs} (h : PGs X e t) (f : ∀ v s H Q, t' v s H Q → t v s H Q) : PGs X e t' := ⟨fun pins s σ H v u Q I r q => h.run pins s σ H v u Q I r (f _ _ _ _ q)⟩
/-! ### targets -/
mutual
def Tg.slots : Tg → List Nat
  | .nm i => [i]
  | .tup ts => slotsL ts
  | .star a i b => slotsL a ++ i :: slotsL b
def slotsL : List Tg → List Nat
  | [] => []
  | t :: r => t.slots ++ slotsL r
end
/-- but for the slots is, s' is s -/
def Fr (is : List Nat) (s s' : L2.St) : Prop := s'.length = s.length ∧ ∀ i, i ∉ is → s'[i]? = s[i]?
theorem Fr.refl (is : List Nat) (s : L2.St) : Fr is s s := ⟨rfl, fun _ _ => rfl⟩
theorem Fr.set {s : L2.St} (i : Nat) (o : Option V) : Fr [i] s (s.set i o) := ⟨List.length_set, fun j hj => by
  rw [List.getElem?_set_ne]
  intro e
  subst e
  exact hj List.mem_cons_self⟩
theorem Fr.trans {is js : List Nat} {s s1 s2 : L2.St} (h : Fr is s s1) (h' : Fr js s1 s2) : Fr (is ++ js) s s2 := ⟨h'.1.trans h.1, fun i hi => by
  rw [List.mem_append, not_or] at hi
  exact (h'.2 i hi.2).trans (h.2 i hi.1)⟩
theorem wipe_in {s : L2.St} {i : Nat} : ∀ {vs : List Nat}, i ∈ vs → i < s.length → (L2.wipe s vs)[i]? = some none
  | v :: vs, h, hl => by
    unfold L2.wipe
    by_cases e : v = i
    · subst e
      rw [List.getElem?_set_self (by rw [wipe_length]; exact hl)]
    · rw [List.getElem?_set_ne e]
      rcases List.mem_cons.mp h with h | h
      · exact absurd h.symm e
      · exact wipe_in h hl
theorem Fr.wipe {is own : List Nat} {s s' : L2.St} (h : Fr is s s') (ho : ∀ i ∈ is, i ∈ own) : L2.wipe s' own = L2.wipe s own := by
  refine List.ext_getElem? fun i => ?_
  by_cases hi : i ∈ own
  · by_cases hl : i < s.length
    · rw [wipe_in hi hl, wipe_in hi (by rw [h.1]; exact hl)]
    · rw [List.getElem?_eq_none (by rw [wipe_length, h.1]; omega), List.getElem?_eq_none (by rw [wipe_length]; omega)]
  · rw [wipe_out hi, wipe_out hi]
    exact h.2 i fun z => hi (ho i z)
def tG (S : Sg) (tg : Tg) : TG := fun u s H Q => ∃ r al v r', RE S.K al H s r ∧ RepD S.K al H u v ∧ (∀ i, tg = .nm i → Rep S.K al H u v) ∧ bindT tg v r = some r' ∧ ∀ s', RE S.K al H s' r' → Fr tg.slots s s' → Q s' H
def tGs (S : Sg) (ts : List Tg) : TGs := fun us s H Q => ∃ r al vs r', RE S.K al H s r ∧ RepL S.K al H us vs ∧ bindTs ts vs r = some r' ∧ ∀ s', RE S.K al H s' r' → Fr (slotsL ts) s s' → Q s' H
section
variable {X : L2.Cx} {S : Sg} {e : Expr} {es : List Expr} {pos : Pos} {tg : Tg} {ts : List Tg}
theorem mg_name {i : Nat} {x : Str} (hN : X.N.Nodup) (hi : X.N[i]? = some x) (hx : Loc X.env.scope x) (hf : X.fn x = true ∨ X.env.scope.names.lookup x = some .local) : PG X (.Name x pos) (tG S (.nm i)) := by
  refine pg_imp (pg_name hN hi hx hf) ?_
  rintro u s H Q ⟨r, al, v, r', re, rd, rp, e, k⟩
  simp only [bindT] at e
  split at e
  · cases e
    exact k _ (re.set (rp i rfl) i) (.set i _)
  · cases e
theorem mgs_nil : PGs X [] (tGs S []) := by
  refine pgs_imp pgs_nil ?_
  rintro us s H Q ⟨r, al, vs, r', re, rl, e, k⟩
  cases rl with
  | nil => simp only [bindTs, Option.some.injEq] at e; subst e; exact ⟨rfl, k s re (.refl _ _)⟩
  | cons _ _ => simp [bindTs] at e
theorem mgs_cons (h1 : PG X e (tG S tg)) (h2 : PGs X es (tGs S ts)) (hs : (assignEach (e :: es) X.env).map (·.2) = assign e X.env :: (assignEach es X.env).map (·.2)) : PGs X (e :: es) (tGs S (tg :: ts)) := by
  refine pgs_imp (pgs_cons h1 h2 hs) ?_
  rintro us s H Q ⟨r, al, vs, r', re, rl, e, k⟩
  cases rl with
  | nil => simp [bindTs] at e
  | @cons u us v vs r1 r2 =>
    simp only [bindTs, Option.bind_eq_some_iff] at e
    obtain ⟨ro, e1, e2⟩ := e
    exact ⟨u, us, rfl, r, al, v, ro, re, .of r1, fun _ _ => r1, e1, fun s' re' f1 => ⟨ro, al, vs, r', re', r2, e2, fun s2 re2 f2 => k s2 re2 (f1.trans f2)⟩⟩
/-- a tuple of targets, over a tuple or a list -/
theorem mg_tup (hK : X.K = S.K) {k : Nat} (hc : X.calm = true) (h : PGs X es (tGs S ts)) (hl : es.length = ts.length) (hn : (assignEach es X.env).length = es.length) (hst : (assignEach es X.env).findIdx? (·.1) = none) : PG X (.Tuple es k pos) (tG S (.tup ts)) := by
  have len_of : ∀ (ts : List Tg) (vs : List Val) (r r' : Env), bindTs ts vs r = some r' → vs.length = ts.length := by
    intro ts
    induction ts with
    | nil => intro vs r r' e; cases vs <;> simp [bindTs] at e ⊢
    | cons t ts ih =>
      intro vs r r' e
      cases vs with
      | nil => simp [bindTs] at e
      | cons v vs =>
        simp only [bindTs, Option.bind_eq_some_iff] at e
        obtain ⟨ro, _, e2⟩ := e
        simp [ih vs ro r' e2]
  refine ⟨fun pins s σ H u w Q I rw ⟨r, al, v, r', re, rd, _, e, kk⟩ => ?_⟩
  cases v with
  | tup vs =>
    have e : bindTs ts vs r = some r' := by
      simp only [bindT] at e
      exact e
    obtain ⟨a, us, rfl, ha, ra⟩ := rd.tuple
    exact (pg_tup (pos := pos) (k := k) hc h hn hst).run pins s σ H _ w Q I rw ⟨a, us, rfl, hK ▸ ha, by rw [ra.length, len_of _ _ _ _ e, hl], r, al, _, r', re, ra, e, kk⟩
  | lst vs =>
    have e : bindTs ts vs r = some r' := by
      simp only [bindT] at e
      exact e
    obtain ⟨a, us, rfl, ha, ra⟩ := rd.list
    exact (pg_lst (pos := pos) (k := k) hc h hn hst).run pins s σ H _ w Q I rw ⟨a, us, rfl, .of ha, by rw [ra.length, len_of _ _ _ _ e, hl], r, al, _, r', re, ra, e, kk⟩
  | _ => simp [bindT] at e
end
/-! ### statements -/
section
variable {X : L2.Cx} {S : Sg} {e a b c : Expr} {st : Stmt} {rest body : List Stmt} {f1 f2 f3 : Bool} {fa fb fc : Env → M → R Val} {gs hs ks : Env → M → Rs} {pos : Pos} {tg : Tg} {tge : Expr}
theorem mss_nil : PSs X [] (tS S fun r m => .nxt r m) := pss_imp pss_nil fun D s H ⟨r, m, al, re, rl, p⟩ => p s H al (.refl _ _) rl re
theorem mss_cons (h1 : PS X st (tS S gs)) (h2 : PSs X rest (tS S hs)) : PSs X (st :: rest) (tS S fun r m => (gs r m).bind fun r m => hs r m) :=
  pss_imp (pss_cons h1 h2) fun D s H ⟨r, m, al, re, rl, p⟩ => ⟨r, m, al, re, rl, p.seq⟩
theorem ms_asg (he : PE X e (tE S f1 fa)) (hg : PG X tge (tG S tg)) (hs : swapsWithSole [tge] e pos.line X.env = pure false) (hw : swappedStores [tge] e X.env = pure none) (h1 : (assignEach [tge] X.env).map (·.2) = [assign tge X.env]) :
    PS X (.Assign [tge] e pos) (tS S fun r m => (fa r m).thn r fun v m => match bindT tg (tg.see m v) r with
      | some r => .nxt r m
      | none => .stuck) := by
  refine ps_imp (ps_asg he hg hs hw h1) fun D s H ⟨r, m, al, re, rl, p⟩ => ?_
  refine ⟨r, m, al, re, rl, (p.thn re).mono ?_⟩
  rintro u H1 ⟨v, m1, al1, x1, rl1, q1, p1⟩
  cases eb : bindT tg (tg.see m1 v) r with
  | none => rw [eb] at p1; exact p1.elim
  | some r' =>
    rw [eb] at p1
    refine ⟨r, al1, tg.see m1 v, r', re.ext x1, ?_, ?_, eb, fun s' re' _ => p1 s' H1 al1 (.refl _ _) rl1 re'⟩
    · cases tg with
      | nm i => exact .of q1.1
      | tup _ => exact .dr q1.1 rl1
      | star _ _ _ => exact .dr q1.1 rl1
    · rintro i rfl
      exact q1.1
theorem ms_exp (he : PE X e (tE S f1 fa)) (hs : swapsWith e none pos.line X.env = pure false) : PS X (.Expr e pos) (tS S fun r m => (fa r m).thn r fun _ m => .nxt r m) := by
  refine ps_imp (ps_expr he hs) fun D s H ⟨r, m, al, re, rl, p⟩ => ?_
  refine ⟨r, m, al, re, rl, (p.thn re).mono ?_⟩
  rintro u H1 ⟨v, m1, al1, x1, rl1, q1, p1⟩
  exact p1 s H1 al1 (.refl _ _) rl1 (re.ext x1)
theorem ms_ret (he : PE X e (tE S f1 fa)) : PS X (.Return (some e) pos) (tS S fun r m => (fa r m).thn r fun v m => .ret v m) := by
  refine ps_imp (ps_ret he) fun D s H ⟨r, m, al, re, rl, p⟩ => ?_
  refine ⟨r, m, al, re, rl, (p.thn re).mono ?_⟩
  rintro u H1 ⟨v, m1, al1, x1, rl1, q1, p1⟩
  exact p1 u H1 al1 (.refl _ _) rl1 q1.1
theorem ms_retn : PS X (.Return none pos) (tS S fun _ m => .ret .non m) := ps_imp ps_retN fun D s H ⟨r, m, al, re, rl, p⟩ => p .non H al (.refl _ _) rl .non
theorem ms_pass : PS X (.Pass pos) (tS S fun r m => .nxt r m) := ps_imp ps_pass fun D s H ⟨r, m, al, re, rl, p⟩ => p s H al (.refl _ _) rl re
theorem ms_if {gc : Env → M → R Bool} {sa sb : List Stmt} (hc : PT X c (tBl S gc)) (ha : PSs X sa (tS S gs)) (hb : PSs X sb (tS S hs)) : PS X (.If c sa sb pos) (tS S fun r m => (gc r m).thn r fun k m => if k then gs r m else hs r m) := by
  refine ps_imp (ps_if hc ha hb) fun D s H ⟨r, m, al, re, rl, p⟩ => ?_
  refine ⟨r, m, al, re, rl, (p.thn re).mono ?_⟩
  rintro u H1 ⟨v, m1, al1, x1, rl1, q1, p1⟩
  cases q1
  cases u with
  | true => exact ⟨r, m1, al1, re.ext x1, rl1, p1⟩
  | false => exact ⟨r, m1, al1, re.ext x1, rl1, p1⟩
end
end MP
set_option Elab.async false
set_option linter.all false
set_option maxRecDepth 100000
set_option maxHeartbeats 1000000
/-! MPLoop: what is walked; for, while, comprehensions. -/
namespace MP
open PySem PySem.Spec PyProof.Rows L2
mutual
theorem same_eq : ∀ a b : Val, a.same b = true → a = b
  | .non, b, h => by cases b <;> simp [Val.same] at h ⊢
  | .bl _, b, h => by cases b <;> simp_all [Val.same]
  | .int _, b, h => by cases b <;> simp_all [Val.same]
  | .str _, b, h => by cases b <;> simp_all [Val.same]
  | .ref _, b, h => by cases b <;> simp_all [Val.same]
  | .scr _, b, h => by cases b <;> simp_all [Val.same]
  | .tup xs, b, h => by
    cases b <;> first | (simp [Val.same] at h; done) | skip
    rw [sameL_eq xs _ h]
  | .lst xs, b, h => by
    cases b <;> first | (simp [Val.same] at h; done) | skip
    rw [sameL_eq xs _ h]
  | .set xs, b, h => by
    cases b <;> first | (simp [Val.same] at h; done) | skip
    rw [sameL_eq xs _ h]
  | .dct xs ys, b, h => by
    cases b <;> first | (simp [Val.same] at h; done) | skip
    simp only [Val.same, Bool.and_eq_true] at h
    rw [sameL_eq xs _ h.1, sameL_eq ys _ h.2]
  | .exc c xs, b, h => by
    cases b <;> first | (simp [Val.same] at h; done) | skip
    simp only [Val.same, Bool.and_eq_true, beq_iff_eq] at h
    rw [h.1, sameL_eq xs _ h.2]
theorem sameL_eq : ∀ a b : List Val, sameL a b = true → a = b
  | [], b, h => by cases b <;> simp [sameL] at h ⊢
  | x :: a, b, h => by
    cases b with
    | nil => simp [sameL] at h
    | cons y b =>
      simp only [sameL, Bool.and_eq_true] at h
      rw [same_eq x y h.1, sameL_eq a b h.2]
end
theorem Cell.same_eq {a b : Cell} (h : a.same b = true) : a = b := by
  cases a <;> cases b <;> first | (simp [Cell.same] at h; done) | skip
  · rw [sameL_eq _ _ h]
  · simp only [Cell.same, Bool.and_eq_true] at h
    rw [sameL_eq _ _ h.1, sameL_eq _ _ h.2]
  · simp only [Cell.same, Bool.and_eq_true, beq_iff_eq] at h
    rw [h.1, sameL_eq _ _ h.2]
theorem stands_mem {m m' : M} : ∀ {w : List Nat}, stands m m' w = true → ∀ n ∈ w, ∃ c, m[n]? = some c ∧ m'[n]? = some c
  | [], _, _, h => by cases h
  | n :: w, h, k, hk => by
    simp only [stands, Bool.and_eq_true] at h
    rcases List.mem_cons.mp hk with rfl | hk
    · cases e1 : m[k]? with
      | none => rw [e1] at h; simp at h
      | some a =>
        cases e2 : m'[k]? with
        | none => rw [e1, e2] at h; simp at h
        | some b =>
          rw [e1, e2] at h
          have := Cell.same_eq h.1
          subst this
          exact ⟨a, rfl, rfl⟩
    · exact stands_mem h.2 k hk
theorem stands_append {m m' : M} : ∀ {w w' : List Nat}, stands m m' (w ++ w') = (stands m m' w && stands m m' w')
  | [], _ => by simp [stands]
  | n :: w, w' => by simp only [List.cons_append, stands, stands_append (w := w), Bool.and_assoc]
/-- J walks the values xs, as long as the cells w stand -/
def WalkR (S : Sg) (al : Al) (H : Hp) (m : M) (J : L2.It) (xs : List Val) (w : List Nat) : Prop :=
  stands m m w = true ∧ ∀ al' m' H' (i : Nat), Ext al al' H H' → Rl S.K S.bs al' m' H' → stands m m' w = true →
    (∀ x, xs[i]? = some x → J.go i H' ∧ ∀ u H'', J.yld i H' u H'' → Same H' H'' ∧ Rep S.K al' H'' u x) ∧ (xs.length = i → J.stop i H')
mutual
theorem same_refl : ∀ v : Val, v.same v = true
  | .non => rfl
  | .bl _ => by simp [Val.same]
  | .int _ => by simp [Val.same]
  | .str _ => by simp [Val.same]
  | .ref _ => by simp [Val.same]
  | .scr _ => by simp [Val.same]
  | .tup xs => by simp only [Val.same, sameL_refl xs]
  | .lst xs => by simp only [Val.same, sameL_refl xs]
  | .set xs => by simp only [Val.same, sameL_refl xs]
  | .dct ks vs => by simp only [Val.same, sameL_refl ks, sameL_refl vs, Bool.and_self]
  | .exc c fs => by simp only [Val.same, sameL_refl fs, beq_self_eq_true, Bool.and_self]
theorem sameL_refl : ∀ vs : List Val, sameL vs vs = true
  | [] => rfl
  | v :: vs => by simp only [sameL, same_refl v, sameL_refl vs, Bool.and_self]
end
theorem Cell.same_refl : ∀ c : Cell, c.same c = true
  | .lst xs => by simp only [Cell.same, sameL_refl xs]
  | .dct ks vs => by simp only [Cell.same, sameL_refl ks, sameL_refl vs, Bool.and_self]
  | .ins c fs => by simp only [Cell.same, sameL_refl fs, beq_self_eq_true, Bool.and_self]
theorem stands_self {m : M} : ∀ {w : List Nat}, (∀ n ∈ w, n < m.length) → stands m m w = true
  | [], _ => rfl
  | n :: w, h => by
    have e := List.getElem?_eq_getElem (h n List.mem_cons_self)
    simp only [stands, e, Cell.same_refl, Bool.true_and]
    exact stands_self fun k hk => h k (List.mem_cons_of_mem _ hk)
theorem watch_self {K : PySem.W.Frag} {bs : List Nat} {al : Al} {m : M} {H : Hp} {u : V} {v : Val} (h : Rep K al H u v) (rl : Rl K bs al m H) : stands m m (watch v) = true := by
  refine stands_self fun n hn => ?_
  cases v with
  | ref k =>
    simp only [watch, List.mem_singleton] at hn
    subst hn
    cases h with
    | ref h1 =>
      obtain ⟨c, e, _⟩ := rl.at h1
      exact (List.getElem?_eq_some_iff.mp e).1
  | _ => simp [watch] at hn
def tI (S : Sg) (f : MP.Env → M → R (List Val × List Nat)) : TI := fun s H Q => ∃ r m al, RE S.K al H s r ∧ Rl S.K S.bs al m H ∧ Post S (fun al H J p m => WalkR S al H m J p.1 p.2) al H s Q (f r m)
theorem Post.seqE {S : Sg} {g b g2 b2 : Type} {rel : Al → Hp → g → b → M → Prop} {rel2 : Al → Hp → g2 → b2 → M → Prop} {al : Al} {H : Hp} {s : L2.St} {Q2 : g2 → Hp → Prop} {r : R b} {k : b → M → R b2} (h : Post S rel2 al H s Q2 (r.bind k)) :
    Post S rel al H s (fun u H1 => ∃ v m1 al1, r = .ok v m1 ∧ Ext al al1 H H1 ∧ Rl S.K S.bs al1 m1 H1 ∧ rel al1 H1 u v m1 ∧ Post S rel2 al1 H1 s Q2 (k v m1)) r := by
  cases r with
  | ok v m' => exact fun u H' al' x rl q => ⟨v, m', al', rfl, x, rl, q, h.shift x⟩
  | exc c fs m' => exact h
  | stuck => exact h
/-- what a value shows later -/
theorem later {S : Sg} {al al' : Al} {m m' : M} {H H' : Hp} {u : V} {v : Val} (rp : Rep S.K al H u v) (rl : Rl S.K S.bs al m H) (x : Ext al al' H H') (rl' : Rl S.K S.bs al' m' H') (st : stands m m' (watch v) = true) : RepD S.K al' H' u (dr m v) := by
  cases v with
  | ref n =>
    obtain ⟨c, e1, e2⟩ := stands_mem st n (by simp [watch])
    have e : dr m (.ref n) = dr m' (.ref n) := by simp only [dr, e1, e2]
    rw [e]
    exact .dr (rp.ext x _ _) rl'
  | _ => exact .of (rp.ext x _ _)
section
variable {X : L2.Cx} {S : Sg} {a b : Expr} {es : List Expr} {f1 f2 : Bool} {fa fb : MP.Env → M → R Val} {fs : MP.Env → M → R (List Val)} {pos : Pos} {tg : Expr}
theorem mi_val (hK : X.K = S.K) (ha : PE X a (tE S f1 fa)) : PI X tg a (tI S fun r m => (fa r m).bind fun x m => (opt (iterOf (dr m x)) m).bind fun xs m => .ok (xs, watch x) m) := by
  refine ⟨fun pins s σ H Rq I ⟨r, m, al, re, rl, p⟩ => ?_⟩
  have p := p
  cases e : fa r m with
  | stuck => dsimp only at p; rw [e] at p; exact p.elim
  | exc c fs m' =>
    refine (pi_list (tg := tg) ha).run pins s σ H Rq I ⟨r, m, al, re, rl, (Post.seqE p).mono ?_⟩
    rintro u H1 ⟨v, m1, al1, e', _⟩
    rw [e] at e'; cases e'
  | ok v0 m0 =>
    cases ed : dr m0 v0 with
    | lst xs =>
      refine (pi_list (tg := tg) ha).run pins s σ H Rq I ⟨r, m, al, re, rl, (Post.seqE p).mono ?_⟩
      rintro u H1 ⟨v, m1, al1, e', x1, rl1, q1, p1⟩
      rw [e] at e'; cases e'
      rw [ed] at p1
      have rd : RepD S.K al1 H1 u (.lst xs) := ed ▸ RepD.dr q1.1 rl1
      obtain ⟨a', us, rfl, ha', ra⟩ := rd.list
      refine ⟨a', rfl, ⟨us, .of ha'⟩, Post.done (v := (xs, watch v0)) p1 rl1 ⟨watch_self q1.1 rl1, ?_⟩⟩
      intro al' m' H' i x rl' st
      have rd' : RepD S.K al' H' (.ref a') (.lst xs) := ed ▸ later q1.1 rl1 x rl' st
      obtain ⟨a2, us', e2, ha2, ra2⟩ := rd'.list
      cases e2
      refine ⟨fun y hy => ?_, fun hi => ⟨us', .of ha2, by rw [ra2.length]; exact Nat.le_of_eq hi⟩⟩
      obtain ⟨u', e3, r3⟩ := ra2.get hy
      refine ⟨⟨us', u', .of ha2, e3⟩, fun u2 H2 hy2 => ?_⟩
      obtain ⟨rfl, h4⟩ := hy2
      have := h4 us' (.of ha2)
      rw [e3] at this
      cases this
      exact ⟨Same.refl _, r3⟩
    | tup xs =>
      refine (pi_tup (tg := tg) ha).run pins s σ H Rq I ⟨r, m, al, re, rl, (Post.seqE p).mono ?_⟩
      rintro u H1 ⟨v, m1, al1, e', x1, rl1, q1, p1⟩
      rw [e] at e'; cases e'
      rw [ed] at p1
      have rd : RepD S.K al1 H1 u (.tup xs) := ed ▸ RepD.dr q1.1 rl1
      obtain ⟨a', us, rfl, ha', ra⟩ := rd.tuple
      refine ⟨a', rfl, ⟨us, hK ▸ ha'⟩, Post.done (v := (xs, watch v0)) p1 rl1 ⟨watch_self q1.1 rl1, ?_⟩⟩
      intro al' m' H' i x rl' st
      have rd' : RepD S.K al' H' (.ref a') (.tup xs) := ed ▸ later q1.1 rl1 x rl' st
      obtain ⟨a2, us', e2, ha2, ra2⟩ := rd'.tuple
      cases e2
      refine ⟨fun y hy => ?_, fun hi => ⟨us', hK ▸ ha2, by rw [ra2.length]; exact Nat.le_of_eq hi⟩⟩
      obtain ⟨u', e3, r3⟩ := ra2.get hy
      refine ⟨⟨us', u', hK ▸ ha2, e3⟩, fun u2 H2 hy2 => ?_⟩
      obtain ⟨rfl, h4⟩ := hy2
      have := h4 us' (hK ▸ ha2)
      rw [e3] at this
      cases this
      exact ⟨Same.refl _, r3⟩
    | str z =>
      refine (pi_str (tg := tg) ha).run pins s σ H Rq I ⟨r, m, al, re, rl, (Post.seqE p).mono ?_⟩
      rintro u H1 ⟨v, m1, al1, e', x1, rl1, q1, p1⟩
      rw [e] at e'; cases e'
      rw [ed] at p1
      have rd : RepD S.K al1 H1 u (.str z) := ed ▸ RepD.dr q1.1 rl1
      have := rd.str
      subst this
      refine ⟨z, rfl, Post.done (v := (z.cps.toList.map fun c => Val.str ⟨#[c]⟩, watch v0)) p1 rl1 ⟨watch_self q1.1 rl1, ?_⟩⟩
      intro al' m' H' i x rl' st
      have w := walk_str (z := z)
      refine ⟨fun y hy => ?_, fun hi => ?_⟩
      · rw [List.getElem?_map, Option.map_eq_some_iff] at hy
        obtain ⟨c, hc, rfl⟩ := hy
        have hi : i < z.cps.size := by
          obtain ⟨l, _⟩ := List.getElem?_eq_some_iff.mp hc
          simpa using l
        refine ⟨w.goes i H' hi trivial, fun u2 H2 hy2 => ?_⟩
        obtain ⟨rfl, c', h1, rfl⟩ := w.yields i H' u2 H2 hi trivial hy2
        rw [Array.getElem?_toList] at hc
        rw [hc] at h1
        cases h1
        exact ⟨Same.refl _, .str _⟩
      · show z.cps.size ≤ i
        simp only [List.length_map, Array.length_toList] at hi
        exact Nat.le_of_eq hi
    | _ =>
      dsimp only at p
      rw [e] at p
      dsimp only [MP.R.bind] at p
      rw [ed] at p
      exact p.elim
/-! ### range -/
theorem rngL_get : ∀ (n : Nat) (lo : Int) (i : Nat) (x : Val), (rngL lo n)[i]? = some x → i < n ∧ x = .int (lo + i)
  | 0, _, _, _, h => by simp [rngL] at h
  | n + 1, lo, 0, x, h => by simp [rngL] at h; subst h; exact ⟨by omega, by simp⟩
  | n + 1, lo, i + 1, x, h => by
    simp only [rngL, List.getElem?_cons_succ] at h
    obtain ⟨h1, h2⟩ := rngL_get n (lo + 1) i x h
    refine ⟨by omega, ?_⟩
    rw [h2]
    congr 1
    omega
theorem rngL_length : ∀ (n : Nat) (lo : Int), (rngL lo n).length = n
  | 0, _ => rfl
  | n + 1, lo => by simp [rngL, rngL_length n]
theorem walkR_range {al : Al} {H : Hp} {m : M} (lo : Int) (n : Nat) : WalkR S al H m (Itr lo n) (rngL lo n) [] := by
  refine ⟨rfl, ?_⟩
  intro al' m' H' i x rl' st
  refine ⟨fun y hy => ?_, fun hi => ?_⟩
  · obtain ⟨h1, rfl⟩ := rngL_get n lo i y hy
    refine ⟨h1, fun u H2 h2 => ?_⟩
    obtain ⟨rfl, rfl⟩ := h2
    exact ⟨Same.refl _, .int _⟩
  · rw [rngL_length] at hi
    exact Nat.le_of_eq hi
theorem rng62_iff {i : Int} : rng62 i = true ↔ (-(2 ^ 62) ≤ i ∧ i < 2 ^ 62) := by unfold rng62; simp
theorem RepL.one {K : PySem.W.Frag} {al : Al} {H : Hp} {us : List V} {x : Val} (h : RepL K al H us [x]) : ∃ u, us = [u] ∧ Rep K al H u x := by
  cases h with
  | cons h1 h2 => cases h2; exact ⟨_, rfl, h1⟩
theorem RepL.two {K : PySem.W.Frag} {al : Al} {H : Hp} {us : List V} {x y : Val} (h : RepL K al H us [x, y]) : ∃ u w, us = [u, w] ∧ Rep K al H u x ∧ Rep K al H w y := by
  cases h with
  | cons h1 h2 =>
    obtain ⟨w, rfl, h3⟩ := h2.one
    exact ⟨_, w, rfl, h1, h3⟩
theorem RepL.three {K : PySem.W.Frag} {al : Al} {H : Hp} {us : List V} {x y z : Val} (h : RepL K al H us [x, y, z]) : ∃ u w t, us = [u, w, t] ∧ Rep K al H u x ∧ Rep K al H w y ∧ Rep K al H t z := by
  cases h with
  | cons h1 h2 =>
    obtain ⟨w, t, rfl, h3, h4⟩ := h2.two
    exact ⟨_, w, t, rfl, h1, h3, h4⟩
theorem rng_one {x : Val} {xs : List Val} (h : rng [x] = some xs) : ∃ j, x = .int j ∧ rng62 j = true ∧ xs = rngL 0 j.toNat := by
  cases x <;> simp only [rng, reduceCtorEq] at h
  split at h
  · rename_i hz
    cases h
    exact ⟨_, rfl, hz, rfl⟩
  · cases h
theorem rng_two {x y : Val} {xs : List Val} (h : rng [x, y] = some xs) : ∃ i j, x = .int i ∧ y = .int j ∧ rng62 i = true ∧ rng62 j = true ∧ xs = rngL i (j - i).toNat := by
  cases x <;> cases y <;> simp only [rng, reduceCtorEq] at h
  split at h
  · rename_i hz
    cases h
    rw [Bool.and_eq_true] at hz
    exact ⟨_, _, rfl, rfl, hz.1, hz.2, rfl⟩
  · cases h
theorem mi_rng1 {p : Pos} (hg : Gl X "range") (hm : X.mg "range" = none) (ha : PA X [a] (tEs S fs)) (hs : starEach [a] X.env = [(false, eval a X.env)]) (hl : ∀ r m vs m', fs r m = .ok vs m' → vs.length = 1) :
    PI X tg (.Call (.Name "range" p) [a] [] pos) (tI S fun r m => (fs r m).bind fun vs m => (opt (rng vs) m).bind fun xs m => .ok (xs, []) m) := by
  refine ⟨fun pins s σ H Rq I ⟨r, m, al, re, rl, q⟩ => (pi_range1 hg hm ha hs).run pins s σ H Rq I ⟨r, m, al, re, rl, (Post.seqE q).mono ?_⟩⟩
  rintro us H1 ⟨vs, m1, al1, e, x1, rl1, q1, p1⟩
  have l := hl _ _ _ _ e
  obtain ⟨x, rfl⟩ : ∃ x, vs = [x] := by
    cases vs with
    | nil => cases l
    | cons x vs => cases vs with
      | nil => exact ⟨x, rfl⟩
      | cons _ _ => simp at l
  cases er : rng [x] with
  | none => rw [er] at p1; exact p1.elim
  | some xs =>
    rw [er] at p1
    obtain ⟨j, rfl, hj, rfl⟩ := rng_one er
    obtain ⟨u, rfl, hu⟩ := q1.one
    cases hu
    rw [rng62_iff] at hj
    exact ⟨j, rfl, hj.1, hj.2, Post.done (v := (rngL 0 j.toNat, ([] : List Nat))) p1 rl1 (walkR_range 0 j.toNat)⟩
theorem mi_rng2 {p : Pos} (hg : Gl X "range") (hm : X.mg "range" = none) (ha : PA X [a, b] (tEs S fs)) (hs : starEach [a, b] X.env = [(false, eval a X.env), (false, eval b X.env)]) (hs2 : starEach [b] X.env = [(false, eval b X.env)]) (hl : ∀ r m vs m', fs r m = .ok vs m' → vs.length = 2) :
    PI X tg (.Call (.Name "range" p) [a, b] [] pos) (tI S fun r m => (fs r m).bind fun vs m => (opt (rng vs) m).bind fun xs m => .ok (xs, []) m) := by
  refine ⟨fun pins s σ H Rq I ⟨r, m, al, re, rl, q⟩ => (pi_range2 hg hm ha hs hs2).run pins s σ H Rq I ⟨r, m, al, re, rl, (Post.seqE q).mono ?_⟩⟩
  rintro us H1 ⟨vs, m1, al1, e, x1, rl1, q1, p1⟩
  have l := hl _ _ _ _ e
  obtain ⟨x, y, rfl⟩ : ∃ x y, vs = [x, y] := by
    cases vs with
    | nil => cases l
    | cons x vs => cases vs with
      | nil => cases l
      | cons y vs => cases vs with
        | nil => exact ⟨x, y, rfl⟩
        | cons _ _ => simp at l
  cases er : rng [x, y] with
  | none => rw [er] at p1; exact p1.elim
  | some xs =>
    rw [er] at p1
    obtain ⟨i, j, rfl, rfl, hi, hj, rfl⟩ := rng_two er
    obtain ⟨u, w, rfl, hu, hw⟩ := q1.two
    cases hu
    cases hw
    rw [rng62_iff] at hi hj
    exact ⟨i, j, rfl, ⟨hi.1, hi.2, hj.1, hj.2⟩, Post.done (v := (rngL i (j - i).toNat, ([] : List Nat))) p1 rl1 (walkR_range i (j - i).toNat)⟩
/-! ### zip -/
theorem zipL_get : ∀ (xs ys : List Val) (i : Nat) (z : Val), (zipL xs ys)[i]? = some z → ∃ x y, xs[i]? = some x ∧ ys[i]? = some y ∧ z = .tup [x, y]
  | [], _, _, _, h => by simp [zipL] at h
  | _ :: _, [], _, _, h => by simp [zipL] at h
  | x :: xs, y :: ys, 0, z, h => by simp [zipL] at h; exact ⟨x, y, rfl, rfl, h.symm⟩
  | x :: xs, y :: ys, i + 1, z, h => by
    simp only [zipL, List.getElem?_cons_succ] at h ⊢
    exact zipL_get xs ys i z h
theorem zipL_length : ∀ (xs ys : List Val), (zipL xs ys).length = min xs.length ys.length
  | [], _ => by simp [zipL]
  | _ :: _, [] => by simp [zipL]
  | x :: xs, y :: ys => by simp only [zipL, List.length_cons, zipL_length xs ys]; omega
end
end MP
set_option Elab.async false
set_option linter.all false
set_option maxRecDepth 100000
set_option maxHeartbeats 2000000
/-! MPIt: zip and enumerate over lists and tuples of any mixture, zip(.., strict=True). -/
namespace MP
open PySem PySem.Spec PyProof.Rows L2
/-! ### a list or a tuple that is walked -/
def IsIt : Bool → Heap → Addr → Addr → Nat → Prop
  | true, h, it, l, i => h.IsListIter it l i
  | false, h, it, l, i => h.IsTupleIter it l i
def IsSq : Bool → Heap → Addr → Array Value → Prop
  | true, h, l, xs => h.IsList l xs
  | false, h, l, xs => h.IsTuple l xs
def itO : Bool → Addr → Obj
  | true, l => { cls := .type "list_iterator", data := .fields #[.ref l, .int 0 0] }
  | false, l => { cls := .type "tuple_iterator", data := .fields #[.ref l, .int 0 0] }
def SqB : Bool → PySem.W.Frag → Hp → Addr → List V → Prop
  | true, K, H, a, xs => SqL K H a xs
  | false, K, H, a, xs => SqT K H a xs
theorem begSq (b : Bool) (l : Addr) (xs : Array Value) : Begins (.ref l) (itO b l) fun h => IsSq b h l xs := by
  cases b
  · exact begins_tuple l xs
  · exact begins_list l xs
theorem isIt_new {b : Bool} {h : Heap} {it l : Addr} (e : h.get? it = some (itO b l)) : IsIt b h it l 0 := by
  cases b <;> exact ⟨_, e, rfl, rfl⟩
theorem isIt_at {b : Bool} {h h' : Heap} {it l : Addr} {i : Nat} (x : IsIt b h it l i) (k : ∀ o, h.get? it = some o → h'.get? it = some o) : IsIt b h' it l i := by
  cases b
  · obtain ⟨o, ho, hc, hd⟩ := x
    exact ⟨o, k o ho, hc, hd⟩
  · obtain ⟨o, ho, hc, hd⟩ := x
    exact ⟨o, k o ho, hc, hd⟩
theorem isIt_obj {b : Bool} {h : Heap} {it l : Addr} {i : Nat} (x : IsIt b h it l i) : ∃ o, h.get? it = some o ∧ ∀ v, o.data ≠ .cell v := by
  cases b <;> (obtain ⟨o, ho, _, hd⟩ := x; exact ⟨o, ho, fun v q => by rw [hd] at q; cases q⟩)
theorem isIt_lt {b : Bool} {h : Heap} {it l : Addr} {i : Nat} (x : IsIt b h it l i) : it < h.objs.size := by
  obtain ⟨o, e, _⟩ := isIt_obj x
  exact Heap.lt_size e
theorem isSq_lt {b : Bool} {h : Heap} {l : Addr} {xs : Array Value} (x : IsSq b h l xs) : l < h.objs.size := by
  cases b <;> (obtain ⟨o, ho, _⟩ := x; exact Heap.lt_size ho)
theorem drawsSq {prog : Program} {w : World} {A : Around} (hh : A.handled = none) (b : Bool) (it l : Addr) (hne : l ≠ it) (items : Array Value) :
    Draws prog w A it [it, l] items.size (fun i v => items[i]? = some v) (fun i h => IsIt b h it l i ∧ IsSq b h l items) := by
  cases b
  · exact Draws.tuple hh it l hne items
  · exact Draws.list hh it l hne items
section
variable {X : L2.Cx} {pins : List (Addr × Obj)} {σ : L2.St} {H : Hp} {s : Shared}
theorem inv_sq (I : Inv X pins σ H s) {b : Bool} {a : Addr} {xs : List V} (h : SqB b X.K H a xs) : ∃ its, Vals xs its ∧ IsSq b s.heap a its.toArray := by
  cases b
  · obtain ⟨its, rv, p, _⟩ := I.tuple h
    exact ⟨its, rv, p⟩
  · obtain ⟨its, rv, p, _⟩ := I.list h
    exact ⟨its, rv, p.isList⟩
theorem inv_inj (I : Inv X pins σ H s) {b : Bool} {a : Addr} {xs ys : List V} (h : SqB b X.K H a xs) (h' : SqB b X.K H a ys) : xs = ys := by
  cases b
  · exact I.tuple_inj h h'
  · exact I.list_inj h h'
end
/-! ### the strict zip -/
abbrev IsZipS (h : Heap) (z TI TO : Addr) (f0 : Value) : Prop :=
  h.get? z = some { cls := .type "zip", dict := none, data := .fields #[f0, .bool false, .bool true, .ref TI, .ref TO], slots := #[] }
section
variable {prog : Program} {w : World} {A : Around} {E : Value → Shared → Prop} {s : Shared} {z TI TO i1 i2 : Addr} {fp1 fp2 : List Addr} {n1 n2 i : Nat} {P1 P2 : Nat → Value → Prop} {St1 St2 : Nat → Heap → Prop} {a1 a2 : Value}
theorem nextOrEnd_item {it : Addr} {fp : List Addr} {n : Nat} {P : Nat → Value → Prop} {St : Nat → Heap → Prop} {Q : Option Value → Shared → Prop} (D : Draws prog w A it fp n P St) (hi : i < n) (st : St i s.heap)
    (h : ∀ x h' tk, P i x → St (i + 1) h' → Heap.SameBut it s.heap h' → Q (some x) { s with heap := h', toks := tk }) : wpAny (model prog w) A (Builtin.SmallTypes.nextOrEnd (.ref it)) Q E s := by
  unfold Builtin.SmallTypes.nextOrEnd
  refine wpAny_bind (wpAny_attempt (D.item i _ _ _ hi st fun x h' tk hx sn hp => ?_))
  exact wpAny_pure (h x h' tk hx sn hp)
theorem nextOrEnd_end {it : Addr} {fp : List Addr} {n : Nat} {P : Nat → Value → Prop} {St : Nat → Heap → Prop} {Q : Option Value → Shared → Prop} (D : Draws prog w A it fp n P St) (st : St n s.heap)
    (h : ∀ h', Heap.ExtBut it s.heap h' → Q none { s with heap := h' }) : wpAny (model prog w) A (Builtin.SmallTypes.nextOrEnd (.ref it)) Q E s := by
  unfold Builtin.SmallTypes.nextOrEnd
  refine wpAny_bind (wpAny_attempt (D.done s _ _ st fun h' e he hx => ?_))
  obtain ⟨o, ho, hc⟩ := hx
  show wpAny _ _ (isInstance (.ref e) (.type "StopIteration") >>= _) _ _ _
  refine wpAny_bind (wpAny_isInstance (T := "StopIteration") (b := true) ⟨o, ho, hc⟩ isSubtype_stop ?_)
  exact wpAny_pure (h h' he)
theorem zipS2_next_item {Q : Value → Shared → Prop} (S : ZipSep2 z TI TO i1 i2 fp1 fp2) (D1 : Draws prog w A i1 fp1 n1 P1 St1) (D2 : Draws prog w A i2 fp2 n2 P2 St2)
    (hz : IsZipS s.heap z TI TO .none) (hTI : IsTupOf2 s.heap TI (.ref i1) (.ref i2)) (hTO : IsTupOf2 s.heap TO a1 a2) (st1 : St1 i s.heap) (st2 : St2 i s.heap) (hlt1 : i < n1) (hlt2 : i < n2)
    (hQ : ∀ x1 x2 h' tk, P1 i x1 → P2 i x2 → IsZipS h' z TI TO (rawInt s.heap.objs.size) → IsTupOf2 h' TO x1 x2 → St1 (i + 1) h' → St2 (i + 1) h' → IsTupOf2 h' s.heap.objs.size x1 x2 → h'.objs.size = s.heap.objs.size + 1 →
      (∀ c o, c ≠ z → c ≠ TO → c ≠ i1 → c ≠ i2 → s.heap.get? c = some o → h'.get? c = some o) → Q (.ref s.heap.objs.size) { s with heap := h', toks := tk }) :
    wpAny (model prog w) A (Builtin.«zip.__next__» ⟨[.ref z], []⟩) (fun fin s' => ∃ v, fin = .done (.ret v) ∧ Q v s') E s := by
  obtain ⟨hp, g, d, tk0, os⟩ := s
  show wpAny _ _ (field (.ref z) 2 >>= _) _ _ _
  refine wpAny_bind (wpAny_field hz rfl (x := .bool true) rfl ?_)
  show wpAny _ _ (field (.ref z) 3 >>= _) _ _ _
  refine wpAny_bind (wpAny_field hz rfl (x := .ref TI) rfl ?_)
  refine wpAny_bind (wpAny_seqItems hTI rfl ?_)
  show wpAny _ _ (Builtin.SmallTypes.ownedTupleIsFree (.ref z) >>= _) _ _ _
  refine wpAny_bind ?_
  unfold Builtin.SmallTypes.ownedTupleIsFree
  refine wpAny_bind (wpAny_field hz rfl (x := .none) rfl (wpAny_pure ?_))
  simp only [if_true]
  refine wpAny_bind (wpAny_rule ?_)
  refine wpAny_bind (wpAny_field hz rfl (x := .ref TO) rfl ?_)
  refine wpAny_bind (wpAny_setField_rec hz (by simp) fun g0 hz0 hs0 => ?_)
  replace hz0 : IsZipS g0 z TI TO .ellipsis := hz0
  replace hs0 : Heap.SameBut z hp g0 := hs0
  refine wpAny_bind ?_
  simp only [List.zipIdx_cons, List.zipIdx_nil, List.forIn_cons, List.forIn_nil]
  refine wpAny_bind (wpAny_bind (wpAny_onRaise ?_))
  show wpAny _ _ (Builtin.SmallTypes.nextOrEnd (.ref i1)) _ _ ⟨g0, g, d, tk0, os⟩
  refine nextOrEnd_item (s := ⟨g0, g, d, tk0, os⟩) D1 hlt1 (D1.over st1 hs0 S.zf1) fun x1 p1 tk1 hx1 sn1 hp1 => ?_
  replace hp1 : Heap.SameBut i1 g0 p1 := hp1
  have hU1 : IsTupOf2 p1 TO a1 a2 := hp1.extBut _ _ S.Ti1 (hs0.extBut _ _ S.TOz hTO)
  refine wpAny_bind (wpAny_seqItems (s := ⟨p1, g, d, tk1, os⟩) hU1 rfl ?_)
  refine wpAny_bind (updateSeq_IsTupOf2 (s := ⟨p1, g, d, tk1, os⟩) hU1 fun g1 hT1 hs1 => ?_)
  replace hT1 : IsTupOf2 g1 TO x1 a2 := hT1
  replace hs1 : Heap.SameBut TO p1 g1 := hs1
  refine wpAny_bind (wpAny_letGo (wpAny_pure ?_))
  refine wpAny_bind (wpAny_bind (wpAny_onRaise ?_))
  show wpAny _ _ (Builtin.SmallTypes.nextOrEnd (.ref i2)) _ _ ⟨g1, g, d, tk1, os⟩
  refine nextOrEnd_item (s := ⟨g1, g, d, tk1, os⟩) D2 hlt2 (D2.over (D2.over (D2.over st2 hs0 S.zf2) hp1 S.sep1_2) hs1 S.Tf2) fun x2 p2 tk2 hx2 sn2 hp2 => ?_
  replace hp2 : Heap.SameBut i2 g1 p2 := hp2
  have hU2 : IsTupOf2 p2 TO x1 a2 := hp2.extBut _ _ S.Ti2 hT1
  refine wpAny_bind (wpAny_seqItems (s := ⟨p2, g, d, tk2, os⟩) hU2 rfl ?_)
  refine wpAny_bind (updateSeq_IsTupOf2 (s := ⟨p2, g, d, tk2, os⟩) hU2 fun g2 hT2 hs2 => ?_)
  replace hT2 : IsTupOf2 g2 TO x1 x2 := hT2
  replace hs2 : Heap.SameBut TO p2 g2 := hs2
  refine wpAny_bind (wpAny_letGo (wpAny_pure (wpAny_pure ?_)))
  refine wpAny_bind (wpAny_seqItems (s := ⟨g2, g, d, tk2, os⟩) hT2 rfl ?_)
  refine wpAny_bind (wpAny_newTuple ?_)
  have hsz : g2.objs.size = hp.objs.size := by rw [hs2.1, hp2.1, hs1.1, hp1.1, hs0.1]
  have hzz : IsZipS g2 z TI TO .ellipsis := (hs2.extBut _ _ S.TOz.symm (hp2.extBut _ _ S.zi2 (hs1.extBut _ _ S.TOz.symm (hp1.extBut _ _ S.zi1 hz0))))
  have hkk : ∀ c o, c ≠ z → c ≠ TO → c ≠ i1 → c ≠ i2 → hp.get? c = some o → g2.get? c = some o := fun c o cz cT c1 c2 e =>
    (hs2.extBut _ _ cT (hp2.extBut _ _ c2 (hs1.extBut _ _ cT (hp1.extBut _ _ c1 (hs0.extBut _ _ cz e)))))
  have hj1 : St1 (i + 1) g2 := (D1.over (D1.over (D1.over sn1 hs1 S.Tf1) hp2 S.sep2_1) hs2 S.Tf1)
  have hj2 : St2 (i + 1) g2 := (D2.over sn2 hs2 S.Tf2)
  have hzlt : z < g2.objs.size := Heap.lt_size hzz
  show wpAny _ _ (Builtin.SmallTypes.ownedTupleHandOut (.ref z) (.ref g2.objs.size) >>= _) _ _ ⟨g2.push { cls := .type "tuple", data := .seq #[x1, x2] }, g, d, tk2, os⟩
  refine wpAny_bind ?_
  unfold Builtin.SmallTypes.ownedTupleHandOut
  have hz₆ : IsZipS (g2.push { cls := .type "tuple", data := .seq #[x1, x2] }) z TI TO .ellipsis := Heap.get?_push_of_some _ hzz
  refine wpAny_bind (wpAny_setField_rec hz₆ (by simp) fun h₇ hz₇ hs₇ => ?_)
  replace hz₇ : IsZipS h₇ z TI TO (rawInt g2.objs.size) := hz₇
  refine wpAny_setField_rec hz₇ (by simp) fun h₈ hz₈ hs₈ => ?_
  replace hz₈ : IsZipS h₈ z TI TO (rawInt g2.objs.size) := hz₈
  replace hs₇ : Heap.SameBut z (g2.push { cls := .type "tuple", data := .seq #[x1, x2] }) h₇ := hs₇
  replace hs₈ : Heap.SameBut z h₇ h₈ := hs₈
  have up : ∀ c o, c ≠ z → g2.get? c = some o → h₈.get? c = some o := fun c o c1 e => hs₈.extBut _ _ c1 (hs₇.extBut _ _ c1 (Heap.get?_push_of_some _ e))
  have hT₈ : IsTupOf2 h₈ g2.objs.size x1 x2 := hs₈.extBut _ _ (Nat.ne_of_gt hzlt) (hs₇.extBut _ _ (Nat.ne_of_gt hzlt) (Heap.get?_push_size _ rfl))
  have hz8 : h₈.objs.size = g2.objs.size + 1 := by rw [hs₈.1, hs₇.1, Heap.size_push]
  rw [hsz] at hz₈ hT₈ hz8
  refine wpAny_pure ⟨_, rfl, ?_⟩
  show Q (.ref g2.objs.size) ⟨h₈, g, d, tk2, os⟩
  rw [hsz]
  exact hQ x1 x2 h₈ tk2 hx1 hx2 hz₈ (up _ _ S.TOz hT2) (D1.frame _ _ _ hj1 fun b hb o e => up b o (fun q => S.zf1 (q ▸ hb)) e) (D2.frame _ _ _ hj2 fun b hb o e => up b o (fun q => S.zf2 (q ▸ hb)) e) hT₈ hz8 fun c o cz cT c1 c2 e => up c o cz (hkk c o cz cT c1 c2 e)
/-- both end at once -/
theorem zipS2_next_end {Q : Fin → Shared → Prop} (hh : A.handled = none) (S : ZipSep2 z TI TO i1 i2 fp1 fp2) (D1 : Draws prog w A i1 fp1 n1 P1 St1) (D2 : Draws prog w A i2 fp2 n1 P2 St2)
    (hz : IsZipS s.heap z TI TO .none) (hTI : IsTupOf2 s.heap TI (.ref i1) (.ref i2)) (st1 : St1 n1 s.heap) (st2 : St2 n1 s.heap)
    (hE : ∀ h' tk e, (∀ c o, c ≠ z → c ≠ TO → c ≠ i1 → c ≠ i2 → s.heap.get? c = some o → h'.get? c = some o) → (∃ o, h'.get? e = some o ∧ o.cls = .type "StopIteration") → E (.ref e) { s with heap := h', toks := tk })
    (hf : ∀ h' h'' : Heap, Heap.ExtBut i1 h' h'' → St2 n1 h' → St2 n1 h'') :
    wpAny (model prog w) A (Builtin.«zip.__next__» ⟨[.ref z], []⟩) Q E s := by
  obtain ⟨hp, g, d, tk0, os⟩ := s
  show wpAny _ _ (field (.ref z) 2 >>= _) _ _ _
  refine wpAny_bind (wpAny_field hz rfl (x := .bool true) rfl ?_)
  show wpAny _ _ (field (.ref z) 3 >>= _) _ _ _
  refine wpAny_bind (wpAny_field hz rfl (x := .ref TI) rfl ?_)
  refine wpAny_bind (wpAny_seqItems hTI rfl ?_)
  show wpAny _ _ (Builtin.SmallTypes.ownedTupleIsFree (.ref z) >>= _) _ _ _
  refine wpAny_bind ?_
  unfold Builtin.SmallTypes.ownedTupleIsFree
  refine wpAny_bind (wpAny_field hz rfl (x := .none) rfl (wpAny_pure ?_))
  simp only [if_true]
  refine wpAny_bind (wpAny_rule ?_)
  refine wpAny_bind (wpAny_field hz rfl (x := .ref TO) rfl ?_)
  refine wpAny_bind (wpAny_setField_rec hz (by simp) fun g0 hz0 hs0 => ?_)
  replace hz0 : IsZipS g0 z TI TO .ellipsis := hz0
  replace hs0 : Heap.SameBut z hp g0 := hs0
  refine wpAny_bind ?_
  simp only [List.zipIdx_cons, List.zipIdx_nil, List.forIn_cons, List.forIn_nil]
  refine wpAny_bind (wpAny_bind (wpAny_onRaise ?_))
  show wpAny _ _ (Builtin.SmallTypes.nextOrEnd (.ref i1)) _ _ ⟨g0, g, d, tk0, os⟩
  refine nextOrEnd_end (s := ⟨g0, g, d, tk0, os⟩) D1 (D1.over st1 hs0 S.zf1) fun q hq => ?_
  replace hq : Heap.ExtBut i1 g0 q := hq
  have hzq : IsZipS q z TI TO .ellipsis := hq _ _ S.zi1 hz0
  have st2q : St2 n1 q := hf g0 q hq (D2.over st2 hs0 S.zf2)
  refine wpAny_bind (wpAny_setField_rec (s := ⟨q, g, d, tk0, os⟩) hzq (by simp) fun q' hzq' hq' => ?_)
  replace hzq' : IsZipS q' z TI TO .none := hzq'
  replace hq' : Heap.SameBut z q q' := hq'
  show wpAny _ _ _ _ _ ⟨q', g, d, tk0, os⟩
  refine wpAny_bind ?_
  refine wpAny_bind ?_
  simp only [List.drop, List.zipIdx_cons, List.zipIdx_nil, List.forIn_cons, List.forIn_nil]
  refine wpAny_bind ?_
  show wpAny _ _ (Builtin.SmallTypes.nextOrEnd (.ref i2) >>= _) _ _ _
  have st2q' : St2 n1 q' := D2.over st2q hq' S.zf2
  refine wpAny_bind (nextOrEnd_end (s := ⟨q', g, d, tk0, os⟩) D2 st2q' fun q2 hq2 => ?_)
  replace hq2 : Heap.ExtBut i2 q' q2 := hq2
  show wpAny _ _ (pure (ForInStep.yield PUnit.unit)) _ _ _
  refine wpAny_pure (wpAny_pure ?_)
  refine wpAny_bind (wpAny_rule ?_)
  unfold Builtin.SmallTypes.stopIteration
  show wpAny _ _ (newExc (.type "StopIteration") [] >>= _) _ _ _
  refine wpAny_bind ?_
  simp only [newExc, newTuple]
  refine wpAny_bind (wpAny_newObj_type ?_ (by size_fits))
  refine wpAny_bind (m := firstArgMember _ _) (wpAny_of_eq (a := Value.none) (by first | rfl | (simp only [firstArgMember]; rfl)) ?_)
  refine wpAny_newObj_type ?_ (by size_fits)
  simp only [raiseNew]
  refine wpAny_bind (wpAny_handled ?_)
  rw [hh]
  refine wpAny_bind (wpAny_pure (wpAny_throw ?_))
  refine hE _ _ _ (fun c o cz cT c1 c2 x => ?_) ⟨_, Heap.get?_push_size _ rfl, rfl⟩
  exact Heap.get?_push_of_some _ (Heap.get?_push_of_some _ (hq2 _ _ c2 (hq'.extBut _ _ cz (hq _ _ c1 (hs0.extBut _ _ cz x)))))
theorem pyNext_zipS2_item {Q : Option Value → Shared → Prop} (S : ZipSep2 z TI TO i1 i2 fp1 fp2) (D1 : Draws prog w A.in1 i1 fp1 n1 P1 St1) (D2 : Draws prog w A.in1 i2 fp2 n2 P2 St2)
    (hz : IsZipS s.heap z TI TO .none) (hTI : IsTupOf2 s.heap TI (.ref i1) (.ref i2)) (hTO : IsTupOf2 s.heap TO a1 a2) (st1 : St1 i s.heap) (st2 : St2 i s.heap) (hlt1 : i < n1) (hlt2 : i < n2)
    (hQ : ∀ x1 x2 h' tk, P1 i x1 → P2 i x2 → IsZipS h' z TI TO (rawInt s.heap.objs.size) → IsTupOf2 h' TO x1 x2 → St1 (i + 1) h' → St2 (i + 1) h' → IsTupOf2 h' s.heap.objs.size x1 x2 → h'.objs.size = s.heap.objs.size + 1 →
      (∀ c o, c ≠ z → c ≠ TO → c ≠ i1 → c ≠ i2 → s.heap.get? c = some o → h'.get? c = some o) → Q (some (.ref s.heap.objs.size)) { s with heap := h', toks := tk }) :
    wpAny (model prog w) A (pyNext (.ref z)) Q E s := by
  have hT : s.TypeIs (.ref z) "zip" := ⟨_, hz, rfl⟩
  unfold pyNext
  exact wpAny_bind (wpAny_attempt (wpAny_callSpecial?_slot (name := Str.ofString "__next__") hT F.slot_zip_next
    (wpAny_call_entry F.slot_zip_next hT F.entry_zip_next
      (zipS2_next_item S D1 D2 hz hTI hTO st1 st2 hlt1 hlt2 fun x1 x2 h' tk y1 y2 b1 b2 d1 d2 b5 b6 b7 => wpAny_pure (hQ x1 x2 h' tk y1 y2 b1 b2 d1 d2 b5 b6 b7)) (F.args_zip_next_1 _))))
theorem pyNext_zipS2_end {Q : Option Value → Shared → Prop} (hh : A.in1.handled = none) (S : ZipSep2 z TI TO i1 i2 fp1 fp2) (D1 : Draws prog w A.in1 i1 fp1 n1 P1 St1) (D2 : Draws prog w A.in1 i2 fp2 n1 P2 St2)
    (hz : IsZipS s.heap z TI TO .none) (hTI : IsTupOf2 s.heap TI (.ref i1) (.ref i2)) (st1 : St1 n1 s.heap) (st2 : St2 n1 s.heap)
    (hf : ∀ h' h'' : Heap, Heap.ExtBut i1 h' h'' → St2 n1 h' → St2 n1 h'')
    (hQ : ∀ h' tk, (∀ c o, c ≠ z → c ≠ TO → c ≠ i1 → c ≠ i2 → s.heap.get? c = some o → h'.get? c = some o) → Q none { s with heap := h', toks := tk }) : wpAny (model prog w) A (pyNext (.ref z)) Q E s := by
  have hT : s.TypeIs (.ref z) "zip" := ⟨_, hz, rfl⟩
  unfold pyNext
  refine wpAny_bind (wpAny_attempt (wpAny_callSpecial?_slot (name := Str.ofString "__next__") hT F.slot_zip_next
    (wpAny_call_entry F.slot_zip_next hT F.entry_zip_next (zipS2_next_end hh S D1 D2 hz hTI st1 st2 (fun h' tk e hk he => ?_) hf) (F.args_zip_next_1 _))))
  obtain ⟨o, ho, hc⟩ := he
  refine wpAny_bind (wpAny_isInstance (T := "StopIteration") (b := true) ⟨o, ho, hc⟩ isSubtype_stop ?_)
  exact wpAny_pure (hQ _ _ hk)
theorem letGo_zipS {elts : List Expr} {x1} {pos : Pos} {T : Addr} {Q : Unit → Shared → Prop} (hz : IsZipS s.heap z TI TO (rawInt T))
    (hQ : ∀ h', IsZipS h' z TI TO .none → Heap.SameBut z s.heap h' → Q () { s with heap := h' }) :
    wpAny (model prog w) A (letOwnedTupleGo (.Tuple elts x1 pos) (.ref z) (.ref T)) Q E s := by
  unfold letOwnedTupleGo
  refine wpAny_bind (wpAny_load hz ?_)
  show wpAny _ _ (if (["enumerate", "zip", "dict_itemiterator", "dict_reverseitemiterator", "odict_iterator", "itertools.zip_longest", "itertools.pairwise"].contains "zip" &&
      (#[rawInt T, .bool false, .bool true, .ref TI, .ref TO] : Array Value)[0]? == some (rawInt T)) = true then _ else _) Q E s
  rw [if_pos (by simp)]
  refine wpAny_bind (wpAny_rule ?_)
  show wpAny _ _ (setField (.ref z) 0 .none) Q E s
  exact wpAny_setField_rec hz (by simp) fun h' hz' hs' => hQ h' hz' hs'
theorem pyIter_zipS {f0 : Value} {Q : Value → Shared → Prop} (hz : IsZipS s.heap z TI TO f0) (h : Q (.ref z) s) : wpAny (model prog w) A (pyIter (.ref z)) Q E s := by
  have hT : s.TypeIs (.ref z) "zip" := ⟨_, hz, rfl⟩
  refine wpAny_pyIter_slot hT F.slot_zip_iter (wpAny_call_entry F.slot_zip_iter hT F.entry_zip_iter ?_ (F.args_zip_iter_1 _))
  show wpAny _ _ (ret (.ref z)) _ _ s
  exact wpAny_pure ⟨_, rfl, "zip", _, hT, F.slot_zip_next.lookup, h⟩
theorem typeCall_zipS (a b : Value) : checkTypeCall "zip" ⟨[a, b], [(Str.ofString "strict", .bool true)]⟩ = pure () := by kernel_rfl
theorem newCall_zipS (a b : Value) : checkBuiltinCall "zip.__new__" ⟨[.type "zip", a, b], [(Str.ofString "strict", .bool true)]⟩ = pure () := by kernel_rfl
theorem args_initS (obj a b : Value) : argsOk "object.__init__" ⟨[obj, a, b], [(Str.ofString "strict", .bool true)]⟩ := by unfold argsOk; kernel_rfl
abbrev gzZS (h : Heap) (o1 o2 : Obj) : Heap := (gzO2 h o1 o2).push { cls := .type "zip", data := .fields #[.none, .bool false, .bool true, .ref ((h.push o1).push o2).objs.size, .ref (gzT2 h o1 o2).objs.size] }
theorem meets_zip_newS {v1 v2 : Value} {o1 o2 : Obj} {H1 H2 : Heap → Prop} (B1 : Begins v1 o1 H1) (B2 : Begins v2 o2 H2) :
    Meets (Builtin.«zip.__new__» ⟨[.type "zip", v1, v2], [(Str.ofString "strict", .bool true)]⟩) (fun _ R s => (H1 s.heap ∧ H2 s.heap) ∧
      R (.ok (.ret (.ref (gzO2 s.heap o1 o2).objs.size))) { s with heap := gzZS s.heap o1 o2 }) :=
  .of_wp fun prog w A R s h => by
    obtain ⟨hp, g, d, tk, os⟩ := s; obtain ⟨⟨h1, h2⟩, h⟩ := h
    have hsub := sub_zip
    have e2 : (Str.ofString "strict" != ("strict" : Str)) = false := by decide +kernel
    have q1 : ∀ {A' : Around} {E : Value → Shared → Prop} {Q : Value → Shared → Prop}, Q (.ref hp.objs.size) ⟨(hp.push o1), g, d, tk, os⟩ → wpAny (model prog w) A' (pyIter v1) Q E ⟨hp, g, d, tk, os⟩ :=
      fun q => B1.iter prog w _ _ ⟨hp, g, d, tk, os⟩ _ (B1.keeps _ _ h1 fun b o' e => e) q
    have q2 : ∀ {A' : Around} {E : Value → Shared → Prop} {Q : Value → Shared → Prop}, Q (.ref (hp.push o1).objs.size) ⟨((hp.push o1).push o2), g, d, tk, os⟩ → wpAny (model prog w) A' (pyIter v2) Q E ⟨(hp.push o1), g, d, tk, os⟩ :=
      fun q => B2.iter prog w _ _ ⟨(hp.push o1), g, d, tk, os⟩ _ (B2.keeps _ _ h2 fun b o' e => (Heap.get?_push_of_some _ e)) q
    wp_walk using q1, q2
    exact ⟨_, rfl, h⟩
theorem zip_beginsS {v1 v2 : Value} {o1 o2 : Obj} {H1 H2 : Heap → Prop} {Q : Value → Shared → Prop} (B1 : Begins v1 o1 H1) (B2 : Begins v2 o2 H2) (h1 : H1 s.heap) (h2 : H2 s.heap)
    (h : ∀ h', IsZipS h' (s.heap.objs.size + 4) (s.heap.objs.size + 2) (s.heap.objs.size + 3) .none → IsTupOf2 h' (s.heap.objs.size + 2) (.ref s.heap.objs.size) (.ref (s.heap.objs.size + 1)) →
      IsTupOf2 h' (s.heap.objs.size + 3) .none .none → h'.get? s.heap.objs.size = some o1 → h'.get? (s.heap.objs.size + 1) = some o2 → h'.objs.size = s.heap.objs.size + 5 →
      (∀ c o, s.heap.get? c = some o → h'.get? c = some o) → Q (.ref (s.heap.objs.size + 4)) { s with heap := h' }) :
    wpAny (model prog w) A (call (.type "zip") [v1, v2] [(Str.ofString "strict", .bool true)]) Q E s := by
  refine callType_newKw F.called_zip (by decide) (typeCall_zipS _ _) (newCall_zipS _ _) (fun obj => args_initS obj _ _) F.entry_zip_new
    (meets_zip_newS B1 B2) ⟨⟨h1, h2⟩, ?_⟩
  have z1 : (s.heap.push o1).objs.size = s.heap.objs.size + 1 := by rw [Heap.size_push]
  have z2 : ((s.heap.push o1).push o2).objs.size = s.heap.objs.size + 2 := by rw [Heap.size_push, z1]
  have zT : (gzT2 s.heap o1 o2).objs.size = s.heap.objs.size + 3 := by rw [Heap.size_push, z2]
  have zO : (gzO2 s.heap o1 o2).objs.size = s.heap.objs.size + 4 := by rw [Heap.size_push, zT]
  have zZ : (gzZS s.heap o1 o2).objs.size = s.heap.objs.size + 5 := by rw [Heap.size_push, zO]
  have gZ : (gzZS s.heap o1 o2).get? (gzO2 s.heap o1 o2).objs.size = some { cls := .type "zip", data := .fields #[.none, .bool false, .bool true, .ref ((s.heap.push o1).push o2).objs.size, .ref (gzT2 s.heap o1 o2).objs.size] } := Heap.get?_push_size _ rfl
  have gO : (gzZS s.heap o1 o2).get? (gzT2 s.heap o1 o2).objs.size = some { cls := .type "tuple", data := .seq #[.none, .none] } := Heap.get?_push_of_some _ (Heap.get?_push_size _ rfl)
  have gT : (gzZS s.heap o1 o2).get? ((s.heap.push o1).push o2).objs.size = some { cls := .type "tuple", data := .seq #[.ref s.heap.objs.size, .ref (s.heap.push o1).objs.size] } := Heap.get?_push_of_some _ (Heap.get?_push_of_some _ (Heap.get?_push_size _ rfl))
  have g1 : (gzZS s.heap o1 o2).get? s.heap.objs.size = some o1 := Heap.get?_push_of_some _ (Heap.get?_push_of_some _ (Heap.get?_push_of_some _ (Heap.get?_push_of_some _ (Heap.get?_push_size _ B1.free))))
  have g2 : (gzZS s.heap o1 o2).get? (s.heap.push o1).objs.size = some o2 := Heap.get?_push_of_some _ (Heap.get?_push_of_some _ (Heap.get?_push_of_some _ (Heap.get?_push_size _ B2.free)))
  rw [zO, zT, z2] at gZ
  rw [zT] at gO
  rw [z2, z1] at gT
  rw [z1] at g2
  show _ ∧ _
  rw [zO]
  exact ⟨⟨_, gZ, rfl⟩, h _ gZ gT gO g1 g2 zZ fun c o e => Heap.get?_push_of_some _ (Heap.get?_push_of_some _ (Heap.get?_push_of_some _ (Heap.get?_push_of_some _ (Heap.get?_push_of_some _ e))))⟩
end
/-! ### the zip, strict or not -/
def IsZipB : Bool → Heap → Addr → Addr → Addr → Value → Prop
  | true, h, z, TI, TO, f => IsZipS h z TI TO f
  | false, h, z, TI, TO, f => IsZip h z TI TO f
def ItzB (K : PySem.W.Frag) (st b1 b2 : Bool) (a b : Addr) : L2.It :=
  ⟨fun i H => ∃ (xs ys : List V) (x y : V), SqB b1 K H a xs ∧ SqB b2 K H b ys ∧ xs[i]? = some x ∧ ys[i]? = some y,
    fun i H v H' => ∃ (T : Addr) (x y : V) (ob : Obj), v = .ref T ∧ H T = none ∧ ob.dict = none ∧ H' = upd H T (.frz ob (.tup [x, y])) ∧ (∀ xs, SqB b1 K H a xs → xs[i]? = some x) ∧ ∀ ys, SqB b2 K H b ys → ys[i]? = some y,
    fun i H => ∃ xs ys : List V, SqB b1 K H a xs ∧ SqB b2 K H b ys ∧ i ≤ xs.length ∧ i ≤ ys.length ∧ (i = xs.length ∨ i = ys.length) ∧ (st = true → xs.length = ys.length)⟩
theorem zipSep {z TI TO i1 i2 a b : Addr} (h : z ≠ TI ∧ z ≠ TO ∧ z ≠ i1 ∧ z ≠ i2 ∧ TI ≠ TO ∧ TI ≠ i1 ∧ TI ≠ i2 ∧ TO ≠ i1 ∧ TO ≠ i2 ∧ i1 ≠ i2 ∧ z ≠ a ∧ z ≠ b ∧ TO ≠ a ∧ TO ≠ b ∧ i1 ≠ b ∧ i2 ≠ a) : ZipSep2 z TI TO i1 i2 [i1, a] [i2, b] := by
  obtain ⟨h1, h2, h3, h4, h5, h6, h7, h8, h9, h10, h11, h12, h13, h14, h15, h16⟩ := h
  constructor <;> simp_all [Ne.symm, eq_comm]
  all_goals exact fun h => by simp_all
theorem isSq_at {b : Bool} {h h' : Heap} {l : Addr} {xs : Array Value} (x : IsSq b h l xs) (k : ∀ o, h.get? l = some o → h'.get? l = some o) : IsSq b h' l xs := by
  cases b
  · obtain ⟨o, ho, hc⟩ := x
    exact ⟨o, k o ho, hc⟩
  · obtain ⟨o, ho, hc⟩ := x
    exact ⟨o, k o ho, hc⟩
theorem sqIt_ne {b b' : Bool} {h : Heap} {a it l : Addr} {xs : Array Value} {i : Nat} (p : IsSq b h a xs) (q : IsIt b' h it l i) : a ≠ it := by
  rintro rfl
  cases b <;> cases b' <;> (obtain ⟨o, ho, hc, _⟩ := p; obtain ⟨o', ho', hc', _⟩ := q; rw [ho] at ho'; cases ho'; rw [hc] at hc'; simp at hc')
theorem turn_zipB {P : Program} {w : World} {K : PySem.W.Frag} {elts : List Expr} {kk : Nat} {tpos : Pos} {st b1 b2 : Bool} {a b z TI TO i1 i2 : Addr} (D : ZipSep2 z TI TO i1 i2 [i1, a] [i2, b]) :
    Turn P w K (.Tuple elts kk tpos) (ItzB K st b1 b2 a b) [z, TI, TO, i1, i2] z (fun i h => IsZipB st h z TI TO .none ∧ IsTupOf2 h TI (.ref i1) (.ref i2) ∧ (∃ x y, IsTupOf2 h TO x y) ∧ IsIt b1 h i1 a i ∧ IsIt b2 h i2 b i) where
  mem := by simp
  obj := fun i h s c hc => by
    obtain ⟨hz, hTI, ⟨x, y, hTO⟩, h1, h2⟩ := s
    have e' : c = z ∨ c = TI ∨ c = TO ∨ c = i1 ∨ c = i2 := by simpa using hc
    rcases e' with q | q | q | q | q
    · rw [q]
      cases st
      · exact ⟨_, hz, fun v q => nomatch q⟩
      · exact ⟨_, hz, fun v q => nomatch q⟩
    · rw [q]; exact ⟨_, hTI, fun v q => nomatch q⟩
    · rw [q]; exact ⟨_, hTO, fun v q => nomatch q⟩
    · rw [q]; exact isIt_obj h1
    · rw [q]; exact isIt_obj h2
  keep := fun i h h' s k => by
    obtain ⟨hz, hTI, ⟨x, y, hTO⟩, h1, h2⟩ := s
    refine ⟨?_, k TI (by simp) _ hTI, ⟨x, y, k TO (by simp) _ hTO⟩, isIt_at h1 fun o q => k i1 (by simp) o q, isIt_at h2 fun o q => k i2 (by simp) o q⟩
    cases st
    · exact k z (by simp) _ hz
    · exact k z (by simp) _ hz
  item := by
    intro X hP hw hK hc i pins s σ H E I hf st0 hg
    subst hP hw hK
    obtain ⟨hz, hTI, ⟨x0, y0, hTO⟩, h1, h2⟩ := st0
    obtain ⟨xs, ys, x, y, hqx, hqy, hx, hy⟩ := hg
    obtain ⟨its, rv, p⟩ := inv_sq I hqx
    obtain ⟨its2, rv2, p2⟩ := inv_sq I hqy
    obtain ⟨u, hu, ru⟩ := rv.get hx
    obtain ⟨u2, hu2, ru2⟩ := rv2.get hy
    have hh : X.A.in1.handled = none := I.ok.hd hc
    have D1 := drawsSq (prog := X.prog) (w := X.w) (A := X.A.in1) hh b1 i1 a (sqIt_ne p h1) its.toArray
    have D2 := drawsSq (prog := X.prog) (w := X.w) (A := X.A.in1) hh b2 i2 b (sqIt_ne p2 h2) its2.toArray
    have l1 : i < its.toArray.size := by
      obtain ⟨l, _⟩ := List.getElem?_eq_some_iff.mp hu
      simpa using l
    have l2 : i < its2.toArray.size := by
      obtain ⟨l, _⟩ := List.getElem?_eq_some_iff.mp hu2
      simpa using l
    have fin : ∀ (v1 v2 : Value) (h' : Heap) (tk : Nat), its.toArray[i]? = some v1 → its2.toArray[i]? = some v2 → IsZipB st h' z TI TO (rawInt s.heap.objs.size) → IsTupOf2 h' TO v1 v2 → (IsIt b1 h' i1 a (i + 1) ∧ IsSq b1 h' a its.toArray) → (IsIt b2 h' i2 b (i + 1) ∧ IsSq b2 h' b its2.toArray) →
        IsTupOf2 h' s.heap.objs.size v1 v2 → h'.objs.size = s.heap.objs.size + 1 → (∀ c o, c ≠ z → c ≠ TO → c ≠ i1 → c ≠ i2 → s.heap.get? c = some o → h'.get? c = some o) →
        (∀ (Q : Unit → Shared → Prop), (∀ h'', IsZipB st h'' z TI TO .none → Heap.SameBut z h' h'' → Q () { s with heap := h'', toks := tk }) → wpAny (model X.prog X.w) X.A (letOwnedTupleGo (.Tuple elts kk tpos) (.ref z) (.ref s.heap.objs.size)) Q E { s with heap := h', toks := tk }) →
        ∃ u', some (Value.ref s.heap.objs.size) = some u' ∧ wpAny (model X.prog X.w) X.A (letOwnedTupleGo (.Tuple elts kk tpos) (.ref z) u') (fun _ s2 => ∃ x H', Inv X pins σ H' s2 ∧ RelV x u' ∧ (ItzB X.K st b1 b2 a b).yld i H x H' ∧
          (IsZipB st s2.heap z TI TO .none ∧ IsTupOf2 s2.heap TI (.ref i1) (.ref i2) ∧ (∃ x y, IsTupOf2 s2.heap TO x y) ∧ IsIt b1 s2.heap i1 a (i + 1) ∧ IsIt b2 s2.heap i2 b (i + 1)) ∧ ∀ b ∈ [z, TI, TO, i1, i2], H' b = none) E { s with heap := h', toks := tk } := by
      intro v1 v2 h' tk e1 e2 z' TO' h1' h2' hT hsz hk go
      have e1 : its[i]? = some v1 := by simpa using e1
      have e2 : its2[i]? = some v2 := by simpa using e2
      rw [hu] at e1
      rw [hu2] at e2
      cases e1
      cases e2
      have hzl : z < s.heap.objs.size := by
        cases st
        · exact Heap.lt_size hz
        · exact Heap.lt_size hz
      refine ⟨_, rfl, go _ fun h'' z'' sb => ?_⟩
      have hT2 : h''.get? s.heap.objs.size = some { cls := .type "tuple", data := .seq #[u, u2] } := (sb.2 _ (Nat.ne_of_gt hzl)).trans hT
      have new : ObjOk X.prog X.w (upd H s.heap.objs.size (.frz { cls := .type "tuple", data := .seq #[u, u2] } (.tup [x, y]))) h'' s.heap.objs.size (.frz { cls := .type "tuple", data := .seq #[u, u2] } (.tup [x, y])) :=
        ⟨hT2, by show 2 ≤ sizeLine; decide, [u, u2], .cons ru (.cons ru2 .nil), ⟨_, hT2, rfl, _, rfl⟩⟩
      have I1 : Inv X pins σ (upd H s.heap.objs.size (.frz { cls := .type "tuple", data := .seq #[u, u2] } (.tup [x, y]))) { s with heap := h'', toks := tk } :=
        I.turnedNew (t' := tk) (ch := [z, TI, TO, i1, i2]) (fun c o hb q => (sb.2 c (fun q' => hb (by simp [q']))).trans (hk c o (fun q' => hb (by simp [q'])) (fun q' => hb (by simp [q'])) (fun q' => hb (by simp [q'])) (fun q' => hb (by simp [q'])) q)) hf (Nat.le_refl _) new
      have nz1 : i1 ≠ z := fun e => D.zi1 e.symm
      have nz2 : i2 ≠ z := fun e => D.zi2 e.symm
      refine ⟨.ref s.heap.objs.size, _, I1, rfl, ⟨_, x, y, _, rfl, I.hok.fresh (Nat.le_refl _), rfl, rfl, fun l hl => by rw [inv_inj I hl hqx]; exact hx, fun l hl => by rw [inv_inj I hl hqy]; exact hy⟩, ⟨z'', ?_, ⟨u, u2, ?_⟩, ?_, ?_⟩, fun c hcm => ?_⟩
      · exact (sb.2 _ D.TIz).trans (hk _ _ D.TIz D.TITO D.TIi1 D.TIi2 hTI)
      · exact (sb.2 _ D.TOz).trans TO'
      · exact isIt_at h1'.1 fun o q => (sb.2 _ nz1).trans q
      · exact isIt_at h2'.1 fun o q => (sb.2 _ nz2).trans q
      · have hlt : c < s.heap.objs.size := by
          have e' : c = z ∨ c = TI ∨ c = TO ∨ c = i1 ∨ c = i2 := by simpa using hcm
          rcases e' with q | q | q | q | q
          · rw [q]; exact hzl
          · rw [q]; exact Heap.lt_size hTI
          · rw [q]; exact Heap.lt_size hTO
          · rw [q]; exact isIt_lt h1
          · rw [q]; exact isIt_lt h2
        rw [upd_ne (Nat.ne_of_lt hlt)]
        exact (hf c hcm).1
    cases st
    · exact wpAny_pyNext_zipD2_item D D1 D2 hz hTI hTO ⟨h1, p⟩ ⟨h2, p2⟩ l1 l2 fun v1 v2 h' tk e1 e2 z' TO' h1' h2' hT hsz hk =>
        fin v1 v2 h' tk e1 e2 z' TO' h1' h2' hT hsz hk fun Q q => wpAny_letOwnedTupleGo_zip (s := { s with heap := h', toks := tk }) z' q
    · exact pyNext_zipS2_item D D1 D2 hz hTI hTO ⟨h1, p⟩ ⟨h2, p2⟩ l1 l2 fun v1 v2 h' tk e1 e2 z' TO' h1' h2' hT hsz hk =>
        fin v1 v2 h' tk e1 e2 z' TO' h1' h2' hT hsz hk fun Q q => letGo_zipS (s := { s with heap := h', toks := tk }) z' q
  done := by
    intro X hP hw hK hc i pins s σ H E I hf st0 hg
    subst hP hw hK
    obtain ⟨hz, hTI, ⟨x0, y0, hTO⟩, h1, h2⟩ := st0
    obtain ⟨xs, ys, hqx, hqy, hx, hy, hend, hst⟩ := hg
    obtain ⟨its, rv, p⟩ := inv_sq I hqx
    obtain ⟨its2, rv2, p2⟩ := inv_sq I hqy
    have e1 := rv.length
    have e2 := rv2.length
    have hh : X.A.in1.handled = none := I.ok.hd hc
    have D1 := drawsSq (prog := X.prog) (w := X.w) (A := X.A.in1) hh b1 i1 a (sqIt_ne p h1) its.toArray
    have D2 := drawsSq (prog := X.prog) (w := X.w) (A := X.A.in1) hh b2 i2 b (sqIt_ne p2 h2) its2.toArray
    rw [List.size_toArray] at D1 D2
    have fin : ∀ (h' : Heap) (tk : Nat), (∀ c o, c ≠ z → c ≠ TO → c ≠ i1 → c ≠ i2 → s.heap.get? c = some o → h'.get? c = some o) → (none : Option Value) = none ∧ Inv X pins σ H { s with heap := h', toks := tk } := fun h' tk hk =>
      ⟨rfl, I.turnedL (t' := tk) (ch := [z, TI, TO, i1, i2]) (fun c o hb q => hk c o (fun q' => hb (by simp [q'])) (fun q' => hb (by simp [q'])) (fun q' => hb (by simp [q'])) (fun q' => hb (by simp [q'])) q) hf⟩
    cases st
    · exact wpAny_pyNext_zipD2_end D D1 D2 hz hTI hTO ⟨h1, p⟩ ⟨h2, p2⟩ (by omega) (by omega) (by omega) fin
    · have hl := hst rfl
      have i1' : i = its.length := by omega
      have i2' : i = its2.length := by omega
      rw [← i1'] at D1
      rw [← i2'] at D2
      refine pyNext_zipS2_end hh D D1 D2 hz hTI ⟨h1, p⟩ ⟨h2, p2⟩ (fun h' h'' hx sx => ?_) fin
      have n := D.sep1_2
      exact ⟨isIt_at sx.1 fun o q => hx _ _ (fun e => n (by simp [e])) q, isSq_at sx.2 fun o q => hx _ _ (fun e => n (by simp [e])) q⟩
  self := fun A i s Q E st0 h => by
    cases st
    · exact wpAny_pyIter_zip st0.1 h
    · exact pyIter_zipS st0.1 h
/-! ### enumerate -/
def IteB (K : PySem.W.Frag) (b : Bool) (a : Addr) : L2.It :=
  ⟨fun i H => ∃ (xs : List V) (x : V), SqB b K H a xs ∧ xs[i]? = some x, fun i H v H' => ∃ (T : Addr) (x : V) (ob : Obj), v = .ref T ∧ H T = none ∧ ob.dict = none ∧ H' = upd H T (.frz ob (.tup [.int (i : Nat), x])) ∧ ∀ xs, SqB b K H a xs → xs[i]? = some x, fun i H => ∃ xs : List V, SqB b K H a xs ∧ i = xs.length⟩
theorem turn_enuB {P : Program} {w : World} {K : PySem.W.Frag} {elts : List Expr} {kk : Nat} {tpos : Pos} {b : Bool} (a e it : Addr) (hea : e ≠ a) :
    Turn P w K (.Tuple elts kk tpos) (IteB K b a) [e, it] e (fun i h => (∃ old, IsEnum h e it ((i : Nat) : Int) old) ∧ IsIt b h it a i ∧ e ≠ it) where
  mem := by simp
  obj := fun i h st c hb => by
    obtain ⟨⟨old, he⟩, hi, _⟩ := st
    have e' : c = e ∨ c = it := by simpa using hb
    rcases e' with z | z
    · rw [z]; exact ⟨_, he, fun v q => nomatch q⟩
    · rw [z]; exact isIt_obj hi
  keep := fun i h h' st k => let ⟨⟨old, he⟩, hi, hne⟩ := st; ⟨⟨old, k e (by simp) _ he⟩, isIt_at hi fun o q => k it (by simp) o q, hne⟩
  item := by
    intro X hP hw hK hc i pins s σ H E I hf st hg
    subst hP hw hK
    obtain ⟨⟨old, he⟩, hit, hne⟩ := st
    obtain ⟨xs, x, hq, hx⟩ := hg
    obtain ⟨its, rv, p⟩ := inv_sq I hq
    obtain ⟨u, hu, ru⟩ := rv.get hx
    have hel : e < s.heap.objs.size := Heap.lt_size he
    have hil : it < s.heap.objs.size := isIt_lt hit
    have hh : X.A.in1.handled = none := I.ok.hd hc
    have D := drawsSq (prog := X.prog) (w := X.w) (A := X.A.in1) hh b it a (sqIt_ne p hit) its.toArray
    have l1 : i < its.toArray.size := by
      obtain ⟨l, _⟩ := List.getElem?_eq_some_iff.mp hu
      simpa using l
    refine wpAny_pyNext_enum_itemD D he ⟨hit, p⟩ l1 hne (by simp [hne, hea]) fun x' h' tk ex ho hit' hT hsz hk => ?_
    have ex : its[i]? = some x' := by simpa using ex
    rw [hu] at ex
    cases ex
    refine ⟨_, rfl, wpAny_letOwnedTupleGo_enum (s := { s with heap := h', toks := tk + 1 }) ho fun h'' he' sb => ?_⟩
    have hT2 : h''.get? s.heap.objs.size = some { cls := .type "tuple", data := .seq #[.int i tk, u] } := (sb.2 _ (Nat.ne_of_gt hel)).trans hT
    have new : ObjOk X.prog X.w (upd H s.heap.objs.size (.frz { cls := .type "tuple", data := .seq #[.int i tk, u] } (.tup [.int (i : Nat), x]))) h'' s.heap.objs.size (.frz { cls := .type "tuple", data := .seq #[.int i tk, u] } (.tup [.int (i : Nat), x])) :=
      ⟨hT2, by show 2 ≤ sizeLine; decide, [.int i tk, u], .cons ⟨_, rfl⟩ (.cons ru .nil), ⟨_, hT2, rfl, _, rfl⟩⟩
    have I1 : Inv X pins σ (upd H s.heap.objs.size (.frz { cls := .type "tuple", data := .seq #[.int i tk, u] } (.tup [.int (i : Nat), x]))) { s with heap := h'', toks := tk + 1 } :=
      I.turnedNew (ch := [e, it]) (fun b ob hb q => (sb.2 b (fun z => hb (by simp [z]))).trans (hk b ob (fun z => hb (by simp [z])) (fun z => hb (by simp [z])) q)) hf (Nat.le_refl _) new
    refine ⟨.ref s.heap.objs.size, _, I1, rfl, ⟨_, x, _, rfl, I.hok.fresh (Nat.le_refl _), rfl, rfl, fun ys hy => by rw [inv_inj I hy hq]; exact hx⟩, ⟨⟨u, ?_⟩, isIt_at hit'.1 fun o q => (sb.2 it (Ne.symm hne)).trans q, hne⟩, fun b hb => ?_⟩
    · have e1 : ((i + 1 : Nat) : Int) = (i : Int) + 1 := by omega
      rw [e1]; exact he'
    · have hb' : b < s.heap.objs.size := by
        have e' : b = e ∨ b = it := by simpa using hb
        rcases e' with z | z
        · rw [z]; exact hel
        · rw [z]; exact hil
      rw [upd_ne (Nat.ne_of_lt hb')]
      exact (hf b hb).1
  done := by
    intro X hP hw hK hc i pins s σ H E I hf st hg
    subst hP hw hK
    obtain ⟨⟨old, he⟩, hit, hne⟩ := st
    obtain ⟨xs, hq, hx⟩ := hg
    obtain ⟨its, rv, p⟩ := inv_sq I hq
    obtain ⟨f0, f1, f2, f3, f4, f5⟩ := hf it (by simp)
    have hl := rv.length
    have hh : X.A.in1.handled = none := I.ok.hd hc
    have D := drawsSq (prog := X.prog) (w := X.w) (A := X.A.in1) hh b it a (sqIt_ne p hit) its.toArray
    rw [List.size_toArray] at D
    have hi : i = its.length := by omega
    rw [← hi] at D
    exact wpAny_pyNext_enum_endD D he ⟨hit, p⟩ fun h' eb => ⟨rfl, I.turned (t' := s.toks) (fun b o hb q => eb b o hb q) f0 f1 f3 f4 f5⟩
  self := fun A i s Q E st h => let ⟨⟨_, he⟩, _⟩ := st; wpAny_pyIter_enum he h
section
variable {X : L2.Cx} {S : Sg} {e e2 : Expr} {es : List Expr} {elts : List Expr} {kk : Nat} {tpos p pos : Pos} {ta : TA}
theorem meets_enumerate_new1 {v : Value} {o : Obj} {H : Heap → Prop} (B : Begins v o H) :
    Meets (Builtin.«enumerate.__new__» ⟨[.type "enumerate", v], []⟩) (fun _ R s => H s.heap ∧
      R (.ok (.ret (.ref (s.heap.push o).objs.size))) { s with heap := (s.heap.push o).push { cls := .type "enumerate", data := .fields #[.none, .bool false, .ref s.heap.objs.size, rawInt 0, .none, .none] } }) :=
  .of_wp fun prog w A R s h => by
    obtain ⟨hp, g, d, tk, os⟩ := s; obtain ⟨h1, h⟩ := h
    have hsub := sub_enumerate
    have q1 : ∀ {A' : Around} {E : Value → Shared → Prop} {Q : Value → Shared → Prop}, Q (.ref hp.objs.size) ⟨hp.push o, g, d, tk, os⟩ → wpAny (model prog w) A' (pyIter v) Q E ⟨hp, g, d, tk, os⟩ :=
      fun q => B.iter prog w _ _ ⟨hp, g, d, tk, os⟩ _ h1 q
    wp_walk using q1
    refine wpAny_stack_any fun st => wpAny_pure ?_
    split
    · rename_i c _ _ _ _ _
      cases (c == Value.type "enumerate")
      · wp_walk using q1
        exact ⟨_, rfl, h⟩
      · wp_walk using q1
        exact ⟨_, rfl, h⟩
    · wp_walk using q1
      exact ⟨_, rfl, h⟩
def iEnuB (K : PySem.W.Frag) (ta : TA) : TI := fun σ H R => ta σ H fun vs H1 => ∃ a b xs, vs = [.ref a] ∧ SqB b K H1 a xs ∧ R (IteB K b a) H1
theorem enu_begins {prog : Program} {w : World} {A : Around} {E : Value → Shared → Prop} {s : Shared} {b : Bool} {a : Addr} {xs : Array Value} {Q : Value → Shared → Prop} (h1 : IsSq b s.heap a xs)
    (h : ∀ h', IsEnum h' (s.heap.objs.size + 1) s.heap.objs.size 0 .none → IsIt b h' s.heap.objs.size a 0 → h'.objs.size = s.heap.objs.size + 2 → (∀ b o, s.heap.get? b = some o → h'.get? b = some o) → Q (.ref (s.heap.objs.size + 1)) { s with heap := h' }) :
    wpAny (model prog w) A (call (.type "enumerate") [.ref a]) Q E s := by
  refine callType_new F.called_enumerate (by decide) (F.typeCall_enumerate_1 _) (F.newCall_enumerate_1 _) (fun obj => F.args_object_init_2 obj _) F.entry_enumerate_new
    (meets_enumerate_new1 (begSq b a xs)) ⟨h1, ?_⟩
  have hz : (s.heap.push (itO b a)).objs.size = s.heap.objs.size + 1 := Heap.size_push ..
  show _ ∧ _
  rw [hz]
  have he : IsEnum ((s.heap.push (itO b a)).push { cls := .type "enumerate", data := .fields #[.none, .bool false, .ref s.heap.objs.size, rawInt 0, .none, .none] }) (s.heap.objs.size + 1) s.heap.objs.size 0 .none := by
    have := Heap.get?_push_size (s.heap.push (itO b a)) (o := { cls := .type "enumerate", data := .fields #[.none, .bool false, .ref s.heap.objs.size, rawInt 0, .none, .none] }) rfl
    rw [hz] at this
    exact this
  exact ⟨⟨_, he, rfl⟩, h _ he (isIt_new (Heap.get?_push_of_some _ (Heap.get?_push_size _ (by cases b <;> rfl)))) (by rw [Heap.size_push, hz]) fun c o e => Heap.get?_push_of_some _ (Heap.get?_push_of_some _ e)⟩
theorem pi_enuB (hg : Gl X "enumerate") (hm : X.mg "enumerate" = none) (ha : PA X [e] ta) (hs : starEach [e] X.env = [(false, eval e X.env)]) :
    PI X (.Tuple elts kk tpos) (.Call (.Name "enumerate" p) [e] [] pos) (iEnuB X.K ta) := by
  refine ⟨fun pins s σ H R I h => ?_⟩
  refine Call_ (ld_blt I hg hm boot_enumerate (PyProof.Rows.callWith_type1 (thn (ha.run pos pins s σ H _ I h) fun us s1 ⟨vs, H1, I1, r1, q1⟩ => ?_) hs rfl))
  obtain ⟨a, b, xs, ex, hq, q⟩ := q1
  subst ex
  cases r1 with
  | cons r rr =>
    cases rr
    cases r
    obtain ⟨its, rv, p'⟩ := inv_sq I1 hq
    refine enu_begins p' fun h' he hit hsz hk => wpAny_pyIter_enum he ?_
    have I2 : Inv X pins σ H1 { s1 with heap := h' } := I1.kept (t' := s1.toks) hk
    have hl := isSq_lt p'
    refine ⟨s1.heap.objs.size + 1, [s1.heap.objs.size + 1, s1.heap.objs.size], _, _, H1, rfl, I2, turn_enuB a (s1.heap.objs.size + 1) s1.heap.objs.size (Nat.ne_of_gt (Nat.lt_succ_of_lt hl)), ⟨⟨.none, he⟩, hit, Nat.succ_ne_self _⟩, fun b hb => ?_, q⟩
    have e' : b = s1.heap.objs.size + 1 ∨ b = s1.heap.objs.size := by simpa using hb
    have hle : s1.heap.objs.size ≤ b := by
      rcases e' with z | z
      · rw [z]; exact Nat.le_add_right _ _
      · rw [z]; exact Nat.le_refl _
    exact I1.fpOk hle (I1.hok.fresh hle)
def iZipB (K : PySem.W.Frag) (st : Bool) (ta : TA) : TI := fun σ H R => ta σ H fun vs H1 => ∃ a b b1 b2 xs ys, vs = [.ref a, .ref b] ∧ SqB b1 K H1 a xs ∧ SqB b2 K H1 b ys ∧ R (ItzB K st b1 b2 a b) H1
theorem zip_end {st b1 b2 : Bool} {pins : List (Addr × Obj)} {s : Shared} {σ : L2.St} {H : Hp} {R : L2.It → Hp → Prop} {a b : Addr} {xs ys : List V} {h' : Heap} (I : Inv X pins σ H s) (hqx : SqB b1 X.K H a xs) (hqy : SqB b2 X.K H b ys)
    (hz : IsZipB st h' (s.heap.objs.size + 4) (s.heap.objs.size + 2) (s.heap.objs.size + 3) .none) (hTI : IsTupOf2 h' (s.heap.objs.size + 2) (.ref s.heap.objs.size) (.ref (s.heap.objs.size + 1)))
    (hTO : IsTupOf2 h' (s.heap.objs.size + 3) .none .none) (h1 : h'.get? s.heap.objs.size = some (itO b1 a)) (h2 : h'.get? (s.heap.objs.size + 1) = some (itO b2 b)) (hk : ∀ c o, s.heap.get? c = some o → h'.get? c = some o)
    (q : R (ItzB X.K st b1 b2 a b) H) : PIE X pins σ (.Tuple elts kk tpos) R (.ref (s.heap.objs.size + 4)) { s with heap := h' } := by
  have I2 : Inv X pins σ H { s with heap := h' } := I.kept (t' := s.toks) hk
  obtain ⟨its, rv, p1⟩ := inv_sq I hqx
  obtain ⟨its2, rv2, p2⟩ := inv_sq I hqy
  have la : a < s.heap.objs.size := isSq_lt p1
  have lb : b < s.heap.objs.size := isSq_lt p2
  have D : ZipSep2 (s.heap.objs.size + 4) (s.heap.objs.size + 2) (s.heap.objs.size + 3) s.heap.objs.size (s.heap.objs.size + 1) [s.heap.objs.size, a] [s.heap.objs.size + 1, b] := by
    revert la lb
    generalize s.heap.objs.size = n
    intro la lb
    have la : @LT.lt Nat instLTNat a n := la
    have lb : @LT.lt Nat instLTNat b n := lb
    exact zipSep ⟨fun e => by have e' : (n+4 : Nat) = n+2 := e; omega, fun e => by have e' : (n+4 : Nat) = n+3 := e; omega, fun e => by have e' : (n+4 : Nat) = n := e; omega, fun e => by have e' : (n+4 : Nat) = n+1 := e; omega, fun e => by have e' : (n+2 : Nat) = n+3 := e; omega, fun e => by have e' : (n+2 : Nat) = n := e; omega, fun e => by have e' : (n+2 : Nat) = n+1 := e; omega, fun e => by have e' : (n+3 : Nat) = n := e; omega, fun e => by have e' : (n+3 : Nat) = n+1 := e; omega, fun e => by have e' : (n : Nat) = n+1 := e; omega, fun e => by have e' : (n+4 : Nat) = a := e; omega, fun e => by have e' : (n+4 : Nat) = b := e; omega, fun e => by have e' : (n+3 : Nat) = a := e; omega, fun e => by have e' : (n+3 : Nat) = b := e; omega, fun e => by have e' : (n : Nat) = b := e; omega, fun e => by have e' : (n+1 : Nat) = a := e; omega⟩
  refine ⟨s.heap.objs.size + 4, [s.heap.objs.size + 4, s.heap.objs.size + 2, s.heap.objs.size + 3, s.heap.objs.size, s.heap.objs.size + 1], _, _, H, rfl, I2, turn_zipB D, ⟨hz, hTI, ⟨_, _, hTO⟩, isIt_new h1, isIt_new h2⟩, fun c hcm => ?_, q⟩
  have e' : c = s.heap.objs.size + 4 ∨ c = s.heap.objs.size + 2 ∨ c = s.heap.objs.size + 3 ∨ c = s.heap.objs.size ∨ c = s.heap.objs.size + 1 := by simpa using hcm
  have hle : s.heap.objs.size ≤ c := by
    rcases e' with z | z | z | z | z
    · rw [z]; exact Nat.le_add_right _ _
    · rw [z]; exact Nat.le_add_right _ _
    · rw [z]; exact Nat.le_add_right _ _
    · rw [z]; exact Nat.le_refl _
    · rw [z]; exact Nat.le_add_right _ _
  exact I.fpOk hle (I.hok.fresh hle)
theorem pi_zipB (hg : Gl X "zip") (hm : X.mg "zip" = none) (ha : PA X [e, e2] ta)
    (hs : starEach [e, e2] X.env = (false, eval e X.env) :: starEach [e2] X.env) (hpl : (backTo pos (starEach [e2] X.env)).any (·.1) = false) :
    PI X (.Tuple elts kk tpos) (.Call (.Name "zip" p) [e, e2] [] pos) (iZipB X.K false ta) := by
  refine ⟨fun pins s σ H R I h => ?_⟩
  refine Call_ (ld_blt I hg hm PyProof.Rows.boot_zip (PyProof.Rows.callWith_type1 (thn (ha.run pos pins s σ H _ I h) fun us s1 ⟨vs, H1, I1, r1, q1⟩ => ?_) hs hpl))
  obtain ⟨a, b, b1, b2, xs, ys, ex, hqx, hqy, q⟩ := q1
  subst ex
  cases r1 with
  | cons r rr =>
    cases rr with
    | cons r' rr =>
      cases rr
      cases r
      cases r'
      obtain ⟨its, rv, p1⟩ := inv_sq I1 hqx
      obtain ⟨its2, rv2, p2⟩ := inv_sq I1 hqy
      exact zip_begins2 (begSq b1 a its.toArray) (begSq b2 b its2.toArray) p1 p2 fun h' hz hTI hTO h1 h2 hsz hk => wpAny_pyIter_zip hz (zip_end (st := false) I1 hqx hqy hz hTI hTO h1 h2 hk q)
theorem callWith_typeKw {M : Model} {A : Around} {E : Value → Shared → Prop} {s : Shared} {pos : Pos} {T : String} {first : List Value} {args : List (Bool × Sem Value)} {keywords : List (Option Str × Sem Value)} {Q : Value → Shared → Prop}
    (hplain : args.any (·.1) = false) (hkw : keywords.any (·.1.isNone) = false)
    (h : wpAny M A (evalArgs (.type T) true args keywords) (fun a s₁ => wpAny M A (call (.type T) (first ++ a.pos) a.kw) Q E s₁) E s) :
    wpAny M A (callWith pos (.type T) first args keywords) Q E s := by
  unfold callWith
  refine wpAny_bind (wpAny_holding (wpAny_mono h (fun a s₁ h₁ => wpAny_bind (wpAny_standAt ?_)) fun _ _ x => x))
  simp only [hplain, hkw, Bool.or_false]
  refine wpAny_bind (wpAny_pure ?_)
  exact wpAny_bind (wpAny_mono h₁ (fun r s₂ hr => wpAny_bind (wpAny_holding (wpAny_point (wpAny_pure hr)))) fun _ _ x => x)
theorem pi_zipS {kz : Nat} {kp kcp : Pos} (hg : Gl X "zip") (hm : X.mg "zip" = none) (ha : PA X [e, e2] ta)
    (hs : starEach [e, e2] X.env = (false, eval e X.env) :: starEach [e2] X.env) (hpl : (backTo pos (starEach [e2] X.env)).any (·.1) = false) :
    PI X (.Tuple elts kk tpos) (.Call (.Name "zip" p) [e, e2] [⟨some "strict", .Constant (.bool true) kz kcp, kp⟩] pos) (iZipB X.K true ta) := by
  refine ⟨fun pins s σ H R I h => ?_⟩
  refine wpAny_Call_Name_kw (ld_blt I hg hm PyProof.Rows.boot_zip ?_)
  have hpl2 : (backTo pos (starEach [e, e2] X.env)).any (·.1) = false := by
    rw [hs]
    show (false || (backTo pos (starEach [e2] X.env)).any (·.1)) = false
    rw [hpl]
    rfl
  refine callWith_typeKw hpl2 rfl ?_
  rw [hs]
  refine PyProof.Rows.evalArgs_kwB (rest := backTo pos (starEach [e2] X.env)) rfl ?_
  have hrun := ha.run pos pins s σ H _ I h
  rw [hs] at hrun
  refine thn hrun fun us s1 ⟨vs, H1, I1, r1, q1⟩ => ?_
  obtain ⟨a, b, b1, b2, xs, ys, ex, hqx, hqy, q⟩ := q1
  subst ex
  cases r1 with
  | cons r rr =>
    cases rr with
    | cons r' rr =>
      cases rr
      cases r
      cases r'
      refine PyProof.Rows.kws_cons (Constant_bool (PyProof.Rows.kws_nil ?_))
      obtain ⟨its, rv, p1⟩ := inv_sq I1 hqx
      obtain ⟨its2, rv2, p2⟩ := inv_sq I1 hqy
      exact zip_beginsS (begSq b1 a its.toArray) (begSq b2 b its2.toArray) p1 p2 fun h' hz hTI hTO h1 h2 hsz hk => pyIter_zipS hz (zip_end (st := true) I1 hqx hqy hz hTI hTO h1 h2 hk q)
end
/-! ### the rules -/
def isLst : Val → Bool
  | .lst _ => true
  | _ => false
theorem RepD.seqB {K : PySem.W.Frag} {al : Al} {H : Hp} {u : V} {v : Val} {xs : List Val} (h : RepD K al H u v) (e : seqOf v = some xs) : ∃ a us, u = .ref a ∧ SqB (isLst v) K H a us ∧ RepL K al H us xs := by
  cases v <;> simp only [seqOf, Option.some.injEq, reduceCtorEq] at e
  · subst e
    obtain ⟨a, us, rfl, h1, h2⟩ := h.tuple
    exact ⟨a, us, rfl, h1, h2⟩
  · subst e
    obtain ⟨a, us, rfl, h1, h2⟩ := h.list
    exact ⟨a, us, rfl, .of h1, h2⟩
theorem enuL_get : ∀ (xs : List Val) (n : Int) (i : Nat) (z : Val), (enuL n xs)[i]? = some z → ∃ x, xs[i]? = some x ∧ z = .tup [.int (n + i), x]
  | [], _, _, _, h => by simp [enuL] at h
  | x :: xs, n, 0, z, h => by simp [enuL] at h; exact ⟨x, rfl, by simp [h]⟩
  | x :: xs, n, i + 1, z, h => by
    simp only [enuL, List.getElem?_cons_succ] at h ⊢
    obtain ⟨y, h1, h2⟩ := enuL_get xs (n + 1) i z h
    refine ⟨y, h1, ?_⟩
    rw [h2]
    congr 3
    omega
theorem enuL_length : ∀ (xs : List Val) (n : Int), (enuL n xs).length = xs.length
  | [], _ => rfl
  | x :: xs, n => by simp only [enuL, List.length_cons, enuL_length xs]
section
variable {X : L2.Cx} {S : Sg} {a b : Expr} {elts : List Expr} {kk : Nat} {tpos p pos : Pos} {f1 f2 : Bool} {fa fb : Env → M → R Val}
theorem walk_zipB {al : Al} {H : Hp} {m : M} {st b1 b2 : Bool} {a b : Addr} {xs ys : List Val} {w : List Nat} (h0 : stands m m w = true) (hst : st = true → xs.length = ys.length)
    (hx : ∀ al' m' H', Ext al al' H H' → Rl S.K S.bs al' m' H' → stands m m' w = true → ∃ us ws, SqB b1 S.K H' a us ∧ SqB b2 S.K H' b ws ∧ RepL S.K al' H' us xs ∧ RepL S.K al' H' ws ys) :
    WalkR S al H m (ItzB S.K st b1 b2 a b) (zipL xs ys) w := by
  refine ⟨h0, ?_⟩
  intro al' m' H' i x rl' st'
  obtain ⟨us, ws, h1, h2, r1, r2⟩ := hx al' m' H' x rl' st'
  refine ⟨fun z hz => ?_, fun hi => ?_⟩
  · obtain ⟨x, y, e1, e2, rfl⟩ := zipL_get xs ys i z hz
    obtain ⟨u, g1, q1⟩ := r1.get e1
    obtain ⟨t, g2, q2⟩ := r2.get e2
    refine ⟨⟨us, ws, u, t, h1, h2, g1, g2⟩, fun v H2 hy => ?_⟩
    obtain ⟨T, u', t', ob, rfl, nT, nd, rfl, k1, k2⟩ := hy
    have z1 := (k1 us h1).symm.trans g1
    have z2 := (k2 ws h2).symm.trans g2
    cases z1
    cases z2
    have sm : Same H' (upd H' T (.frz ob (.tup [u, t]))) := same_upd nT
    exact ⟨sm, .tup (.new nd) ((RepL.cons q1 (.cons q2 .nil)).ext (.of_same sm) _ _)⟩
  · rw [zipL_length] at hi
    have l1 := r1.length
    have l2 := r2.length
    exact ⟨us, ws, h1, h2, by omega, by omega, by omega, fun h => by have := hst h; omega⟩
theorem walk_enuB {al : Al} {H : Hp} {m : M} {b : Bool} {a : Addr} {xs : List Val} {w : List Nat} (h0 : stands m m w = true)
    (hx : ∀ al' m' H', Ext al al' H H' → Rl S.K S.bs al' m' H' → stands m m' w = true → ∃ us, SqB b S.K H' a us ∧ RepL S.K al' H' us xs) :
    WalkR S al H m (IteB S.K b a) (enuL 0 xs) w := by
  refine ⟨h0, ?_⟩
  intro al' m' H' i x rl' st'
  obtain ⟨us, h1, r1⟩ := hx al' m' H' x rl' st'
  refine ⟨fun z hz => ?_, fun hi => ?_⟩
  · obtain ⟨x, e1, rfl⟩ := enuL_get xs 0 i z hz
    obtain ⟨u, g1, q1⟩ := r1.get e1
    refine ⟨⟨us, u, h1, g1⟩, fun v H2 hy => ?_⟩
    obtain ⟨T, u', ob, rfl, nT, nd, rfl, k1⟩ := hy
    have z1 := (k1 us h1).symm.trans g1
    cases z1
    have sm : Same H' (upd H' T (.frz ob (.tup [.int (i : Nat), u]))) := same_upd nT
    refine ⟨sm, .tup (.new nd) ?_⟩
    have e0 : (0 : Int) + (i : Int) = ((i : Nat) : Int) := by omega
    rw [e0]
    exact (RepL.cons (.int _) (.cons q1 .nil)).ext (.of_same sm) _ _
  · rw [enuL_length] at hi
    exact ⟨us, h1, by rw [r1.length]; exact hi.symm⟩
theorem zip_imp {st : Bool} (hK : X.K = S.K) {σ : L2.St} {H : Hp} {Rq : L2.It → Hp → Prop}
    (h : tI S (fun r m => (fa r m).bind fun x m => (fb r m).bind fun y m => (opt (zipOf st (dr m x) (dr m y)) m).bind fun zs m => .ok (zs, watch x ++ watch y) m) σ H Rq) :
    iZipB X.K st (tCons (tE S f1 fa) (tCons (tE S f2 fb) tNil)) σ H Rq := by
  obtain ⟨r, m, al, re, rl, q⟩ := h
  refine ⟨r, m, al, re, rl, (Post.seqE q).mono ?_⟩
  rintro u H1 ⟨x, m1, al1, ea, x1, rl1, q1, p1⟩
  refine ⟨r, m1, al1, re.ext x1, rl1, (Post.seqE p1).mono ?_⟩
  rintro w H2 ⟨y, m2, al2, eb, x2, rl2, q2, p2⟩
  cases ez : zipOf st (dr m2 x) (dr m2 y) with
  | none => rw [ez] at p2; exact p2.elim
  | some zs =>
    rw [ez] at p2
    unfold zipOf at ez
    simp only [Option.bind_eq_some_iff] at ez
    obtain ⟨xs, e1, ys, e2, e3⟩ := ez
    split at e3
    · rename_i hst
      cases e3
      obtain ⟨a', us, rfl, ha', ra⟩ := (RepD.dr (q1.1.ext x2 _ _) rl2).seqB e1
      obtain ⟨b', ws, rfl, hb', rb⟩ := (RepD.dr q2.1 rl2).seqB e2
      refine ⟨a', b', _, _, us, ws, rfl, hK ▸ ha', hK ▸ hb', ?_⟩
      refine Post.done (v := (zipL xs ys, watch x ++ watch y)) p2 rl2 ?_
      rw [hK]
      refine walk_zipB ?_ (fun h => ?_) ?_
      · rw [stands_append, watch_self (q1.1.ext x2 _ _) rl2, watch_self q2.1 rl2, Bool.and_self]
      · rw [h] at hst
        simpa using hst
      · intro al' m' H' x' rl' st
        rw [stands_append, Bool.and_eq_true] at st
        obtain ⟨a2, us2, e4, h1, k1⟩ := (later (q1.1.ext x2 _ _) rl2 x' rl' st.1).seqB e1
        obtain ⟨b2, ws2, e5, h2, k2⟩ := (later q2.1 rl2 x' rl' st.2).seqB e2
        cases e4
        cases e5
        exact ⟨us2, ws2, h1, h2, k1, k2⟩
    · cases e3
theorem mi_zip (hK : X.K = S.K) (hg : Gl X "zip") (hm : X.mg "zip" = none) (ha : PE X a (tE S f1 fa)) (hb : PE X b (tE S f2 fb))
    (hs : starEach [a, b] X.env = (false, eval a X.env) :: starEach [b] X.env) (hs2 : starEach [b] X.env = (false, eval b X.env) :: starEach [] X.env) (hpl : (backTo pos (starEach [b] X.env)).any (·.1) = false) :
    PI X (.Tuple elts kk tpos) (.Call (.Name "zip" p) [a, b] [] pos) (tI S fun r m => (fa r m).bind fun x m => (fb r m).bind fun y m => (opt (zipOf false (dr m x) (dr m y)) m).bind fun zs m => .ok (zs, watch x ++ watch y) m) :=
  ⟨fun pins s σ H Rq I h => (pi_zipB hg hm (pa_cons ha (pa_cons hb pa_nil hs2) hs) hs hpl).run pins s σ H Rq I (zip_imp hK h)⟩
theorem mi_zipS {kz : Nat} {kp kcp : Pos} (hK : X.K = S.K) (hg : Gl X "zip") (hm : X.mg "zip" = none) (ha : PE X a (tE S f1 fa)) (hb : PE X b (tE S f2 fb))
    (hs : starEach [a, b] X.env = (false, eval a X.env) :: starEach [b] X.env) (hs2 : starEach [b] X.env = (false, eval b X.env) :: starEach [] X.env) (hpl : (backTo pos (starEach [b] X.env)).any (·.1) = false) :
    PI X (.Tuple elts kk tpos) (.Call (.Name "zip" p) [a, b] [⟨some "strict", .Constant (.bool true) kz kcp, kp⟩] pos) (tI S fun r m => (fa r m).bind fun x m => (fb r m).bind fun y m => (opt (zipOf true (dr m x) (dr m y)) m).bind fun zs m => .ok (zs, watch x ++ watch y) m) :=
  ⟨fun pins s σ H Rq I h => (pi_zipS hg hm (pa_cons ha (pa_cons hb pa_nil hs2) hs) hs hpl).run pins s σ H Rq I (zip_imp hK h)⟩
theorem mi_enu (hK : X.K = S.K) (hg : Gl X "enumerate") (hm : X.mg "enumerate" = none) (ha : PE X a (tE S f1 fa)) (hs : starEach [a] X.env = [(false, eval a X.env)]) :
    PI X (.Tuple elts kk tpos) (.Call (.Name "enumerate" p) [a] [] pos) (tI S fun r m => (fa r m).bind fun x m => (opt (seqOf (dr m x)) m).bind fun xs m => .ok (enuL 0 xs, watch x) m) := by
  refine ⟨fun pins s σ H Rq I ⟨r, m, al, re, rl, q⟩ => (pi_enuB hg hm (pa_cons ha pa_nil (by rw [hs]; rfl)) hs).run pins s σ H Rq I ?_⟩
  refine ⟨r, m, al, re, rl, (Post.seqE q).mono ?_⟩
  rintro u H1 ⟨x, m1, al1, ea, x1, rl1, q1, p1⟩
  cases ez : seqOf (dr m1 x) with
  | none => rw [ez] at p1; exact p1.elim
  | some xs =>
    rw [ez] at p1
    obtain ⟨a', us, rfl, ha', ra⟩ := (RepD.dr q1.1 rl1).seqB ez
    refine ⟨a', _, us, rfl, hK ▸ ha', ?_⟩
    refine Post.done (v := (enuL 0 xs, watch x)) p1 rl1 ?_
    rw [hK]
    refine walk_enuB (watch_self q1.1 rl1) ?_
    intro al' m' H' x' rl' st
    obtain ⟨a2, us2, e4, h1, k1⟩ := (later q1.1 rl1 x' rl' st).seqB ez
    cases e4
    exact ⟨us2, h1, k1⟩
end
end MP
set_option Elab.async false
set_option linter.all false
set_option maxRecDepth 100000
set_option maxHeartbeats 1000000
/-! MPLoop2: for, while, comprehensions. -/
namespace MP
open PySem PySem.Spec PyProof.Rows L2
section
variable {X : L2.Cx} {S : Sg} {iter tge c : Expr} {body : List Stmt} {tg : Tg} {gi : Env → M → R (List Val × List Nat)} {gs : Env → M → Rs} {gc : Env → M → R Bool} {pos : Pos}
theorem ms_for (hp : PassesOwn (model X.prog X.w) X.A X.env X.xe) (hc : X.calm = true) (hi : PI X tge iter (tI S gi)) (hg : PG X tge (tG S tg)) (hb : PSs X body (tS S gs)) (hs : ∀ x, foldedSetIterable iter X.env x = pure x) :
    PS X (.For tge iter body [] pos) (tS S fun r m => (gi r m).thn r fun p m0 => loopL (fun v r m => match bindT tg v r with
      | some r => gs r m
      | none => .stuck) (fun m => stands m0 m p.2) p.1 r m0) := by
  refine ps_imp (ps_for hp hc hi hg hb hs) fun D s H ⟨r, m, al, re, rl, p⟩ => ?_
  refine ⟨r, m, al, re, rl, (p.thn re).mono ?_⟩
  rintro J H1 ⟨⟨xs, w⟩, m0, al0, x0, rl0, ⟨w0, wk⟩, p0⟩
  refine ⟨fun i n s H => ∃ r m al, i + n = xs.length ∧ RE S.K al H s r ∧ Rl S.K S.bs al m H ∧ Ext al0 al H1 H ∧ stands m0 m w = true ∧ PostS S al H D (loopL (fun v r m => match bindT tg v r with
      | some r => gs r m
      | none => .stuck) (fun m => stands m0 m w) (xs.drop i) r m), ⟨xs.length, r, m0, al0, by omega, re.ext x0, rl0, .refl _ _, w0, p0⟩, ?_⟩
  rintro i n s1 H2 ⟨r1, m1, al1, hn, re1, rl1, x1, st1, p1⟩
  obtain ⟨k1, k2⟩ := wk al1 m1 H2 i x1 rl1 st1
  cases e : xs.drop i with
  | nil =>
    rw [e] at p1
    have hl : xs.length ≤ i := by
      have := congrArg List.length e
      simp at this
      omega
    exact .inl ⟨k2 (show xs.length = i by omega), p1 s1 H2 al1 (.refl _ _) rl1 re1⟩
  | cons v vs =>
    rw [e] at p1
    have e1 : xs[i]? = some v := by
      have := congrArg (fun l => l[0]?) e
      simpa using this
    have e2 : xs.drop (i + 1) = vs := by
      have := congrArg (List.drop 1) e
      simpa using this
    obtain ⟨k3, k4⟩ := k1 v e1
    refine .inr ⟨k3, fun s H => ∃ n', n' < n ∧ ∃ r m al, i + 1 + n' = xs.length ∧ RE S.K al H s r ∧ Rl S.K S.bs al m H ∧ Ext al0 al H1 H ∧ stands m0 m w = true ∧ PostS S al H D (loopL (fun v r m => match bindT tg v r with
      | some r => gs r m
      | none => .stuck) (fun m => stands m0 m w) (xs.drop (i + 1)) r m), fun s' H' h => h, fun u H3 hy => ?_⟩
    obtain ⟨sm, rp⟩ := k4 u H3 hy
    have p1 : PostS S al1 H2 D ((match bindT tg v r1 with
      | some r => gs r m1
      | none => .stuck).bind fun r m => if stands m0 m w then loopL _ _ vs r m else .stuck) := p1
    cases eb : bindT tg v r1 with
    | none => rw [eb] at p1; exact p1.elim
    | some r2 =>
      rw [eb] at p1
      refine ⟨r1, al1, v, r2, re1.ext (.of_same sm), .of rp, fun _ _ => rp, eb, fun s2 re2 _ => ?_⟩
      have hlt : i < xs.length := (List.getElem?_eq_some_iff.mp e1).1
      refine ⟨r2, m1, al1, re2, rl1.ext sm, PostS.seq' (PostS.shift (.of_same sm) p1) rfl ?_⟩
      intro s' H' r' m' al' x' rl' re' p3
      have xx : Ext al0 al' H1 H' := x1.trans ((Ext.of_same sm).trans x')
      cases es : stands m0 m' w with
      | false => rw [es] at p3; exact p3.elim
      | true =>
        rw [es] at p3
        exact ⟨xs.length - (i + 1), by omega, r', m', al', by omega, re', rl', xx, es, e2.symm ▸ p3⟩
theorem ms_while (hp : PassesOwn (model X.prog X.w) X.A X.env X.xe) (hc : PT X c (tBl S gc)) (hb : PSs X body (tS S gs)) : PS X (.While c body [] pos) (tS S fun r m => loopW gc gs WF r m) := by
  refine ps_imp (ps_while hp hc hb) fun D s H ⟨r, m, al, re, rl, p⟩ => ?_
  refine ⟨fun n s H => ∃ r m al, RE S.K al H s r ∧ Rl S.K S.bs al m H ∧ PostS S al H D (loopW gc gs n r m), ⟨WF, r, m, al, re, rl, p⟩, ?_⟩
  rintro n s1 H1 ⟨r1, m1, al1, re1, rl1, p1⟩
  cases n with
  | zero => exact p1.elim
  | succ n =>
    have p1 : PostS S al1 H1 D ((gc r1 m1).thn r1 fun k m => if k then (gs r1 m).bind fun r m => loopW gc gs n r m else .nxt r1 m) := p1
    refine ⟨r1, m1, al1, re1, rl1, (p1.thn re1).mono ?_⟩
    rintro b H2 ⟨v, m2, al2, x2, rl2, rfl, p2⟩
    cases b with
    | false => exact p2 s1 H2 al2 (.refl _ _) rl2 (re1.ext x2)
    | true =>
      rw [if_pos rfl] at p2
      refine ⟨tS S (fun r m => loopW gc gs n r m) D, fun s' H' ⟨r', m', al', h1, h2, h3⟩ => ⟨n, by omega, r', m', al', h1, h2, h3⟩, ?_⟩
      have p3 := PostS.seq p2
      exact ⟨r1, m2, al2, re1.ext x2, rl2, p3⟩
end
end MP
set_option Elab.async false
set_option linter.all false
set_option maxRecDepth 100000
set_option maxHeartbeats 1000000
/-! MPComp: list comprehensions. -/
namespace MP
open PySem PySem.Spec PyProof.Rows L2
/-- within a block no exception is served -/
abbrev Sg.inn (S : Sg) : Sg := { S with W := fun _ _ _ _ => False }
theorem Post.innE {S : Sg} {g g2 b b2 : Type} {rel : Al → Hp → g → b → M → Prop} {rel2 : Al → Hp → g2 → b2 → M → Prop} {al0 al : Al} {H1 H : Hp} {s s' : L2.St} {Q2 : g2 → Hp → Prop} {r : R b} {k : b → M → R b2} (h : Post S rel2 al0 H1 s Q2 (r.nox.bind k)) :
    Post S.inn rel al H s' (fun u H' => ∃ v m1 al1, r = .ok v m1 ∧ Ext al al1 H H' ∧ Rl S.K S.bs al1 m1 H' ∧ rel al1 H' u v m1 ∧ Post S rel2 al0 H1 s Q2 (k v m1)) r := by
  cases r with
  | ok v m' => exact fun u H' al' x rl q => ⟨v, m', al', rfl, x, rl, q, h⟩
  | exc c fs m' => exact h.elim
  | stuck => exact h.elim
def turnF (tg : Tg) (own : List Nat) (gk : Env → M → R Bool) (fe : Env → M → R Val) (r : Env) : Val → M → R (Option Val) := fun v m => match bindT tg v (wipeE r own) with
  | none => .stuck
  | some r1 => (gk r1 m).nox.bind fun k m => if k then (fe r1 m).nox.bind fun y m => .ok (some y) m else .ok none m
def compF (gi : Env → M → R (List Val × List Nat)) (tg : Tg) (own : List Nat) (gk : Env → M → R Bool) (fe : Env → M → R Val) : Env → M → R Val := fun r m => (gi r m).bind fun p m0 =>
  (compL (turnF tg own gk fe r) (fun m => stands m0 m p.2) [] p.1 m0).bind fun vs m => .ok (.lst vs) m
theorem lc_imp {S : Sg} {gi : Env → M → R (List Val × List Nat)} {tg : Tg} {own : List Nat} {gk : Env → M → R Bool} {fr : Bool} {fe : Env → M → R Val} (ho : ∀ i ∈ tg.slots, i ∈ own) (s : L2.St) (H : Hp) (Q : VK) (h : tE S true (compF gi tg own gk fe) s H Q) :
    tLc (tI S gi) (tG S.inn tg) (tBl S.inn gk) (tE S.inn fr fe) own s H Q := by
  obtain ⟨r, m, al, re, rl, p⟩ := h
  refine ⟨r, m, al, re, rl, (Post.seq p).mono ?_⟩
  rintro J H1 ⟨⟨xs, w⟩, m0, al0, x0, rl0, ⟨w0, wk⟩, p0⟩
  intro D hD
  let G : List Val → List Val → M → R Val := fun acc vs m => (compL (turnF tg own gk fe r) (fun m => stands m0 m w) acc vs m).bind fun vs m => .ok (.lst vs) m
  let IV : Nat → Nat → Hp → Prop := fun i n H2 => ∃ m alh hs acc us, i + n = xs.length ∧ alh.h = hs ++ D :: al0.h ∧ D ∉ hs ∧ RE S.K alh H2 s r ∧ Rl S.K S.bs alh m H2 ∧ Ext al0 alh H1 H2 ∧ stands m0 m w = true ∧
    H2 D = some (.lst us) ∧ RepL S.K alh H2 us acc ∧ acc.length ≤ LINE ∧ Post S (relV S true H) al0 H1 s Q (G acc (xs.drop i) m)
  have hD0 : D ∉ al0.h := fun h => rl0.hid D h hD
  refine ⟨IV, ⟨xs.length, m0, al0.hide D, [], [], [], by omega, rfl, by simp, ((re.ext x0).hide hD).ext (.of_same (same_upd hD)), rl0.hide hD [], .hideX hD, w0, upd_same, .nil, by simp, p0⟩, ?_⟩
  rintro i n H2 ⟨m1, alh, hs, acc, us, hn, eh, nD, re1, rl1, x1, st1, hD2, ra, hl, p1⟩
  obtain ⟨k1, k2⟩ := wk alh m1 H2 i x1 rl1 st1
  have hDm : D ∈ alh.h := by rw [eh]; simp
  have hDc : D ∉ alh.c := fun z => rl1.dis D z hDm
  cases e : xs.drop i with
  | nil =>
    rw [e] at p1
    have hli : xs.length ≤ i := by
      have := congrArg List.length e
      simp at this
      omega
    refine .inl ⟨k2 (show xs.length = i by omega), ?_⟩
    have p1 : Post S (relV S true H) al0 H1 s Q (.ok (.lst acc) m1) := p1
    have hsub : ∀ a ∈ hs ++ al0.h, a ∈ alh.h := fun a ha => by
      rw [eh]
      simp only [List.mem_append, List.mem_cons] at ha ⊢
      exact ha.imp id .inr
    have rl2 : Rl S.K S.bs ⟨alh.c, hs ++ al0.h⟩ m1 H2 := rl1.unhid rfl hsub
    have sb : Sub alh.c.length alh ⟨alh.c, hs ++ al0.h⟩ := .by (fun _ _ => rfl) (fun _ h => h) hsub
    refine p1 (.ref D) H2 ⟨alh.c, hs ++ al0.h⟩ ⟨?_, x1.keep, x1.dom⟩ rl2 ⟨.lst hD2 ⟨hDc, fun z => ?_⟩ (ra.low sb _ _ (RepL.lt _ _ ra)), fun _ xs' ex => ?_⟩
    · obtain ⟨be, hs', e1, h1, h2⟩ := x1.more
      refine ⟨be, hs, ?_, h1, fun p hp => ?_⟩
      · rw [e1]
      · have e2 : alh.h = hs' ++ al0.h := by rw [e1]
        have e3 : hs' ++ al0.h = (hs ++ [D]) ++ al0.h := by rw [← e2, eh]; simp
        have e4 := List.append_cancel_right e3
        exact h2 p (by rw [e4]; simp [hp])
    · rcases List.mem_append.mp z with z | z
      · exact nD z
      · exact hD0 z
    · cases ex
      exact ⟨D, rfl, x0.dom D hD, rl1.adopt eh nD hD0 hD2 ra⟩
  | cons v vs =>
    rw [e] at p1
    have e1 : xs[i]? = some v := by
      have := congrArg (fun l => l[0]?) e
      simpa using this
    have e2 : xs.drop (i + 1) = vs := by
      have := congrArg (List.drop 1) e
      simpa using this
    have hlt : i < xs.length := (List.getElem?_eq_some_iff.mp e1).1
    obtain ⟨k3, k4⟩ := k1 v e1
    refine .inr ⟨k3, fun H => ∃ n', n' < n ∧ IV (i + 1) n' H, fun H' h => h, fun u H3 hy => ?_⟩
    obtain ⟨sm, rp⟩ := k4 u H3 hy
    have p1 : Post S (relV S true H) al0 H1 s Q (((turnF tg own gk fe r v m1).bind fun o m => if stands m0 m w then (match o with
      | some y => if acc.length < LINE then compL (turnF tg own gk fe r) (fun m => stands m0 m w) (acc ++ [y]) vs m else .stuck
      | none => compL (turnF tg own gk fe r) (fun m => stands m0 m w) acc vs m) else .stuck).bind fun vs m => .ok (.lst vs) m) := p1
    cases eb : bindT tg v (wipeE r own) with
    | none =>
      have et : turnF tg own gk fe r v m1 = .stuck := by unfold turnF; rw [eb]
      rw [et] at p1
      exact p1.elim
    | some r1 =>
      have et : turnF tg own gk fe r v m1 = (gk r1 m1).nox.bind fun k m => if k then (fe r1 m).nox.bind fun y m => .ok (some y) m else .ok none m := by
        unfold turnF
        rw [eb]
      rw [et] at p1
      have xs0 : Ext alh alh H2 H3 := .of_same sm
      refine ⟨wipeE r own, alh, v, r1, (re1.ext xs0).wipe own, .of rp, fun _ _ => rp, eb, fun s2 re2 fr2 => ⟨?_, ?_⟩⟩
      · have := fr2.wipe ho
        rw [this]
        refine List.ext_getElem? fun j => ?_
        by_cases hj : j ∈ own
        · by_cases hjl : j < s.length
          · rw [wipe_in hj (by rw [wipe_length]; exact hjl), wipe_in hj hjl]
          · rw [List.getElem?_eq_none (by rw [wipe_length, wipe_length]; omega), List.getElem?_eq_none (by rw [wipe_length]; omega)]
        · rw [wipe_out hj]
      · have p2 : Post S (relV S true H) al0 H1 s Q ((gk r1 m1).nox.bind fun k m => (if k then (fe r1 m).nox.bind fun y m => .ok (some y) m else .ok none m).bind fun o m => (if stands m0 m w then (match o with
            | some y => if acc.length < LINE then compL (turnF tg own gk fe r) (fun m => stands m0 m w) (acc ++ [y]) vs m else .stuck
            | none => compL (turnF tg own gk fe r) (fun m => stands m0 m w) acc vs m) else .stuck).bind fun vs m => .ok (.lst vs) m) := by
          revert p1
          cases gk r1 m1 with
          | ok k m' =>
            intro p1
            show Post _ _ _ _ _ _ ((if k then (fe r1 m').nox.bind fun y m => .ok (some y) m else .ok none m').bind _)
            have p1 : Post S (relV S true H) al0 H1 s Q (((if k then (fe r1 m').nox.bind fun y m => .ok (some y) m else .ok none m').bind _).bind _) := p1
            revert p1
            cases (if k then (fe r1 m').nox.bind fun y m => R.ok (some y) m else .ok none m') with
            | ok o m2 => exact fun h => h
            | exc c fs m2 => exact fun h => h
            | stuck => exact fun h => h
          | exc c fs m' => exact fun h => h
          | stuck => exact fun h => h
        refine ⟨r1, m1, alh, re2, rl1.ext sm, (Post.innE (al := alh) (H := H3) p2).mono ?_⟩
        rintro b H4 ⟨k, m2, al2, _, x2, rl2, rfl, p3⟩
        have z2 : Ext alh al2 H2 H4 := xs0.trans x2
        have grow : ∀ {al' : Al} {H' : Hp}, Ext alh al' H2 H' → H' D = some (.lst us) ∧ ∃ hs', al'.h = hs' ++ D :: al0.h ∧ D ∉ hs' := fun {al' H'} z => by
          refine ⟨z.keep D _ hD2 (.inl hDc), ?_⟩
          obtain ⟨be, hs', e3, _, h3⟩ := z.more
          refine ⟨hs' ++ hs, by rw [e3]; show hs' ++ alh.h = _; rw [eh]; simp, fun hm => ?_⟩
          rcases List.mem_append.mp hm with hm | hm
          · have := h3 D hm
            rw [hD2] at this
            cases this
          · exact nD hm
        cases b with
        | false =>
          rw [if_neg (by decide)] at p3 ⊢
          have p3 : Post S (relV S true H) al0 H1 s Q ((if stands m0 m2 w then compL (turnF tg own gk fe r) (fun m => stands m0 m w) acc vs m2 else .stuck).bind fun vs m => .ok (.lst vs) m) := p3
          obtain ⟨g1, hs', g2, g3⟩ := grow z2
          cases es : stands m0 m2 w with
          | false => rw [es] at p3; exact p3.elim
          | true =>
            rw [es] at p3
            exact ⟨xs.length - (i + 1), by omega, m2, al2, hs', acc, us, by omega, g2, g3, re1.ext z2, rl2, x1.trans z2, es, g1, ra.ext z2 _ _, hl, e2.symm ▸ p3⟩
        | true =>
          rw [if_pos rfl] at p3 ⊢
          have p4 : Post S (relV S true H) al0 H1 s Q ((fe r1 m2).nox.bind fun y m => (if stands m0 m w then (if acc.length < LINE then compL (turnF tg own gk fe r) (fun m => stands m0 m w) (acc ++ [y]) vs m else .stuck) else .stuck).bind fun vs m => .ok (.lst vs) m) := by
            revert p3
            cases fe r1 m2 with
            | ok y m' => exact fun h => h
            | exc c fs m' => exact fun h => h
            | stuck => exact fun h => h
          refine ⟨r1, m2, al2, re2.ext x2, rl2, (Post.innE (al := al2) (H := H4) p4).mono ?_⟩
          rintro y H5 ⟨yv, m3, al3, _, x3, rl3, q3, p5⟩
          have z3 : Ext alh al3 H2 H5 := z2.trans x3
          obtain ⟨g1, hs', g2, g3⟩ := grow z3
          refine ⟨us, g1, ?_, ?_⟩
          · cases es : stands m0 m3 w with
            | false => rw [es] at p5; exact p5.elim
            | true =>
              rw [es, if_pos rfl] at p5
              by_cases hz : acc.length < LINE
              · rw [ra.length]
                exact LINE_eq ▸ hz
              · rw [if_neg hz] at p5
                exact p5.elim
          · cases es : stands m0 m3 w with
            | false => rw [es] at p5; exact p5.elim
            | true =>
              rw [es, if_pos rfl] at p5
              by_cases hz : acc.length < LINE
              · rw [if_pos hz] at p5
                have hm3 : D ∈ al3.h := by rw [g2]; simp
                have u0 : Ex0 al3 al3 H5 (upd H5 D (.lst (us ++ [y]))) := .hid hm3 g1
                have rl4 := rl3.updHid (ws := us ++ [y]) hm3 g1
                have x4 : Ext al0 al3 H1 (upd H5 D (.lst (us ++ [y]))) := by
                  have := x1.trans z3
                  refine ⟨this.more, fun a o ea h => ?_, fun a ea => ?_⟩
                  · have e5 := this.keep a o ea h
                    rw [upd_ne]
                    · exact e5
                    · rintro rfl
                      rw [hD] at ea
                      cases ea
                  · by_cases ha : a = D
                    · subst ha
                      exact hD
                    · rw [upd_ne ha] at ea
                      exact this.dom a ea
                have re3 : RE S.K al3 (upd H5 D (.lst (us ++ [y]))) s r := by
                  have := re1.ext z3
                  exact ⟨this.len, fun j v ev => let ⟨u', a1, a2⟩ := this.get j v ev; ⟨u', a1, a2.ext0 u0 v u'⟩⟩
                refine ⟨xs.length - (i + 1), by omega, m3, al3, hs', acc ++ [yv], us ++ [y], by omega, g2, g3, re3, rl4, x4, es, upd_same, ?_, ?_, e2.symm ▸ p5⟩
                · exact (((ra.ext z3 _ _).append (.cons q3.1 .nil)).ext0 u0 _ _)
                · rw [List.length_append]
                  show acc.length + 1 ≤ LINE
                  omega
              · rw [if_neg hz] at p5
                exact p5.elim
end MP
set_option Elab.async false
set_option linter.all false
set_option maxRecDepth 100000
set_option maxHeartbeats 1000000
/-! MPBlt: built-in functions. -/
namespace MP
open PySem PySem.Spec PyProof.Rows L2
inductive RepDs (K : PySem.W.Frag) (al : Al) (H : Hp) : List V → List Val → Prop
  | nil : RepDs K al H [] []
  | cons {u : V} {us : List V} {x : Val} {xs : List Val} : RepD K al H u x → RepDs K al H us xs → RepDs K al H (u :: us) (x :: xs)
theorem RepL.drs {K : PySem.W.Frag} {bs : List Nat} {al : Al} {m : M} {H : Hp} (rl : Rl K bs al m H) : ∀ {vs : List Val} {us : List V}, RepL K al H us vs → RepDs K al H us (vs.map (dr m))
  | [], _, h => by cases h; exact .nil
  | v :: vs, _, h => by
    cases h with
    | cons h1 h2 => exact .cons (.dr h1 rl) (h2.drs rl)
def rBlt (K : PySem.W.Frag) (b : B) : List V → Hp → VK → Prop := fun us H Q => ∃ al vs z, Dm al H ∧ RepDs K al H us vs ∧ blt b vs = some z ∧ Done K al H true z Q
theorem RepDs.one {K : PySem.W.Frag} {al : Al} {H : Hp} {us : List V} {x : Val} (h : RepDs K al H us [x]) : ∃ u, us = [u] ∧ RepD K al H u x := by
  cases h with
  | cons h1 h2 => cases h2; exact ⟨_, rfl, h1⟩
theorem RepDs.two {K : PySem.W.Frag} {al : Al} {H : Hp} {us : List V} {x y : Val} (h : RepDs K al H us [x, y]) : ∃ u w, us = [u, w] ∧ RepD K al H u x ∧ RepD K al H w y := by
  cases h with
  | cons h1 h2 =>
    obtain ⟨w, rfl, h3⟩ := h2.one
    exact ⟨_, w, rfl, h1, h3⟩
theorem RepD.seq {K : PySem.W.Frag} {al : Al} {H : Hp} {u : V} {v : Val} {xs : List Val} (h : RepD K al H u v) (e : seqOf v = some xs) : ∃ a us, u = .ref a ∧ (SqL K H a us ∨ SqT K H a us) ∧ RepL K al H us xs := by
  cases v <;> simp only [seqOf, Option.some.injEq, reduceCtorEq] at e
  · subst e
    obtain ⟨a, us, rfl, h1, h2⟩ := h.tuple
    exact ⟨a, us, rfl, .inr h1, h2⟩
  · subst e
    obtain ⟨a, us, rfl, h1, h2⟩ := h.list
    exact ⟨a, us, rfl, .inl (.of h1), h2⟩
section
variable {X : L2.Cx} {S : Sg} {b : B}
theorem blt_imp {fs : MP.Env → M → R (List Val)} (s : L2.St) (H : Hp) (Q : VK) (h : tE S true (fun r m => (fs r m).bind fun vs m => opt (blt b (vs.map (dr m))) m) s H Q) : tCB (rBlt S.K b) (tEs S fs) s H Q := by
  obtain ⟨r, m, al, re, rl, p⟩ := h
  refine ⟨r, m, al, re, rl, (Post.seq p).mono ?_⟩
  rintro us H1 ⟨vs, m1, al1, x1, rl1, q1, p1⟩
  obtain ⟨z, e, p2⟩ := p1.opt
  exact ⟨al1, _, z, rl1.dm, q1.drs rl1, e, .of p2 rl1 fun a h => x1.dom a h⟩
theorem cb_len : CallR X (.builtin "len") (rBlt X.K .len) := fun pins s σ H xs us Q I r ⟨al, vs, z, dm, rs, e, q⟩ => by
  refine call_len pins s σ H xs us Q I r ?_
  cases vs with
  | nil => cases e
  | cons v vs =>
    cases vs with
    | cons _ _ => cases v <;> cases e
    | nil =>
      obtain ⟨u, rfl, rd⟩ := rs.one
      cases v <;> first | (cases e; done) | skip
      · simp only [blt] at e
        split at e
        · rename_i z' hz
          cases e
          have := rd.str
          subst this
          exact ⟨_, _, rfl, ⟨LINE_eq ▸ hz, rfl⟩, q.int⟩
        · cases e
      · cases e
        obtain ⟨a, us', rfl, h1, h2⟩ := rd.tuple
        exact ⟨_, _, rfl, .inr ⟨us', h1, rfl⟩, h2.length ▸ q.int⟩
      · cases e
        obtain ⟨a, us', rfl, h1, h2⟩ := rd.list
        exact ⟨_, _, rfl, .inl ⟨us', .of h1, rfl⟩, h2.length ▸ q.int⟩
      · cases e
        obtain ⟨a, rfl, h1⟩ := rd.script
        refine ⟨_, _, rfl, .inl ⟨_, h1, rfl⟩, ?_⟩
        rw [List.length_map]
        exact q.int
      all_goals cases rd with | of rp => cases rp
theorem cb_abs : CallR X (.builtin "abs") (rBlt X.K .abs) := fun pins s σ H xs us Q I r ⟨al, vs, z, dm, rs, e, q⟩ => by
  refine call_abs pins s σ H xs us Q I r ?_
  cases vs with
  | nil => cases e
  | cons v vs =>
    cases vs with
    | cons _ _ => cases v <;> cases e
    | nil =>
      obtain ⟨u, rfl, rd⟩ := rs.one
      cases v <;> first | (cases e; done) | skip
      have := rd.int
      subst this
      cases e
      exact ⟨_, rfl, q.int⟩
theorem cb_int : CallR X (.type "int") (rBlt X.K .int) := fun pins s σ H xs us Q I r ⟨al, vs, z, dm, rs, e, q⟩ => by
  refine call_int1 pins s σ H xs us Q I r ?_
  cases vs with
  | nil => cases e
  | cons v vs =>
    cases vs with
    | cons _ _ => cases v <;> cases e
    | nil =>
      obtain ⟨u, rfl, rd⟩ := rs.one
      cases v <;> first | (cases e; done) | skip
      · have := rd.bl
        subst this
        cases e
        exact .inr ⟨_, rfl, q.int⟩
      · have := rd.int
        subst this
        cases e
        exact .inl ⟨_, rfl, q.int⟩
theorem cb_min2 (hc : X.calm = true) : CallR X (.builtin "min") (rBlt X.K .min2) := fun pins s σ H xs us Q I r ⟨al, vs, z, dm, rs, e, q⟩ => by
  refine call_min2 hc pins s σ H xs us Q I r ?_
  obtain ⟨i, j, rfl, rfl⟩ : ∃ i j, vs = [.int i, .int j] ∧ z = .int (if j < i then j else i) := by
    unfold blt at e
    split at e <;> first | (rename_i hb; cases hb; done) | skip
    all_goals first | (cases e; exact ⟨_, _, rfl, rfl⟩) | (cases e; done) | skip
    all_goals simp_all
  obtain ⟨u, w, rfl, r1, r2⟩ := rs.two
  have := r1.int
  have := r2.int
  subst_vars
  exact ⟨_, _, rfl, q.int⟩
theorem cb_max2 (hc : X.calm = true) : CallR X (.builtin "max") (rBlt X.K .max2) := fun pins s σ H xs us Q I r ⟨al, vs, z, dm, rs, e, q⟩ => by
  refine call_max2 hc pins s σ H xs us Q I r ?_
  obtain ⟨i, j, rfl, rfl⟩ : ∃ i j, vs = [.int i, .int j] ∧ z = .int (if j > i then j else i) := by
    unfold blt at e
    split at e <;> first | (rename_i hb; cases hb; done) | skip
    all_goals first | (cases e; exact ⟨_, _, rfl, rfl⟩) | (cases e; done) | skip
    all_goals simp_all
  obtain ⟨u, w, rfl, r1, r2⟩ := rs.two
  have := r1.int
  have := r2.int
  subst_vars
  exact ⟨_, _, rfl, q.int⟩
theorem cb_all (hc : X.calm = true) : CallR X (.builtin "all") (rBlt X.K .all) := fun pins s σ H xs us Q I r ⟨al, vs, z, dm, rs, e, q⟩ => by
  refine cr_all hc pins s σ H xs us Q I r ?_
  cases vs with
  | nil => cases e
  | cons v vs =>
    cases vs with
    | cons _ _ => cases v <;> cases e
    | nil =>
      obtain ⟨u, rfl, rd⟩ := rs.one
      cases v <;> first | (cases e; done) | skip
      simp only [blt, Option.map_eq_some_iff] at e
      obtain ⟨bs, e1, rfl⟩ := e
      obtain ⟨a, us', rfl, h1, h2⟩ := rd.list
      have := h2.of_bls e1
      subst this
      exact ⟨a, bs, rfl, .of h1, q.bl⟩
theorem cb_any (hc : X.calm = true) : CallR X (.builtin "any") (rBlt X.K .any) := fun pins s σ H xs us Q I r ⟨al, vs, z, dm, rs, e, q⟩ => by
  refine cr_any hc pins s σ H xs us Q I r ?_
  cases vs with
  | nil => cases e
  | cons v vs =>
    cases vs with
    | cons _ _ => cases v <;> cases e
    | nil =>
      obtain ⟨u, rfl, rd⟩ := rs.one
      cases v <;> first | (cases e; done) | skip
      simp only [blt, Option.map_eq_some_iff] at e
      obtain ⟨bs, e1, rfl⟩ := e
      obtain ⟨a, us', rfl, h1, h2⟩ := rd.list
      have := h2.of_bls e1
      subst this
      exact ⟨a, bs, rfl, .of h1, q.bl⟩
theorem cb_sum (hc : X.calm = true) : CallR X (.builtin "sum") (rBlt X.K .sum) := fun pins s σ H xs us Q I r ⟨al, vs, z, dm, rs, e, q⟩ => by
  refine cr_sum hc pins s σ H xs us Q I r ?_
  cases vs with
  | nil => cases e
  | cons v vs =>
    cases vs with
    | cons _ _ => cases v <;> cases e
    | nil =>
      obtain ⟨u, rfl, rd⟩ := rs.one
      cases v <;> first | (cases e; done) | skip
      simp only [blt, Option.map_eq_some_iff] at e
      obtain ⟨bs, e1, rfl⟩ := e
      obtain ⟨a, us', rfl, h1, h2⟩ := rd.list
      have := h2.of_ints e1
      subst this
      exact ⟨a, bs, rfl, .of h1, q.int⟩
theorem cb_tuple : CallR X (.type "tuple") (rBlt X.K .tuple) := fun pins s σ H xs us Q I r ⟨al, vs, z, dm, rs, e, q⟩ => by
  refine call_tupleN pins s σ H xs us Q I r ?_
  cases vs with
  | nil => cases e
  | cons v vs =>
    cases vs with
    | cons _ _ => cases v <;> cases e
    | nil =>
      obtain ⟨u, rfl, rd⟩ := rs.one
      cases v <;> first | (cases e; done) | skip
      · cases e
        obtain ⟨a, us', rfl, h1, h2⟩ := rd.tupleN
        exact ⟨a, us', rfl, .inr ⟨h1.1, q.tupAt h1 h2⟩⟩
      · cases e
        obtain ⟨a, us', rfl, h1, h2⟩ := rd.list
        exact ⟨a, us', rfl, .inl ⟨.of h1, q.tup h2⟩⟩
theorem cb_list : CallR X (.type "list") (rBlt X.K .list) := fun pins s σ H xs us Q I r ⟨al, vs, z, dm, rs, e, q⟩ => by
  refine call_list_of pins s σ H xs us Q I r ?_
  cases vs with
  | nil => cases e
  | cons v vs =>
    cases vs with
    | cons _ _ => cases v <;> cases e
    | nil =>
      obtain ⟨u, rfl, rd⟩ := rs.one
      simp only [blt, Option.map_eq_some_iff] at e
      obtain ⟨xs, e1, rfl⟩ := e
      obtain ⟨a, us', rfl, h1, h2⟩ := rd.seq e1
      exact ⟨a, us', rfl, h1, q.lst dm h2⟩
theorem cb_repr (hg : X.A.guards = some []) (hu : X.A.units + 65 < cLine) : CallR X (.builtin "repr") (rBlt X.K .repr) := fun pins s σ H xs us Q I r ⟨al, vs, z, dm, rs, e, q⟩ => by
  cases vs with
  | nil => cases e
  | cons v vs =>
    cases vs with
    | cons _ _ => cases v <;> cases e
    | nil =>
      obtain ⟨u, rfl, rd⟩ := rs.one
      have e : (if reprOk v then some (Val.str (reprV v)) else none) = some z := by
        cases v <;> exact e
      split at e
      · rename_i hz
        cases e
        unfold reprOk at hz
        simp only [Bool.and_eq_true, decide_eq_true_eq] at hz
        obtain ⟨⟨⟨z1, z2⟩, z3⟩, z4⟩ := hz
        have hd := data_of z2
        have dp := rd.dp hd
        obtain ⟨w, rfl, rw'⟩ := vals1 r
        obtain ⟨as, rr⟩ := dp.reads I _ _ _ rw'
        obtain ⟨a, rfl⟩ : ∃ a, w = .ref a := by
          cases v <;> simp only [isSeq, Bool.false_eq_true] at z1
          · cases rr; exact ⟨_, rfl⟩
          · cases rr; exact ⟨_, rfl⟩
        have hdeep : (toD v).depth ≤ 60 := by
          rw [depth_toD]
          unfold Val.cmpOk at z2
          simp only [Bool.and_eq_true, decide_eq_true_eq] at z2
          exact z2.2
        refine repr_of_reads' rr z3 (PyData.noDict_hsm (PyData.hasDict_of_canLay _ (canLay_toD v hd))) hg (by omega) (fun _ _ e => e) (fun h' u tk hk => ?_) (LINE_eq ▸ z4)
        exact ⟨V.str (reprV v), H, I.kept hk, ⟨_, rfl⟩, q.str⟩
      · cases e
end
end MP
set_option Elab.async false
set_option linter.all false
set_option maxRecDepth 100000
set_option maxHeartbeats 2000000
/-! MPExc: exceptions of the program's own classes: made, raised. -/
namespace MP
open PySem PySem.Spec PyProof.Rows L2
open PySem.W (handedIn)
/-- a built-in base of exceptions: what is known of it -/
structure BaseX (B newId initId : String) (bmB : List Value) : Prop where
  base : ExcBaseFacts B newId initId bmB
  sto : StoreFacts B bmB "object.__setattr__" "object"
  ty : typeOf (.type B) = pure (.type "type")
  boot : bootBuiltins (PySem.Str.ofString B) = some (.type B)
  vV : ∀ K : PySem.W.Frag, PySem.W.findCls K (.type B) (.type "type") "__init__" = some (.val (.builtin initId))
  nn : (PySem.Str.ofString B) ≠ "__name__"
  nd : ((PySem.Str.ofString B) == ("__debug__" : Str)) = false
  st : Manifest.isStub B = false
theorem baseX_VE : BaseX "ValueError" "ValueError.__new__" "ValueError.__init__" [.type "ValueError", .type "Exception", .type "BaseException", .type "object"] :=
  ⟨PySem.F.excBase_ValueError, PySem.F.store_ValueError, by kernel_rfl, by decide +kernel, fun K => by kernel_rfl, by decide, by decide, by decide +kernel⟩
theorem baseX_LE : BaseX "LookupError" "LookupError.__new__" "LookupError.__init__" [.type "LookupError", .type "Exception", .type "BaseException", .type "object"] :=
  ⟨PySem.F.excBase_LookupError, PySem.F.store_LookupError, by kernel_rfl, by decide +kernel, fun K => by kernel_rfl, by decide, by decide, by decide +kernel⟩
theorem baseX_RE : BaseX "RuntimeError" "RuntimeError.__new__" "RuntimeError.__init__" [.type "RuntimeError", .type "Exception", .type "BaseException", .type "object"] :=
  ⟨PySem.F.excBase_RuntimeError, PySem.F.store_RuntimeError, by kernel_rfl, by decide +kernel, fun K => by kernel_rfl, by decide, by decide, by decide +kernel⟩
theorem baseX_OE : BaseX "OverflowError" "OverflowError.__new__" "OverflowError.__init__" [.type "OverflowError", .type "ArithmeticError", .type "Exception", .type "BaseException", .type "object"] :=
  ⟨PySem.F.excBase_OverflowError, PySem.F.store_OverflowError, by kernel_rfl, by decide +kernel, fun K => by kernel_rfl, by decide, by decide, by decide +kernel⟩
/-- an own class over such a base -/
structure OwnX (K : PySem.W.Frag) (C : Addr) (newId : String) (bmB : List Value) : Prop where
  cls : PySem.W.excInitIn K C bmB newId = true
  over : PySem.W.excOver K C bmB = true
  hd : PySem.W.hasDictIn K C = true
  sa : PySem.W.findIn K (.ref C) "__setattr__" = some (some (.builtin "object.__setattr__"))
  exC : PySem.W.subIn K (.ref C) (.type "BaseException") = some true
  tyC : PySem.W.typeIn K (.ref C) = some (.type "type")
  kC : PySem.W.keepIn K (.ref C) = true
def ownXB (K : PySem.W.Frag) (C : Addr) (newId : String) (bmB : List Value) : Bool :=
  PySem.W.excInitIn K C bmB newId && PySem.W.excOver K C bmB && PySem.W.hasDictIn K C && decide (PySem.W.findIn K (.ref C) "__setattr__" = some (some (.builtin "object.__setattr__"))) &&
  decide (PySem.W.subIn K (.ref C) (.type "BaseException") = some true) && decide (PySem.W.typeIn K (.ref C) = some (.type "type")) && PySem.W.keepIn K (.ref C)
theorem ownXB_ok {K : PySem.W.Frag} {C : Addr} {newId : String} {bmB : List Value} (h : ownXB K C newId bmB = true) : OwnX K C newId bmB := by
  unfold ownXB at h
  simp only [Bool.and_eq_true, decide_eq_true_eq] at h
  obtain ⟨⟨⟨⟨⟨⟨h1, h2⟩, h3⟩, h4⟩, h5⟩, h6⟩, h7⟩ := h
  exact ⟨h1, h2, h3, h4, h5, h6, h7⟩
section
variable {X : L2.Cx} {pins : List (Addr × Obj)} {σ : L2.St} {H : Hp} {s : Shared} {a C : Addr} {f : Str} {y : V} {u : Value} {A : Around} {E : Value → Shared → Prop} {B newId initId : String} {bmB : List Value}
/-- the first store into an exception of an own class -/
theorem xst_new {Q : Unit → Shared → Prop} (BX : BaseX B newId initId bmB) (T : OwnX X.K C newId bmB) (I : Inv X pins σ H s) (e : H a = some (exo a C none)) (ht : PySem.W.takerIn X.K C f = some none) (ry : RelV y u)
    (h : ∀ dx s', H dx = none → dx ≠ a → Inv X pins σ (upd (upd H dx (exd dx [(f, y)])) a (exo a C (some dx))) s' → Q () s') : wpAny (model X.prog X.w) A (setAttr (.ref a) f u) Q E s := by
  obtain ⟨cd, hcl, hh⟩ := PySem.W.any_some (show ((PySem.W.clsIn X.K C).any (·.hasDict)) = true from T.hd)
  obtain ⟨t1, ho⟩ := exo_at I.hok e
  obtain ⟨hp, g, d, t, os⟩ := s
  refine PySem.W.set_plain I.kIn (ox := { cls := .ref C, dict := none, data := .fields #[.ref t1, .none, .none, .none, .bool false, .none] }) (od := none) ⟨ho, rfl, rfl, trivial⟩ T.sa ?_
  have hxs : a ≠ hp.objs.size := Nat.ne_of_lt (Heap.lt_size ho)
  have hnd : H hp.objs.size = none := I.hok.fresh (Nat.le_refl _)
  have na : ∀ {b : Addr}, H b = none → b ≠ a := fun {b} n z => by
    rw [z, e] at n
    cases n
  have fin : ∀ h' tk', (∀ b o, b ≠ a → hp.get? b = some o → h'.get? b = some o) → h'.get? a = some { cls := .ref C, dict := some hp.objs.size, data := .fields #[.ref t1, .none, .none, .none, .bool false, .none] } →
      h'.Ns1 hp.objs.size (fun y => if y = f then some u else none) → Q () ⟨h', g, d, tk', os⟩ := by
    intro h' tk' k hx hn
    have nd : ∀ {b : Addr} {o : Obj}, hp.get? b = some o → b ≠ hp.objs.size := fun {b o} q => Nat.ne_of_lt (Heap.lt_size q)
    have Un1 : Un X.fs [] H (upd (upd H hp.objs.size (exd hp.objs.size [(f, y)])) a (exo a C (some hp.objs.size))) hp h' := {
      keep := fun b o q n _ _ => k b o (na n) q
      slot := fun b o q n _ _ => ⟨o.slots, k b o (na n) q⟩
      free := fun b o q n _ => by rw [upd_ne (na n), upd_ne (nd q)]; exact n
      there := fun b o q _ => by
        by_cases hb : b = a
        · exact ⟨_, by rw [hb]; exact hx⟩
        · exact ⟨o, k b o hb q⟩
      tups := fun b xs q => by rw [upd_ne (at_ne e q exo_tup), upd_ne (ne_of_none q hnd)]; exact q
      frzs := fun b o v q => by rw [upd_ne (at_ne e q exo_frz), upd_ne (ne_of_none q hnd)]; exact q
      tbls := fun b ps q => ⟨#[], by rw [upd_ne (at_ne e q exo_tbl), upd_ne (ne_of_none q hnd), q]; simp⟩ }
    refine h _ _ hnd hxs.symm (I.un (t' := tk') Un1 fun b o q => ?_)
    by_cases hb : b = a
    · subst hb
      rw [upd_same] at q
      cases q
      exact exo_ok hx
    · rw [upd_ne hb] at q
      by_cases hd : b = hp.objs.size
      · subst hd
        rw [upd_same] at q
        cases q
        exact exd_ok hn (relO_put (fs := []) ry fun g => True.intro)
      · rw [upd_ne hd] at q
        exact (I.hok b o q).stay (fun c v hc z => k c v (by
            rcases hc with hc | hc
            · rw [hc]
              exact hb
            · exact at_ne e hc exo_own) z)
          (fun c hc => by rw [upd_ne (at_ne e hc exo_own), upd_ne (ne_of_none hc hnd)]; exact hc) (fun c xs hc => by rw [upd_ne (at_ne e hc exo_tup), upd_ne (ne_of_none hc hnd)]; exact hc)
  have L : PySem.W.Looks (model X.prog X.w) hp (classData C) cd := PySem.W.looks_clsIn I.kIn hcl
  refine PySem.W.osa_openX (od := none) BX.sto I.kIn ⟨ho, rfl, rfl, trivial⟩ T.over ht fun b => ?_
  refine wpAny_bind (wpAny_pure (wpAny_bind (PySem.W.instanceDict_exc (t := t1) (c2 := .none) ho L hh ?_)))
  have hget : ((hp.push (PySem.W.dictOf [] 0)).update a fun o => { o with dict := some hp.objs.size }).get? hp.objs.size = some (PySem.W.dictOf [] 0) :=
    (Heap.get?_update_ne _ _ _ _ hxs.symm).trans (Heap.get?_push_size hp rfl)
  have hx1 : ((hp.push (PySem.W.dictOf [] 0)).update a fun o => { o with dict := some hp.objs.size }).get? a = some { cls := .ref C, dict := some hp.objs.size, data := .fields #[.ref t1, .none, .none, .none, .bool false, .none] } :=
    (Heap.get?_update_self _ (Heap.get?_push_of_some _ ho) rfl)
  refine PySem.HandSPX.store_in_new (hp := (hp.push (PySem.W.dictOf [] 0)).update a fun o => { o with dict := some hp.objs.size }) ⟨_, #[], 0, hget, rfl, fun e he => absurd he (by simp), fun _ => rfl⟩ fun h' tk' hn' hs => ?_
  refine fin h' tk' (fun b o hb ho' => ?_) ((hs.2 a hxs).trans hx1) hn'
  exact (hs.2 b (Nat.ne_of_lt (Heap.lt_size ho'))).trans ((Heap.get?_update_ne _ _ _ _ hb).trans (Heap.get?_push_of_some _ ho'))
/-- B.__init__(self, ..) -/
theorem xinit_ok {us : List Value} {Q : Value → Shared → Prop} (BX : BaseX B newId initId bmB) (T : OwnX X.K C newId bmB) (I : Inv X pins σ H s) (e : H a = some (exo a C none)) (hl : us.length ≤ sizeLine) (h : ∀ s', Inv X pins σ H s' → Q .none s') :
    wpAny (model X.prog X.w) A (PySem.call (.builtin initId) (.ref a :: us)) Q E s := by
  obtain ⟨nm, N, q, bs, bm, hdct, sn, sub, ab, col, dd, k0, k1, k2, k3, k5, hC, hbm⟩ := PySem.W.excInit_of I.kIn T.cls
  obtain ⟨t1, ho⟩ := exo_at I.hok e
  obtain ⟨hp, g, d, t, os⟩ := s
  refine wpAny_call (PySem.HandSPX.init_base BX.base hbm hC ho hl fun h' t2 k hx => ?_)
  have J := I.write (t' := t) (x := a) (e := a) (o := exo a C none) (by rw [e]; exact True.intro) (.inl rfl) k ⟨_, hx⟩ (exo_ok hx)
  have eu : upd H a (exo a C none) = H := by
    funext b
    by_cases hb : b = a
    · rw [hb, upd_same, e]
    · rw [upd_ne hb]
  rw [eu] at J
  exact h _ J
end
theorem call_few {o : Expr} {name : Str} {apos pos : Pos} {args : List Expr} {env : PySem.Env} (hbase : attributeBase o name env (eval o env) = eval o env)
    (hfew : methodCallForm (args.length + ([] : List Keyword).length) (backTo pos (starEach args env)) (backToKw pos (keywordEach [] env)) = true) (hline : (apos.endLine == pos.line) = true) :
    eval (.Call (.Attribute o name apos) args [] pos) env = (do
      let ov ← eval o env
      standAt apos.atName
      let (f, first) ← holding [ov] (getMethod ov name (do return (← importBound o env).getD true))
      callWith pos f first (backTo pos (starEach args env)) (backToKw pos (keywordEach [] env))) := by
  rw [arm_eval_Call, hbase]
  have hpos : methodCallPos true o env apos pos = pure pos := by
    unfold methodCallPos
    rw [hline]
    rfl
  unfold methodCall
  rw [hfew]
  dsimp only
  rw [hpos]
  rfl
/-- B.__init__(self, ..) as the text has it -/
def tXi (K : PySem.W.Frag) (newId : String) (bmB : List Value) (ta : TA) : TE := fun σ H Q => ta σ H fun vs H1 => ∃ (a C : Addr) (ws : List V), vs = .ref a :: ws ∧ ws.length ≤ 1000 ∧ OwnX K C newId bmB ∧ H1 a = some (exo a C none) ∧ Q .non H1
section
variable {X : L2.Cx} {B newId initId : String} {bmB : List Value} {e o : Expr} {es : List Expr} {ta : TA} {to te : TE} {p p' p1 p2 pos : Pos} {f : Str}
theorem pe_xinit (BX : BaseX B newId initId bmB) {Bs : Str} (eB : Bs = PySem.Str.ofString B) (hg : Gl X Bs) (hm : X.mg Bs = none) (ha : PA X (e :: es) ta) (hh : handedIn (.builtin initId) = true)
    (hfew : methodCallForm ((e :: es).length + ([] : List Keyword).length) (backTo pos (starEach (e :: es) X.env)) (backToKw pos (keywordEach [] X.env)) = true) (hline : (p2.endLine == pos.line) = true)
    (he : starEach (e :: es) X.env = (false, eval e X.env) :: starEach es X.env) (hpl : (backTo pos (starEach es X.env)).any (·.1) = false) :
    PE X (.Call (.Attribute (.Name Bs p1) "__init__" p2) (e :: es) [] pos) (tXi X.K newId bmB ta) := by
  subst eB
  refine ⟨fun pins s σ H Q I h => ?_⟩
  refine PySem.W.methodCall_KW (ld_blt I hg hm BX.boot ?_ BX.nn BX.nd) (call_few rfl hfew hline)
  obtain ⟨m, fr⟩ := I.fr
  refine PySem.W.method_type fr I.ok.mod.kin BX.ty BX.st (BX.vV X.K) hh ?_
  show wpAny _ _ (callWith pos (Value.builtin initId) [] (backTo pos (starEach (e :: es) X.env)) []) _ _ _
  refine PyProof.Rows.callWith_method1 (thn (ha.run pos pins _ σ H _ (I.tok _) h) fun us s1 ⟨vs, H1, I1, r1, a, C, ws, ev, hl, T, ea, q⟩ => ?_) he hpl
  subst ev
  cases r1 with
  | @cons _ u0 _ ur ra rw' =>
    obtain rfl : u0 = Value.ref a := ra
    have hlen : ur.length ≤ sizeLine := by
      rw [← Paired.length rw', sizeLine_eq]
      omega
    exact xinit_ok BX T I1 ea hlen fun s' J => ⟨.non, H1, J, rfl, q⟩
/-- self.f = e, the first field -/
def tXs (K : PySem.W.Frag) (newId : String) (bmB : List Value) (f : Str) (to te : TE) : TS := fun D σ H => te σ H fun y H1 => to σ H1 fun x H2 => ∃ a C : Addr, x = .ref a ∧ OwnX K C newId bmB ∧ PySem.W.takerIn K C f = some none ∧
  H2 a = some (exo a C none) ∧ ∀ dx, H2 dx = none → dx ≠ a → D.nx σ (upd (upd H2 dx (exd dx [(f, y)])) a (exo a C (some dx)))
theorem ps_xst (BX : BaseX B newId initId bmB) (ho : PE X o to) (he : PE X e te) (hs : swapsWith e (some (.Attribute o f p')) pos.line X.env = pure false) : PS X (.Assign [.Attribute o f p'] e pos) (tXs X.K newId bmB f to te) := by
  refine ⟨fun pins s σ H D I h => ?_⟩
  refine plainObj_wpAny_Assign_Attribute (thn (he.run pins s σ H _ I h) fun v s1 ⟨y, H1, I1, r1, q1⟩ => thn (ho.run pins s1 σ H1 _ I1 q1) fun u s2 ⟨x, H2, I2, r2, a, C, ex, T, hno, ea, q⟩ => ?_) hs
  subst ex
  obtain rfl : u = Value.ref a := r2
  exact xst_new BX T I2 ea hno r1 fun dx s' n ne J => ⟨σ, _, J, q dx n ne⟩
end
/-- what __init__ keeps: one field, none -/
def spX1 (K : PySem.W.Frag) (newId : String) (bmB : List Value) (f : Str) : Sp := fun vs H Q _ => ∃ (a C : Addr) (y : V), vs = [.ref a, y] ∧ OwnX K C newId bmB ∧ PySem.W.takerIn K C f = some none ∧ H a = some (exo a C none) ∧
  ∀ dx, H dx = none → dx ≠ a → Q .non (upd (upd H dx (exd dx [(f, y)])) a (exo a C (some dx)))
def spX0 (K : PySem.W.Frag) (newId : String) (bmB : List Value) : Sp := fun vs H Q _ => ∃ (a C : Addr), vs = [.ref a] ∧ OwnX K C newId bmB ∧ H a = some (exo a C none) ∧ Q .non H
section
variable {P : Program} {w : World} {K : PySem.W.Frag} {mg : Str → Option Value} {base : Heap} {B newId initId : String} {bmB : List Value} {f : Addr} {fd : FuncData} {st : Stmt} {qual : Str}
theorem fnG_x1 {fl ps0 Bs m : Str} {j n0 : Nat} {q0 q1 q2 q3 q4 q5 q6 q7 q8 q9 : Pos} (BX : BaseX B newId initId bmB) (hh : handedIn (.builtin initId) = true) (eB : Bs = PySem.Str.ofString B) (F : FunD K "__init__" qual (defArgs st) (defBody st) (defScope st) [] [] f fd)
    (S : FnScope ["self", ps0] ["self", ps0] (defScope st)) (hb : defBody st = [.Expr (.Call (.Attribute (.Name Bs q0) "__init__" q1) [.Name "self" q2, .Constant (.str m) j q3] [] q4) q5, .Assign [.Attribute (.Name "self" q6) fl q7] (.Name ps0 q8) q9])
    (hl1 : (defScope st).names.lookup ("self" : Str) = some .local) (hl2 : (defScope st).names.lookup ps0 = some .local) (hl3 : (defScope st).names.lookup Bs = some .globalImplicit) (hm : mg Bs = none) (hln : (q1.endLine == q4.line) = true) (hd : (ps0 == ("__debug__" : Str)) = false) (hcd : (ps0 == ("__classdict__" : Str)) = false) :
    FnG P w K mg base (k + 1) f fd ["self", ps0] (spX1 K newId bmB fl) := by
  refine fnG_of F S (fun vs H Q E h => ?_) fun cdv A outer s H vs Q E hg hr h => ?_
  · obtain ⟨a, C, y, rfl, _⟩ := h
    rfl
  · obtain ⟨a, C, y, rfl, T, ht, ea, q⟩ := h
    rw [hb]
    have v1 : PE (cxOf (L2.CX P w) P w K mg base ["self", ps0] qual (defScope st) f cdv A outer s H E) (.Name "self" q2) (tVar 0) := pe_var rfl (.inl hl1)
    have v2 : PE (cxOf (L2.CX P w) P w K mg base ["self", ps0] qual (defScope st) f cdv A outer s H E) (.Name "self" q6) (tVar 0) := pe_var rfl (.inl hl1)
    have v3 : PE (cxOf (L2.CX P w) P w K mg base ["self", ps0] qual (defScope st) f cdv A outer s H E) (.Name ps0 q8) (tVar 1) := pe_var rfl (.inl hl2) hd hcd
    refine ⟨_, pss_cons (ps_expr (pe_xinit BX eB hl3 hm (pa_cons v1 (pa_cons pe_str pa_nil rfl) rfl) hh rfl hln rfl rfl) rfl) (pss_cons (ps_xst BX v2 v3 rfl) pss_nil), ?_⟩
    refine ⟨.ref a, rfl, ?_⟩
    refine ⟨a, C, [.str m], rfl, by simp, T, ea, ?_⟩
    refine ⟨y, rfl, .ref a, rfl, a, C, rfl, T, ht, ea, fun dx h1 h2 => q dx h1 h2⟩
theorem fnG_x0 {Bs m : Str} {j n0 : Nat} {q0 q1 q2 q3 q4 q5 : Pos} (BX : BaseX B newId initId bmB) (hh : handedIn (.builtin initId) = true) (eB : Bs = PySem.Str.ofString B) (F : FunD K "__init__" qual (defArgs st) (defBody st) (defScope st) [] [] f fd)
    (S : FnScope ["self"] ["self"] (defScope st)) (hb : defBody st = [.Expr (.Call (.Attribute (.Name Bs q0) "__init__" q1) [.Name "self" q2, .Constant (.str m) j q3] [] q4) q5])
    (hl1 : (defScope st).names.lookup ("self" : Str) = some .local) (hl3 : (defScope st).names.lookup Bs = some .globalImplicit) (hm : mg Bs = none) (hln : (q1.endLine == q4.line) = true) :
    FnG P w K mg base (k + 1) f fd ["self"] (spX0 K newId bmB) := by
  refine fnG_of F S (fun vs H Q E h => ?_) fun cdv A outer s H vs Q E hg hr h => ?_
  · obtain ⟨a, C, rfl, _⟩ := h
    rfl
  · obtain ⟨a, C, rfl, T, ea, q⟩ := h
    rw [hb]
    have v1 : PE (cxOf (L2.CX P w) P w K mg base ["self"] qual (defScope st) f cdv A outer s H E) (.Name "self" q2) (tVar 0) := pe_var rfl (.inl hl1)
    refine ⟨_, pss_cons (ps_expr (pe_xinit BX eB hl3 hm (pa_cons v1 (pa_cons pe_str pa_nil rfl) rfl) hh rfl hln rfl rfl) rfl) pss_nil, ?_⟩
    refine ⟨.ref a, rfl, ?_⟩
    exact ⟨a, C, [.str m], rfl, by simp, T, ea, q⟩
end
/-! ### C(..): made, let go -/
section
variable {X : L2.Cx}
/-- the end of C(), no field -/
theorem mk_endN {pins : List (Addr × Obj)} {σ : L2.St} {H1 H2 : Hp} {Q : XK} {hp hp2 h2 : Heap} {g1 g2 : Array GenState} {d1 d2 : Drawn} {t1 t2 : Nat} {os1 os2 : OsState} {a C : Addr} (T : Raises X (.ref C)) (I1 : Inv X pins σ H1 ⟨hp, g1, d1, t1, os1⟩)
    (ha : hp.objs.size ≤ a) (k : ∀ b o, hp.get? b = some o → hp2.get? b = some o) (un : Un (L2.frs X.stack) [] (upd H1 a (exo a C none)) H2 hp2 h2) (hok : HOk X.prog X.w H2 h2) (ho : os2 = os1) (hb : AllBare g2)
    (ea : H2 a = some (exo a C none)) (q : Q (.ref C) none (L2.del H2 a)) : MkP X pins σ Q (.ref a) ⟨h2, g2, d2, t2, os2⟩ := by
  obtain ⟨t0, hoe⟩ := exo_at hok ea
  have hn : H1 a = none := I1.hok.fresh ha
  obtain ⟨G, g1', g2'⟩ := restrict h2 fun b => decide (b ≠ a)
  have gk : ∀ b, b ≠ a → G.get? b = h2.get? b := fun b hb => g1' b (decide_eq_true hb)
  have ge : G.get? a = none := g2' a (by simp)
  have nha : ∀ {b : Addr} {o : Obj}, hp.get? b = some o → b ≠ a := fun {b o} z => Nat.ne_of_lt (Nat.lt_of_lt_of_le (Heap.lt_size z) ha)
  have up : ∀ {b : Addr}, b ≠ a → H1 b = none → upd H1 a (exo a C none) b = none := fun {b} hb n => by rw [upd_ne hb]; exact n
  have U : Un (L2.frs X.stack) [] H1 (L2.del H2 a) hp G := {
    keep := fun b o z n hf hx => by
      rw [gk b (nha z)]
      exact un.keep b o (k b o z) (up (nha z) n) hf hx
    slot := fun b o z n hf hx => by
      rw [gk b (nha z)]
      exact un.slot b o (k b o z) (up (nha z) n) hf hx
    free := fun b o z n hx => by
      rw [del_ne (nha z)]
      exact un.free b o (k b o z) (up (nha z) n) hx
    there := fun b o z hx => by
      rw [gk b (nha z)]
      exact un.there b o (k b o z) hx
    tups := fun b xs z => by
      rw [del_ne (ne_of_none z hn)]
      exact un.tups b xs (by rw [upd_ne (ne_of_none z hn)]; exact z)
    frzs := fun b o v z => by
      rw [del_ne (ne_of_none z hn)]
      exact un.frzs b o v (by rw [upd_ne (ne_of_none z hn)]; exact z)
    tbls := fun b ps z => by
      rw [del_ne (ne_of_none z hn)]
      exact un.tbls b ps (by rw [upd_ne (ne_of_none z hn)]; exact z) }
  have hok3 : HOk X.prog X.w (L2.del H2 a) G := fun b o z => by
    have hba : b ≠ a := fun e => by
      rw [e, del_same] at z
      cases z
    rw [del_ne hba] at z
    have noa : ∀ {c : Addr}, H2 c = some (.own b) → c ≠ a := fun {c} hc => at_ne ea hc exo_own
    exact (hok b o z).stay (fun c v hc y => by
        have hca : c ≠ a := by
          rcases hc with hc | hc
          · rw [hc]
            exact hba
          · exact noa hc
        rw [gk c hca]
        exact y)
      (fun c hc => by rw [del_ne (noa hc)]; exact hc) (fun c xs hc => by rw [del_ne (at_ne ea hc exo_tup)]; exact hc)
  have J : Inv X pins σ (L2.del H2 a) ⟨G, g2, d2, t2, os2⟩ := I1.call' (ch := []) ho U hok3 hb (fun b z => absurd z (by simp))
  refine ⟨a, _, _, ⟨G, g2, d2, t2, os2⟩, _, .ref C, none, rfl, J, fun b o z => ?_, ge, hoe, ⟨rfl, rfl⟩, rfl, rfl, del_same, rfl, hb, T, q⟩
  by_cases hba : b = a
  · rw [hba, ge] at z
    cases z
  · exact (gk b hba).symm.trans z
/-- C(e, ..), C's own __init__ keeping sp -/
def tMkX (C : Addr) (sp : Sp) (ta : TA) : L2.St → Hp → XK → Prop := fun σ H Q => ta σ H fun vs H1 => vs.length ≤ 1000 ∧ ∀ a, H1 a = none → sp (.ref a :: vs) (upd H1 a (exo a C none))
  (fun v H2 => v = .non ∧ ((∃ (d : Addr) (fs : List (Str × V)), H2 a = some (exo a C (some d)) ∧ H2 d = some (exd d fs) ∧ H1 d = none ∧ Q (.ref C) (some d) (upd (L2.del H2 a) d (.xd fs))) ∨ (H2 a = some (exo a C none) ∧ Q (.ref C) none (L2.del H2 a)))) (fun _ _ _ => False)
theorem mkx_call {pins : List (Addr × Obj)} {σ : L2.St} {H1 : Hp} {Q : XK} {s1 : Shared} {us : List Value} {vs : List V} {B newId initId : String} {bmB : List Value} {C fI : Addr} {k : Nat} {fd : FuncData} {ps : List Str} {sp : Sp} (BX : BaseX B newId initId bmB) (T : OwnX X.K C newId bmB)
    (iC : PySem.W.findIn X.K (.ref C) "__init__" = some (some (.ref fI))) (tI : PySem.W.typeIn X.K (.ref fI) = some (.type "function"))
    (F1 : FnG X.prog X.w X.K X.mg X.base k fI fd ps sp) (hr : Room (k + 1) X.A) (hgd : X.A.guards = some []) (hb : Binds X.K fd ps []) (hx : L2.Passes (L2.CX X.prog X.w) X (fun _ _ _ => False))
    (I1 : Inv X pins σ H1 s1) (r1 : Vals vs us) (hz : vs.length ≤ 1000) (q1 : ∀ a, H1 a = none → sp (.ref a :: vs) (upd H1 a (exo a C none))
      (fun v H2 => v = .non ∧ ((∃ (d : Addr) (fs : List (Str × V)), H2 a = some (exo a C (some d)) ∧ H2 d = some (exd d fs) ∧ H1 d = none ∧ Q (.ref C) (some d) (upd (L2.del H2 a) d (.xd fs))) ∨ (H2 a = some (exo a C none) ∧ Q (.ref C) none (L2.del H2 a)))) (fun _ _ _ => False)) :
    wpAny (model X.prog X.w) X.A (PySem.call (.ref C) us) (MkP X pins σ Q) X.xe s1 := by
  obtain ⟨nm, N, q, bs, bm, hdct, sn, sub, ab, col, dd, k0, k1, k2, k3, k5, hC, hbm⟩ := PySem.W.excInit_of I1.kIn T.cls
  obtain ⟨hp, g, dr, tk, os⟩ := s1
  have hsz : hp.objs.size ≤ hp.objs.size + 1 := Nat.le_succ _
  have hn : H1 (hp.objs.size + 1) = none := I1.hok.fresh hsz
  have hq := q1 (hp.objs.size + 1) hn
  have kk : ∀ b o, hp.get? b = some o → ((hp.push (PySem.W.kdv_tup us)).push (PySem.HandSPX.excO C hp.objs.size)).get? b = some o := fun b o e => Heap.get?_push_of_some _ (Heap.get?_push_of_some _ e)
  have hget : ((hp.push (PySem.W.kdv_tup us)).push (PySem.HandSPX.excO C hp.objs.size)).get? (hp.objs.size + 1) = some (PySem.HandSPX.excO C hp.objs.size) := by heap_get
  have I2 : Inv X pins σ (upd H1 (hp.objs.size + 1) (exo (hp.objs.size + 1) C none)) ⟨(hp.push (PySem.W.kdv_tup us)).push (PySem.HandSPX.excO C hp.objs.size), g, dr, tk, os⟩ :=
    I1.laid (t' := tk) (a := hp.objs.size + 1) (o := exo (hp.objs.size + 1) C none) (h' := (hp.push (PySem.W.kdv_tup us)).push (PySem.HandSPX.excO C hp.objs.size)) kk hsz (exo_ok hget)
  have r2 : Vals (V.ref (hp.objs.size + 1) :: vs) (Value.ref (hp.objs.size + 1) :: us) := .cons rfl r1
  have hl : (Value.ref (hp.objs.size + 1) :: us).length = ps.length := by
    have e := r2.length
    rw [F1.len _ _ _ _ hq] at e
    exact e.symm
  have hus : us.length ≤ sizeLine := by
    rw [← Paired.length r1, sizeLine_eq]
    omega
  have hb2 := hb ⟨(hp.push (PySem.W.kdv_tup us)).push (PySem.HandSPX.excO C hp.objs.size), g, dr, tk, os⟩ (Value.ref (hp.objs.size + 1) :: us) I2.kIn (by rw [List.append_nil]; exact hl)
  rw [List.append_nil] at hb2
  refine wpAny_call (PySem.HandSPX.call_own BX.base hbm hC (PySem.W.looks_findIn I1.kIn iC) (fun self => PySem.W.bind_fn I1.kIn self tI) hus
    (codeAny_mono (F1.run _ X.stack _ _ ⟨Value.ref (hp.objs.size + 1) :: us, []⟩ (Value.ref (hp.objs.size + 1) :: us) _ _ (fun _ _ _ => False) hgd (hr.make C us []) (I2.env0.make C us []) hb2 r2 hq) fun r s' hq' => ?_))
  cases r with
  | error er => exact hx pins σ _ _ er s' I2 hq'
  | ok fl =>
    cases fl with
    | ret u =>
      obtain ⟨v, H2, os2, bare2, un2, hok2, rv, ev, hh⟩ := hq'
      subst ev
      obtain ⟨h2, g2, d2, t2, os'⟩ := s'
      rcases hh with ⟨d, fs, ea, ed, hd1, q2⟩ | ⟨ea, q2⟩
      · exact ⟨rv, mk_end (raises_own T.exC T.tyC) I1 hsz kk un2 hok2 os2 bare2 ea ed hd1 q2⟩
      · exact ⟨rv, mk_endN (raises_own T.exC T.tyC) I1 hsz kk un2 hok2 os2 bare2 ea q2⟩
    | next => exact False.elim hq'
    | brk => exact False.elim hq'
    | cont => exact False.elim hq'
variable {e : Expr} {es : List Expr} {ta : TA} {p pos : Pos}
theorem pmk_x {B newId initId : String} {bmB : List Value} {x : Str} {C fI : Addr} {k : Nat} {fd : FuncData} {ps : List Str} {sp : Sp} (BX : BaseX B newId initId bmB) (T : OwnX X.K C newId bmB)
    (iC : PySem.W.findIn X.K (.ref C) "__init__" = some (some (.ref fI))) (tI : PySem.W.typeIn X.K (.ref fI) = some (.type "function"))
    (F1 : FnG X.prog X.w X.K X.mg X.base k fI fd ps sp) (hr : Room (k + 1) X.A) (hgd : X.A.guards = some []) (hb : Binds X.K fd ps []) (hx : L2.Passes (L2.CX X.prog X.w) X (fun _ _ _ => False)) (hg : Gl X x) (hm : X.mg x = some (.ref C)) (ha : PA X (e :: es) ta)
    (hdb : (x == ("__debug__" : Str)) = false) (he : starEach (e :: es) X.env = (false, eval e X.env) :: starEach es X.env) (hpl : (backTo pos (starEach es X.env)).any (·.1) = false) :
    PMk X (.Call (.Name x p) (e :: es) [] pos) (tMkX C sp ta) := by
  intro pins s σ H Q I h
  refine wpAny_Call_Name_kw (ld_glob I hg hm ?_ hdb)
  refine PySem.W.callWith_K (h₀ := X.base) I.ok.mod.kin T.kC (thn (ha.run pos pins s σ H _ I h) fun us s1 ⟨vs, H1, I1, r1, hz, q1⟩ => ⟨I1.kIn, ?_⟩) he hpl
  exact mkx_call BX T iC tI F1 hr hgd hb hx I1 r1 hz q1
theorem pmk_x0 {B newId initId : String} {bmB : List Value} {x : Str} {C fI : Addr} {k : Nat} {fd : FuncData} {ps : List Str} {sp : Sp} (BX : BaseX B newId initId bmB) (T : OwnX X.K C newId bmB)
    (iC : PySem.W.findIn X.K (.ref C) "__init__" = some (some (.ref fI))) (tI : PySem.W.typeIn X.K (.ref fI) = some (.type "function"))
    (F1 : FnG X.prog X.w X.K X.mg X.base k fI fd ps sp) (hr : Room (k + 1) X.A) (hgd : X.A.guards = some []) (hb : Binds X.K fd ps []) (hx : L2.Passes (L2.CX X.prog X.w) X (fun _ _ _ => False)) (hg : Gl X x) (hm : X.mg x = some (.ref C))
    (hdb : (x == ("__debug__" : Str)) = false) : PMk X (.Call (.Name x p) [] [] pos) (tMkX C sp fun σ H Q => Q [] H) := by
  intro pins s σ H Q I h
  refine wpAny_Call_Name_kw (ld_glob I hg hm ?_ hdb)
  exact PySem.W.callWith_K0 I.kIn T.kC (mkx_call BX T iC tI F1 hr hgd hb hx I .nil h.1 h.2)
end
end MP
set_option Elab.async false
set_option linter.all false
set_option maxRecDepth 100000
set_option maxHeartbeats 2000000
/-! MPExc2: raise. -/
namespace MP
open PySem PySem.Spec PyProof.Rows L2
/-- how an exception of the program's own classes is told -/
def xrK (K : PySem.W.Frag) : Al → Hp → Value → Option Addr → Nat → List Val → Prop := fun al H cls d c fs =>
  cls = .ref (xcls K c) ∧ excK K c = true ∧ ∃ us, XFld H c d us ∧ RepL K al H us fs
/-- a class that may be raised -/
structure XStd (P : Program) (w : World) (K : PySem.W.Frag) (mg : Str → Option Value) (base : Heap) (c : Nat) : Prop where
  own : ∃ (B newId initId : String) (bmB : List Value) (fI : Addr) (fd : FuncData) (ps : List Str), BaseX B newId initId bmB ∧ OwnX K (xcls K c) newId bmB ∧ PySem.W.findIn K (.ref (xcls K c)) "__init__" = some (some (.ref fI)) ∧ PySem.W.typeIn K (.ref fI) = some (.type "function") ∧
    Binds K fd ps [] ∧ if fldNo c = 99 then FnG P w K mg base 1 fI fd ps (spX0 K newId bmB) else (PySem.W.takerIn K (xcls K c) (fldName (fldNo c)) = some none ∧ FnG P w K mg base 1 fI fd ps (spX1 K newId bmB (fldName (fldNo c))))
  mg : mg (excName c) = some (.ref (xcls K c))
  ok : excK K c = true
structure XGood (X : L2.Cx) (c : Nat) : Prop where
  std : XStd X.prog X.w X.K X.mg X.base c
  room : Room 2 X.A
  lt : c < 18
theorem same_upd2 {H1 : Hp} {a dx : Addr} {o u w z : HO} (ha : H1 a = none) (hd : dx ≠ a) : upd (L2.del (upd (upd (upd H1 a o) dx u) a w) a) dx z = upd H1 dx z := by
  funext b
  by_cases hb : b = dx
  · subst hb
    rw [upd_same, upd_same]
  · rw [upd_ne hb, upd_ne hb]
    by_cases hba : b = a
    · subst hba
      rw [del_same, ha]
    · rw [del_ne hba, upd_ne hba, upd_ne hb, upd_ne hba]
theorem del_upd {H1 : Hp} {a : Addr} {o : HO} (ha : H1 a = none) : L2.del (upd H1 a o) a = H1 := by
  funext b
  by_cases hba : b = a
  · subst hba
    rw [del_same, ha]
  · rw [del_ne hba, upd_ne hba]
section
variable {X : L2.Cx} {S : Sg} {e : Expr} {fs : MP.Env → M → R (List Val)} {p pos pos' : Pos} {c : Nat} {x : Str}
theorem ms_raise1 {f1 : Bool} {fe : MP.Env → M → R Val} (xr : S.xr = xrK S.K) (hK : X.K = S.K) (calm : X.calm = true) (tk : Takes X S.W) (hgd : X.A.guards = some []) (g : XGood X c) (hf : fldNo c ≠ 99) (hx : x = excName c) (hg : Gl X x) (hdb : (x == ("__debug__" : Str)) = false)
    (ha : PE X e (tE S f1 fe)) (he : starEach [e] X.env = (false, eval e X.env) :: starEach [] X.env) :
    PS X (.Raise (some (.Call (.Name x p) [e] [] pos)) none pos') (tS S fun r m => (fe r m).thn r fun v m => .exc c [v] r m) := by
  subst hx
  obtain ⟨B, newId, initId, bmB, fI, fd, ps, BX, T, iC, tI, hb, hh⟩ := g.std.own
  rw [if_neg hf] at hh
  obtain ⟨ht, F⟩ := hh
  refine ps_imp (ps_raise calm tk (pmk_x BX T iC tI F g.room hgd hb (passes_call tk fun _ _ _ _ z => z.elim) hg g.std.mg (pa_cons ha pa_nil he) hdb he rfl)) fun D s H ⟨r, m, al, re, rl, q⟩ => ?_
  refine ⟨r, m, al, re, rl, (PostS.thn q re).mono ?_⟩
  rintro y H1 ⟨v, m1, al1, x1, rl1, q1, p1⟩
  refine ⟨by simp, fun a h0 => ⟨a, _, y, rfl, T, ht, upd_same, fun dx h1 h2 => ⟨rfl, .inl ⟨dx, _, upd_same, by rw [upd_ne h2, upd_same], by rw [upd_ne h2] at h1; exact h1, ?_⟩⟩⟩⟩
  rw [upd_ne h2] at h1
  rw [same_upd2 h0 h2]
  have sm : Same H1 (upd H1 dx (.xd [(fldName (fldNo c), y)])) := same_upd h1
  refine p1 _ _ s _ al1 (.of_same sm) (rl1.ext sm) ((re.ext x1).ext (.of_same sm)) ?_
  rw [xr]
  exact ⟨by rw [hK], hK ▸ g.std.ok, [y], ⟨dx, rfl, upd_same⟩, .cons (q1.1.ext (.of_same sm) _ _) .nil⟩
theorem ms_raise0 (xr : S.xr = xrK S.K) (hK : X.K = S.K) (calm : X.calm = true) (tk : Takes X S.W) (hgd : X.A.guards = some []) (g : XGood X c) (hf : fldNo c = 99) (hx : x = excName c) (hg : Gl X x) (hdb : (x == ("__debug__" : Str)) = false) :
    PS X (.Raise (some (.Call (.Name x p) [] [] pos)) none pos') (tS S fun r m => .exc c [] r m) := by
  subst hx
  obtain ⟨B, newId, initId, bmB, fI, fd, ps, BX, T, iC, tI, hb, hh⟩ := g.std.own
  rw [if_pos hf] at hh
  refine ps_imp (ps_raise calm tk (pmk_x0 BX T iC tI hh g.room hgd hb (passes_call tk fun _ _ _ _ z => z.elim) hg g.std.mg hdb)) fun D s H ⟨r, m, al, re, rl, p1⟩ => ?_
  refine ⟨by simp, fun a h0 => ⟨a, _, rfl, T, upd_same, rfl, .inr ⟨upd_same, ?_⟩⟩⟩
  rw [del_upd h0]
  refine p1 _ _ s _ al (.refl _ _) rl re ?_
  rw [xr]
  exact ⟨by rw [hK], hK ▸ g.std.ok, [], rfl, .nil⟩
end
end MP
set_option Elab.async false
set_option linter.all false
set_option maxRecDepth 100000
set_option maxHeartbeats 1000000
/-! MPMore: isinstance, methods, stores, calls of own functions, exchanged stores. -/
namespace MP
open PySem PySem.Spec PyProof.Rows L2
/-! ### isinstance -/
def Ty.nm : Ty → String
  | .int => "int" | .bool => "bool" | .str => "str" | .list => "list" | .tuple => "tuple" | .base b => baseName b | .exc _ => "?"
def Ty.plain : Ty → Bool
  | .exc _ => false
  | .base _ => false
  | _ => true
/-- the class, as a value -/
def Ty.v (K : PySem.W.Frag) : Ty → V
  | .exc c => .ref (xcls K c)
  | t => .ty t.nm
def Ty.val (K : PySem.W.Frag) : Ty → Value
  | .exc c => .ref (xcls K c)
  | t => .type t.nm
def Ty.okK (K : PySem.W.Frag) : Ty → Prop
  | .exc c => c < 18 ∧ excK K c = true
  | .base b => b < 4
  | _ => True
theorem Ty.cls (K : PySem.W.Frag) (t : Ty) : ClsV (t.v K) (t.val K) := by
  cases t <;> first | exact .own _ | exact .ty _
def tyOf : Val → Option String
  | .non => some "NoneType" | .bl _ => some "bool" | .int _ => some "int" | .str _ => some "str" | .tup _ => some "tuple" | .lst _ => some "list"
  | _ => none
/-- what isinstance asks of a value of the class t -/
inductive TyZ (K : PySem.W.Frag) (H : Hp) : V → Value → Val → Prop
  | ty {u : V} {x : Val} {t : String} : tyOf x = some t → TyX K H u (.type t) → TyZ K H u (.type t) x
  | exc {a : Addr} {c : Nat} {d : Option Addr} {us : List V} {fs : List Val} : excK K c = true → H a = some (ExV a (.ref (xcls K c)) d) → XFld H c d us → TyZ K H (.ref a) (.ref (xcls K c)) (.exc c fs)
theorem RepD.ty {K : PySem.W.Frag} {al : Al} {H : Hp} {u : V} {x : Val} {t : String} (h : RepD K al H u x) (e : tyOf x = some t) : TyX K H u (.type t) := by
  cases x <;> simp only [tyOf, Option.some.injEq, reduceCtorEq] at e <;> subst e
  · cases h.non; exact .base .non
  · cases h.bl; exact .base (.bl _)
  · cases h.int; exact .base (.int _)
  · cases h.str; exact .base (.str _)
  · obtain ⟨a, us, rfl, h1, _⟩ := h.tuple
    rcases h1 with (h1 | ⟨o, h1⟩) | ⟨o, its, n, h1, h2, _⟩
    · exact .base (.tup h1)
    · exact .fTuple h1
    · exact .kTuple h1 h2
  · obtain ⟨a, us, rfl, h1, _⟩ := h.list
    exact .base (.lst h1)
theorem RepD.tyZ {K : PySem.W.Frag} {al : Al} {H : Hp} {u : V} {x : Val} (h : RepD K al H u x) {sup : Nat → Nat → Bool} {ty : Ty} {b : Bool} (e : isTy sup x ty = some b) : ∃ t, TyZ K H u t x := by
  cases hx : tyOf x with
  | some t => exact ⟨_, .ty hx (h.ty hx)⟩
  | none =>
    cases x <;> simp only [tyOf, reduceCtorEq] at hx <;> first | (cases ty <;> simp [isTy] at e; done) | skip
    rename_i c fs
    cases h with
    | of h =>
      cases h with
      | exc h0 h1 h2 h3 => exact ⟨_, .exc h0 h1 h2⟩
theorem kit_isTy {sup : Nat → Nat → Bool} {K : PySem.W.Frag} {x : Val} {t : String} {ty : Ty} {b : Bool} (e : tyOf x = some t) (hp : ty.plain = true) (h : isTy sup x ty = some b) : PySem.W.kitOne K (.type t) (.type ty.nm) = some b := by
  cases x <;> simp only [tyOf, Option.some.injEq, reduceCtorEq] at e <;> subst e <;> cases ty <;> simp only [Ty.plain, Bool.false_eq_true] at hp <;> (simp only [isTy, Option.some.injEq] at h; subst h; exact kit_ty (by decide +kernel))
theorem excK_at {K : PySem.W.Frag} {c d : Nat} (h : excK K c = true) (hd : d < 18) (hx : hasX K d = true) : PySem.W.kitCls K (.ref (xcls K c)) (.ref (xcls K d)) = some (c == d) ∧ (c = d ∨ xcls K c ≠ xcls K d) := by
  unfold excK at h
  simp only [Bool.and_eq_true, List.all_eq_true] at h
  have := h.1.2 d (List.mem_range.mpr hd)
  simpa [hx] using this
theorem excK_base {K : PySem.W.Frag} {c b : Nat} (h : excK K c = true) (hb : b < 4) : PySem.W.kitCls K (.ref (xcls K c)) (.type (baseName b)) = some (excSup c b) := by
  unfold excK at h
  simp only [Bool.and_eq_true, List.all_eq_true] at h
  exact of_decide_eq_true (h.2 b (List.mem_range.mpr hb))
theorem excK_has {K : PySem.W.Frag} {c : Nat} (h : excK K c = true) : hasX K c = true := by
  unfold excK at h
  simp only [Bool.and_eq_true] at h
  exact h.1.1.1.1.1.1.1.1.1.1.1.1
theorem kit_own {K : PySem.W.Frag} {t : String} {C : Addr} {b : Bool} (h : PySem.W.kitCls K (.ref C) (.ref C) = some b) (ht : (fastBuiltinMro t).map (·.contains (.ref C)) = some false) : PySem.W.kitOne K (.type t) (.ref C) = some false := by
  unfold PySem.W.kitOne
  rw [if_neg (by rw [show (Value.type t == Value.ref C) = false from rfl]; exact Bool.false_ne_true)]
  unfold PySem.W.kitCls at h ⊢
  dsimp only at h ⊢
  split at h
  · rename_i hc
    rw [if_pos hc]
    exact ht
  · cases h
theorem kit_isTyZ {K : PySem.W.Frag} {H : Hp} {u : V} {x : Val} {t : Value} {ty : Ty} {b : Bool} (z : TyZ K H u t x) (ok : ty.okK K) (h : isTy excSup x ty = some b) : PySem.W.kitOne K t (ty.val K) = some b := by
  cases z with
  | @ty _ _ t e _ =>
    by_cases hp : ty.plain = true
    · have := kit_isTy (K := K) e hp h
      cases ty <;> first | exact this | (simp [Ty.plain] at hp; done)
    · cases ty <;> first | exact absurd rfl hp | skip
      · rename_i c
        have hb : b = false := by
          cases x <;> simp [isTy] at h <;> first | exact h.symm | exact h | (simp [tyOf] at e; done) | skip
        subst hb
        have k1 := (excK_at ok.2 ok.1 (excK_has ok.2)).1
        refine kit_own k1 ?_
        cases x <;> simp only [tyOf, Option.some.injEq, reduceCtorEq] at e <;> subst e <;> kernel_rfl
      · rename_i k
        have hb : b = false := by
          cases x <;> simp [isTy] at h <;> first | exact h.symm | exact h | (simp [tyOf] at e; done) | skip
        subst hb
        have hk : k < 4 := ok
        have : k = 0 ∨ k = 1 ∨ k = 2 ∨ k = 3 := by omega
        rcases this with rfl | rfl | rfl | rfl <;> cases x <;> simp only [tyOf, Option.some.injEq, reduceCtorEq] at e <;> subst e <;> exact kit_ty (by decide +kernel)
  | @exc a c d us fs h0 h1 h2 =>
    cases ty <;> first | (simp [isTy] at h; done) | skip
    · rename_i k
      simp only [isTy, Option.some.injEq] at h
      subst h
      obtain ⟨k1, k2⟩ := excK_at h0 ok.1 (excK_has ok.2)
      unfold PySem.W.kitOne
      show (if (Value.ref (xcls K c) == Value.ref (xcls K k)) = true then some true else PySem.W.kitCls K (.ref (xcls K c)) (.ref (xcls K k))) = _
      split
      · rename_i e
        rcases k2 with rfl | k2
        · simp
        · exact absurd (Value.ref.inj (beq_iff_eq.mp e)) k2
      · exact k1
    · rename_i k
      simp only [isTy, Option.some.injEq] at h
      subst h
      unfold PySem.W.kitOne
      rw [if_neg (by rw [show (Value.ref (xcls K c) == Ty.val K (.base k)) = false from rfl]; exact Bool.false_ne_true)]
      exact excK_base h0 ok
theorem kit_any {K : PySem.W.Frag} {H : Hp} {u : V} {x : Val} {t : Value} (z : TyZ K H u t x) : ∀ {tys : List Ty} {bs : List Bool}, (∀ ty ∈ tys, ty.okK K) → (tys.mapM fun ty => isTy excSup x ty) = some bs → PySem.W.kitAny K t (tys.map fun ty => ty.val K) = some (bs.any id)
  | [], bs, _, h => by simp at h; subst h; rfl
  | ty :: tys, bs, hp, h => by
    rw [List.mapM_cons] at h
    cases e1 : isTy excSup x ty with
    | none => rw [e1] at h; simp at h
    | some b =>
      cases e2 : tys.mapM fun ty => isTy excSup x ty with
      | none => rw [e1, e2] at h; simp at h
      | some cs =>
        rw [e1, e2] at h
        simp at h
        subst h
        refine kitAny_cons (kit_isTyZ z (hp ty List.mem_cons_self) e1) (fun hb => ?_) fun hb => ?_
        · subst hb
          simpa using kit_any z (fun ty h => hp ty (List.mem_cons_of_mem _ h)) e2
        · subst hb
          simp
/-- what the library's isinstance rules ask -/
theorem kit_ofZ {X : L2.Cx} {pins : List (Addr × Obj)} {σ : L2.St} {H : Hp} {s : Shared} {x : V} {u t : Value} {v : Val} (I : Inv X pins σ H s) (rx : RelV x u) (ty : TyZ X.K H x t v) : ∃ P : Heap → Prop, PySem.W.KitX X.K u t P ∧ P s.heap ∧ u ≠ .builtin "__main__.__loader__#opaque" := by
  cases ty with
  | ty _ h => exact kit_of I rx h
  | @exc a c d us fs h0 h1 h2 =>
    cases (show u = Value.ref a from rx)
    obtain ⟨⟨oe, vs, ho, hz, hd⟩, _, _⟩ := I.hok a _ h1
    have q := h0
    unfold excK at q
    simp only [Bool.and_eq_true, decide_eq_true_eq] at q
    obtain ⟨⟨⟨⟨⟨⟨⟨⟨⟨⟨⟨⟨q1, q2⟩, q3⟩, q4⟩, q5⟩, q6⟩, q7⟩, q8⟩, q9⟩, q10⟩, q11⟩, _⟩, _⟩ := q
    have J : ∃ od, PySem.W.InstAt s.heap a oe (xcls X.K c) od := by
      have nc : PySem.W.notCls oe = true := by unfold PySem.W.notCls; rw [hd] <;> rfl
      cases us with
      | nil =>
        have e : d = none := h2
        exact ⟨none, ho, hz.1, nc, by rw [hz.2, e]; trivial⟩
      | cons u us =>
        cases us with
        | cons _ _ => exact h2.elim
        | nil =>
          obtain ⟨dd, e, hx⟩ := h2
          obtain ⟨o, h⟩ := objOk_get (I.hok dd _ hx)
          exact ⟨some o, ho, hz.1, nc, by rw [hz.2, e]; exact h⟩
    obtain ⟨od, J⟩ := J
    exact ⟨_, PySem.W.kitx_exc q2 q3 q4 q5 q6 q7 q8 q9, J, fun z => nomatch z⟩
/-- isinstance(x, c), isinstance(x, (c1, ..)) -/
def rIsZ (K : PySem.W.Frag) : List V → Hp → VK → Prop := fun xs H Q => ∃ (x c : V) (t u : Value) (b : Bool) (v : Val), xs = [x, c] ∧ ClsV c u ∧ TyZ K H x t v ∧ PySem.W.kitOne K t u = some b ∧ Q (.bl b) H
def rIsZT (K : PySem.W.Frag) : List V → Hp → VK → Prop := fun xs H Q => ∃ (x : V) (tp : Addr) (cs : List V) (t : Value) (us : List Value) (b : Bool) (v : Val), xs = [x, .ref tp] ∧ H tp = some (.tup cs) ∧ Paired ClsV cs us ∧ TyZ K H x t v ∧ PySem.W.kitAny K t us = some b ∧ Q (.bl b) H
theorem call_isZ {X : L2.Cx} : CallR X (.builtin "isinstance") (rIsZ X.K) := by
  intro pins s σ H xs us Q I r h
  obtain ⟨x, c, t, u, b, v, rfl, k, ty, e, q⟩ := h
  obtain ⟨u1, u2, rfl, r1, r2⟩ := vals2 r
  have e2 := k.eq r2
  subst e2
  obtain ⟨P, Z, p, hx⟩ := kit_ofZ I r1 ty
  exact PySem.W.kia_one Z I.kIn p e hx fun tk => ⟨.bl b, H, I.tok tk, rfl, q⟩
theorem call_isZT {X : L2.Cx} : CallR X (.builtin "isinstance") (rIsZT X.K) := by
  intro pins s σ H xs us Q I r h
  obtain ⟨x, tp, cs, t, ws, b, v, rfl, hT, k, ty, e, q⟩ := h
  obtain ⟨u1, u2, rfl, r1, r2⟩ := vals2 r
  cases (show u2 = Value.ref tp from r2)
  obtain ⟨P, Z, p, hx⟩ := kit_ofZ I r1 ty
  obtain ⟨_, its, rv, o, h1, h2, n, h3⟩ := (show ObjOk X.prog X.w H s.heap tp (.tup cs) from I.hok tp _ hT)
  have e3 := ClsV.all k rv
  subst e3
  obtain ⟨oc, od, dt, sl⟩ := o
  simp only at h2 h3
  subst h2 h3
  exact PySem.W.kia_tup Z I.kIn p h1 e hx fun tk => ⟨.bl b, H, I.tok tk, rfl, q⟩
section
variable {X : L2.Cx} {S : Sg} {a o i e : Expr} {es : List Expr} {f1 f2 f3 : Bool} {fa fb fo fi fe : MP.Env → M → R Val} {fs : MP.Env → M → R (List Val)} {pos : Pos}
theorem me_isi1 {ty : Ty} {p tp : Pos} (hg : Gl X "isinstance") (hm : X.mg "isinstance" = none) (hp : ty.okK S.K) (hK : X.K = S.K) (ha : PE X a (tE S f1 fa)) {x : Str} (ht : PE X (.Name x tp) (tC (ty.v S.K)))
    (h1 : starEach [a, .Name x tp] X.env = (false, eval a X.env) :: starEach [.Name x tp] X.env) (h2 : (backTo pos (starEach [.Name x tp] X.env)).any (·.1) = false) :
    PE X (.Call (.Name "isinstance" p) [a, .Name x tp] [] pos) (tE S false fun r m => (fa r m).bind fun x m => (opt ([ty].mapM fun t => isTy excSup (dr m x) t) m).bind fun bs m => .ok (.bl (bs.any id)) m) := by
  refine pe_imp (pe_callB call_isZ hg hm (by decide +kernel) (pa_cons ha (pa_cons ht pa_nil rfl) h1) (by decide) (by decide) h1 h2) fun s H Q ⟨r, m, al, re, rl, p⟩ => ?_
  refine ⟨r, m, al, re, rl, p.seq.mono ?_⟩
  rintro u H1 ⟨v, m1, al1, x1, rl1, q1, p1⟩
  cases eb : ([ty].mapM fun t => isTy excSup (dr m1 v) t) with
  | none => rw [eb] at p1; exact p1.elim
  | some bs =>
    rw [eb] at p1
    obtain ⟨b, e1, e2⟩ : ∃ b, isTy excSup (dr m1 v) ty = some b ∧ bs = [b] := by
      rw [List.mapM_cons] at eb
      cases e1 : isTy excSup (dr m1 v) ty with
      | none => rw [e1] at eb; simp at eb
      | some b => rw [e1] at eb; simp at eb; exact ⟨b, rfl, eb.symm⟩
    subst e2
    have rd : RepD S.K al1 H1 u (dr m1 v) := .dr q1.1 rl1
    obtain ⟨t, z⟩ := rd.tyZ e1
    refine ⟨u, ty.v S.K, t, ty.val S.K, b, _, rfl, ty.cls S.K, by rw [hK]; exact z, by rw [hK]; exact kit_isTyZ z hp e1, ?_⟩
    have p1 : Post S (relV S false H) al1 H1 s Q (.ok (.bl ([b].any id)) m1) := p1
    have := p1.val rl1 (.bl _)
    simpa using this
theorem pa_tys {K : PySem.W.Frag} : ∀ {tys : List Ty}, Paired (fun (n : Expr) (t : Ty) => PE X n (tC (t.v K)) ∧ ∀ r, starEach (n :: r) X.env = (false, eval n X.env) :: starEach r X.env) es tys → PA X es (fun s H Q => Q (tys.map fun t => t.v K) H) := by
  intro tys h
  induction h with
  | nil => exact pa_imp pa_nil fun s H Q q => q
  | @cons n t ns ts h1 h2 ih => exact pa_imp (pa_cons h1.1 ih (h1.2 _)) fun s H Q q => q
theorem me_isiT {tys : List Ty} {k : Nat} {p tp : Pos} (hg : Gl X "isinstance") (hm : X.mg "isinstance" = none) (hp : ∀ ty ∈ tys, ty.okK S.K) (hz : tys.length ≤ 100) (hz0 : tys ≠ []) (hK : X.K = S.K) (ha : PE X a (tE S f1 fa))
    (ht : PA X es (fun s H Q => Q (tys.map fun t => t.v S.K) H)) (h1 : starEach [a, .Tuple es k tp] X.env = (false, eval a X.env) :: starEach [.Tuple es k tp] X.env) :
    PE X (.Call (.Name "isinstance" p) [a, .Tuple es k tp] [] pos) (tE S false fun r m => (fa r m).bind fun x m => (opt (tys.mapM fun t => isTy excSup (dr m x) t) m).bind fun bs m => .ok (.bl (bs.any id)) m) := by
  refine pe_imp (pe_callB call_isZT hg hm (by decide +kernel) (pa_cons ha (pa_cons (pe_tup ht) pa_nil rfl) h1) (by decide) (by decide) h1 rfl) fun s H Q ⟨r, m, al, re, rl, p⟩ => ?_
  refine ⟨r, m, al, re, rl, p.seq.mono ?_⟩
  rintro u H1 ⟨v, m1, al1, x1, rl1, q1, p1⟩
  refine ⟨by rw [List.length_map]; have := sizeLine_eq; omega, fun T hT => ?_⟩
  cases eb : (tys.mapM fun t => isTy excSup (dr m1 v) t) with
  | none => rw [eb] at p1; exact p1.elim
  | some bs =>
    rw [eb] at p1
    have sm : Same H1 (upd H1 T (.tup (tys.map fun t => t.v S.K))) := same_upd hT
    have rl2 := rl1.ext sm
    have rd : RepD S.K al1 (upd H1 T (.tup (tys.map fun t => t.v S.K))) u (dr m1 v) := .dr (q1.1.ext (.of_same sm) _ _) rl2
    obtain ⟨t, z⟩ : ∃ t, TyZ S.K (upd H1 T (.tup (tys.map fun t => t.v S.K))) u t (dr m1 v) := by
      cases tys with
      | nil => exact absurd rfl hz0
      | cons ty tys =>
        rw [List.mapM_cons] at eb
        cases e1 : isTy excSup (dr m1 v) ty with
        | none => rw [e1] at eb; simp at eb
        | some b => exact rd.tyZ e1
    have pr : ∀ tys : List Ty, Paired ClsV (tys.map fun t => t.v S.K) (tys.map fun t => t.val S.K) := fun tys => by
      induction tys with
      | nil => exact .nil
      | cons t ts ih => exact .cons (t.cls S.K) ih
    refine ⟨u, T, _, t, _, bs.any id, _, rfl, upd_same, pr tys, by rw [hK]; exact z, by rw [hK]; exact kit_any z hp eb, ?_⟩
    have p1 : Post S (relV S false H) al1 H1 s Q (.ok (.bl (bs.any id)) m1) := p1
    exact p1 _ _ al1 (.of_same sm) rl2 ⟨.bl _, fun h => by cases h⟩
/-! ### e.f, a caught exception's field -/
theorem me_fld {n : Str} {j : Nat} (hK : X.K = S.K) (hn : n = fldName j) (ha : PE X a (tE S f1 fa)) (hb : attributeBase a n X.env (eval a X.env) = eval a X.env) :
    PE X (.Attribute a n pos) (tE S false fun r m => (fa r m).bind fun x m => match x with
      | .exc c fs => if fldNo c = j then opt fs[0]? m else .stuck
      | _ => .stuck) := by
  subst hn
  refine ⟨fun pins s σ H Q I ⟨r, m, al, re, rl, p⟩ => ?_⟩
  refine attr_of hb (thn (ha.run pins s σ H _ I ⟨r, m, al, re, rl, p.seq⟩) fun u s1 ⟨x, H1, I1, rx, v, m1, al1, x1, rl1, q1, p1⟩ => ?_)
  cases v <;> first | exact p1.elim | skip
  rename_i c fs
  dsimp only at p1
  split at p1
  · rename_i hj
    subst hj
    cases q1.1 with
    | @exc a _ d us _ h0 h1 h2 h3 =>
      obtain ⟨v, ev, p2⟩ := p1.opt
      obtain ⟨y, ey, ry⟩ := h3.get ev
      cases us with
      | nil => simp at ey
      | cons y' us =>
        cases us with
        | cons _ _ => exact h2.elim
        | nil =>
          cases ey
          obtain ⟨dd, ed, ea⟩ := h2
          subst ed
          obtain rfl : u = Value.ref a := rx
          obtain ⟨⟨oe, vs, ho, hz, hd⟩, _, _⟩ := I1.hok a _ h1
          have hx : ObjOk X.prog X.w H1 s1.heap dd (.xd [(fldName (fldNo c), y)]) := I1.hok dd _ ea
          obtain ⟨mA, hns, hr⟩ := hx
          obtain ⟨od, ho2, hl⟩ := lookIn_ns hns
          obtain ⟨w, hu, ru⟩ := RelO.some_of (v := y) (o := mA (fldName (fldNo c))) (by
            have := hr (fldName (fldNo c))
            simpa [List.lookup] using this)
          have q := h0
          rw [← hK] at q
          unfold excK at q
          simp only [Bool.and_eq_true, decide_eq_true_eq] at q
          obtain ⟨⟨⟨⟨⟨⟨⟨⟨⟨⟨⟨⟨q1', q2⟩, q3⟩, q4⟩, q5⟩, q6⟩, q7⟩, q8⟩, q9⟩, q10⟩, q11⟩, _⟩, _⟩ := q
          have J : PySem.W.InstAt s1.heap a oe (xcls X.K c) (some od) := ⟨ho, by rw [hz.1, hK], by unfold PySem.W.notCls; rw [hd] <;> rfl, by rw [hz.2]; exact ho2⟩
          exact PySem.HandSPX.exc_get I1.kIn J q3 q4 q5 (PySem.W.findObj_own q10 q11 rfl (by rw [hl, hu])) (handed_of ru) ⟨y, H1, I1.tok _, ru, p2.val rl1 ry⟩
  · exact p1.elim
/-! ### stores -/
theorem low_of {bs : List Nat} {n : Nat} {v : Val} (h0 : ∀ b ∈ bs, b ≤ bs.headD 0) (h : storable (bs.headD 0) n v = true) (b : Nat) (hb : b ∈ bs) (hn : n < b) : v.lt_ b = true := by
  unfold storable at h
  rw [Bool.or_eq_true] at h
  rcases h with h | h
  · exact lt_of_pure b v h
  · have h := of_decide_eq_true h
    have := h0 b hb
    omega
theorem ltAll_append {n : Nat} : ∀ {xs ys : List Val}, ltAll n (xs ++ ys) = (ltAll n xs && ltAll n ys)
  | [], _ => by simp [ltAll]
  | x :: xs, ys => by simp only [List.cons_append, ltAll, ltAll_append (xs := xs), Bool.and_assoc]
theorem ltAll_set {n : Nat} {v : Val} (hv : v.lt_ n = true) : ∀ {xs : List Val} {j : Nat}, ltAll n xs = true → ltAll n (xs.set j v) = true
  | [], _, h => h
  | x :: xs, 0, h => by
    simp only [ltAll, Bool.and_eq_true] at h
    simp only [List.set_cons_zero, ltAll, hv, h.2, Bool.and_self]
  | x :: xs, j + 1, h => by
    simp only [ltAll, Bool.and_eq_true] at h
    simp only [List.set_cons_succ, ltAll, h.1, ltAll_set hv h.2, Bool.and_self]
theorem me_append {apos cpos : Pos} (ho : PE X o (tE S f1 fo)) (ha : PA X (e :: es) (tEs S fs)) (hK : X.K = S.K)
    (hbase : attributeBase o "append" X.env (eval o X.env) = eval o X.env)
    (hfew : ((backTo cpos (starEach (e :: es) X.env)).all (fun x => !x.1) && (backToKw cpos (keywordEach [] X.env)).all (fun x => x.1.isSome)
      && decide ((e :: es).length + ([] : List Keyword).length + (if ([] : List Keyword).isEmpty then 0 else 1) < 30)) = true)
    (hline : (apos.endLine == cpos.line) = true) (hs : starEach (e :: es) X.env = (false, eval e X.env) :: starEach es X.env) (hplain : (backTo cpos (starEach es X.env)).any (·.1) = false) :
    PE X (.Call (.Attribute o "append" apos) (e :: es) [] cpos) (tE S false fun r m => (fo r m).bind fun x m => if mutOk .append m x then (fs r m).bind fun vs m => mthd (S.bs.headD 0) m .append x vs else .stuck) := by
  refine pe_imp (pe_bm PySem.F.plainAttrs_list PySem.F.slot_list_append PySem.F.type_list_append mt_append ho ha hbase hfew hline hs hplain) fun s H Q ⟨r, m, al, re, rl, p⟩ => ?_
  refine ⟨r, m, al, re, rl, p.seq.mono ?_⟩
  rintro u H1 ⟨v, m1, al1, x1, rl1, q1, p1⟩
  cases em : mutOk .append m1 v with
  | false => rw [em] at p1; exact p1.elim
  | true =>
    rw [em, if_pos rfl] at p1
    cases v <;> first | (simp [mutOk] at em; done) | skip
    rename_i n
    cases q1.1 with
    | @ref _ a h1 =>
      obtain ⟨c, ec, qc⟩ := rl1.at h1
      cases c with
      | dct _ _ => exact qc.elim
      | ins _ _ => exact qc.elim
      | lst ys0 =>
        obtain ⟨us0, ea0, _⟩ := qc
        refine ⟨.inl ⟨rfl, us0, .inl (.inl ea0)⟩, r, m1, al1, re.ext x1, rl1, p1.seq.mono ?_⟩
        rintro ws H2 ⟨vs, m2, al2, x2, rl2, q2, p2⟩
        have h2 : al2.c[n]? = some a := by
          have := (Rep.ref h1 : Rep S.K al1 H1 (.ref a) (.ref n)).ext x2 _ _
          cases this with
          | ref h => exact h
        obtain ⟨c2, ec2, qc2⟩ := rl2.at h2
        cases c2 with
        | dct _ _ => exact qc2.elim
        | ins _ _ => exact qc2.elim
        | lst xs =>
          obtain ⟨us, ea, ra⟩ := qc2
          cases vs with
          | nil => exact p2.elim
          | cons y vs =>
            cases vs with
            | cons _ _ => exact p2.elim
            | nil =>
              obtain ⟨w, rfl, rw'⟩ := q2.one
              simp only [mthd, ec2] at p2
              split at p2
              · rename_i hz
                simp only [Bool.and_eq_true, decide_eq_true_eq] at hz
                refine ⟨a, us, w, rfl, rfl, ea, by rw [ra.length]; exact LINE_eq ▸ hz.2, ?_⟩
                have rl3 := rl2.store (ys := xs ++ [y]) h2 ea (ra.append (.cons rw' .nil)) fun b hb hn => by
                  have h3 : ltAll b xs = true := rl2.low b hb n _ hn ec2
                  rw [ltAll_append, h3]
                  simp only [ltAll, low_of rl2.head hz.1 b hb hn, Bool.and_self]
                exact p2 _ _ al2 (.store (List.mem_of_getElem? h2) ea) rl3 ⟨.non, fun h => by cases h⟩
              · exact p2.elim
/-- o[i] = e, o a list -/
theorem ms_set {tpos spos : Pos} (hK : X.K = S.K) (he : PE X e (tE S f1 fe)) (ho : PE X o (tE S f2 fo)) (hi : PE X i (tE S f3 fi))
    (hsw : swapsWithSole [.Subscript o i tpos] e spos.line X.env = pure false) (hst : swappedStores [.Subscript o i tpos] e X.env = pure none)
    (ha : ∀ v, assign (.Subscript o i tpos) X.env v = (do
      let ov ← holding [v] (eval o X.env)
      let iv ← holding [v, ov] (eval i X.env)
      standAt tpos
      holding [v, ov, iv] (setItem ov iv v)
      release [v, ov, iv] [])) :
    PS X (.Assign [.Subscript o i tpos] e spos) (tS S fun r m => (fe r m).thn r fun v m => (fo r m).thn r fun ov m => (fi r m).thn r fun iv m => match setAt (S.bs.headD 0) m ov iv v with
      | some m => .nxt r m
      | none => .stuck) := by
  refine ps_imp (ps_asg he (pg_sub ho hi set_list ha) hsw hst rfl) fun D s H ⟨r, m, al, re, rl, p⟩ => ?_
  refine ⟨r, m, al, re, rl, (p.thn re).mono ?_⟩
  rintro u H1 ⟨v, m1, al1, x1, rl1, q1, p1⟩
  refine ⟨r, m1, al1, re.ext x1, rl1, (p1.thn (re.ext x1)).mono ?_⟩
  rintro w H2 ⟨ov, m2, al2, x2, rl2, q2, p2⟩
  refine ⟨r, m2, al2, (re.ext x1).ext x2, rl2, (p2.thn ((re.ext x1).ext x2)).mono ?_⟩
  rintro t H3 ⟨iv, m3, al3, x3, rl3, q3, p3⟩
  have re3 := ((re.ext x1).ext x2).ext x3
  cases es : setAt (S.bs.headD 0) m3 ov iv v with
  | none => rw [es] at p3; exact p3.elim
  | some m4 =>
    rw [es] at p3
    have qo := q2.1.ext x3 _ _
    have qv := (q1.1.ext x2 _ _).ext x3 _ _
    cases ov <;> simp only [setAt, reduceCtorEq] at es
    rename_i n
    cases qo with
    | @ref _ a h1 =>
      obtain ⟨c, ec, qc⟩ := rl3.at h1
      cases c with
      | dct _ _ => exact qc.elim
      | ins _ _ => exact qc.elim
      | lst xs =>
        obtain ⟨us, ea, ra⟩ := qc
        rw [ec] at es
        cases iv <;> simp only [reduceCtorEq] at es
        rename_i k
        cases q3.1
        cases ej : MP.ixN xs.length k with
        | none => rw [ej] at es; simp at es
        | some j =>
          rw [ej] at es
          simp only [Option.bind_some] at es
          split at es
          · rename_i hz
            cases es
            have ej' : L2.ixN us.length k = some j := by rw [ra.length]; exact ej
            refine ⟨a, us, k, j, rfl, rfl, ea, ej', ?_⟩
            have rl4 := rl3.store (ys := xs.set j v) h1 ea (RepL.set qv j ra) fun b hb hn => ltAll_set (low_of rl3.head hz b hb hn) (rl3.low b hb n _ hn ec)
            have x4 := Ext.store (ws := us.set j u) (List.mem_of_getElem? h1) ea
            exact p3 s _ al3 x4 rl4 (re3.ext x4)
          · cases es
/-! ### own functions -/
/-- what a def promises: what the clean call tells -/
def spF (K : PySem.W.Frag) (xr : Al → Hp → Value → Option Addr → Nat → List Val → Prop) (n : Nat) (c : List Val → Bool → M → R Val) (fl : Bool) : Sp := fun vs H Q E =>
  ∃ args m al bs, args.length = n ∧ RepL K al H vs args ∧ Rl K bs al m H ∧ Post ⟨K, bs, fun cls d _ H => E cls d H, xr⟩ (fun al H u v _ => Rep K al H u v) al H [] Q (c args fl m)
theorem spF_of {vs : List V} {args : List Val} {n : Nat} {c : List Val → Bool → M → R Val} {fl : Bool} {al : Al} {m : M} {H H0 : Hp} {s : L2.St} {Q : VK} (hl : ∀ args fl m, args.length ≠ n → c args fl m = .stuck)
    (rl : Rl S.K S.bs al m H) (q : RepL S.K al H vs args) (p : Post S (relV S false H0) al H s Q (c args fl m)) : spF S.K S.xr n c fl vs H Q (WE S.W s) := by
  have l : args.length = n := by
    by_cases h : args.length = n
    · exact h
    · rw [hl _ _ _ h] at p; exact p.elim
  refine ⟨args, m, al, S.bs, l, q, rl, ?_⟩
  cases e : c args fl m with
  | ok v m' => rw [e] at p; exact fun u H' al' x rl' q => p u H' al' x rl' ⟨q, fun h => by cases h⟩
  | exc cc fs' m' => rw [e] at p; exact p
  | stuck => rw [e] at p; exact p
variable {k n : Nat} {f : Addr} {fd : FuncData} {ps : List Str} {x : Str} {p : Pos} {c : List Val → Bool → M → R Val} {fl : Bool}
theorem me_call (F : FnG X.prog X.w X.K X.mg X.base k f fd ps (spF S.K S.xr n c fl)) (hr : Room k X.A) (hg : X.A.guards = some []) (tk : Takes X S.W) (hgl : Gl X x) (hm : X.mg x = some (.ref f)) (hk : PySem.W.keepIn X.K (.ref f) = true) (hb : Binds X.K fd ps [])
    (hl : ∀ args fl m, args.length ≠ n → c args fl m = .stuck)
    (ha : PA X (e :: es) (tEs S fs)) (hdb : (x == ("__debug__" : Str)) = false) (he : starEach (e :: es) X.env = (false, eval e X.env) :: starEach es X.env) (hpl : (backTo pos (starEach es X.env)).any (·.1) = false) :
    PE X (.Call (.Name x p) (e :: es) [] pos) (tE S false fun r m => (fs r m).bind fun vs m => c vs fl m) := by
  refine pe_imp (pe_callG F hr hg tk hgl hm hk hb ha hdb he hpl) fun s H Q ⟨r, m, al, re, rl, p⟩ => ?_
  refine ⟨r, m, al, re, rl, p.seq.mono ?_⟩
  rintro us H1 ⟨vs, m1, al1, x1, rl1, q1, p1⟩
  exact spF_of hl rl1 q1 p1
theorem me_call0 (F : FnG X.prog X.w X.K X.mg X.base k f fd ps (spF S.K S.xr n c fl)) (hr : Room k X.A) (hg : X.A.guards = some []) (tk : Takes X S.W) (hgl : Gl X x) (hm : X.mg x = some (.ref f)) (hk : PySem.W.keepIn X.K (.ref f) = true) (hb : Binds X.K fd ps [])
    (hl : ∀ args fl m, args.length ≠ n → c args fl m = .stuck) (hdb : (x == ("__debug__" : Str)) = false) :
    PE X (.Call (.Name x p) [] [] pos) (tE S false fun r m => c [] fl m) := by
  refine pe_imp (pe_callG0 F hr hg tk hgl hm hk hb hdb) fun s H Q ⟨r, m, al, re, rl, p⟩ => ?_
  exact spF_of hl rl .nil p
/-- keywords -/
theorem RepL.getD {K : PySem.W.Frag} {al : Al} {H : Hp} {us : List V} {vs : List Val} (r : RepL K al H us vs) (i : Nat) : Rep K al H (us.getD i .non) (vs.getD i .non) := by
  rw [List.getD_eq_getElem?_getD, List.getD_eq_getElem?_getD]
  cases e : vs[i]? with
  | some v =>
    obtain ⟨u, e1, q⟩ := r.get e
    rw [e1]
    exact q
  | none =>
    have := List.getElem?_eq_none_iff.mp e
    rw [List.getElem?_eq_none (by rw [r.length]; exact this)]
    exact .non
theorem RepL.pick {K : PySem.W.Frag} {al : Al} {H : Hp} {us : List V} {vs : List Val} (r : RepL K al H us vs) : ∀ perm : List Nat, RepL K al H (perm.map fun i => us.getD i .non) (perm.map fun i => vs.getD i .non)
  | [] => .nil
  | i :: l => .cons (r.getD i) (RepL.pick r l)
variable {n1 : Nat} {kfs : MP.Env → M → R (List Val)} {ks : List Str} {perm : List Nat} {kws : List Keyword}
theorem me_callk (F : FnG X.prog X.w X.K X.mg X.base k f fd ps (spF S.K S.xr n c fl)) (hr : Room k X.A) (hg : X.A.guards = some []) (tk : Takes X S.W) (hgl : Gl X x) (hm : X.mg x = some (.ref f)) (hk : PySem.W.keepIn X.K (.ref f) = true) (hb : KwB X.K fd ps n1 ks perm)
    (hl : ∀ args fl m, args.length ≠ n → c args fl m = .stuck) (ha : PA X (e :: es) (tEs S fs)) (hkw : PK X kws (tEs S kfs)) (hdb : (x == ("__debug__" : Str)) = false)
    (h1 : ∀ r m vs m', fs r m = .ok vs m' → vs.length = n1) (h2 : ∀ r m vs m', kfs r m = .ok vs m' → vs.length = ks.length)
    (he : starEach (e :: es) X.env = (false, eval e X.env) :: starEach es X.env)
    (hall : (backToKw pos (keywordEach kws X.env)).all (·.1.isSome) = true) (hks : (backToKw pos (keywordEach kws X.env)).filterMap (·.1) = ks)
    (hpl : ((backTo pos (starEach (e :: es) X.env)).any (·.1) || (backToKw pos (keywordEach kws X.env)).any (·.1.isNone)) = false) :
    PE X (.Call (.Name x p) (e :: es) kws pos) (tE S false fun r m => (fs r m).bind fun vs m => (kfs r m).bind fun zs m => c (perm.map fun i => (vs ++ zs).getD i .non) fl m) := by
  refine pe_imp (pe_callKG F hr hg tk hgl hm hk hb ha hkw hdb he hall hks hpl) fun s H Q ⟨r, m, al, re, rl, p⟩ => ?_
  refine ⟨r, m, al, re, rl, (Post.seqE p).mono ?_⟩
  rintro us H1 ⟨vs, m1, al1, e1, x1, rl1, q1, p1⟩
  refine ⟨r, m1, al1, re.ext x1, rl1, (Post.seqE p1).mono ?_⟩
  rintro ws H2 ⟨zs, m2, al2, e2, x2, rl2, q2, p2⟩
  refine ⟨by rw [q1.length]; exact h1 _ _ _ _ e1, by rw [q2.length]; exact h2 _ _ _ _ e2, ?_⟩
  exact spF_of hl rl2 (((q1.ext x2 _ _).append q2).pick perm) p2
theorem me_callk0 (F : FnG X.prog X.w X.K X.mg X.base k f fd ps (spF S.K S.xr n c fl)) (hr : Room k X.A) (hg : X.A.guards = some []) (tk : Takes X S.W) (hgl : Gl X x) (hm : X.mg x = some (.ref f)) (hk : PySem.W.keepIn X.K (.ref f) = true) (hb : KwB X.K fd ps 0 ks perm)
    (hl : ∀ args fl m, args.length ≠ n → c args fl m = .stuck) (hkw : PK X kws (tEs S kfs)) (hdb : (x == ("__debug__" : Str)) = false)
    (h2 : ∀ r m vs m', kfs r m = .ok vs m' → vs.length = ks.length)
    (hall : (backToKw pos (keywordEach kws X.env)).all (·.1.isSome) = true) (hks : (backToKw pos (keywordEach kws X.env)).filterMap (·.1) = ks)
    (hpl : ((backTo pos (starEach [] X.env)).any (·.1) || (backToKw pos (keywordEach kws X.env)).any (·.1.isNone)) = false) :
    PE X (.Call (.Name x p) [] kws pos) (tE S false fun r m => (kfs r m).bind fun zs m => c (perm.map fun i => zs.getD i .non) fl m) := by
  refine pe_imp (pe_callKG0 F hr hg tk hgl hm hk hb hkw hdb hall hks hpl) fun s H Q ⟨r, m, al, re, rl, p⟩ => ?_
  refine ⟨r, m, al, re, rl, (Post.seqE p).mono ?_⟩
  rintro ws H2 ⟨zs, m2, al2, e2, x2, rl2, q2, p2⟩
  refine ⟨by rw [q2.length]; exact h2 _ _ _ _ e2, ?_⟩
  exact spF_of hl rl2 (q2.pick perm) p2
/-! ### exchanged stores -/
theorem bind_two {i j : Nat} {vs : List Val} {r r' : MP.Env} (h : bindTs [.nm i, .nm j] vs r = some r') : ∃ v w, vs = [v, w] ∧ r' = (r.set i (some v)).set j (some w) := by
  cases vs with
  | nil => cases h
  | cons v vs =>
    simp only [bindTs, bindT, Option.bind_eq_some_iff] at h
    obtain ⟨r1, h1, h⟩ := h
    split at h1
    · cases h1
      cases vs with
      | nil => cases h
      | cons w vs =>
        simp only [bindTs, bindT, Option.bind_eq_some_iff] at h
        obtain ⟨r2, h2, h⟩ := h
        split at h2
        · cases h2
          cases vs with
          | nil =>
            simp only [bindTs, Option.some.injEq] at h
            exact ⟨v, w, rfl, h.symm⟩
          | cons _ _ => cases h
        · cases h2
    · cases h1
theorem ms_par {i j : Nat} {x y : Str} {a b : Expr} {fs : MP.Env → M → R (List Val)} {px py pt spos : Pos} {kt k2 : Nat} {pt2 : Pos} (hc : X.calm = true) (hN : X.N.Nodup) (hi : X.N[i]? = some x) (hj : X.N[j]? = some y) (hij : i ≠ j)
    (hx : X.env.scope.names.lookup x = some .local) (hy : X.env.scope.names.lookup y = some .local) (ha : PA X [a, b] (tEs S fs))
    (hw : swappedStores [.Tuple [.Name x px, .Name y py] kt pt] (.Tuple [a, b] k2 pt2) X.env = pure (some [x, y]))
    (hs : swapsWithSole [.Tuple [.Name x px, .Name y py] kt pt] (.Tuple [a, b] k2 pt2) spos.line X.env = pure false) :
    PS X (.Assign [.Tuple [.Name x px, .Name y py] kt pt] (.Tuple [a, b] k2 pt2) spos) (tS S fun r m => ((fs r m).bind fun vs m => if vs.length ≤ LINE then .ok (.tup vs) m else .stuck).thn r fun v m => match bindT (.tup [.nm i, .nm j]) (Tg.see m (.tup [.nm i, .nm j]) v) r with
      | some r => .nxt r m
      | none => .stuck) := by
  refine ps_imp (ps_par hc hN hi hj hij hx hy ha hw hs) fun D s H ⟨r, m, al, re, rl, p⟩ => ?_
  refine ⟨r, m, al, re, rl, ?_⟩
  cases e : fs r m with
  | stuck => dsimp only at p; rw [e] at p; exact p.elim
  | exc c fs' m' =>
    dsimp only at p
    rw [e] at p
    exact fun cls d H' al' x rl q => p cls d s H' al' x rl (re.ext x) q
  | ok vs m' =>
    dsimp only at p
    rw [e] at p
    rintro us H1 al1 x1 rl1 q1
    have p : PostS S al H D (R.thn (if vs.length ≤ LINE then R.ok (Val.tup vs) m' else R.stuck) r fun v m => match bindT (.tup [.nm i, .nm j]) (Tg.see m (.tup [.nm i, .nm j]) v) r with
      | some r => .nxt r m
      | none => .stuck) := p
    split at p
    · have p : PostS S al H D (match bindTs [.nm i, .nm j] vs r with
        | some r => .nxt r m'
        | none => .stuck) := p
      cases eb : bindTs [.nm i, .nm j] vs r with
      | none => rw [eb] at p; exact p.elim
      | some r' =>
        rw [eb] at p
        obtain ⟨v, w, rfl, rfl⟩ := bind_two eb
        obtain ⟨u, t, rfl, ru, rt⟩ := q1.two
        exact ⟨u, t, rfl, p _ H1 al1 x1 rl1 (((re.ext x1).set ru i).set rt j)⟩
    · exact p.elim
theorem RepDs.three {K : PySem.W.Frag} {al : Al} {H : Hp} {us : List V} {x y z : Val} (h : RepDs K al H us [x, y, z]) : ∃ u w t, us = [u, w, t] ∧ RepD K al H u x ∧ RepD K al H w y ∧ RepD K al H t z := by
  cases h with
  | cons h1 h => cases h with
    | cons h2 h => cases h with
      | cons h3 h => cases h; exact ⟨_, _, _, rfl, h1, h2, h3⟩
theorem bind_three {i j l : Nat} {vs : List Val} {r r' : MP.Env} (h : bindTs [.nm i, .nm j, .nm l] vs r = some r') : ∃ u v w, vs = [u, v, w] ∧ r' = ((r.set i (some u)).set j (some v)).set l (some w) := by
  cases vs with
  | nil => cases h
  | cons u vs =>
    simp only [bindTs, bindT, Option.bind_eq_some_iff] at h
    obtain ⟨r1, h1, h⟩ := h
    split at h1
    · cases h1
      cases vs with
      | nil => cases h
      | cons v vs =>
        simp only [bindTs, bindT, Option.bind_eq_some_iff] at h
        obtain ⟨r2, h2, h⟩ := h
        split at h2
        · cases h2
          cases vs with
          | nil => cases h
          | cons w vs =>
            simp only [bindTs, bindT, Option.bind_eq_some_iff] at h
            obtain ⟨r3, h3, h⟩ := h
            split at h3
            · cases h3
              cases vs with
              | nil =>
                simp only [bindTs, Option.some.injEq] at h
                exact ⟨u, v, w, rfl, h.symm⟩
              | cons _ _ => cases h
            · cases h3
        · cases h2
    · cases h1
theorem ms_par3 {i j l : Nat} {x y z : Str} {a b c : Expr} {fs : MP.Env → M → R (List Val)} {px py pz pt spos : Pos} {kt k2 : Nat} {pt2 : Pos} (hc : X.calm = true) (hN : X.N.Nodup) (hi : X.N[i]? = some x) (hj : X.N[j]? = some y) (hl : X.N[l]? = some z) (hij : i ≠ j) (hil : i ≠ l) (hjl : j ≠ l)
    (hx : X.env.scope.names.lookup x = some .local) (hy : X.env.scope.names.lookup y = some .local) (hz : X.env.scope.names.lookup z = some .local) (ha : PA X [a, b, c] (tEs S fs))
    (hw : swappedStores [.Tuple [.Name x px, .Name y py, .Name z pz] kt pt] (.Tuple [a, b, c] k2 pt2) X.env = pure (some [x, y, z]))
    (hs : swapsWithSole [.Tuple [.Name x px, .Name y py, .Name z pz] kt pt] (.Tuple [a, b, c] k2 pt2) spos.line X.env = pure false) :
    PS X (.Assign [.Tuple [.Name x px, .Name y py, .Name z pz] kt pt] (.Tuple [a, b, c] k2 pt2) spos) (tS S fun r m => ((fs r m).bind fun vs m => if vs.length ≤ LINE then .ok (.tup vs) m else .stuck).thn r fun v m => match bindT (.tup [.nm i, .nm j, .nm l]) (Tg.see m (.tup [.nm i, .nm j, .nm l]) v) r with
      | some r => .nxt r m
      | none => .stuck) := by
  refine ps_imp (ps_par3 hc hN hi hj hl hij hil hjl hx hy hz ha hw hs) fun D s H ⟨r, m, al, re, rl, p⟩ => ?_
  refine ⟨r, m, al, re, rl, ?_⟩
  cases e : fs r m with
  | stuck => dsimp only at p; rw [e] at p; exact p.elim
  | exc c fs' m' =>
    dsimp only at p
    rw [e] at p
    exact fun cls d H' al' x rl q => p cls d s H' al' x rl (re.ext x) q
  | ok vs m' =>
    dsimp only at p
    rw [e] at p
    rintro us H1 al1 x1 rl1 q1
    have p : PostS S al H D (R.thn (if vs.length ≤ LINE then R.ok (Val.tup vs) m' else R.stuck) r fun v m => match bindT (.tup [.nm i, .nm j, .nm l]) (Tg.see m (.tup [.nm i, .nm j, .nm l]) v) r with
      | some r => .nxt r m
      | none => .stuck) := p
    split at p
    · have p : PostS S al H D (match bindTs [.nm i, .nm j, .nm l] vs r with
        | some r => .nxt r m'
        | none => .stuck) := p
      cases eb : bindTs [.nm i, .nm j, .nm l] vs r with
      | none => rw [eb] at p; exact p.elim
      | some r' =>
        rw [eb] at p
        obtain ⟨v, w, z', rfl, rfl⟩ := bind_three eb
        obtain ⟨u, t, t', rfl, ru, rt, rt'⟩ := q1.three
        exact ⟨u, t, t', rfl, p _ H1 al1 x1 rl1 ((((re.ext x1).set ru i).set rt j).set rt' l)⟩
    · exact p.elim
end
end MP
set_option Elab.async false
set_option linter.all false
set_option maxRecDepth 100000
set_option maxHeartbeats 2000000
/-! MPTry: try: body except (C1, ..) as e: y = e. -/
namespace MP
open PySem PySem.Spec PyProof.Rows L2
/-! ### does the tuple of classes match -/
section
variable {M : Model} {h : Heap} {K : PySem.W.Frag}
theorem looks_for1 {f : Value → PUnit → Sem (ForInStep PUnit)} : ∀ {cs : List Value}, (∀ c ∈ cs, PySem.W.Looks M h (f c ⟨⟩) (.yield ⟨⟩)) → PySem.W.Looks M h (forIn cs PUnit.unit f) ⟨⟩
  | [], _ => by
    rw [List.forIn_nil]
    exact .now
  | c :: cs, hf => by
    rw [List.forIn_cons]
    exact (hf c List.mem_cons_self).andThen (looks_for1 fun c hc => hf c (List.mem_cons_of_mem _ hc))
theorem looks_for2 {β : Type} {f : Value → β → Sem (ForInStep β)} {s0 s1 : β} : ∀ {cs : List Value} {bs : List Bool}, Paired (fun c b => PySem.W.Looks M h (f c s0) (if b then .done s1 else .yield s0)) cs bs → PySem.W.Looks M h (forIn cs s0 f) (if bs.any id then s1 else s0)
  | _, _, .nil => by
    rw [List.forIn_nil]
    exact .now
  | _, _, @Paired.cons _ _ _ c b cs bs h1 h2 => by
    rw [List.forIn_cons]
    cases b with
    | true =>
      refine PySem.W.Looks.andThen h1 ?_
      simp only [List.any_cons, id, Bool.true_or, if_true]
      exact .now
    | false =>
      refine PySem.W.Looks.andThen h1 ?_
      simp only [List.any_cons, id, Bool.false_or, Bool.false_eq_true, if_false]
      exact looks_for2 h2
theorem exmAny_all {cls : Value} : ∀ {cs : List Value} {b : Bool}, PySem.W.exmAny K cls cs = some b → ∃ bs, Paired (fun c b => PySem.W.exmOne K cls c = some b) cs bs ∧ b = bs.any id
  | [], b, e => ⟨[], .nil, by simp [PySem.W.exmAny] at e; simp [e]⟩
  | c :: cs, b, e => by
    obtain ⟨b1, d1, e1, e2, rfl⟩ := PySem.W.exmAny_cons e
    obtain ⟨bs, h1, rfl⟩ := exmAny_all e2
    exact ⟨b1 :: bs, .cons e1 h1, by simp⟩
theorem paired_mem {α β : Type} {r : α → β → Prop} : ∀ {xs : List α} {ys : List β}, Paired r xs ys → ∀ x ∈ xs, ∃ y, r x y
  | _, _, .nil, x, hx => by cases hx
  | _, _, .cons h1 h2, x, hx => by
    rcases List.mem_cons.mp hx with rfl | hx
    · exact ⟨_, h1⟩
    · exact paired_mem h2 x hx
theorem paired_imp {α β : Type} {r r' : α → β → Prop} (hr : ∀ x y, r x y → r' x y) : ∀ {xs : List α} {ys : List β}, Paired r xs ys → Paired r' xs ys
  | _, _, .nil => .nil
  | _, _, .cons h1 h2 => .cons (hr _ _ h1) (paired_imp hr h2)
theorem exm_tupN {cs : List Value} {cls : Value} {tp e : Addr} {b : Bool} (X : K.In h) (LT : PySem.W.Looks M h (typeOf (.ref e)) cls) (hp : h.get? tp = some { cls := .type "tuple", data := .seq cs.toArray }) (hx : PySem.W.exmAny K cls cs = some b) :
    PySem.W.Looks M h (excMatches (.ref e) (.ref tp)) b := by
  have LT0 : PySem.W.Looks M h (isInstance (.ref tp) (.type "tuple")) true := ((PySem.W.Looks.ld hp).andThen .now).andThen (PySem.W.Looks.of_pure isSubtype_tuple_tuple)
  obtain ⟨bs, hb, rfl⟩ := exmAny_all hx
  unfold excMatches
  have LS : PySem.W.Looks M h (seqItems? (.ref tp)) (some cs.toArray) := fun A Q E s k q => wpAny_seqItems (k _ _ hp) rfl q
  refine PySem.W.Looks.andThen LT0 ?_
  dsimp only
  rw [if_pos rfl]
  refine PySem.W.Looks.andThen LS ?_
  refine PySem.W.Looks.andThen (a := cs) .now ?_
  refine PySem.W.Looks.andThen (a := ⟨⟩) (looks_for1 fun c hc => ?_) ?_
  · obtain ⟨b, e⟩ := paired_mem hb c hc
    refine PySem.W.Looks.andThen (PySem.W.exm_cls X e).1 ?_
    simp only [Bool.not_true, Bool.false_eq_true, if_false]
    exact .now
  refine PySem.W.Looks.andThen LT ?_
  refine PySem.W.Looks.andThen (looks_for2 (s0 := ((none : Option Bool), ())) (s1 := (some true, ())) (paired_imp (fun c b e => ?_) hb)) ?_
  · refine PySem.W.Looks.andThen (PySem.W.exm_cls X e).2 ?_
    cases b <;> exact .now
  · cases bs.any id <;> exact .now
end
/-- what an except clause names -/
inductive TyNames (X : L2.Cx) : Expr → List Value → Prop
  | one {x : Str} {p : Pos} {c : Value} : Names X x c → TyNames X (.Name x p) [c]
  | tup {es : List Expr} {k : Nat} {p : Pos} {cs : List Value} : Paired (fun e c => ∃ x q, e = Expr.Name x q ∧ Names X x c) es cs → es.length ≤ 1000 → TyNames X (.Tuple es k p) cs
section
variable {X : L2.Cx} {pins : List (Addr × Obj)} {σ : L2.St} {H : Hp} {s : Shared}
theorem names_ok {E : Value → Shared → Prop} {Q : Value → Shared → Prop} {x : Str} {c : Value} {np : Pos} (I : Inv X pins σ H s) (hc : Names X x c) (q : Q c s) : wpAny (model X.prog X.w) X.A (eval (.Name x np) X.env) Q E s := by
  obtain ⟨hg, hdbg, hm | ⟨hm, hv, hnn⟩⟩ := hc
  · exact ld_glob I hg hm q hdbg
  · exact ld_blt I hg hm hv q hnn hdbg
theorem items_ok {E : Value → Shared → Prop} {pos : Pos} (I : Inv X pins σ H s) : ∀ {es : List Expr} {cs : List Value} {Q : List Value → Shared → Prop}, Paired (fun e c => ∃ x q, e = Expr.Name x q ∧ Names X x c) es cs → Q cs s →
    wpAny (model X.prog X.w) X.A (spliced (backTo pos (starEach es X.env))) Q E s
  | _, _, Q, .nil, q => wpAny_items_nil q
  | _, _, Q, .cons ⟨x, p, rfl, hc⟩ h2, q => wpAny_items_cons (names_ok I hc (items_ok I h2 q)) rfl
/-- the test of an except clause -/
theorem test_ok {E : Value → Shared → Prop} {Q : Bool → Shared → Prop} {T : Expr} {cs : List Value} {cls : Value} {e : Addr} {b : Bool} (I : Inv X pins σ H s) (hT : TyNames X T cs) (LT : PySem.W.Looks (model X.prog X.w) s.heap (typeOf (.ref e)) cls) (hx : PySem.W.exmAny X.K cls cs = some b)
    (q : ∀ h', (∀ b o, s.heap.get? b = some o → h'.get? b = some o) → Q b { s with heap := h' }) :
    wpAny (model X.prog X.w) X.A (eval T X.env) (fun c s1 => wpAny (model X.prog X.w) X.A (excMatches (.ref e) c) Q E s1) E s := by
  cases hT with
  | one hc =>
    refine names_ok I hc ?_
    obtain ⟨b1, d1, e1, e2, rfl⟩ := PySem.W.exmAny_cons hx
    have e2 : some false = some d1 := e2
    cases e2
    rw [Bool.or_false] at q
    exact (PySem.W.exm_one I.kIn LT e1).here (q s.heap fun _ _ z => z)
  | tup hp hl =>
    refine wpAny_Tuple (items_ok I hp ⟨by have := hp.length; rw [← this]; have := sizeLine_eq; omega, ?_⟩)
    have kp : ∀ b o, s.heap.get? b = some o → (s.heap.push { cls := .type "tuple", data := .seq cs.toArray }).get? b = some o := fun _ _ z => Heap.get?_push_of_some _ z
    exact (exm_tupN (I.kIn.keeps kp) (LT.keeps kp) (Heap.get?_push_size s.heap rfl) hx).here (q _ kp)
theorem flying_keep {B h h' : Heap} {l : List PySem.Env} {e : Addr} {Z : Obj → Prop} (R : HandSPX.FlyingZ B l e Z h) (k : ∀ b o, h.get? b = some o → h'.get? b = some o) : HandSPX.FlyingZ B l e Z h' := by
  obtain ⟨f1, f2, f3, oe, vs, T, oT, ts, he, hz, hd, h1, hn, hne, hT, hdT, h3⟩ := R
  exact ⟨fun b o q => k b o (f1 b o q), f2, f3.of_keeps fun b o q _ => ⟨o, k b o q, rfl⟩, oe, vs, T, oT, ts, k _ _ he, hz, hd, h1, hn, hne, k _ _ hT, hdT, h3⟩
/-- the caught exception is tracked -/
theorem track {a : Addr} {oe : Obj} {vs : Array Value} {cls : Value} {d : Option Addr} (I : Inv X pins σ H s) (ha : s.heap.get? a = some oe) (hz : Zc cls d oe) (hd : oe.data = .fields vs) (na : H a = none) (n0 : X.s_0.heap.get? a = none) (nL : a ≠ X.env.locals) (np : ∀ p ∈ X.pn ++ pins, p.1 ≠ a) :
    Inv X pins σ (upd H a (ExV a cls d)) s := by
  have ne0 : ∀ b o, X.s_0.heap.get? b = some o → b ≠ a := fun b o e z => by
    rw [z, n0] at e
    cases e
  have hn : ∀ b u, H b = some u → b ≠ a := fun b u e z => by
    rw [z, na] at e
    cases e
  refine ⟨I.ok, I.os, I.bare, ⟨I.base.keep, I.base.slot, fun b o e n hx => ?_, I.base.there, fun b xs e => ?_, fun b o u e => ?_, fun b ps e => ?_⟩, I.loc, I.cell, ?_, fun x c e => ?_, fun p hp => ?_, fun b u e => ?_, I.len⟩
  · rw [upd_ne (ne0 b o e)]
    exact I.base.free b o e n hx
  · have q := I.base.tups b xs e
    rw [upd_ne (hn b _ q)]
    exact q
  · have q := I.base.frzs b o u e
    rw [upd_ne (hn b _ q)]
    exact q
  · obtain ⟨m, q⟩ := I.base.tbls b ps e
    exact ⟨m, by rw [upd_ne (hn b _ q)]; exact q⟩
  · rw [upd_ne nL.symm]
    exact I.free
  · obtain ⟨v, o, ho, hdc⟩ := I.cell x c e
    rw [upd_ne (fun z => by
      rw [z, ha] at ho
      cases ho
      rw [hd] at hdc
      cases hdc)]
    exact I.freeC x c e
  · obtain ⟨e, n, ne, nf, dd⟩ := I.pin p hp
    exact ⟨e, by rw [upd_ne (np p hp)]; exact n, ne, nf, dd⟩
  · by_cases hb : b = a
    · subst hb
      rw [upd_same] at e
      cases e
      exact ⟨⟨oe, vs, ha, hz, hd⟩, ⟨oe, ha⟩, fun h1 h2 ⟨o, v, q1, q2⟩ k => ⟨o, v, k _ q1, q2⟩⟩
    · rw [upd_ne hb] at e
      exact (I.hok b u e).stay (fun c v _ q => q) (fun c q => by rw [upd_ne (hn c _ q)]; exact q) fun c xs q => by rw [upd_ne (hn c _ q)]; exact q
theorem suite2 (I : Inv X pins σ H s) (a : Addr) : Inv (X.suite a (X.pn ++ pins)) [] σ H s :=
  ⟨I.ok.suite _ _, I.os, I.bare, I.base, I.loc, I.cell, I.free, I.freeC, fun p hp => I.pin p (by rw [List.append_nil] at hp; exact hp), I.hok, I.len⟩
theorem unsuite2 {a : Addr} {pn' : List (Addr × Obj)} (I : Inv (X.suite a (X.pn ++ pins)) pn' σ H s) (ok : X.Ok) : Inv X pins σ H s :=
  ⟨ok, I.os, I.bare, I.base, I.loc, I.cell, I.free, I.freeC, fun p hp => I.pin p (List.mem_append_left _ hp), I.hok, I.len⟩
end
end MP
set_option Elab.async false
set_option linter.all false
set_option maxRecDepth 100000
set_option maxHeartbeats 2000000
/-! MPTry2: try: body except (C1, ..) as e: y = e. -/
namespace MP
open PySem PySem.Spec PyProof.Rows L2
/-- what such a clause wishes of an exception of the body -/
def wTry (K : PySem.W.Frag) (cs : List Value) (i j : Nat) (Wout : WX) (D : Ends) : WX := fun cls d σ H =>
  ∃ b, PySem.W.exmAny K cls cs = some b ∧ (b = true → ∀ a, H a = none → D.nx (((σ.set i (some (.ref a))).set j (some (.ref a))).set i none) (upd H a (ExV a cls d))) ∧ (b = false → Wout cls d σ H)
section
variable {X : L2.Cx} {n y : Str} {cs : List Value} {i j : Nat} {body : List Stmt} {T : Expr} {py pn apos pos pos' : Pos} {tb : WX → TS} {Wout : WX}
theorem ps_tryX (hs : X.stack = X.env :: X.outer) (hf : X.env.frame = some X.env.locals) (hex : X.ex = []) (hN : X.N.Nodup) (hi : X.N[i]? = some n) (hln : X.env.scope.names.lookup n = some .local) (hj : X.N[j]? = some y) (hly : X.env.scope.names.lookup y = some .local) (hd1 : (n == ("__debug__" : Str)) = false) (hd2 : (n == ("__classdict__" : Str)) = false)
    (hT : TyNames X T cs) (tk : Takes X Wout)
    (hb : ∀ (W : WX) (pn : List (Addr × Obj)) (xe : Value → Shared → Prop), Takes (X.tr pn xe) W → PassesOwn (model X.prog X.w) X.A X.env xe → PSs (X.tr pn xe) body (tb W)) :
    PS X (.Try body [.ExceptHandler (some T) (some n) [.Assign [.Name y py] (.Name n pn) apos] pos'] [] [] pos) (fun D σ H => tb (wTry X.K cs i j Wout D) D σ H) := by
  refine ⟨fun pins s σ H D I h => ?_⟩
  have ok := I.ok
  have hfr : X.A.frames = some (X.env :: X.outer) := by rw [ok.frames, hs]
  have hloc : L2.Loc X.env.scope n := .inl hln
  refine wpAny_Try_except ?_
  refine wpAny_mono ((hb (wTry X.K cs i j Wout D) (X.pn ++ pins) (fun e s₁ => wpAny (model X.prog X.w) X.A (noteFrame e X.env) (fun _ s₂ => wpAny (model X.prog X.w) X.A (setFlight e none) (fun _ s₃ =>
    wpAny (model X.prog X.w) X.A (handleBy e X.env [.ExceptHandler (some T) (some n) [.Assign [.Name y py] (.Name n pn) apos] pos']) (SP X pins D) X.xe s₃) X.xe s₂) X.xe s₁) (fun u s' xx => ?_) PassesOwn.looking).run [] s σ H D (I.toTry _) h) (fun f s1 hsp => ?_) (fun e s1 he => he)
  · -- the catch
    obtain ⟨a, B, sI, pins', σ', H', cls, d, rfl, J', nb, up, sky, na, os, ag, b, hb1, hyes, hno⟩ := xx
    have J : Inv X pins σ' H' sI := J'.ofTry ok
    have sky' : Sky B (X.env :: X.outer) a (Zc cls d) X.env.locals s'.heap := by rw [← hs]; exact sky
    show wpAny (model X.prog X.w) X.A (noteFrame (.ref a) X.env) _ _ _
    refine Sky.land Zc.steady hfr hf sky' fun h3 fl3 up3 => ?_
    have J3 : Inv X pins σ' H' { s' with heap := h3 } := J.landed nb fl3.1 (up.trans up3) os ag
    obtain ⟨oe3, vs3, he3, hz3, hd3⟩ := fl3.there
    have notFr : ∀ {h : Heap} {o : Obj} {vs : Array Value}, h.FunFrames B (X.env :: X.outer) → h.get? a = some o → o.data = .fields vs → a ∉ L2.frs (X.env :: X.outer) := fun {h o vs} ff e dd hm => by
      obtain ⟨_, o', e', hnf⟩ := ff.mem hm
      rw [e] at e'; cases e'
      exact hnf _ dd
    have nfr := notFr fl3.2.2.1 he3 hd3
    have nL : a ≠ X.env.locals := fun z => nfr (List.mem_filterMap.mpr ⟨X.env, List.mem_cons_self, by rw [hf, z]⟩)
    have Ba : B.get? a = none := fl3.2.1
    have ne : ∀ b o, sI.heap.get? b = some o → b ∉ L2.frs X.stack → b ≠ a := fun b o e hn z => by
      have := nb b o e hn
      rw [z, Ba] at this
      cases this
    have n0 : X.s_0.heap.get? a = none := by
      cases e : X.s_0.heap.get? a with
      | none => rfl
      | some o =>
        obtain ⟨o', e2⟩ := J.base.there a o e (by rw [hex]; simp)
        exact absurd rfl (ne a o' e2 (by rw [hs]; exact nfr))
    have np : ∀ p ∈ X.pn ++ pins, p.1 ≠ a := fun p hp => by
      obtain ⟨e, _, e2, e3, _⟩ := J.pin p hp
      refine ne p.1 _ e fun hm => ?_
      rcases List.mem_cons.mp (J.stkSub p.1 hm) with z | z
      · exact e2 z
      · exact e3 z
    refine wpAny_handleBy_cons (codeAny_handlers_test ?_) (by intro q; cases q)
    have LT : PySem.W.Looks (model X.prog X.w) h3 (typeOf (.ref a)) cls := fun A Q E s k q => wpAny_typeOf_ref (k _ _ he3) (by rw [hz3.1]; exact q)
    refine test_ok (X := X.suite a (X.pn ++ pins)) (suite2 J3 a) ?_ LT hb1 fun h3t k3 => ?_
    · clear h hyes hno hb1
      cases hT with
      | one hq => exact .one hq
      | tup hq hl => exact .tup hq hl
    have fl3t := flying_keep fl3 k3
    have up3t : sI.heap.UpToSlots h3t := (up.trans up3).trans (Heap.UpToSlots.of_keeps k3)
    cases b with
    | true =>
      refine codeAny_handlers_suite_as ?_
      refine HandSPX.lands_againZ fl3t fun h4 fl4 up4 => ?_
      have J4 : Inv X pins σ' H' { s' with heap := h4 } := J.landed nb fl4.1 (up3t.trans up4) os ag
      obtain ⟨oe4, vs4, he4, hz4, hd4⟩ := fl4.there
      have J5 := track J4 he4 hz4 hd4 na n0 nL np
      refine store_ok (X := X.suite a (X.pn ++ pins)) (v := .ref a) (suite2 J5 a) hN hi hloc rfl (fun s5 S5 => ?_) (.inr hln)
      have hlen : i < (σ'.set i (some (V.ref a))).length := by
        rw [List.length_set, J.len]
        exact (List.getElem?_eq_some_iff.mp hi).1
      have hsu : PSs (X.suite a (X.pn ++ pins)) [.Assign [.Name y py] (.Name n pn) apos] (tSeq (L2.tAsg (tVar i) (gName j)) tNext) :=
        pss_cons (ps_asg (pe_var hi (.inl hln) hd1 hd2) (pg_name hN hj (.inl hly) (.inr hly)) rfl rfl rfl) pss_nil
      refine wpAny_mono (hsu.run [] s5 _ (upd H' a (ExV a cls d)) { nx := fun σ6 H6 => D.nx (σ6.set i none) H6, rt := D.rt } S5 ?_) (fun f s6 hsp => ?_) (fun _ _ z => False.elim z)
      · refine ⟨.ref a, ?_, hyes rfl a na⟩
        rw [List.getElem?_set_self (by rwa [List.length_set] at hlen)]
      have end_ : ∀ {σ6 : L2.St} {H6 : Hp} {Q : Shared → Prop}, Inv (X.suite a (X.pn ++ pins)) [] σ6 H6 s6 → (∀ s7, Inv X pins (σ6.set i none) H6 s7 → Q s7) →
          wpAny (model X.prog X.w) X.A (do bindName X.env n .none; unbindBehindTheSuite X.env n pos') (fun _ s7 => Q s7) X.xe s6 := fun {σ6 H6 Q} S6 hq => gone_ok (unsuite2 S6 ok) hN hi hln hq
      cases f with
      | next =>
        obtain ⟨σ6, H6, S6, q6⟩ := hsp
        exact end_ S6 fun s7 J7 => ⟨_, _, J7, q6⟩
      | brk =>
        obtain ⟨σ6, H6, S6, q6⟩ := hsp
        exact q6.elim
      | cont =>
        obtain ⟨σ6, H6, S6, q6⟩ := hsp
        exact q6.elim
      | ret u =>
        obtain ⟨v6, σ6, H6, S6, r6, q6⟩ := hsp
        exact end_ S6 fun s7 J7 => ⟨_, _, _, J7, r6, q6⟩
    | false =>
      show wpAny _ X.A (handleBy (.ref a) X.env []) _ _ _
      refine wpAny_handleBy_nil ?_
      obtain ⟨k1, k2, k3', oe, vs, T', oT, ts', he, hz, hd, h1, hr⟩ := id fl3t
      unfold PySem.passOn
      refine wpAny_bind (wpAny_field he hd h1 ?_)
      rw [if_neg (show ¬ ((Value.ref T' == Value.none) = true) from by simp)]
      have fin : wpAny (model X.prog X.w) X.A (setFlight (.ref a) X.env.frame) (fun _ s4 => wpAny (model X.prog X.w) X.A (throw (.ref a) : Sem Flow) (SP X pins D) X.xe s4) X.xe { s' with heap := h3t } := by
        rw [hf]
        refine HandSPX.setFlight_upZ fl3t fun h4 hh4 up4 => wpAny_throw (tk _ _ ?_)
        exact ⟨a, B, sI, pins, σ', H', cls, d, rfl, J, nb, up3t.trans up4, .inr (.inr (by rw [hs]; exact hh4)), na, os, ag, hno rfl⟩
      first
        | exact wpAny_bind (wpAny_pure (wpAny_bind fin))
        | exact wpAny_bind fin
  · cases f with
    | next =>
      obtain ⟨σ', H', J', q⟩ := hsp
      exact wpAny_execs_nil ⟨σ', H', J'.ofTry ok, q⟩
    | brk =>
      obtain ⟨σ', H', J', q⟩ := hsp
      exact ⟨σ', H', J'.ofTry ok, q⟩
    | cont =>
      obtain ⟨σ', H', J', q⟩ := hsp
      exact ⟨σ', H', J'.ofTry ok, q⟩
    | ret u =>
      obtain ⟨v, σ', H', J', r, q⟩ := hsp
      exact ⟨v, σ', H', J'.ofTry ok, r, q⟩
end
/-! ### .. as the clean text says -/
theorem exm_cls1 {K : PySem.W.Frag} {c d : Nat} (h : excK K c = true) (hd : d < 18) (hk : excK K d = true) : PySem.W.exmOne K (.ref (xcls K c)) (.ref (xcls K d)) = some (c == d) := by
  unfold PySem.W.exmOne
  have q := hk
  unfold excK at q
  simp only [Bool.and_eq_true, decide_eq_true_eq] at q
  obtain ⟨⟨⟨⟨⟨⟨⟨⟨⟨⟨⟨⟨q1, q2⟩, q3⟩, q4⟩, q5⟩, q6⟩, q7⟩, q8⟩, q9⟩, q10⟩, q11⟩, _⟩, _⟩ := q
  rw [q5]
  rw [if_pos (by rfl)]
  exact (excK_at h hd q1).1
theorem exm_clsN {K : PySem.W.Frag} {c : Nat} (h : excK K c = true) : ∀ {cls : List Nat}, (∀ d ∈ cls, d < 18 ∧ excK K d = true) → PySem.W.exmAny K (.ref (xcls K c)) (cls.map fun d => Value.ref (xcls K d)) = some (cls.contains c)
  | [], _ => rfl
  | d :: cls, hd => by
    have h1 := exm_cls1 h (hd d List.mem_cons_self).1 (hd d List.mem_cons_self).2
    have h2 := exm_clsN h fun d hx => hd d (List.mem_cons_of_mem _ hx)
    show (match PySem.W.exmOne K (.ref (xcls K c)) (.ref (xcls K d)), PySem.W.exmAny K (.ref (xcls K c)) (cls.map fun d => Value.ref (xcls K d)) with
      | some b, some d => some (b || d)
      | _, _ => none) = _
    rw [h1, h2, List.contains_cons]
section
variable {X : L2.Cx} {S : Sg} {n y : Str} {cls : List Nat} {i j : Nat} {body : List Stmt} {T : Expr} {py pn apos pos pos' : Pos} {F : MP.Env → M → Rs}
theorem ms_try (xr : S.xr = xrK S.K) (hK : X.K = S.K) (hs : X.stack = X.env :: X.outer) (hf : X.env.frame = some X.env.locals) (hex : X.ex = []) (hN : X.N.Nodup) (hi : X.N[i]? = some n) (hln : X.env.scope.names.lookup n = some .local) (hj : X.N[j]? = some y) (hly : X.env.scope.names.lookup y = some .local) (hd1 : (n == ("__debug__" : Str)) = false) (hd2 : (n == ("__classdict__" : Str)) = false)
    (hT : TyNames X T (cls.map fun d => Value.ref (xcls S.K d))) (hcl : ∀ d ∈ cls, d < 18 ∧ excK S.K d = true) (tk : Takes X S.W)
    (hb : ∀ (W : WX) (pn : List (Addr × Obj)) (xe : Value → Shared → Prop), Takes (X.tr pn xe) W → PassesOwn (model X.prog X.w) X.A X.env xe → PSs (X.tr pn xe) body (tS { S with W := W } F)) :
    PS X (.Try body [.ExceptHandler (some T) (some n) [.Assign [.Name y py] (.Name n pn) apos] pos'] [] [] pos) (tS S fun r m => match F r m with
      | .exc c fs r m => if cls.contains c then (if i < r.length ∧ j < r.length then .nxt (((r.set i (some (.exc c fs))).set j (some (.exc c fs))).set i none) m else .stuck) else .exc c fs r m
      | z => z) := by
  refine ps_imp (ps_tryX hs hf hex hN hi hln hj hly hd1 hd2 hT tk hb) fun D s H ⟨r, m, al, re, rl, p⟩ => ⟨r, m, al, re, rl, ?_⟩
  dsimp only at p
  cases e : F r m with
  | nxt r' m' => rw [e] at p; exact p
  | ret v m' => rw [e] at p; exact p
  | stuck => rw [e] at p; exact p
  | exc c fs r' m' =>
    rw [e] at p
    dsimp only at p
    intro cl d s' H' al' x rl' re' q
    have q : S.xr al' H' cl d c fs := q
    have q0 := q
    rw [xr] at q
    obtain ⟨rfl, hx, us, h1, h2⟩ := q
    refine ⟨cls.contains c, hK ▸ exm_clsN hx hcl, fun hc a na => ?_, fun hc => ?_⟩
    · rw [if_pos hc] at p
      split at p
      · have sm : Same H' (upd H' a (ExV a (.ref (xcls S.K c)) d)) := same_upd na
        have x2 : Ext al' al' H' (upd H' a (ExV a (.ref (xcls S.K c)) d)) := .of_same sm
        have rp : Rep S.K al' (upd H' a (ExV a (.ref (xcls S.K c)) d)) (.ref a) (.exc c fs) := .exc hx upd_same (h1.ext0 x2.to0) (h2.ext x2 _ _)
        exact p _ _ al' (x.trans x2) (rl'.ext sm) ((((re'.ext x2).set rp i).set rp j).unset i none)
      · exact p.elim
    · rw [if_neg (by rw [hc]; exact Bool.false_ne_true)] at p
      exact p _ _ _ _ _ x rl' re' q0
end
end MP
set_option Elab.async false
set_option linter.all false
set_option maxRecDepth 100000
set_option maxHeartbeats 2000000
/-! MPStar: (a, b), *rest = xs; *rest, a = xs. -/
namespace MP
open PySem PySem.Spec PyProof.Rows L2
section
variable {prog : Program} {w : World} {A : Around} {E : Value → Shared → Prop} {s : Shared} {l : Addr} {items : Array Value} {n i : Nat} {Q : List Value → Shared → Prop}
/-- behind a starred unpacking: all stands, a new list of those amid -/
def StarEnd (s : Shared) (items : Array Value) (n i : Nat) (Q : List Value → Shared → Prop) : Prop :=
  ∀ (h2 : Heap) (tk : Nat), (∀ b o, s.heap.get? b = some o → h2.get? b = some o) →
    Q (items.toList.take i ++ [.ref h2.objs.size] ++ (items.toList.drop i).drop (items.size + 1 - n)) { s with heap := h2.push { cls := .type "list", data := .seq ((items.toList.drop i).take (items.size + 1 - n)).toArray }, toks := tk }
theorem star_fin {h2 : Heap} {tk : Nat} (hi : i < n) (hn : n ≤ items.size + 1) (hz : items.size ≤ sizeLine) (he : Heap.ExtBut s.heap.objs.size s.heap h2) (h : StarEnd s items n i Q) :
    wpAny (model prog w) A (do return items.toList.take i ++ [← newList ((items.toList.drop i).take ((items.toList.drop i).length - (n - 1 - i)))] ++ (items.toList.drop i).drop ((items.toList.drop i).length - (n - 1 - i))) Q E { s with heap := h2, toks := tk } := by
  have hrl : (items.toList.drop i).length = items.size - i := by rw [List.length_drop, Array.length_toList]
  have hmid : (items.toList.drop i).length - (n - 1 - i) = items.size + 1 - n := by rw [hrl]; omega
  rw [hmid]
  refine wpAny_bind ?_
  unfold newList
  refine wpAny_newObj_type (wpAny_pure (h h2 tk fun b o e => he b o (Nat.ne_of_lt (Heap.lt_size e)) e)) (by
    show ((items.toList.drop i).take (items.size + 1 - n)).toArray.size ≤ sizeLine
    rw [List.size_toArray, List.length_take, hrl]
    omega)
theorem starT (hl : IsTup s.heap l items) (hh : A.handled = none) (hi : i < n) (hn : n ≤ items.size + 1) (hz : items.size ≤ sizeLine) (h : StarEnd s items n i Q) : wpAny (model prog w) A (unpackItems (.ref l) n (some i)) Q E s := by
  have hlt : l ≠ s.heap.objs.size := by obtain ⟨o, ho, _⟩ := hl; exact Nat.ne_of_lt (Heap.lt_size ho)
  unfold unpackItems
  refine wpAny_bind ?_
  unfold notIterableAtAll
  refine wpAny_bind (wpAny_specialOf hl.typeIs slot_tuple_iter.lookup ?_)
  refine wpAny_pure ?_
  simp only [Bool.false_eq_true, if_false]
  refine wpAny_bind (wpAny_holding (iter_tuple hl ?_))
  refine wpAny_bind (wpAny_holding (draw_tuple hlt i 0 _ _ ⟨_, Heap.get?_push_size _ rfl, rfl, rfl⟩ (hl.push _) (by omega) fun h₁ hit₁ hs₁ => ?_))
  have hl₁ : IsTup h₁ l items := (hl.push _).extBut hs₁.extBut hlt
  rw [Nat.zero_add] at hit₁
  have hit₁' := hit₁
  obtain ⟨oi, hoi, _⟩ := hit₁'
  have hl₁' := hl₁
  obtain ⟨ol, hol, _⟩ := hl₁'
  rw [List.drop_zero]
  have hfl : (items.toList.take i).length = i := by rw [List.length_take, Array.length_toList]; omega
  rw [if_neg (show ¬ ((items.toList.take i).length < i) by rw [hfl]; omega)]
  refine wpAny_bind (wpAny_holding (PySem.W.kun_collect (s := { s with heap := h₁ }) (T := "tuple_iterator") (.inr (.inr (.inr rfl))) (Walks.tuple (A := A.in1) hh s.heap.objs.size l hlt items) (fun j u st => st.1.typeIs) (k := i) (by omega) ⟨hit₁, hl₁⟩ (Heap.lt_size hoi) (Heap.lt_size hol) (fun h₂ tk hk => ?_) hz))
  have he : Heap.ExtBut s.heap.objs.size s.heap h₂ := fun b o hb e => hk b o hb (hs₁.extBut b o hb (Heap.get?_push_of_some _ e))
  rw [if_neg (by rw [List.length_drop, Array.length_toList]; omega)]
  exact star_fin (s := s) hi hn hz he h
theorem starL (hl : s.heap.IsList l items) (hh : A.handled = none) (hi : i < n) (hn : n ≤ items.size + 1) (hz : items.size ≤ sizeLine) (h : StarEnd s items n i Q) : wpAny (model prog w) A (unpackItems (.ref l) n (some i)) Q E s := by
  have hlt : l ≠ s.heap.objs.size := by obtain ⟨o, ho, _⟩ := hl; exact Nat.ne_of_lt (Heap.lt_size ho)
  unfold unpackItems
  refine wpAny_bind ?_
  unfold notIterableAtAll
  refine wpAny_bind (wpAny_specialOf hl.typeIs slot_list_iter.lookup ?_)
  refine wpAny_pure ?_
  simp only [Bool.false_eq_true, if_false]
  refine wpAny_bind (wpAny_holding (wpAny_pyIter_list hl ?_))
  refine wpAny_bind (wpAny_holding (PySem.W.kun_draw hlt i 0 _ _ ⟨_, Heap.get?_push_size _ rfl, rfl, rfl⟩ (hl.push _) (by omega) fun h₁ hit₁ hs₁ => ?_))
  have hl₁ : h₁.IsList l items := (hl.push _).extBut hs₁.extBut hlt
  rw [Nat.zero_add] at hit₁
  have hit₁' := hit₁
  obtain ⟨oi, hoi, _⟩ := hit₁'
  have hl₁' := hl₁
  obtain ⟨ol, hol, _⟩ := hl₁'
  rw [List.drop_zero]
  have hfl : (items.toList.take i).length = i := by rw [List.length_take, Array.length_toList]; omega
  rw [if_neg (show ¬ ((items.toList.take i).length < i) by rw [hfl]; omega)]
  refine wpAny_bind (wpAny_holding (PySem.W.kun_collect (s := { s with heap := h₁ }) (T := "list_iterator") (.inr (.inr (.inl rfl))) (Walks.list (A := A.in1) hh s.heap.objs.size l hlt items) (fun j u st => st.1.typeIs) (k := i) (by omega) ⟨hit₁, hl₁⟩ (Heap.lt_size hoi) (Heap.lt_size hol) (fun h₂ tk hk => ?_) hz))
  have he : Heap.ExtBut s.heap.objs.size s.heap h₂ := fun b o hb e => hk b o hb (hs₁.extBut b o hb (Heap.get?_push_of_some _ e))
  rw [if_neg (by rw [List.length_drop, Array.length_toList]; omega)]
  exact star_fin (s := s) hi hn hz he h
end
/-- a starred target: those ahead, the new list, those behind -/
def gStar (K : PySem.W.Frag) (la lb : Nat) (t : TGs) : TG := fun v σ H Q => ∃ p xs, v = .ref p ∧ (SqT K H p xs ∨ H p = some (.lst xs)) ∧ la + lb ≤ xs.length ∧
  ∀ D, H D = none → t (xs.take la ++ [.ref D] ++ xs.drop (xs.length - lb)) σ (upd H D (.lst ((xs.drop la).take (xs.length - lb - la)))) Q
theorem vals_take {xs : List V} {us : List Value} (r : Vals xs us) : ∀ n : Nat, Vals (xs.take n) (us.take n) := by
  induction r with
  | nil => intro n; simp; exact .nil
  | cons h t ih =>
    intro n
    cases n with
    | zero => exact .nil
    | succ n => exact .cons h (ih n)
theorem vals_drop {xs : List V} {us : List Value} (r : Vals xs us) : ∀ n : Nat, Vals (xs.drop n) (us.drop n) := by
  induction r with
  | nil => intro n; simp; exact .nil
  | cons h t ih =>
    intro n
    cases n with
    | zero => exact .cons h t
    | succ n => exact ih n
section
variable {X : L2.Cx} {es es' : List Expr} {k : Nat} {pos : Pos} {t : TGs} {la lb : Nat}
theorem pg_star (hc : X.calm = true) (h : PGs X es' t) (hes : (assignEach es X.env).map (·.2) = (assignEach es' X.env).map (·.2)) (hn : (assignEach es X.env).length = la + 1 + lb) (hst : (assignEach es X.env).findIdx? (·.1) = some la) : PG X (.Tuple es k pos) (gStar X.K la lb t) := by
  refine ⟨fun pins s σ H v u Q I r hw => ?_⟩
  obtain ⟨a, xs, e1, hq, hl, hw⟩ := hw
  subst e1
  cases r
  rw [PyProof.Rows.assign_Tuple]
  refine wpAny_bind (wpAny_standAt ?_)
  unfold unpack
  rw [hn, hst]
  refine wpAny_bind (wpAny_holding ?_)
  have fin : ∀ its : List Value, Vals xs its → its.toArray.size ≤ sizeLine → StarEnd s its.toArray (la + 1 + lb) la (fun vs s' => wpAny (model X.prog X.w) X.A (assignInOrder ((assignEach es X.env).map (·.2)) vs) (fun _ s' => ∃ σ' H', Inv X pins σ' H' s' ∧ Q σ' H') X.xe s') := by
    intro its rv hz h2 tk hk
    have hlen := rv.length
    have I1 : Inv X pins σ H { s with heap := h2, toks := s.toks } := I.kept (t' := s.toks) hk
    have hD : H h2.objs.size = none := I1.hok.fresh (Nat.le_refl _)
    rw [hes]
    have e2 : its.toArray.size + 1 - (la + 1 + lb) = xs.length - lb - la := by rw [List.size_toArray, ← hlen]; omega
    rw [e2]
    have rm : Vals ((xs.drop la).take (xs.length - lb - la)) ((its.toArray.toList.drop la).take (xs.length - lb - la)) := vals_take (vals_drop rv la) _
    have I2 : Inv X pins σ (upd H h2.objs.size (.lst ((xs.drop la).take (xs.length - lb - la)))) { s with heap := h2.push { cls := .type "list", data := .seq ((its.toArray.toList.drop la).take (xs.length - lb - la)).toArray }, toks := tk } := by
      refine Inv.laid (s := { s with heap := h2, toks := s.toks }) (t' := tk) I1 (fun b o e => Heap.get?_push_of_some _ e) (Nat.le_refl _) ?_
      exact ⟨by rw [List.length_take, List.length_drop]; simp at hz; omega, _, 0, rm, Heap.get?_push_size _ rfl⟩
    refine h.run pins _ σ _ _ _ Q I2 ?_ (hw _ hD)
    have r1 : Vals (xs.take la) (its.toArray.toList.take la) := vals_take rv la
    have r3 : Vals (xs.drop (xs.length - lb)) ((its.toArray.toList.drop la).drop (xs.length - lb - la)) := by
      rw [List.drop_drop, show la + (xs.length - lb - la) = xs.length - lb by omega]
      exact vals_drop rv _
    exact (r1.append (.cons (show RelV (.ref h2.objs.size) (.ref h2.objs.size) from rfl) .nil)).append r3
  rcases hq with hq | hq
  · obtain ⟨its, rv, ht, hz⟩ := I.tuple hq
    have hlen := rv.length
    have hz2 : its.toArray.size ≤ sizeLine := by rw [List.size_toArray, ← hlen]; exact hz
    exact starT ht (I.ok.hd hc) (by omega) (by rw [List.size_toArray]; omega) hz2 (fin its rv hz2)
  · obtain ⟨its, rv, pl, hz⟩ := I.list (.of hq)
    have hlen := rv.length
    have hz2 : its.toArray.size ≤ sizeLine := by rw [List.size_toArray, ← hlen]; exact hz
    exact starL pl.isList (I.ok.hd hc) (by omega) (by rw [List.size_toArray]; omega) hz2 (fin its rv hz2)
end
end MP
set_option Elab.async false
set_option linter.all false
set_option maxRecDepth 100000
set_option maxHeartbeats 1000000
/-! MPMth: methods of lists with arguments, one road for all. -/
namespace MP
open PySem PySem.Spec PyProof.Rows L2
/-- what a method's rule must take from the clean method -/
def MthOk (S : Sg) (k : Mth) (rr : V → List V → Hp → VK → Prop) : Prop :=
  ∀ (al : Al) (m : M) (H H0 : Hp) (s : L2.St) (Q : VK) (n : Nat) (a : Addr) (xs : List Val) (us : List V) (vs : List Val) (ws : List V), al.c[n]? = some a → m[n]? = some (.lst xs) → H a = some (.lst us) → RepL S.K al H us xs → RepL S.K al H ws vs → Rl S.K S.bs al m H →
    Post S (relV S false H0) al H s Q (mthd (S.bs.headD 0) m k (.ref n) vs) → rr (.ref a) ws H Q
section
variable {X : L2.Cx} {S : Sg} {o e : Expr} {es : List Expr} {f1 : Bool} {fo : MP.Env → M → R Val} {fs : MP.Env → M → R (List Val)} {name : Str} {id : String} {k : Mth} {rr : V → List V → Hp → VK → Prop}
theorem me_mth {apos cpos : Pos} (slot : Slot "list" name id) (hty : typeOf (.builtin id) = pure (.type "method_descriptor")) (hm : MtR X id rr) (hk : k ≠ .setdefault) (hr : MthOk S k rr) (ho : PE X o (tE S f1 fo)) (ha : PA X (e :: es) (tEs S fs)) (hK : X.K = S.K)
    (hbase : attributeBase o name X.env (eval o X.env) = eval o X.env)
    (hfew : ((backTo cpos (starEach (e :: es) X.env)).all (fun x => !x.1) && (backToKw cpos (keywordEach [] X.env)).all (fun x => x.1.isSome)
      && decide ((e :: es).length + ([] : List Keyword).length + (if ([] : List Keyword).isEmpty then 0 else 1) < 30)) = true)
    (hline : (apos.endLine == cpos.line) = true) (hs : starEach (e :: es) X.env = (false, eval e X.env) :: starEach es X.env) (hplain : (backTo cpos (starEach es X.env)).any (·.1) = false) :
    PE X (.Call (.Attribute o name apos) (e :: es) [] cpos) (tE S false fun r m => (fo r m).bind fun x m => if mutOk k m x then (fs r m).bind fun vs m => mthd (S.bs.headD 0) m k x vs else .stuck) := by
  refine pe_imp (pe_bm PySem.F.plainAttrs_list slot hty hm ho ha hbase hfew hline hs hplain) fun s H Q ⟨r, m, al, re, rl, p⟩ => ?_
  refine ⟨r, m, al, re, rl, p.seq.mono ?_⟩
  rintro u H1 ⟨v, m1, al1, x1, rl1, q1, p1⟩
  cases em : mutOk k m1 v with
  | false => rw [em] at p1; exact p1.elim
  | true =>
    rw [em, if_pos rfl] at p1
    cases v <;> first | (simp [mutOk] at em; done) | skip
    rename_i n
    cases q1.1 with
    | @ref _ a h1 =>
      obtain ⟨c, ec, qc⟩ := rl1.at h1
      cases c with
      | dct _ _ => exact qc.elim
      | ins _ _ => exact qc.elim
      | lst ys0 =>
        obtain ⟨us0, ea0, _⟩ := qc
        refine ⟨.inl ⟨rfl, us0, .inl (.inl ea0)⟩, r, m1, al1, re.ext x1, rl1, p1.seq.mono ?_⟩
        rintro ws H2 ⟨vs, m2, al2, x2, rl2, q2, p2⟩
        have h2 : al2.c[n]? = some a := by
          have := (Rep.ref h1 : Rep S.K al1 H1 (.ref a) (.ref n)).ext x2 _ _
          cases this with
          | ref h => exact h
        obtain ⟨c2, ec2, qc2⟩ := rl2.at h2
        cases c2 with
        | dct _ _ => exact qc2.elim
        | ins _ _ => exact qc2.elim
        | lst xs =>
          obtain ⟨us, ea, ra⟩ := qc2
          exact hr al2 m2 H2 _ s Q n a xs us vs ws h2 ec2 ea ra q2 rl2 p2
theorem ltAll_erase {n : Nat} : ∀ {xs : List Val} {j : Nat}, ltAll n xs = true → ltAll n (xs.eraseIdx j) = true
  | [], _, h => h
  | x :: xs, 0, h => by
    simp only [ltAll, Bool.and_eq_true] at h
    exact h.2
  | x :: xs, j + 1, h => by
    simp only [ltAll, Bool.and_eq_true] at h
    simp only [List.eraseIdx_cons_succ, ltAll, h.1, ltAll_erase h.2, Bool.and_self]
theorem ok_popAt : MthOk S .popAt rPopAt := by
  intro al m H H0 s Q n a xs us vs ws h1 h2 h3 h4 h5 rl p
  cases vs with
  | nil => exact p.elim
  | cons v vs =>
    cases vs with
    | cons _ _ => cases v <;> exact p.elim
    | nil =>
      cases v <;> first | exact p.elim | skip
      rename_i i
      obtain ⟨w, rfl, rw'⟩ := h5.one
      cases rw'
      simp only [mthd, h2] at p
      cases ei : MP.ixN xs.length i with
      | none => rw [ei] at p; exact p.elim
      | some k =>
        rw [ei] at p
        dsimp only at p
        cases ek : xs[k]? with
        | none => rw [ek] at p; exact p.elim
        | some y =>
          rw [ek] at p
          dsimp only at p
          split at p
          · rename_i hz
            rw [small63_iff] at hz
            obtain ⟨u, eu, ry⟩ := h4.get ek
            have e2 : L2.ixN us.length i = some k := by rw [h4.length]; exact ei
            obtain ⟨g1, _⟩ := ixN_seq e2
            refine ⟨a, us, i, k, u, rfl, rfl, h3, hz.1, hz.2, g1, eu, ?_⟩
            have rl2 := rl.store (ys := xs.eraseIdx k) h1 h3 (RepL.eraseIdx k h4) fun b hb hn => ltAll_erase (rl.low b hb n _ hn h2)
            have x2 := Ext.store (ws := us.eraseIdx k) (List.mem_of_getElem? h1) h3
            exact p u _ al x2 rl2 ⟨ry.ext x2 _ _, fun h => by cases h⟩
          · exact p.elim
end
/-! ### x.index(i) -/
section
variable {X : L2.Cx} {S : Sg} {o e : Expr} {es : List Expr} {f1 : Bool} {fo : MP.Env → M → R Val} {fs : MP.Env → M → R (List Val)}
theorem me_index {apos cpos : Pos} (ho : PE X o (tE S f1 fo)) (ha : PA X (e :: es) (tEs S fs)) (hK : X.K = S.K) (hx : ∀ r m c gs m', fs r m ≠ .exc c gs m')
    (hbase : attributeBase o (Str.ofString "index") X.env (eval o X.env) = eval o X.env)
    (hfew : ((backTo cpos (starEach (e :: es) X.env)).all (fun x => !x.1) && (backToKw cpos (keywordEach [] X.env)).all (fun x => x.1.isSome)
      && decide ((e :: es).length + ([] : List Keyword).length + (if ([] : List Keyword).isEmpty then 0 else 1) < 30)) = true)
    (hline : (apos.endLine == cpos.line) = true) (hs : starEach (e :: es) X.env = (false, eval e X.env) :: starEach es X.env) (hplain : (backTo cpos (starEach es X.env)).any (·.1) = false) :
    PE X (.Call (.Attribute o (Str.ofString "index") apos) (e :: es) [] cpos) (tE S true fun r m => (fo r m).bind fun x m => (fs r m).bind fun xs m => opt (blt .index (dr m x :: xs.map (dr m))) m) := by
  refine pe_imp (pe_idx ho ha hbase hfew hline hs hplain) fun s H Q ⟨r, m, al, re, rl, p⟩ => ?_
  refine ⟨r, m, al, re, rl, p.seq.mono ?_⟩
  rintro u H1 ⟨v, m1, al1, x1, rl1, q1, p1⟩
  have key : ∃ z xs m2, fs r m1 = .ok xs m2 ∧ blt .index (dr m2 v :: xs.map (dr m2)) = some z := by
    cases ef : fs r m1 with
    | stuck => rw [ef] at p1; exact p1.elim
    | exc c gs m' => exact absurd ef (hx _ _ _ _ _)
    | ok xs m2 =>
      rw [ef] at p1
      obtain ⟨z, ez, _⟩ := Post.opt (o := blt .index (dr m2 v :: xs.map (dr m2))) p1
      exact ⟨z, xs, m2, rfl, ez⟩
  obtain ⟨z0, xs0, m20, _, ez0⟩ := key
  have last : ∀ (a : Addr) (us : List V) (ys : List Val) (H2 : Hp) (al2 : Al) (m2 : M) (ws : List V) (vs : List Val) (z : Val), RepDs S.K al2 H2 ws (vs.map (dr m2)) → RepL S.K al2 H2 us ys → (blt .index (.tup ys :: vs.map (dr m2)) = some z ∨ blt .index (.lst ys :: vs.map (dr m2)) = some z) → Done S.K al2 H2 true z Q →
      ∃ (ns : List Int) (i : Int), us = ns.map V.int ∧ ws = [.int i] ∧ i ∈ ns ∧ Q (.int (ns.idxOf i : Nat)) H2 := by
    intro a us ys H2 al2 m2 ws vs z hd hr e d
    revert e hd
    generalize vs.map (dr m2) = as
    intro hd e
    rcases as with _ | ⟨w, _ | ⟨w2, as⟩⟩
    · rcases e with e | e <;> cases e
    · cases w <;> first | (rcases e with e | e <;> cases e; done) | skip
      rename_i i
      have e : idxV ys i = some z := by rcases e with e | e <;> exact e
      unfold idxV at e
      cases en : intsOf ys with
      | none => rw [en] at e; cases e
      | some ns =>
        rw [en, Option.bind_some] at e
        split at e
        · rename_i hm
          cases e
          obtain ⟨w, rfl, hw⟩ := hd.one
          have := hr.of_ints en
          subst this
          rw [hw.int]
          exact ⟨ns, i, rfl, rfl, of_decide_eq_true hm, d.int⟩
        · cases e
    · cases w <;> rcases e with e | e <;> cases e
  cases v with
  | tup ys =>
    cases q1.1 with
    | @tup a us _ h1 h2 =>
      refine ⟨a, rfl, .inr ⟨⟨us, hK ▸ h1⟩, r, m1, al1, re.ext x1, rl1, p1.seq.mono ?_⟩⟩
      rintro ws H2 ⟨vs, m2, al2, x2, rl2, q2, p2⟩
      obtain ⟨z, e, p3⟩ := p2.opt
      obtain ⟨ns, i, g1, g2, g3, g4⟩ := last a us ys H2 al2 m2 ws vs z (q2.drs rl2) (h2.ext x2 _ _) (.inl e) (.of p3 rl2 fun a h => x1.dom a (x2.dom a h))
      subst g1
      exact ⟨a, ns, i, rfl, g2, hK ▸ (TupN.ext0 h1 x2.to0).1, g3, g4⟩
  | lst ys =>
    cases q1.1 with
    | @lst a us _ h1 h2 h3 =>
      refine ⟨a, rfl, .inl ⟨⟨us, .inl (.inl h1)⟩, r, m1, al1, re.ext x1, rl1, p1.seq.mono ?_⟩⟩
      rintro ws H2 ⟨vs, m2, al2, x2, rl2, q2, p2⟩
      obtain ⟨z, e, p3⟩ := p2.opt
      have h4 := q1.1.ext x2 _ _
      cases h4 with
      | lst g1' g2' g3' =>
        obtain ⟨ns, i, g1, g2, g3, g4⟩ := last a _ ys H2 al2 m2 ws vs z (q2.drs rl2) g3' (.inr e) (.of p3 rl2 fun a h => x1.dom a (x2.dom a h))
        rw [g1] at g1'
        exact ⟨a, ns, i, rfl, g2, .inl (.inl g1'), g3, g4⟩
  | ref n =>
    cases q1.1 with
    | @ref _ a h1 =>
      obtain ⟨c, ec, qc⟩ := rl1.at h1
      cases c with
      | dct _ _ => exact qc.elim
      | ins _ _ => exact qc.elim
      | lst ys0 =>
        obtain ⟨us0, ea0, _⟩ := qc
        refine ⟨a, rfl, .inl ⟨⟨us0, .inl (.inl ea0)⟩, r, m1, al1, re.ext x1, rl1, p1.seq.mono ?_⟩⟩
        rintro ws H2 ⟨vs, m2, al2, x2, rl2, q2, p2⟩
        obtain ⟨z, e, p3⟩ := p2.opt
        have rd : RepD S.K al2 H2 (.ref a) (dr m2 (.ref n)) := .dr (q1.1.ext x2 _ _) rl2
        have h2 : al2.c[n]? = some a := by
          have := (Rep.ref h1 : Rep S.K al1 H1 (.ref a) (.ref n)).ext x2 _ _
          cases this with
          | ref h => exact h
        obtain ⟨c2, ec2, qc2⟩ := rl2.at h2
        cases c2 with
        | dct _ _ => exact qc2.elim
        | ins _ _ => exact qc2.elim
        | lst ys =>
          obtain ⟨us, ea, ra⟩ := qc2
          have ed : dr m2 (.ref n) = .lst ys := by simp only [dr, ec2]
          rw [ed] at e
          obtain ⟨ns, i, g1, g2, g3, g4⟩ := last a us ys H2 al2 m2 ws vs z (q2.drs rl2) ra (.inr e) (.of p3 rl2 fun a h => x1.dom a (x2.dom a h))
          rw [g1] at ea
          exact ⟨a, ns, i, rfl, g2, .inl (.inl ea), g3, g4⟩
  | _ => cases xs0 <;> (try (rename_i x0 xs0; cases xs0)) <;> simp [dr, blt] at ez0
end
end MP
set_option Elab.async false
set_option linter.all false
set_option maxRecDepth 100000
set_option maxHeartbeats 2000000
/-! MPRev: xs[::-1] of lists and tuples. -/
namespace MP
open PySem PySem.Spec PyProof.Rows L2
section
variable {prog : Program} {w : World} {A : Around} {E : Value → Shared → Prop} {s : Shared}
theorem adjust_rev (n : Nat) : Builtin.Slice.sliceAdjust none none (-1) (n : Int) = ((n : Int) - 1, -1) := by
  unfold Builtin.Slice.sliceAdjust
  rfl
theorem places_rev (n : Nat) : Builtin.Slice.slicePlaces ((n : Int) - 1) (-1) (-1) = n := by
  unfold Builtin.Slice.slicePlaces
  have h1 : ¬ ((-1 : Int) > 0) := by omega
  rw [if_neg h1]
  have h2 : (- (-1) : Int) = 1 := by omega
  rw [h2, Int.ediv_one]
  split <;> omega
theorem sliceApplied_rev {sl : Addr} {vl vu vs : Value} {n : Nat} {Q : Int × Int × Nat → Shared → Prop} (hs : s.heap.IsSliceOf sl vl vu vs) (pl : IsPart vl none) (pu : IsPart vu none) (ps : IsPart vs (some (-1)))
    (h : Q ((n : Int) - 1, -1, n) s) : wpAny (model prog w) A (Builtin.Slice.sliceApplied (.ref sl) (pure (n : Int))) Q E s := by
  obtain ⟨os, hos, hcs, hds⟩ := id hs
  unfold Builtin.Slice.sliceApplied Builtin.Slice.sliceFields
  refine wpAny_bind (wpAny_bind (wpAny_field hos hds (x := vl) rfl (wpAny_bind (wpAny_field hos hds (x := vu) rfl (wpAny_bind (wpAny_field hos hds (x := vs) rfl (wpAny_pure ?_)))))))
  refine wpAny_bind (HT.slicePart_ ps ?_)
  show wpAny _ _ (if ((-1 : Int) == 0) = true then _ else _) _ _ s
  rw [if_neg (by decide)]
  refine wpAny_bind (HT.slicePart_ pl (wpAny_bind (HT.slicePart_ pu (wpAny_bind (wpAny_pure ?_)))))
  show wpAny _ _ (match Builtin.Slice.sliceAdjust none none (-1) (n : Int) with | (lo, hi) => pure (lo, (-1 : Int), Builtin.Slice.slicePlaces lo hi (-1))) _ _ s
  rw [adjust_rev n]
  show wpAny _ _ (pure ((n : Int) - 1, (-1 : Int), Builtin.Slice.slicePlaces ((n : Int) - 1) (-1) (-1))) _ _ s
  rw [places_rev]
  exact wpAny_pure h
theorem fm_range : ∀ (ys : List Value) (k : Nat) (f : Nat → Option Value), (∀ m, m < ys.length → f (k + m) = ys[m]?) → (List.range' k ys.length).filterMap f = ys
  | [], _, _, _ => rfl
  | y :: ys, k, f, h => by
    rw [List.length_cons, List.range'_succ, List.filterMap_cons]
    have h0 := h 0 (by simp)
    rw [Nat.add_zero] at h0
    rw [h0]
    simp only [List.getElem?_cons_zero]
    rw [fm_range ys (k + 1) f fun m hm => by
      have := h (m + 1) (by simp; omega)
      rw [List.getElem?_cons_succ] at this
      rw [← this]
      congr 1
      omega]
theorem pick_rev (xs : Array Value) : ((List.range xs.size).filterMap fun (m : Nat) => xs[((xs.size : Int) - 1 + (m : Int) * -1).toNat]?).toArray = xs.toList.reverse.toArray := by
  congr 1
  have k := fm_range xs.toList.reverse 0 (fun (m : Nat) => xs[((xs.size : Int) - 1 + (m : Int) * -1).toNat]?) fun m hm => by
    rw [List.length_reverse, Array.length_toList] at hm
    have : ((xs.size : Int) - 1 + ((0 + m : Nat) : Int) * -1).toNat = xs.size - 1 - m := by omega
    rw [this, List.getElem?_reverse (by simpa using hm), Array.length_toList, Array.getElem?_toList]
  rw [List.length_reverse, Array.length_toList] at k
  rw [List.range_eq_range']
  exact k
theorem getItem_tuple_rev {t sl : Addr} {items : Array Value} {vl vu vs : Value} {Q : Value → Shared → Prop} (ht : IsTup s.heap t items) (hs : s.heap.IsSliceOf sl vl vu vs) (pl : IsPart vl none) (pu : IsPart vu none) (ps : IsPart vs (some (-1)))
    (h : Q (.ref s.heap.objs.size) { s with heap := s.heap.push { cls := .type "tuple", data := .seq items.toList.reverse.toArray } })
    (hsz : items.size ≤ sizeLine) : wpAny (model prog w) A (getItem (.ref t) (.ref sl)) Q E s := by
  have htake : sizeOk (.seq items.toList.reverse.toArray) := by
    show items.toList.reverse.toArray.size ≤ sizeLine
    rw [List.size_toArray, List.length_reverse, Array.length_toList]
    exact hsz
  obtain ⟨os, hos, hcs, hds⟩ := id hs
  have hTs : s.TypeIs (.ref sl) "slice" := ⟨os, hos, hcs⟩
  unfold getItem
  try with_reducible refine wpAny_holding ?_
  first | refine wpAny_bind (wpAny_pure ?_) | skip
  refine wpAny_bind (wpAny_sequenceKey ht.typeIs (by decide) ?_)
  refine wpAny_bind (wpAny_callSpecial?_slot (name := Str.ofString "__getitem__") ht.typeIs PyProof.Rows.slot_tuple_getitem
    (wpAny_call_entry PyProof.Rows.slot_tuple_getitem ht.typeIs entry_tuple_getitem ?_ (args_tuple_getitem _ _)))
  show wpAny _ _ (Builtin.Tuple.tupleItemsOf (.ref t) >>= _) _ _ s
  refine wpAny_bind (tupleItemsOf_ ht ?_)
  refine wpAny_bind (wpAny_typeOf hTs ?_)
  rw [if_pos (by decide)]
  refine wpAny_bind (sliceApplied_rev hs pl pu ps ?_)
  have hno : ¬ (((items.size : Int) - 1 == 0 && (-1 : Int) == 1 && items.size == items.size) = true) := by
    intro q
    rw [Bool.and_eq_true, Bool.and_eq_true] at q
    exact absurd q.1.2 (by decide)
  show wpAny _ _ (if ((items.size : Int) - 1 == 0 && (-1 : Int) == 1 && items.size == items.size) = true then _ else _) _ _ s
  rw [if_neg hno, pick_rev]
  first
    | exact wpAny_bind (m := Builtin.Tuple.tupleExact _) (wpAny_newObj_type (wpAny_pure ⟨_, rfl, wpAny_pure h⟩) htake)
    | exact wpAny_bind (m := Builtin.Tuple.tupleExact _) (wpAny_newObj_type (wpAny_bind (wpAny_pure (wpAny_pure ⟨_, rfl, wpAny_pure h⟩))) htake)
    | exact wpAny_bind (wpAny_bind (m := Builtin.Tuple.tupleExact _) (wpAny_newObj_type (wpAny_pure (wpAny_pure ⟨_, rfl, wpAny_pure h⟩)) htake))
    | exact wpAny_bind (wpAny_bind (m := Builtin.Tuple.tupleExact _) (wpAny_newObj_type (wpAny_pure ⟨_, rfl, wpAny_pure h⟩) htake))
end
section
variable {X : L2.Cx} {S : Sg} {a : Expr} {f1 : Bool} {fa : Env → M → R Val}
def tRevA (K : PySem.W.Frag) (te : TE) : TE := fun σ H Q => te σ H fun x H1 => ∃ a xs, x = .ref a ∧ ((SqL K H1 a xs ∧ ∀ p, H1 p = none → Q (.ref p) (upd H1 p (.lst xs.reverse))) ∨ (SqT K H1 a xs ∧ ∀ (ob : Obj) (p : Addr), ob.dict = none → H1 p = none → Q (.ref p) (upd H1 p (.frz ob (.tup xs.reverse)))))
theorem pe_revA {e : Expr} {te : TE} {k : Nat} {p1 p2 p3 pos : Pos} (he : PE X e te) : PE X (.Subscript e (.Slice none none (some (.UnaryOp .USub (.Constant (.int 1) k p1) p2)) p3) pos) (tRevA X.K te) := by
  refine ⟨fun pins s σ H Q I h => ?_⟩
  refine Subscript_ (thn (he.run pins s σ H _ I h) fun v s1 ⟨x, H1, I1, r1, q1⟩ => ?_)
  obtain ⟨a, xs, ex, hx⟩ := q1
  subst ex
  cases r1
  have hst : PO X (some (.UnaryOp .USub (.Constant (.int 1) k p1) p2)) (tPart (tUn (rU fun i => .int (-i)) (tC (.int 1)))) := po_some (pe_un un_neg pe_int)
  refine wpAny_Slice (thn (po_none.run pins s1 σ H1 (fun o H2 => o = none ∧ H2 = H1) I1 ⟨rfl, rfl⟩) fun vl s2 ⟨l, H2, I2, pl, el, e2⟩ => ?_)
  subst el e2
  refine thn (po_none.run pins s2 σ H2 (fun o H3 => o = none ∧ H3 = H2) I2 ⟨rfl, rfl⟩) fun vu s3 ⟨u, H3, I3, pu, eu, e3⟩ => ?_
  subst eu e3
  refine thn (hst.run pins s3 σ H3 (fun o H4 => o = some (-1) ∧ H4 = H3) I3 ⟨1, rfl, -1, rfl, rfl, rfl⟩) fun vs s4 ⟨o, H4, I4, ps, eo, e4⟩ => ?_
  subst eo e4
  have I5 : Inv X pins σ H4 { s4 with heap := s4.heap.push { cls := .type "slice", data := .fields #[vl, vu, vs] } } := I4.kept (t' := s4.toks) fun b ob q => Heap.get?_push_of_some _ q
  show wpAny (model X.prog X.w) X.A (subscriptTail e (.Slice none none (some (.UnaryOp .USub (.Constant (.int 1) k p1) p2)) p3) (.ref a) (.ref s4.heap.objs.size)) (EP X pins σ Q) X.xe { s4 with heap := s4.heap.push { cls := .type "slice", data := .fields #[vl, vu, vs] } }
  rcases hx with ⟨hx, q⟩ | ⟨hx, q⟩
  · obtain ⟨its, r, ht, hz⟩ := I5.list hx
    have hlen := r.length
    refine tail_any (ops := [.ref a, .ref s4.heap.objs.size]) ht.isList.typeIs (PySem.slot_list_getitem.lookup) ?_ (by with_unfolding_all rfl)
    refine wpAny_getItem_list_slice ht.isList (Heap.IsSliceOf.new _ vl vu vs) pl pu ps (by decide) ?_ (by rw [List.size_toArray]; omega)
    rw [PySem.W.krv_pick]
    refine ⟨.ref _, _, I5.laid (t' := s4.toks) (o := .lst xs.reverse) (fun b ob q => Heap.get?_push_of_some _ q) (Nat.le_refl _) ?_, rfl, q _ (I5.hok.fresh (Nat.le_refl _))⟩
    exact ⟨by rw [List.length_reverse]; exact hz, _, 0, r.reverse, Heap.get?_push_size _ rfl⟩
  · obtain ⟨its, r, ht, hz⟩ := I5.tuple hx
    have hlen := r.length
    refine tail_any (ops := [.ref a, .ref s4.heap.objs.size]) ht.typeIs PyProof.Rows.slot_tuple_getitem.lookup ?_ (by with_unfolding_all rfl)
    refine getItem_tuple_rev ht (Heap.IsSliceOf.new _ vl vu vs) pl pu ps ?_ (by rw [List.size_toArray]; omega)
    exact laidN (tk := s4.toks) I5 r.reverse (by rw [List.length_reverse]; exact hz) q
theorem me_rev {k : Nat} {p1 p2 p3 pos : Pos} (hK : X.K = S.K) (ha : PE X a (tE S f1 fa)) :
    PE X (.Subscript a (.Slice none none (some (.UnaryOp .USub (.Constant (.int 1) k p1) p2)) p3) pos) (tE S true fun r m => (fa r m).bind fun x m => opt (rev (dr m x)) m) := by
  refine pe_imp (pe_revA ha) fun s H Q ⟨r, m, al, re, rl, p⟩ => ?_
  refine ⟨r, m, al, re, rl, p.seq.mono ?_⟩
  rintro u H1 ⟨v, m1, al1, x1, rl1, q1, p1⟩
  obtain ⟨z, e, p2⟩ := p1.opt
  have rd : RepD S.K al1 H1 u (dr m1 v) := .dr q1.1 rl1
  have q := Done.of p2 rl1 fun a h => x1.dom a h
  revert e rd
  generalize dr m1 v = w
  intro e rd
  cases w <;> simp only [rev, Option.some.injEq, reduceCtorEq] at e
  · subst e
    obtain ⟨a', us, rfl, h1, h2⟩ := rd.tuple
    exact ⟨a', us, rfl, .inr ⟨hK ▸ h1, q.tup h2.reverse⟩⟩
  · subst e
    obtain ⟨a', us, rfl, h1, h2⟩ := rd.list
    exact ⟨a', us, rfl, .inl ⟨.of h1, q.lst rl1.dm h2.reverse⟩⟩
end
end MP
set_option Elab.async false
set_option linter.all false
set_option maxRecDepth 100000
set_option maxHeartbeats 4000000
/-! MPSrt: sorted(..), of lists and tuples of ints, reverse=True too. -/
namespace MP
open PySem PySem.Spec PyProof.Rows L2 Srt SrtO
section
variable {prog : Program} {w : World} {A : Around} {E : Value → Shared → Prop} {s : Shared}
theorem collect_sq {T : String} {l : Addr} {o : Obj} {vs : List Value} {n : Nat} {Q : List Value → Shared → Prop} (hT : T = "list" ∨ T = "tuple") (ho : s.heap.get? l = some o) (hc : o.cls = .type T) (hd : o.data = .seq vs.toArray n)
    (h : Q vs { s with heap := (s.heap.push (seqObj "list" #[] 0)).update s.heap.objs.size (Obj.mapSeq (· ++ vs.toArray)) }) (hsz : vs.length ≤ sizeLine) :
    wpAny (model prog w) A (collect (.ref l)) Q E s := by
  unfold collect
  refine wpAny_bind (wpAny_runValue (codeAny_builtin entry_proto_collect' ?_))
  show wpAny _ _ (do again (.builtin "list.__iadd__" ⟨[← newList [], .ref l], []⟩)) _ _ s
  refine wpAny_bind (wpAny_newList (wpAny_pure ⟨Code.quiet_builtin _ (by decide +kernel), codeAny_builtin entry_list_iadd' ?_⟩))
  show wpAny _ _ (Builtin.List.listExtendWith (.ref s.heap.objs.size) (.ref l) (.ref s.heap.objs.size)) _ _ { s with heap := s.heap.push (seqObj "list" #[] 0) }
  unfold Builtin.List.listExtendWith
  have ho' : (s.heap.push (seqObj "list" #[] 0)).get? l = some o := Heap.get?_push_of_some _ ho
  refine wpAny_bind (wpAny_typeOf (T := T) ⟨o, ho', hc⟩ ?_)
  have ht : (Value.type T == Value.type "list" || Value.type T == Value.type "tuple") = true := by
    rcases hT with rfl | rfl <;> rfl
  rw [if_pos (by rcases hT with rfl | rfl <;> simp)]
  refine wpAny_bind (listItems_at ho' hd ?_)
  refine wpAny_bind (listItems_at (xs := #[]) (n := 0) (Heap.get?_push_size _ rfl) rfl ?_)
  rw [if_neg (by simp)]
  refine wpAny_bind (listUpdate_at (xs := #[]) (n := 0) (Heap.get?_push_size _ rfl) rfl ?_ (Nat.zero_le _) (by show (#[] ++ vs.toArray).size ≤ sizeLine + 1; simp only [Array.size_append, List.size_toArray, List.length_nil]; omega))
  refine wpAny_pure ?_
  show wpAny (model prog w) A (do
      let o ← load s.heap.objs.size
      match o.data with
      | .seq xs _ => pure xs.toList
      | _ => unsupported "internal:collect") Q E { s with heap := (s.heap.push (seqObj "list" #[] 0)).update s.heap.objs.size (Obj.mapSeq (· ++ vs.toArray)) }
  refine wpAny_bind (wpAny_load (get?_update_seq (Heap.get?_push_size _ rfl) _) ?_)
  show wpAny _ _ (pure ((#[] : Array Value) ++ vs.toArray).toList) Q E _
  rw [show ((#[] : Array Value) ++ vs.toArray).toList = vs by simp]
  exact wpAny_pure h
/-- sorted(x, ..) of a list or a tuple -/
theorem sorted_any {T : String} {l : Addr} {o : Obj} {vs : List Value} {n : Nat} {b : Bool} {kw : List (Str × Value)} {ltv : Value → Value → Bool} {Q : Value → Shared → Prop} (hk : ∀ a, Builtin.«list.sort» ⟨[.ref a], kw⟩ = Builtin.«list.sort» ⟨[.ref a], [(Str.ofString "reverse", .bool b)]⟩)
    (ha1 : argsOk "sorted" ⟨[.ref l], kw⟩) (ha2 : ∀ a, argsOk "list.sort" ⟨[a], kw⟩) (O : Swo ltv) (hT : T = "list" ∨ T = "tuple") (ho : s.heap.get? l = some o) (hc : o.cls = .type T) (hd : o.data = .seq vs.toArray n) (hz : vs.length ≤ sizeLine)
    (hS : 2 ≤ vs.length → ∀ (h₁ : Heap) (a : Addr), h₁.get? a = some (seqObj "list" vs.toArray 0) → (∀ b o, s.heap.get? b = some o → b ≠ a ∧ h₁.get? b = some o) → SortableO prog w A.in1.in1 { s with heap := h₁ } a vs ltv)
    (h : ∀ out : List Value, Srtd ltv out → Stb ltv out (if b = true then vs.reverse else vs) → Q (.ref (s.heap.objs.size + 1)) { s with heap := sortedAll s.heap vs (if b = true then out.toArray.reverse else out.toArray) }) :
    wpAny (model prog w) A (call (.builtin "sorted") [.ref l] kw) Q E s := by
  refine call_function_entry_kw kind_sorted plain_sorted entry_sorted ha1 ?_
  unfold Builtin.«sorted»
  refine wpAny_bind (m := checkCount "sorted" 1 1 _) (wpAny_pure ?_)
  refine wpAny_bind (collect_sq hT ho hc hd ?_ hz)
  refine wpAny_bind (wpAny_newList ?_ hz)
  have hsz : ((s.heap.push (seqObj "list" #[] 0)).update s.heap.objs.size (Obj.mapSeq (· ++ vs.toArray))).objs.size = s.heap.objs.size + 1 := by
    rw [Heap.size_update, size_push']
  have hoL : (((s.heap.push (seqObj "list" #[] 0)).update s.heap.objs.size (Obj.mapSeq (· ++ vs.toArray))).push (seqObj "list" vs.toArray 0)).get? (s.heap.objs.size + 1) = some (seqObj "list" vs.toArray 0) := by
    rw [← hsz]; exact Heap.get?_push_size _ rfl
  have keep : ∀ b o, s.heap.get? b = some o → b ≠ s.heap.objs.size + 1 ∧ (((s.heap.push (seqObj "list" #[] 0)).update s.heap.objs.size (Obj.mapSeq (· ++ vs.toArray))).push (seqObj "list" vs.toArray 0)).get? b = some o := fun b o q => by
    have hlt : b < s.heap.objs.size := Heap.lt_size q
    refine ⟨Nat.ne_of_lt (Nat.lt_succ_of_lt hlt), Heap.get?_push_of_some _ ?_⟩
    rw [Heap.get?_update_ne _ _ _ _ (Nat.ne_of_lt hlt)]
    exact Heap.get?_push_of_some _ q
  show wpAny _ _ _ _ _ { s with heap := ((s.heap.push (seqObj "list" #[] 0)).update s.heap.objs.size (Obj.mapSeq (· ++ vs.toArray))).push (seqObj "list" vs.toArray 0) }
  rw [hsz]
  refine wpAny_bind (wpAny_holding (wpAny_call_entry_kw slot_list_sort ⟨_, hoL, rfl⟩ entry_list_sort ?_ (ha2 _)))
  rw [hk]
  refine SrtR.list_sort_ordR O hoL hz (fun h2 => hS h2 _ _ hoL keep) fun out hs hb => ⟨_, rfl, ?_⟩
  exact wpAny_pure ⟨_, rfl, h out hs hb⟩
end
/-! ### of ints -/
theorem insI_perm (x : Int) : ∀ l : List Int, (insI x l).Perm (x :: l)
  | [] => .refl _
  | y :: r => by
    simp only [insI]
    split
    · exact .refl _
    · exact ((insI_perm x r).cons y).trans (.swap x y r)
theorem isort_perm : ∀ l : List Int, (isort l).Perm l
  | [] => .refl _
  | x :: r => (insI_perm x (isort r)).trans ((isort_perm r).cons x)
theorem insI_le (x : Int) : ∀ l : List Int, l.Pairwise (· ≤ ·) → (insI x l).Pairwise (· ≤ ·)
  | [], _ => by simp [insI]
  | y :: r, h => by
    rw [List.pairwise_cons] at h
    simp only [insI]
    split
    · rename_i hx
      rw [List.pairwise_cons]
      refine ⟨fun z hz => ?_, List.pairwise_cons.mpr h⟩
      rcases List.mem_cons.mp hz with rfl | hz
      · exact hx
      · exact Int.le_trans hx (h.1 z hz)
    · rename_i hx
      rw [List.pairwise_cons]
      refine ⟨fun z hz => ?_, insI_le x r h.2⟩
      rcases List.mem_cons.mp ((insI_perm x r).mem_iff.mp hz) with rfl | hz
      · omega
      · exact h.1 z hz
theorem isort_le : ∀ l : List Int, (isort l).Pairwise (· ≤ ·)
  | [] => .nil
  | x :: r => insI_le x _ (isort_le r)
theorem sorted_one : ∀ {a b : List Int}, a.Perm b → a.Pairwise (· ≤ ·) → b.Pairwise (· ≤ ·) → a = b := fun h h1 h2 =>
  h.eq_of_pairwise (fun a b _ _ h3 h4 => Int.le_antisymm h3 h4) h1 h2
theorem sorted_isort {ns ns' : List Int} (h : ns'.Perm ns) (h1 : ns'.Pairwise (· ≤ ·)) : ns' = isort ns := sorted_one (h.trans (isort_perm ns).symm) h1 (isort_le ns)
section
variable {X : L2.Cx}
theorem sorted_runA {b : Bool} {kw : List (Str × Value)} {pins : List (Addr × Obj)} {s : Shared} {σ : L2.St} {H : Hp} {a : Addr} {ns : List Int} {Q : VK} (I : Inv X pins σ H s) (hs : SqL X.K H a (ns.map V.int) ∨ SqT X.K H a (ns.map V.int))
    (hk : ∀ a, Builtin.«list.sort» ⟨[.ref a], kw⟩ = Builtin.«list.sort» ⟨[.ref a], [(Str.ofString "reverse", .bool b)]⟩) (ha1 : argsOk "sorted" ⟨[.ref a], kw⟩) (ha2 : ∀ a, argsOk "list.sort" ⟨[a], kw⟩)
    (q : ∀ (p : Addr), H p = none → Q (.ref p) (upd H p (.lst ((if b then (isort ns).reverse else isort ns).map V.int)))) : wpAny (model X.prog X.w) X.A (call (.builtin "sorted") [.ref a] kw) (EP X pins σ Q) X.xe s := by
  have key : ∀ {T : String} {o : Obj} {its : List Value} {n : Nat}, (T = "list" ∨ T = "tuple") → s.heap.get? a = some o → o.cls = .type T → o.data = .seq its.toArray n → Vals (ns.map V.int) its → (ns.map V.int).length ≤ sizeLine →
      wpAny (model X.prog X.w) X.A (call (.builtin "sorted") [.ref a] kw) (EP X pins σ Q) X.xe s := fun {T o its n} hT ho hc hd rv hz => by
    have hi := rv.ints
    refine sorted_any hk ha1 ha2 SrtO.swo_int hT ho hc hd (by rw [← rv.length]; exact hz) (fun h2 h₁ a' _ _ => SrtO.ints_sortable hi h2) fun out h1 h2 => ?_
    obtain ⟨ns', k1, k2, k3⟩ := SrtR.ints_outR hi h1 h2
    obtain ⟨ep, he'⟩ := PyProof.Rows.sortedAll_at s.heap its (if b = true then out.toArray.reverse else out.toArray)
    have hlen : (ns'.map V.int).length ≤ sizeLine := by
      rw [List.length_map, k2.length_eq]
      rw [List.length_map] at hz
      exact hz
    have e0 : ((if b = true then out.toArray.reverse else out.toArray).toList).toArray = (if b = true then out.toArray.reverse else out.toArray) := by rw [Array.toArray_toList]
    have en : ns' = if b then (isort ns).reverse else isort ns := by
      cases b with
      | false => exact sorted_isort k2 k3
      | true =>
        have k3 : ns'.Pairwise (· ≥ ·) := k3
        have := sorted_isort ((List.reverse_perm ns').trans k2) (List.pairwise_reverse.mpr k3)
        rw [if_pos rfl, ← this, List.reverse_reverse]
    rw [← en] at q
    exact ⟨.ref _, upd H (s.heap.objs.size + 1) (.lst (ns'.map V.int)), I.laid (t' := s.toks) (fun _ _ => PyProof.Rows.sortedAll_old) (Nat.le_succ _) ⟨hlen, _, ep, vals_of_ints k1, by rw [e0]; exact he'⟩, rfl, q _ (I.hok.fresh (Nat.le_succ _))⟩
  rcases hs with hs | hs
  · obtain ⟨its, rv, hl, hz⟩ := I.list hs
    obtain ⟨o, ho, hc, n, hd⟩ := hl.isList
    exact key (.inl rfl) ho hc hd rv hz
  · obtain ⟨its, rv, hl, hz⟩ := I.tuple hs
    obtain ⟨o, ho, hc, n, hd⟩ := hl
    exact key (.inr rfl) ho hc hd rv hz
theorem args_sorted_0 (a : Value) : argsOk "sorted" ⟨[a], []⟩ := PyProof.Rows.args_sorted1 a
/-- values that stand for pairs of what's tracked and the clean value -/
theorem each_of {K : PySem.W.Frag} {al : Al} {H : Hp} : ∀ {xs : List Val} {us : List V} {its : List Value}, RepL K al H us xs → Vals us its → PySem.W.EachIs (fun v (p : V × Val) => RelV p.1 v ∧ Rep K al H p.1 p.2 ∧ p.2 ∈ xs) its (us.zip xs)
  | [], _, _, h, r => by cases h; cases r; exact .nil
  | x :: xs, _, _, h, r => by
    cases h with
    | cons h1 h2 =>
      cases r with
      | cons r1 r2 =>
        exact .cons ⟨r1, h1, List.mem_cons_self⟩ ((each_of h2 r2).mono fun v p q => ⟨q.1, q.2.1, List.mem_cons_of_mem _ q.2.2⟩)
theorem of_each {K : PySem.W.Frag} {al : Al} {H : Hp} {P : V × Val → Prop} : ∀ {ps : List (V × Val)} {its : List Value}, PySem.W.EachIs (fun v (p : V × Val) => RelV p.1 v ∧ Rep K al H p.1 p.2 ∧ P p) its ps → Vals (ps.map (·.1)) its ∧ RepL K al H (ps.map (·.1)) (ps.map (·.2))
  | [], _, h => by cases h; exact ⟨.nil, .nil⟩
  | p :: ps, _, h => by
    cases h with
    | cons h1 h2 =>
      obtain ⟨a, b⟩ := of_each h2
      exact ⟨.cons h1.1 a, .cons h1.2.1 b⟩
theorem zip_snd {α β : Type} : ∀ {us : List α} {xs : List β}, us.length = xs.length → (us.zip xs).map (·.2) = xs
  | [], [], _ => rfl
  | u :: us, x :: xs, h => by simp only [List.zip_cons_cons, List.map_cons, zip_snd (us := us) (xs := xs) (by simpa using h)]
theorem sorted_runD {pins : List (Addr × Obj)} {s : Shared} {σ : L2.St} {H : Hp} {al : Al} {a : Addr} {us : List V} {xs : List Val} {Q : VK} (hu : X.A.units + 65 < cLine) (I : Inv X pins σ H s) (hs : SqL X.K H a us) (hr : RepL X.K al H us xs) (hx : sortD xs = true)
    (q : ∀ (us' : List V) (p : Addr), RepL X.K al H us' (sortV xs) → H p = none → Q (.ref p) (upd H p (.lst us'))) : wpAny (model X.prog X.w) X.A (call (.builtin "sorted") [.ref a] []) (EP X pins σ Q) X.xe s := by
  obtain ⟨its, rv, hl, hz⟩ := I.list hs
  simp only [sortD, Bool.and_eq_true] at hx
  have hx' : ∀ x ∈ xs, x.cmpOk = true ∧ ∀ y ∈ xs, PySem.W.alike (toD x) (toD y) = true := fun x hm => by
    have := List.all_eq_true.mp hx.2 x hm
    simp only [Bool.and_eq_true] at this
    exact ⟨this.1, fun y hy => List.all_eq_true.mp this.2 y hy⟩
  have hlen := hr.length
  have hm2 : ∀ p ∈ us.zip xs, p.2 ∈ xs := fun p hp => (List.of_mem_zip (a := p.1) (b := p.2) hp).2
  have e := each_of hr rv
  refine PySem.W.sorted_data (bs := us.zip xs) (enc := fun p => toD p.2) hl.isList e (e.mono fun v p q => ?_) (fun d hd d' hd' => ?_) ?_ ?_ (fun b hb => ?_) fun out ho he => ?_
  · exact Dp.reads I _ _ _ (Rep.dp p.2 p.1 (data_of (hx' _ q.2.2).1) q.2.1) q.1
  · obtain ⟨p, hp, rfl⟩ := List.mem_map.mp hd
    obtain ⟨p', hp', rfl⟩ := List.mem_map.mp hd'
    exact (hx' _ (hm2 p hp)).2 _ (hm2 p' hp')
  · rcases Bool.or_eq_true _ _ |>.mp hx.1 with ht | ht
    · refine .inl fun d hd => ?_
      obtain ⟨p, hp, rfl⟩ := List.mem_map.mp hd
      have := List.all_eq_true.mp ht _ (hm2 p hp)
      cases e2 : p.2 <;> rw [e2] at this <;> first | cases this | skip
      rename_i ys
      cases ys with
      | nil => cases this
      | cons y ys => exact ⟨_, _, by rw [show toD (.tup (y :: ys)) = .tuple (toD y :: toDs ys) from rfl]⟩
    · refine .inr fun d hd => ?_
      obtain ⟨p, hp, rfl⟩ := List.mem_map.mp hd
      have := List.all_eq_true.mp ht _ (hm2 p hp)
      cases e2 : p.2 <;> rw [e2] at this <;> first | cases this | skip
      exact ⟨(by rw [toD]; exact fun h => by cases h), fun xs h => (by rw [toD] at h; cases h)⟩
  · rw [List.length_zip]
    have : us.length ≤ sizeLine := hz
    omega
  · have := (hx' _ (hm2 b hb)).1
    unfold Val.cmpOk at this
    rw [Bool.and_eq_true, decide_eq_true_eq] at this
    rw [depth_toD]
    omega
  · obtain ⟨g1, g2⟩ := of_each he
    have e3 : ((us.zip xs).mergeSort (PySem.W.dataLe false fun p => toD p.2)).map (·.2) = sortV xs := by
      have e4 := List.map_mergeSort (r := PySem.W.dataLe false fun p : V × Val => toD p.2) (s := leV) (f := fun p : V × Val => p.2) (l := us.zip xs) (fun a _ b _ => rfl)
      rw [e4, zip_snd hlen]
      rfl
    rw [e3] at g2
    obtain ⟨ep, he'⟩ := PyProof.Rows.sortedAll_at s.heap its out.toArray
    have hlen2 : (((us.zip xs).mergeSort (PySem.W.dataLe false fun p => toD p.2)).map (·.1)).length ≤ sizeLine := by
      rw [List.length_map, List.length_mergeSort, List.length_zip]
      have : us.length ≤ sizeLine := hz
      omega
    refine ⟨.ref _, upd H (s.heap.objs.size + 1) (.lst _), I.laid (t' := s.toks) (fun _ _ => PyProof.Rows.sortedAll_old) (Nat.le_succ _) ⟨hlen2, _, ep, g1, he'⟩, rfl, q _ _ g2 (I.hok.fresh (Nat.le_succ _))⟩
theorem cb_sorted (hu : X.A.units + 65 < cLine) : CallR X (.builtin "sorted") (rBlt X.K .sorted) := fun pins s σ H xs us Q I r ⟨al, vs, z, dm, rs, e, q⟩ => by
  cases vs with
  | nil => cases e
  | cons v vs =>
    cases vs with
    | cons _ _ => cases v <;> cases e
    | nil =>
      obtain ⟨u, rfl, rd⟩ := rs.one
      simp only [blt, Option.bind_eq_some_iff] at e
      obtain ⟨ys, e1, e⟩ := e
      split at e
      · rename_i ns e2
        cases e
        obtain ⟨a, us', rfl, h1, h2⟩ := rd.seq e1
        have := h2.of_ints e2
        subst this
        rw [Vals.ref1 r]
        refine sorted_runA (b := false) (kw := []) I h1 (fun a => ?_) (args_sorted_0 _) (fun a => PyProof.Rows.args_list_sort a) fun p hp => q.lst dm (RepL.ints _) p hp
        rw [PyProof.Rows.list_sort_rev]
        first | rfl | kernel_rfl
      · split at e
        · split at e
          · rename_i hx
            cases e
            cases e1
            obtain ⟨a, us', rfl, h1, h2⟩ := rd.list
            rw [Vals.ref1 r]
            exact sorted_runD hu I (.inl (.inl h1)) h2 hx fun us2 p h3 hp => q.lst dm h3 p hp
          · cases e
        · cases e
end
/-! ### min, max -/
section
variable {prog : Program} {w : World} {A : Around} {E : Value → Shared → Prop} {s : Shared} {l : Addr} {xs : Array (Int × Tok)}
theorem max_intTup {Q : Value → Shared → Prop} (hh : A.handled = none) (hl : s.heap.IsTuple l (intItems xs)) (hne : 0 < xs.size)
    (h : ∀ v h' tk, (intItems xs)[argBest (fun i j => decide (numAt xs i > numAt xs j)) (xs.size - 1)]? = some v → (∀ b o, s.heap.get? b = some o → h'.get? b = some o) → Q v { s with heap := h', toks := tk }) :
    wpAny (model prog w) A (call (.builtin "max") [.ref l]) Q E s := by
  have hlt : l < s.heap.objs.size := by obtain ⟨_, e, _⟩ := hl; exact Heap.lt_size e
  refine call_max_walk (wpAny_pyIter_tuple hl ?_)
  refine ⟨_, [_, l], [_], _, _, _, _, rfl, Walks.tuple (A := A.in1) hh _ l (Nat.ne_of_lt hlt) (intItems xs), ⟨⟨_, Heap.get?_push_size _ rfl, rfl, rfl⟩, hl.push _⟩, fun c hc => ?_, by simpa [intItems] using hne,
    CmpOf.ints_gt (numAt xs) (fun _ _ => intItems_at), fun v h' tk hP hk => ?_⟩
  · show c < (s.heap.push _).objs.size
    rw [Heap.size_push]
    rcases List.mem_cons.mp hc with rfl | hb
    · exact Nat.lt_succ_self _
    · rcases List.mem_cons.mp hb with rfl | hb
      · exact Nat.lt_succ_of_lt hlt
      · cases hb
  · refine h v h' tk (by simpa [intItems] using hP) fun b o e => hk b o (fun hm => ?_) (Heap.get?_push_of_some _ e)
    rcases List.mem_cons.mp hm with e1 | hm
    · exact absurd (e1 ▸ Heap.lt_size e) (Nat.lt_irrefl _)
    · cases hm
theorem min_intTup {Q : Value → Shared → Prop} (hh : A.handled = none) (hl : s.heap.IsTuple l (intItems xs)) (hne : 0 < xs.size)
    (h : ∀ v h' tk, (intItems xs)[argBest (fun i j => decide (numAt xs i < numAt xs j)) (xs.size - 1)]? = some v → (∀ b o, s.heap.get? b = some o → h'.get? b = some o) → Q v { s with heap := h', toks := tk }) :
    wpAny (model prog w) A (call (.builtin "min") [.ref l]) Q E s := by
  have hlt : l < s.heap.objs.size := by obtain ⟨_, e, _⟩ := hl; exact Heap.lt_size e
  refine call_min_walk (wpAny_pyIter_tuple hl ?_)
  refine ⟨_, [_, l], [_], _, _, _, _, rfl, Walks.tuple (A := A.in1) hh _ l (Nat.ne_of_lt hlt) (intItems xs), ⟨⟨_, Heap.get?_push_size _ rfl, rfl, rfl⟩, hl.push _⟩, fun c hc => ?_, by simpa [intItems] using hne,
    CmpOf.ints_lt (numAt xs) (fun _ _ => intItems_at), fun v h' tk hP hk => ?_⟩
  · show c < (s.heap.push _).objs.size
    rw [Heap.size_push]
    rcases List.mem_cons.mp hc with rfl | hb
    · exact Nat.lt_succ_self _
    · rcases List.mem_cons.mp hb with rfl | hb
      · exact Nat.lt_succ_of_lt hlt
      · cases hb
  · refine h v h' tk (by simpa [intItems] using hP) fun b o e => hk b o (fun hm => ?_) (Heap.get?_push_of_some _ e)
    rcases List.mem_cons.mp hm with e1 | hm
    · exact absurd (e1 ▸ Heap.lt_size e) (Nat.lt_irrefl _)
    · cases hm
variable {its : List Value} {ns : List Int}
theorem max_rawT {Q : Value → Shared → Prop} (hh : A.handled = none) (hl : s.heap.IsTuple l its.toArray) (hi : IntsAre its ns) (hne : 0 < ns.length)
    (h : ∀ h' tk M t', (∀ b o, s.heap.get? b = some o → h'.get? b = some o) → M ∈ ns → (∀ a, a ∈ ns → a ≤ M) → Q (.int M t') { s with heap := h', toks := tk }) : wpAny (model prog w) A (call (.builtin "max") [.ref l]) Q E s := by
  obtain ⟨xs, e⟩ := hi.allInts.items
  have hn : numsOf (intItems xs).toList = ns := by rw [← e]; exact hi.numsOf
  rw [nums_intItems] at hn
  subst hn
  rw [e] at hl
  have hsz : 0 < xs.size := by simpa using hne
  refine max_intTup hh hl hsz fun v h' tk hv hk => ?_
  obtain ⟨t, rfl⟩ := intItems_at hv
  obtain ⟨h1, h2⟩ := argBest_gt (numAt xs) (xs.size - 1)
  refine h h' tk _ t hk ?_ fun a ha => ?_
  · rw [numAt_eq]; exact PySem.getD_mem (by rw [List.length_map, Array.length_toList]; omega)
  · obtain ⟨j, hj, rfl⟩ := mem_getD ha
    rw [List.length_map, Array.length_toList] at hj
    rw [← numAt_eq]; exact h2 j (by omega)
theorem min_rawT {Q : Value → Shared → Prop} (hh : A.handled = none) (hl : s.heap.IsTuple l its.toArray) (hi : IntsAre its ns) (hne : 0 < ns.length)
    (h : ∀ h' tk M t', (∀ b o, s.heap.get? b = some o → h'.get? b = some o) → M ∈ ns → (∀ a, a ∈ ns → M ≤ a) → Q (.int M t') { s with heap := h', toks := tk }) : wpAny (model prog w) A (call (.builtin "min") [.ref l]) Q E s := by
  obtain ⟨xs, e⟩ := hi.allInts.items
  have hn : numsOf (intItems xs).toList = ns := by rw [← e]; exact hi.numsOf
  rw [nums_intItems] at hn
  subst hn
  rw [e] at hl
  have hsz : 0 < xs.size := by simpa using hne
  refine min_intTup hh hl hsz fun v h' tk hv hk => ?_
  obtain ⟨t, rfl⟩ := intItems_at hv
  obtain ⟨h1, h2⟩ := argBest_lt (numAt xs) (xs.size - 1)
  refine h h' tk _ t hk ?_ fun a ha => ?_
  · rw [numAt_eq]; exact PySem.getD_mem (by rw [List.length_map, Array.length_toList]; omega)
  · obtain ⟨j, hj, rfl⟩ := mem_getD ha
    rw [List.length_map, Array.length_toList] at hj
    rw [← numAt_eq]; exact h2 j (by omega)
end
theorem maxI_spec : ∀ (r : List Int) (x : Int), maxI x r ∈ x :: r ∧ ∀ y ∈ x :: r, y ≤ maxI x r
  | [], x => ⟨by simp [maxI], by simp [maxI]⟩
  | y :: r, x => by
    have e : maxI x (y :: r) = maxI (if y > x then y else x) r := rfl
    obtain ⟨h1, h2⟩ := maxI_spec r (if y > x then y else x)
    rw [e]
    refine ⟨?_, fun z hz => ?_⟩
    · rcases List.mem_cons.mp h1 with h | h
      · rw [h]; split <;> simp
      · simp [h]
    · have h0 := h2 _ List.mem_cons_self
      rcases List.mem_cons.mp hz with e | hz
      · revert h0; generalize maxI _ r = M; intro h0; split at h0 <;> omega
      · rcases List.mem_cons.mp hz with e | hz
        · revert h0; generalize maxI _ r = M; intro h0; split at h0 <;> omega
        · exact h2 z (by simp [hz])
theorem minI_spec : ∀ (r : List Int) (x : Int), minI x r ∈ x :: r ∧ ∀ y ∈ x :: r, minI x r ≤ y
  | [], x => ⟨by simp [minI], by simp [minI]⟩
  | y :: r, x => by
    have e : minI x (y :: r) = minI (if y < x then y else x) r := rfl
    obtain ⟨h1, h2⟩ := minI_spec r (if y < x then y else x)
    rw [e]
    refine ⟨?_, fun z hz => ?_⟩
    · rcases List.mem_cons.mp h1 with h | h
      · rw [h]; split <;> simp
      · simp [h]
    · have h0 := h2 _ List.mem_cons_self
      rcases List.mem_cons.mp hz with e | hz
      · revert h0; generalize minI _ r = M; intro h0; split at h0 <;> omega
      · rcases List.mem_cons.mp hz with e | hz
        · revert h0; generalize minI _ r = M; intro h0; split at h0 <;> omega
        · exact h2 z (by simp [hz])
section
variable {X : L2.Cx}
theorem cb_max1 (hc : X.calm = true) : CallR X (.builtin "max") (rBlt X.K .max1) := fun pins s σ H xs us Q I r ⟨al, vs, z, dm, rs, e, q⟩ => by
  cases vs with
  | nil => cases e
  | cons v vs =>
    cases vs with
    | cons _ _ => cases v <;> cases e
    | nil =>
      obtain ⟨u, rfl, rd⟩ := rs.one
      simp only [blt, Option.bind_eq_some_iff] at e
      obtain ⟨ys, e1, ns, e2, e3⟩ := e
      cases ns with
      | nil => cases e3
      | cons n ns =>
        cases e3
        obtain ⟨a, us', rfl, h1, h2⟩ := rd.seq e1
        have := h2.of_ints e2
        subst this
        rw [Vals.ref1 r]
        obtain ⟨g1, g2⟩ := maxI_spec ns n
        have one : ∀ M, M ∈ n :: ns → (∀ y ∈ n :: ns, y ≤ M) → M = maxI n ns := fun M m1 m2 => Int.le_antisymm (g2 M m1) (m2 _ g1)
        rcases h1 with h1 | h1
        · obtain ⟨its, rv, hl, _⟩ := I.list h1
          exact max_raw (I.ok.hd hc) hl.isList rv.ints (by simp) fun h' tk M t' hk m1 m2 => ⟨.int _, H, I.kept hk, ⟨_, rfl⟩, by rw [one M m1 m2]; exact q.int⟩
        · obtain ⟨its, rv, hl, _⟩ := I.tuple h1
          exact max_rawT (I.ok.hd hc) hl rv.ints (by simp) fun h' tk M t' hk m1 m2 => ⟨.int _, H, I.kept hk, ⟨_, rfl⟩, by rw [one M m1 m2]; exact q.int⟩
theorem cb_min1 (hc : X.calm = true) : CallR X (.builtin "min") (rBlt X.K .min1) := fun pins s σ H xs us Q I r ⟨al, vs, z, dm, rs, e, q⟩ => by
  cases vs with
  | nil => cases e
  | cons v vs =>
    cases vs with
    | cons _ _ => cases v <;> cases e
    | nil =>
      obtain ⟨u, rfl, rd⟩ := rs.one
      simp only [blt, Option.bind_eq_some_iff] at e
      obtain ⟨ys, e1, ns, e2, e3⟩ := e
      cases ns with
      | nil => cases e3
      | cons n ns =>
        cases e3
        obtain ⟨a, us', rfl, h1, h2⟩ := rd.seq e1
        have := h2.of_ints e2
        subst this
        rw [Vals.ref1 r]
        obtain ⟨g1, g2⟩ := minI_spec ns n
        have one : ∀ M, M ∈ n :: ns → (∀ y ∈ n :: ns, M ≤ y) → M = minI n ns := fun M m1 m2 => Int.le_antisymm (m2 _ g1) (g2 M m1)
        rcases h1 with h1 | h1
        · obtain ⟨its, rv, hl, _⟩ := I.list h1
          exact min_raw (I.ok.hd hc) hl.isList rv.ints (by simp) fun h' tk M t' hk m1 m2 => ⟨.int _, H, I.kept hk, ⟨_, rfl⟩, by rw [one M m1 m2]; exact q.int⟩
        · obtain ⟨its, rv, hl, _⟩ := I.tuple h1
          exact min_rawT (I.ok.hd hc) hl rv.ints (by simp) fun h' tk M t' hk m1 m2 => ⟨.int _, H, I.kept hk, ⟨_, rfl⟩, by rw [one M m1 m2]; exact q.int⟩
/-- sorted(x, reverse=True) -/
def rSortR (K : PySem.W.Frag) : List V → List V → Hp → VK → Prop := fun us zs H Q => zs = [.bl true] ∧ ∃ al v z, Dm al H ∧ RepDs K al H us [v] ∧ blt .sortedR [v, .bl true] = some z ∧ Done K al H true z Q
theorem ck_sortedR : CallRK X (.builtin "sorted") [Str.ofString "reverse"] (rSortR X.K) := by
  intro pins s σ H xs zs us ws Q I r rz ⟨ez, al, v, z, dm, rs, e, q⟩
  subst ez
  obtain ⟨u, rfl, rd⟩ := rs.one
  obtain ⟨w1, rfl, e1⟩ := vals1 rz
  obtain rfl : w1 = Value.bool true := e1
  simp only [blt, Option.bind_eq_some_iff, Option.map_eq_some_iff] at e
  obtain ⟨ys, e1, ns, e2, rfl⟩ := e
  obtain ⟨a, us', rfl, h1, h2⟩ := rd.seq e1
  have := h2.of_ints e2
  subst this
  rw [Vals.ref1 r]
  refine sorted_runA (b := true) I h1 (fun _ => rfl) (PyProof.Rows.args_sorted_rev _ _) (fun _ => PyProof.Rows.args_list_sort_rev _ _) fun p hp => ?_
  rw [if_pos rfl]
  exact q.lst dm (RepL.ints _) p hp
end
section
variable {X : L2.Cx} {S : Sg} {e : Expr} {f1 : Bool} {fe : MP.Env → M → R Val}
theorem me_sortedR {p pos kp : Pos} {kz : Nat} {kcp : Pos} (hK : X.K = S.K) (hg : Gl X "sorted") (hm : X.mg "sorted" = none) (ha : PE X e (tE S f1 fe)) (he : starEach [e] X.env = [(false, eval e X.env)]) :
    PE X (.Call (.Name "sorted" p) [e] [⟨some "reverse", .Constant (.bool true) kz kcp, kp⟩] pos) (tE S true fun r m => (fe r m).bind fun v m => opt (blt .sortedR [dr m v, .bl true]) m) := by
  refine pe_imp (pe_callBK (ck_sortedR (X := X)) hg hm (by decide +kernel) (pa_cons ha pa_nil (by rw [he]; rfl)) (pk_cons pe_bl pk_nil) (by decide) (by decide) (by rw [he]; rfl) (by rw [he]; rfl) rfl rfl rfl) fun s H Q ⟨r, m, al, re, rl, p⟩ => ?_
  refine ⟨r, m, al, re, rl, (Post.seq p).mono ?_⟩
  rintro u H1 ⟨v, m1, al1, x1, rl1, q1, p1⟩
  obtain ⟨z, e, p2⟩ := p1.opt
  exact ⟨rfl, al1, dr m1 v, z, rl1.dm, hK ▸ .cons (.dr q1.1 rl1) .nil, e, hK ▸ .of p2 rl1 fun a h => x1.dom a h⟩
end
end MP
set_option Elab.async false
set_option linter.all false
set_option maxRecDepth 100000
set_option maxHeartbeats 4000000
/-! MPNew: insert, extend, pop(), divmod, list(range(..)). -/
namespace MP
open PySem PySem.Spec PyProof.Rows L2
section
variable {X : L2.Cx} {S : Sg}
theorem ltAll_take {n : Nat} : ∀ {xs : List Val} (j : Nat), ltAll n xs = true → ltAll n (xs.take j) = true
  | [], _, _ => by simp [ltAll]
  | _ :: _, 0, _ => rfl
  | x :: xs, j + 1, h => by
    simp only [ltAll, Bool.and_eq_true] at h
    simp only [List.take_succ_cons, ltAll, h.1, ltAll_take j h.2, Bool.and_self]
theorem ltAll_drop {n : Nat} : ∀ {xs : List Val} (j : Nat), ltAll n xs = true → ltAll n (xs.drop j) = true
  | [], _, _ => by simp [ltAll]
  | _ :: _, 0, h => h
  | x :: xs, j + 1, h => by
    simp only [ltAll, Bool.and_eq_true] at h
    simp only [List.drop_succ_cons]
    exact ltAll_drop j h.2
theorem ok_insert : MthOk S .insert (fun x vs H Q => ∃ (l : Addr) (xs : List V) (i : Int) (y : V), x = .ref l ∧ vs = [.int i, y] ∧ H l = some (.lst xs) ∧ xs.length < sizeLine ∧ 0 ≤ i ∧ i < 2 ^ 63 ∧
    Q .non (upd H l (.lst (xs.take i.toNat ++ [y] ++ xs.drop i.toNat)))) := by
  intro al m H H0 s Q n a xs us vs ws h1 h2 h3 h4 h5 rl p
  rcases vs with _ | ⟨v, _ | ⟨y, _ | ⟨z, vs⟩⟩⟩
  · exact p.elim
  · cases v <;> exact p.elim
  · cases v <;> first | exact p.elim | skip
    rename_i i
    simp only [mthd, h2] at p
    split at p
    · rename_i hz
      simp only [Bool.and_eq_true, decide_eq_true_eq, small63_iff] at hz
      obtain ⟨⟨⟨g1, g2⟩, g3⟩, g4⟩ := hz
      cases h5 with
      | cons q1 q2 =>
        cases q1
        obtain ⟨w, rfl, rw'⟩ := q2.one
        refine ⟨a, us, i, w, rfl, rfl, h3, by rw [h4.length]; exact LINE_eq ▸ g2, g4, g3.2, ?_⟩
        have e0 : ∀ {α : Type} (l : List α), l.take (min i.toNat l.length) = l.take i.toNat ∧ l.drop (min i.toNat l.length) = l.drop i.toNat := fun l => by
          by_cases hh : i.toNat ≤ l.length
          · rw [Nat.min_eq_left hh]; exact ⟨rfl, rfl⟩
          · rw [Nat.min_eq_right (by omega), List.take_of_length_le (Nat.le_refl _), List.take_of_length_le (by omega), List.drop_of_length_le (Nat.le_refl _), List.drop_of_length_le (by omega)]
            exact ⟨rfl, rfl⟩
        rw [(e0 xs).1, (e0 xs).2] at p
        have rr : RepL S.K al H (us.take i.toNat ++ [w] ++ us.drop i.toNat) (xs.take i.toNat ++ y :: xs.drop i.toNat) := by
          rw [List.append_assoc]
          exact (h4.take _).append (.cons rw' (h4.drop _))
        have rl2 := rl.store (ys := xs.take i.toNat ++ y :: xs.drop i.toNat) h1 h3 rr fun b hb hn => by
          have h3 : ltAll b xs = true := rl.low b hb n _ hn h2
          rw [ltAll_append, ltAll_take _ h3]
          simp only [ltAll, low_of rl.head g1 b hb hn, ltAll_drop _ h3, Bool.and_self]
        exact p _ _ al (.store (List.mem_of_getElem? h1) h3) rl2 ⟨.non, fun h => by cases h⟩
    · exact p.elim
  · cases v <;> exact p.elim
theorem ok_extend : MthOk S .extend rExtend := by
  intro al m H H0 s Q n a xs us vs ws h1 h2 h3 h4 h5 rl p
  rcases vs with _ | ⟨v, _ | ⟨y, vs⟩⟩
  · exact p.elim
  · obtain ⟨w, rfl, rw'⟩ := h5.one
    simp only [mthd, h2] at p
    split at p
    · rename_i xs2 ys e1 e2
      cases e1
      have rd : RepD S.K al H w (dr m v) := .dr rw' rl
      rw [e2] at rd
      obtain ⟨b, zs, rfl, hb, rz⟩ := rd.list
      split at p
      · rename_i hz
        rw [Bool.and_eq_true, decide_eq_true_eq] at hz
        refine ⟨a, b, us, zs, rfl, rfl, h3, hb, by rw [h4.length, rz.length]; exact LINE_eq ▸ hz.2, ?_⟩
        have rl2 := rl.store (ys := xs ++ ys) h1 h3 (h4.append rz) fun b hb hn => by
          have h3 : ltAll b xs = true := rl.low b hb n _ hn h2
          rw [ltAll_append, h3]
          rcases Bool.or_eq_true _ _ ▸ hz.1 with g | g
          · exact ltAll_of_pure b ys g
          · have := rl.head b hb
            have := of_decide_eq_true g
            omega
        exact p _ _ al (.store (List.mem_of_getElem? h1) h3) rl2 ⟨.non, fun h => by cases h⟩
      · exact p.elim
    · exact p.elim
  · exact p.elim
/-- divmod -/
theorem cb_divmod : CallR X (.builtin "divmod") (rBlt X.K .divmod) := fun pins s σ H xs us Q I r ⟨al, vs, z, dm, rs, e, q⟩ => by
  refine call_divmodN pins s σ H xs us Q I r ?_
  rcases vs with _ | ⟨v, _ | ⟨y, _ | ⟨y2, vs⟩⟩⟩
  · cases e
  · cases v <;> cases e
  · obtain ⟨u, w, rfl, r1, r2⟩ := rs.two
    cases v <;> first | (cases e; done) | skip
    rename_i i
    cases y <;> first | (cases e; done) | skip
    rename_i j
    simp only [blt] at e
    split at e
    · rename_i hz
      cases e
      have hz := of_decide_eq_true hz
      rw [r1.int, r2.int]
      refine ⟨i, j, rfl, ?_, q.tup (.cons (.int _) (.cons (.int _) .nil))⟩
      unfold CDiv
      omega
    · cases e
  · cases v <;> first | (cases e; done) | (cases y <;> cases e)
/-- list(range(..)) -/
theorem rg_ints (a b : Int) : rgV a b = (List.range (b - a).toNat).map fun i => V.int (a + (i : Nat)) := rfl
theorem rep_rg {K : PySem.W.Frag} {al : Al} {H : Hp} : ∀ (n : Nat) (a : Int), RepL K al H ((List.range n).map fun i => V.int (a + (i : Nat))) (rngL a n)
  | 0, _ => .nil
  | n + 1, a => by
    rw [List.range_succ_eq_map, List.map_cons, List.map_map, rngL]
    refine .cons ?_ ?_
    · show Rep K al H (V.int (a + ((0 : Nat) : Int))) _
      rw [show a + ((0 : Nat) : Int) = a by simp]
      exact .int _
    · have := rep_rg (K := K) (al := al) (H := H) n (a + 1)
      have e : ((fun i : Nat => V.int (a + (i : Nat))) ∘ Nat.succ) = fun i : Nat => V.int (a + 1 + (i : Nat)) := by
        funext i
        simp only [Function.comp]
        congr 1
        omega
      rw [e]
      exact this
theorem rg62_iff {i : Int} (h : rng62 i = true) : -(2 ^ 62) ≤ i ∧ i < 2 ^ 62 := of_decide_eq_true h
end
section
variable {X : L2.Cx} {S : Sg} {a b : Expr} {f1 f2 : Bool} {fa fb : MP.Env → M → R Val}
theorem me_lrng1 {p pos p2 pos2 : Pos} (hc : X.calm = true) (hK : X.K = S.K) (hg : Gl X "list") (hm : X.mg "list" = none) (hg2 : Gl X "range") (hm2 : X.mg "range" = none) (ha : PE X a (tE S f1 fa)) (na : starEach [a] X.env = [(false, eval a X.env)]) :
    PE X (.Call (.Name "list" p) [.Call (.Name "range" p2) [a] [] pos2] [] pos) (tE S true fun r m => (fa r m).bind fun x m => opt (blt .lrng [dr m x]) m) := by
  refine pe_imp (pe_listRg hc hg hm (prg_1 hg2 hm2 ha (by rw [na]; rfl)) rfl) fun s H Q ⟨r, m, al, re, rl, p⟩ => ?_
  refine ⟨r, m, al, re, rl, (Post.seq p).mono ?_⟩
  rintro u H1 ⟨v, m1, al1, x1, rl1, q1, p1⟩
  obtain ⟨z, e, p2⟩ := p1.opt
  have rd : RepD S.K al1 H1 u (dr m1 v) := .dr q1.1 rl1
  have d : Done S.K al1 H1 true z Q := .of p2 rl1 fun a h => x1.dom a h
  cases ev : dr m1 v <;> rw [ev] at e rd <;> first | (cases e; done) | skip
  rename_i j
  simp only [blt, rng, Option.bind_eq_some_iff] at e
  obtain ⟨xs, e1, e⟩ := e
  split at e1
  · rename_i hj
    cases e1
    split at e
    · rename_i hl
      cases e
      have := rd.int
      subst this
      rw [rngL_length] at hl
      have hl : j.toNat ≤ 16777216 := hl
      have hj := rg62_iff hj
      refine ⟨j, rfl, ⟨by omega, by omega, by omega, by omega, by simpa using hl⟩, fun q hq => ?_⟩
      have h3 := d.lst rl1.dm (rep_rg j.toNat 0) q hq
      rw [rg_ints, Int.sub_zero]
      exact h3
    · cases e
  · cases e1
theorem me_lrng2 {p pos p2 pos2 : Pos} (hc : X.calm = true) (hK : X.K = S.K) (hg : Gl X "list") (hm : X.mg "list" = none) (hg2 : Gl X "range") (hm2 : X.mg "range" = none) (ha : PE X a (tE S f1 fa)) (hb : PE X b (tE S f2 fb)) (na : starEach [a, b] X.env = [(false, eval a X.env), (false, eval b X.env)])
    (nb : starEach [b] X.env = [(false, eval b X.env)]) (hp : (backTo pos2 (starEach [b] X.env)).any (·.1) = false) :
    PE X (.Call (.Name "list" p) [.Call (.Name "range" p2) [a, b] [] pos2] [] pos) (tE S true fun r m => (fa r m).bind fun x m => (fb r m).bind fun y m => opt (blt .lrng [dr m x, dr m y]) m) := by
  refine pe_imp (pe_listRg hc hg hm (prg_2 hg2 hm2 ha hb (by rw [na, nb]) (by rw [nb]; rfl) hp) rfl) fun s H Q ⟨r, m, al, re, rl, p⟩ => ?_
  refine ⟨r, m, al, re, rl, (Post.seq p).mono ?_⟩
  rintro u H1 ⟨v, m1, al1, x1, rl1, q1, p1⟩
  refine ⟨r, m1, al1, re.ext x1, rl1, (Post.seq p1).mono ?_⟩
  rintro w H2 ⟨v2, m2, al2, x2, rl2, q2, p2⟩
  obtain ⟨z, e, p3⟩ := p2.opt
  have rd : RepD S.K al2 H2 u (dr m2 v) := .dr (q1.1.ext x2 _ _) rl2
  have rd2 : RepD S.K al2 H2 w (dr m2 v2) := .dr q2.1 rl2
  have d : Done S.K al2 H2 true z Q := .of p3 rl2 fun a h => x1.dom a (x2.dom a h)
  cases ev : dr m2 v <;> rw [ev] at e rd <;> first | (cases e; done) | skip
  rename_i i
  cases ev2 : dr m2 v2 <;> rw [ev2] at e rd2 <;> first | (cases e; done) | skip
  rename_i j
  simp only [blt, rng, Option.bind_eq_some_iff] at e
  obtain ⟨xs, e1, e⟩ := e
  split at e1
  · rename_i hj
    cases e1
    split at e
    · rename_i hl
      cases e
      have := rd.int
      subst this
      have := rd2.int
      subst this
      rw [rngL_length] at hl
      have hl : (j - i).toNat ≤ 16777216 := hl
      rw [Bool.and_eq_true] at hj
      have h1 := rg62_iff hj.1
      have h2 := rg62_iff hj.2
      refine ⟨i, j, rfl, rfl, ⟨by omega, by omega, by omega, by omega, by simpa using hl⟩, fun q hq => ?_⟩
      have h3 := d.lst rl2.dm (rep_rg (j - i).toNat i) q hq
      rw [rg_ints]
      exact h3
    · cases e
  · cases e1
end
/-! ### sorted(set(t)), t a tuple of ints -/
theorem insU_mem (x : Int) : ∀ (l : List Int) (y : Int), y ∈ insU x l ↔ y = x ∨ y ∈ l
  | [], y => by simp [insU]
  | z :: r, y => by
    unfold insU
    split
    · simp
    · split
      · rename_i h
        subst h
        simp
      · rw [List.mem_cons, insU_mem x r, List.mem_cons]
        constructor
        · rintro (h | h | h) <;> simp [h]
        · rintro (h | h | h) <;> simp [h]
theorem insU_lt (x : Int) : ∀ l : List Int, l.Pairwise (· < ·) → (insU x l).Pairwise (· < ·)
  | [], _ => by simp [insU]
  | z :: r, h => by
    rw [List.pairwise_cons] at h
    unfold insU
    split
    · rename_i hx
      exact List.pairwise_cons.mpr ⟨fun y hy => by
        rcases List.mem_cons.mp hy with rfl | hy
        · exact hx
        · have := h.1 y hy; omega, List.pairwise_cons.mpr h⟩
    · split
      · exact List.pairwise_cons.mpr h
      · refine List.pairwise_cons.mpr ⟨fun y hy => ?_, insU_lt x r h.2⟩
        rcases (insU_mem x r y).mp hy with rfl | hy
        · omega
        · exact h.1 y hy
theorem sset_lt : ∀ l : List Int, (sset l).Pairwise (· < ·)
  | [] => .nil
  | x :: r => insU_lt x _ (sset_lt r)
theorem sset_mem : ∀ (l : List Int) (y : Int), y ∈ sset l ↔ y ∈ l
  | [], y => by simp [sset]
  | x :: r, y => by rw [sset, insU_mem, sset_mem r, List.mem_cons]
theorem lt_one {a b : List Int} (h1 : a.Pairwise (· < ·)) (h2 : b.Pairwise (· < ·)) (h : ∀ k, k ∈ a ↔ k ∈ b) : a = b := by
  have n1 : a.Nodup := h1.imp fun h => by omega
  have n2 : b.Nodup := h2.imp fun h => by omega
  exact sorted_one ((List.perm_ext_iff_of_nodup n1 n2).mpr h) (h1.imp fun h => by omega) (h2.imp fun h => by omega)
end MP
set_option Elab.async false
set_option linter.all false
set_option maxRecDepth 100000
set_option maxHeartbeats 1000000
/-! {v for v in xs}, xs a list: the walk, for any kind of set -/
namespace MP
open PySem PySem.Spec PyProof.Rows L2
section
variable {prog : Program} {w : World} {A : Around} {E : Value → Shared → Prop} {env : PySem.Env} {s : Shared}
/-- the object of a new set -/
abbrev fresh0 (w : World) : Obj := { cls := .type "set", dict := none, data := .set #[] 0 (.fresh 0 0 (!(w.params.followText "set-order"))) }
theorem sc_list {v : PySem.Str} {iter : Expr} {scope : Scope} {pos p1 p2 : Pos} {Q : Value → Shared → Prop}
    (hnm : scope.names = [(PySem.Str.ofString ".0", NameKind.local), (v, NameKind.local)]) (hv0 : (v == PySem.Str.ofString ".0") = false) (hkind : scope.kind = .function) (hd : (v == ("__debug__" : PySem.Str)) = false) (hs : ∀ x, foldedSetIterable iter env x = pure x) (hh : A.handled = none)
    (h : wpAny (model prog w) A (eval iter env) (fun xv s1 => ∃ (l : Addr) (items : Array Value), xv = .ref l ∧ s1.heap.IsList l items ∧ ∃ G : Addr → Nat → Heap → Prop,
      (∀ h D, h.get? D = some (fresh0 w) → (∀ b o, s1.heap.get? b = some o → h.get? b = some o) → G D 0 h) ∧
      (∀ D i h h', (∀ o, h.get? D = some o → h'.get? D = some o) → (∀ b o, s1.heap.get? b = some o → h'.get? b = some o) → G D i h → G D i h') ∧
      (∀ D i x (s2 : Shared) (Q' : Value → Shared → Prop) (E' : Value → Shared → Prop), items[i]? = some x → s1.heap.objs.size ≤ D → (∀ b o, s1.heap.get? b = some o → s2.heap.get? b = some o) → G D i s2.heap →
        (∀ h' tk, Heap.SameBut D s2.heap h' → G D (i + 1) h' → Q' .none { s2 with heap := h', toks := tk }) → wpAny (model prog w) A (call (.builtin "set.add") [.ref D, x]) Q' E' s2) ∧
      ∀ D h' tk, s1.heap.objs.size ≤ D → (∀ b o, s1.heap.get? b = some o → h'.get? b = some o) → G D items.size h' → Q (.ref D) { s1 with heap := h', toks := tk }) E s) :
    wpAny (model prog w) A (eval (.SetComp (.Name v p1) [⟨.Name v p2, iter, [], 0⟩] scope pos) env) Q E s := by
  have hl1 : scope.names.lookup v = some .local := by
    rw [hnm]
    simp [List.lookup_cons, hv0]
  refine SetComp_goes (cl := cloFrom env.cells scope.names []) (closure_ok fun y hy e => ?_) (fun y hy => ?_) hkind (fun y hy e => ?_) (thn h fun xv s1 hx => ?_) hs
  · rw [hnm] at hy
    simp at hy
    rcases hy with rfl | rfl <;> cases e
  · rw [hnm] at hy
    simp at hy
    rcases hy with rfl | rfl <;> simp
  · rw [hnm] at hy
    simp at hy
    rcases hy with rfl | rfl
    · rw [hnm]; rfl
    · exact hl1
  obtain ⟨l, items, rfl, hl, G, g0, gk, ga, gd⟩ := hx
  have hlt : l < s1.heap.objs.size := by
    obtain ⟨o, ho, _⟩ := hl
    exact Heap.lt_size ho
  refine wpAny_pyIter_list hl ?_
  refine ⟨s1.heap.objs.size, _, _, items.size, _, _, rfl, Goes.list hh _ l (Nat.ne_of_lt hlt) items, ⟨⟨_, Heap.get?_push_size _ rfl, rfl, rfl⟩, hl.push _⟩, fun D C s3 B hD => ?_⟩
  obtain ⟨⟨h3, tk3, rfl⟩, old, nD, nC, ne, nm⟩ := B
  have z : ∀ {b : Addr}, (s1.heap.push { cls := .type "list_iterator", data := .fields #[.ref l, .int 0 0] }).objs.size ≤ b → s1.heap.objs.size ≤ b ∧ s1.heap.objs.size ≠ b ∧ ∀ a, a < s1.heap.objs.size → a ≠ b := fun {b} hb => by
    rw [Heap.size_push] at hb
    exact ⟨by omega, by omega, fun a ha => by omega⟩
  have old1 : ∀ b o, s1.heap.get? b = some o → h3.get? b = some o := fun b o e => old b o (Heap.get?_push_of_some _ e)
  have hk1 : (compEnvC scope (cloFrom env.cells scope.names []) C env).kindOf v = some .local := lookup_relabel_local hl1
  have hk2 : (compEnvC scope (cloFrom env.cells scope.names []) C env).scope.kind = .function := hkind
  refine ⟨fun i s' => (∃ h' tk, s' = { s1 with heap := h', toks := tk }) ∧ (∀ b o, s1.heap.get? b = some o → s'.heap.get? b = some o) ∧ (∃ m, s'.heap.Ns C m) ∧ G D i s'.heap, ⟨⟨_, _, rfl⟩, old1, ⟨_, nm⟩, g0 _ _ hD old1⟩, ?_, ?_, ?_⟩
  · rintro i s' h' tk ⟨⟨h2, t2, rfl⟩, o2, ⟨m, n2⟩, g2⟩ hk ht
    have o3 : ∀ b o, s1.heap.get? b = some o → h'.get? b = some o := fun b o e => hk b o (fun q => Nat.ne_of_lt (Heap.lt_size e) (List.mem_singleton.mp q)) (o2 b o e)
    obtain ⟨oc, ec, pc, hc1, hc2⟩ := n2
    exact ⟨⟨_, _, rfl⟩, o3, ⟨m, oc, ec, pc, hk C oc (fun q => (z nC).2.1 (List.mem_singleton.mp q).symm) hc1, hc2⟩,
      gk _ _ _ _ (fun o e => hk D o (fun q => (z nD).2.1 (List.mem_singleton.mp q).symm) e) o3 g2⟩
  · rintro i x s' hi hx hst ⟨⟨h2, t2, rfl⟩, o2, ⟨m, n2⟩, g2⟩
    refine wpAny_assign_Name (wpAny_storeName_local hk1 n2 (fun h4 n4 sb4 => ?_) (by rw [hk2]; rfl))
    have o4 : ∀ b o, s1.heap.get? b = some o → h4.get? b = some o := fun b o e => sb4.extBut b o ((z nC).2.2 b (Heap.lt_size e)) (o2 b o e)
    have g4 : G D i h4 := gk _ _ _ _ (fun o e => sb4.extBut D o ne e) o4 g2
    refine wpAny_pure ?_
    simp only [if_true]
    refine wpAny_Name (wpAny_loadName_local hk2 hk1 n4 (by rw [if_pos rfl]) ?_) hd
    refine ga D i x _ _ _ hx (z nD).1 o4 g4 fun h5 tk5 sb5 g5 => ?_
    have o5 : ∀ b o, s1.heap.get? b = some o → h5.get? b = some o := fun b o e => sb5.extBut b o ((z nD).2.2 b (Heap.lt_size e)) (o4 b o e)
    obtain ⟨oc, ec, pc, hc1, hc2⟩ := n4
    refine ⟨⟨⟨_, _, rfl⟩, o5, ⟨_, oc, ec, pc, sb5.extBut C oc ne.symm hc1, hc2⟩, g5⟩, ?_⟩
    obtain ⟨⟨oi, hi1, hi2⟩, ⟨ol, hl1', hl2⟩⟩ := hst
    exact ⟨⟨oi, sb5.extBut _ _ (z nD).2.1 (sb4.extBut _ _ (z nC).2.1 hi1), hi2⟩, ⟨ol, sb5.extBut _ _ ((z nD).2.2 _ hlt) (sb4.extBut _ _ ((z nC).2.2 _ hlt) hl1'), hl2⟩⟩
  · rintro s' ⟨⟨h2, t2, rfl⟩, o2, ⟨m, n2⟩, g2⟩
    refine ⟨m, n2, fun h' sb => ?_⟩
    have o3 : ∀ b o, s1.heap.get? b = some o → h'.get? b = some o := fun b o e => sb.extBut b o ((z nC).2.2 b (Heap.lt_size e)) (o2 b o e)
    exact gd D h' t2 (z nD).1 o3 (gk _ _ _ _ (fun o e => sb.extBut D o ne e) o3 g2)
end
/-! ### rows in the order of tuples -/
theorem lexLt_trans : ∀ {a b c : List Int}, lexLt a b = true → lexLt b c = true → lexLt a c = true
  | [], [], _, h, _ => by simp [lexLt] at h
  | [], _ :: _, [], _, h => by simp [lexLt] at h
  | [], _ :: _, _ :: _, _, _ => by simp [lexLt]
  | _ :: _, [], _, h, _ => by simp [lexLt] at h
  | _ :: _, _ :: _, [], _, h => by simp [lexLt] at h
  | x :: a, y :: b, z :: c, h1, h2 => by
    simp only [lexLt, Bool.or_eq_true, Bool.and_eq_true, decide_eq_true_eq] at *
    rcases h1 with h1 | ⟨h1, h3⟩ <;> rcases h2 with h2 | ⟨h2, h4⟩
    · left; omega
    · left; omega
    · left; omega
    · exact .inr ⟨by omega, lexLt_trans h3 h4⟩
theorem lexLt_irr : ∀ a : List Int, lexLt a a = false
  | [] => rfl
  | x :: a => by simp [lexLt, lexLt_irr a]
theorem lexLt_total : ∀ a b : List Int, lexLt a b = false → a ≠ b → lexLt b a = true
  | [], [], _, h => absurd rfl h
  | [], _ :: _, h, _ => by simp [lexLt] at h
  | _ :: _, [], _, _ => by simp [lexLt]
  | x :: a, y :: b, h, hn => by
    simp only [lexLt, Bool.or_eq_false_iff, decide_eq_false_iff_not, Bool.and_eq_false_iff] at h
    simp only [lexLt, Bool.or_eq_true, Bool.and_eq_true, decide_eq_true_eq]
    by_cases e : x = y
    · subst e
      rcases h.2 with h2 | h2
      · exact absurd rfl h2
      · exact .inr ⟨rfl, lexLt_total a b h2 fun e => hn (by rw [e])⟩
    · left; omega
theorem insT_mem (x : List Int) : ∀ (l : List (List Int)) (y : List Int), y ∈ insT x l ↔ y = x ∨ y ∈ l
  | [], y => by simp [insT]
  | z :: r, y => by
    unfold insT
    split
    · simp
    · split
      · rename_i h
        subst h
        simp
      · rw [List.mem_cons, insT_mem x r, List.mem_cons]
        constructor
        · rintro (h | h | h) <;> simp [h]
        · rintro (h | h | h) <;> simp [h]
theorem insT_lt (x : List Int) : ∀ l : List (List Int), l.Pairwise (fun a b => lexLt a b = true) → (insT x l).Pairwise (fun a b => lexLt a b = true)
  | [], _ => by simp [insT]
  | z :: r, h => by
    rw [List.pairwise_cons] at h
    unfold insT
    split
    · rename_i hx
      exact List.pairwise_cons.mpr ⟨fun y hy => by
        rcases List.mem_cons.mp hy with rfl | hy
        · exact hx
        · exact lexLt_trans hx (h.1 y hy), List.pairwise_cons.mpr h⟩
    · rename_i hx
      split
      · exact List.pairwise_cons.mpr h
      · rename_i hne
        refine List.pairwise_cons.mpr ⟨fun y hy => ?_, insT_lt x r h.2⟩
        rcases (insT_mem x r y).mp hy with rfl | hy
        · exact lexLt_total _ _ (by simpa using hx) hne
        · exact h.1 y hy
theorem tset_lt : ∀ l : List (List Int), (tset l).Pairwise (fun a b => lexLt a b = true)
  | [] => .nil
  | x :: r => insT_lt x _ (tset_lt r)
theorem tset_mem : ∀ (l : List (List Int)) (y : List Int), y ∈ tset l ↔ y ∈ l
  | [], y => by simp [tset]
  | x :: r, y => by rw [tset, insT_mem, tset_mem r, List.mem_cons]
theorem lex_one : ∀ {a b : List (List Int)}, a.Pairwise (fun a b => lexLt a b = true) → b.Pairwise (fun a b => lexLt a b = true) → (∀ k, k ∈ a ↔ k ∈ b) → a = b
  | [], [], _, _, _ => rfl
  | [], y :: b, _, _, h => by have := (h y).mpr List.mem_cons_self; cases this
  | x :: a, [], _, _, h => by have := (h x).mp List.mem_cons_self; cases this
  | x :: a, y :: b, h1, h2, h => by
    rw [List.pairwise_cons] at h1 h2
    have e : x = y := by
      rcases List.mem_cons.mp ((h x).mp List.mem_cons_self) with e | hx
      · exact e
      · rcases List.mem_cons.mp ((h y).mpr List.mem_cons_self) with e | hy
        · exact e.symm
        · have := lexLt_trans (h1.1 y hy) (h2.1 x hx)
          rw [lexLt_irr] at this
          cases this
    subst e
    rw [lex_one h1.2 h2.2 fun k => ?_]
    have hk := h k
    rw [List.mem_cons, List.mem_cons] at hk
    constructor
    · intro hm
      rcases hk.mp (.inr hm) with rfl | q
      · have := h1.1 _ hm
        rw [lexLt_irr] at this
        cases this
      · exact q
    · intro hm
      rcases hk.mpr (.inr hm) with rfl | q
      · have := h2.1 _ hm
        rw [lexLt_irr] at this
        cases this
      · exact q
theorem code_lexLt {B : Int} : ∀ {a b : List Int}, a.length = b.length → TS.Bd B a → TS.Bd B b → TS.code B a ≤ TS.code B b → a ≠ b → lexLt a b = true
  | [], [], _, _, _, _, h => absurd rfl h
  | [], _ :: _, hl, _, _, _, _ => by simp at hl
  | _ :: _, [], hl, _, _, _, _ => by simp at hl
  | x :: a, y :: b, hl, ha, hb, h, hn => by
    have hl' : a.length = b.length := by simpa using hl
    simp only [lexLt, Bool.or_eq_true, Bool.and_eq_true, decide_eq_true_eq]
    rcases Int.lt_trichotomy x y with c | c | c
    · exact .inl c
    · subst c
      refine .inr ⟨rfl, code_lexLt hl' ha.tail hb.tail ?_ fun e => hn (by rw [e])⟩
      rcases Int.lt_or_le (TS.code B b) (TS.code B a) with q | q
      · have := (TS.code_same (d := x) hl'.symm).mpr q
        omega
      · exact q
    · have := TS.code_lt hl'.symm hb.tail ha.tail c
      omega
/-! ### rows, tracked -/
theorem RepL.of_rows {K : PySem.W.Frag} {al : Al} {H : Hp} : ∀ {vs : List Val} {us : List V} {rs : List (List Int)}, RepL K al H us vs → rowsOf vs = some rs →
    ∃ ks : List (Addr × List Int), us = ks.map (fun p => V.ref p.1) ∧ ks.map (·.2) = rs ∧ ∀ p ∈ ks, TupN K H p.1 (p.2.map V.int)
  | [], _, rs, h, e => by cases h; simp [rowsOf] at e; subst e; exact ⟨[], rfl, rfl, fun _ h => nomatch h⟩
  | v :: vs, _, rs, h, e => by
    cases h with
    | @cons u us _ _ h1 h2 =>
      cases v <;> first | (simp [rowsOf] at e; done) | skip
      rename_i xs
      simp only [rowsOf, Option.bind_eq_some_iff, Option.map_eq_some_iff] at e
      obtain ⟨ns, e1, rs', e2, rfl⟩ := e
      cases h1 with
      | @tup a us1 _ g1 g2 =>
        have := g2.of_ints e1
        subst this
        obtain ⟨ks, rfl, rfl, hk⟩ := RepL.of_rows h2 e2
        exact ⟨(a, ns) :: ks, rfl, rfl, fun p hp => by
          rcases List.mem_cons.mp hp with rfl | hp
          · exact g1
          · exact hk p hp⟩
theorem RepL.rows {K : PySem.W.Frag} {al : Al} {H : Hp} : ∀ ks : List (Addr × List Int), (∀ p ∈ ks, TupN K H p.1 (p.2.map V.int)) → RepL K al H (ks.map fun p => V.ref p.1) ((ks.map (·.2)).map encR)
  | [], _ => .nil
  | p :: ks, h => .cons (.tup (h p List.mem_cons_self) (RepL.ints _)) (RepL.rows ks fun q hq => h q (List.mem_cons_of_mem _ hq))
/-! ### sorted of a set -/
section
variable {X : L2.Cx}
/-- how many stand in a set of a list -/
theorem setR_card {w : World} {h : Heap} {a : Addr} {ns : List Int} {c : Nat} (R : SetR w h a (fun j => decide (j ∈ ns)) c) : c = (sset ns).length := by
  obtain ⟨o, es, ep, t, _, _, _, _, nd, hS, _, _, hn, _⟩ := R
  have nd2 : (sset ns).Nodup := (sset_lt ns).imp fun h e => by omega
  have hp : (es.toList.map L2.keyOf).Perm (sset ns) := (List.perm_ext_iff_of_nodup nd nd2).mpr fun k => by
    rw [← hS k, decide_eq_true_eq, sset_mem]
  have := hp.length_eq
  rw [List.length_map, Array.length_toList] at this
  omega
theorem end_ints {pins : List (Addr × Obj)} {s1 : Shared} {σ : L2.St} {G : Hp} {Q : VK} {h1 : Heap} {tk c : Nat} {D : Addr} {ns : List Int} (hc : X.calm = true) (J : L2.Inv X pins σ G s1) (R : SetR X.w h1 D (fun j => decide (j ∈ ns)) c) (cle : c ≤ ns.length)
    (hl : (sset ns).length < 60 ∧ ns.length < 1000) (keep : ∀ b o, s1.heap.get? b = some o → h1.get? b = some o) (q : ∀ p, G p = none → Q (.ref p) (upd G p (.lst ((sset ns).map V.int)))) :
    wpAny (model X.prog X.w) X.A (call (.builtin "sorted") [.ref D]) (EP X pins σ Q) X.xe { s1 with heap := h1, toks := tk } := by
  have J1 : L2.Inv X pins σ G { s1 with heap := h1, toks := tk } := J.kept keep
  have hcard := setR_card R
  refine sorted_set R (J1.ok.hd hc) (by omega) fun ⟨hp3, g3, d3, t3, o3⟩ r out c3 ms k3 eg eo hr hat hi hlt hmem hlen => ?_
  cases eg
  cases eo
  have em : ms = sset ns := lt_one hlt (sset_lt ns) fun k => by rw [hmem, sset_mem, decide_eq_true_eq]
  have hz3 : (ms.map V.int).length ≤ sizeLine := by rw [List.length_map, hlen, sizeLine_eq]; omega
  have hn : G r = none := J1.hok.fresh hr
  obtain ⟨hp0, g0, d0, t0, o0⟩ := s1
  have J2 : L2.Inv X pins σ (upd G r (.lst (ms.map V.int))) ⟨hp3, g0, d3, t3, o0⟩ := J1.call (ch := []) (h' := hp3) (Un.laid k3 hr hn) (J1.hok.laid k3 hr ⟨hz3, out.toList, c3, vals_of_ints hi, hat⟩) J1.bare (fun _ z => nomatch z)
  exact ⟨.ref r, _, J2, rfl, em ▸ q r hn⟩
theorem end_tups {pins : List (Addr × Obj)} {s1 : Shared} {σ : L2.St} {G : Hp} {Q : VK} {h1 : Heap} {tk : Nat} {D : Addr} {ks L : List (Addr × List Int)} {es : Array (Int × Value)} {ep : Nat} {t : SetTable} {d : Nat} {B : Int} (hc : X.calm = true)
    (J : L2.Inv X pins σ G s1) (R : SetTR X.prog X.w h1 D L es ep t) (sub : ∀ p ∈ L, p ∈ ks) (all : ∀ p ∈ ks, p.2 ∈ L.map (·.2)) (hd : 1 ≤ d) (hB : ∀ p ∈ ks, p.2.length = d ∧ TS.Bd B p.2)
    (keep : ∀ b o, s1.heap.get? b = some o → h1.get? b = some o) (q : ∀ (L' : List (Addr × List Int)) p, (∀ r ∈ L', r ∈ ks) → L'.map (·.2) = tset (ks.map (·.2)) → G p = none → Q (.ref p) (upd G p (.lst (L'.map fun p => V.ref p.1)))) :
    wpAny (model X.prog X.w) X.A (call (.builtin "sorted") [.ref D]) (EP X pins σ Q) X.xe { s1 with heap := h1, toks := tk } := by
  have J1 : L2.Inv X pins σ G { s1 with heap := h1, toks := tk } := J.kept keep
  refine sorted_setT (s := { s1 with heap := h1, toks := tk }) R (J1.ok.hd hc) hd (fun p hp => hB p (sub p hp)) fun ⟨hp3, g3, d3, t3, o3⟩ r out c L' k3 eg eo hr hg hout pm pw => ?_
  cases eg
  cases eo
  have hn : G r = none := J1.hok.fresh hr
  have sub' : ∀ p ∈ L', p ∈ ks := fun p hp => sub p (pm.mem_iff.mp hp)
  have nd : (L'.map (·.2)).Nodup := (pm.map (·.2)).nodup_iff.mpr R.nd
  have em : L'.map (·.2) = tset (ks.map (·.2)) := by
    refine lex_one ?_ (tset_lt _) fun k => ?_
    · refine List.pairwise_map.mpr ?_
      have nd' := List.pairwise_map.mp nd
      exact List.Pairwise.imp_of_mem (fun {a b} ha hb h => code_lexLt (by rw [(hB a (sub' a ha)).1, (hB b (sub' b hb)).1]) (hB a (sub' a ha)).2 (hB b (sub' b hb)).2 h.1 h.2) (pw.and nd')
    · rw [tset_mem, (pm.map (·.2)).mem_iff]
      constructor
      · rw [List.mem_map]
        rintro ⟨p, hp, rfl⟩
        exact List.mem_map.mpr ⟨p, sub p hp, rfl⟩
      · rw [List.mem_map]
        rintro ⟨p, hp, rfl⟩
        exact all p hp
  have hv : Vals (L'.map fun q => V.ref q.1) out.toList := by rw [hout]; exact vals_of_refs L'
  have hfew : L'.length < 64 := by rw [pm.length_eq]; exact R.few
  have hlen : (L'.map fun q => V.ref q.1).length ≤ sizeLine := by rw [List.length_map, sizeLine_eq]; omega
  obtain ⟨hp0, g0, d0, t0, o0⟩ := s1
  have J2 : L2.Inv X pins σ (upd G r (.lst (L'.map fun q => V.ref q.1))) ⟨hp3, g0, d3, t3, o0⟩ := J1.call (ch := []) (h' := hp3) (Un.laid k3 hr hn) (J1.hok.laid k3 hr ⟨hlen, out.toList, c, hv, hg⟩) J1.bare (fun _ z => nomatch z)
  exact ⟨.ref r, _, J2, rfl, q L' r sub' em hn⟩
end
/-! ### a set of tuples of ints -/
theorem setT_add {P : Program} {w : World} {A : Around} {E : Value → Shared → Prop} {s : Shared} {D x : Addr} {k : List Int} {L : List (Addr × List Int)} {es : Array (Int × Value)} {ep : Nat} {t : SetTable} {Q : Value → Shared → Prop}
    (R : SetTR P w s.heap D L es ep t) (hx : IsT P w s.heap k x) (hu : A.units + 65 < cLine) (hfew : L.length + 1 < 64)
    (hQ : ∀ h' tk L' es' ep' t', Heap.SameBut D s.heap h' → SetTR P w h' D L' es' ep' t' → (k ∈ L.map (·.2) → L' = L) → (k ∉ L.map (·.2) → L'.Perm ((x, k) :: L)) → Q .none { s with heap := h', toks := tk }) :
    wpAny (model P w) A (call (.builtin "set.add") [.ref D, .ref x]) Q E s := by
  obtain ⟨o, ho, hex, hd⟩ := R.ob
  refine wpAny_call_entry F.slot_set_add ⟨o, ho, hex.1⟩ F.entry_set_add ?_ (F.args_set_add_2 _ _)
  unfold Builtin.«set.add» Builtin.Frozenset.oneOther
  simp only [List.isEmpty_nil, bind_assoc]
  unfold Builtin.Frozenset.addrOf setAdd
  refine wpAny_bind (wpAny_pure ?_)
  try dsimp only
  refine wpAny_bind (wpAny_pure ?_)
  try dsimp only
  refine wpAny_bind ?_
  refine wpAny_holding ?_
  refine wpAny_bind (wpAny_pyHash_tuple (knd := intKind P w) (ks := k) (by show A.units + 1 < cLine; omega) hx ?_)
  refine add_at (s := { s with toks := s.toks + (k.length + 1) }) R hx (by show A.units + 1 < cLine; omega) hfew fun b h' L' es' ep' t' sb R' c1 c2 => ?_
  show wpAny _ _ (ret Value.none) _ _ _
  exact wpAny_pure ⟨_, rfl, hQ h' _ L' es' ep' t' sb R' c1 c2⟩
/-! ### {v for v in xs} -/
section
variable {X : L2.Cx} {S : Sg} {a : Expr} {f1 : Bool} {fa : MP.Env → M → R Val}
/-- what sorted tells of the set of a list -/
def SetQ (K : PySem.W.Frag) (Q : VK) (l : Addr) (G : Hp) : Prop :=
  (∃ ns : List Int, SqL K G l (ns.map V.int) ∧ ((sset ns).length < 60 ∧ ns.length < 1000) ∧ ∀ p, G p = none → Q (.ref p) (upd G p (.lst ((sset ns).map V.int)))) ∨
  ∃ (ks : List (Addr × List Int)) (d : Nat) (B : Int), SqL K G l (ks.map fun p => V.ref p.1) ∧ (∀ p ∈ ks, TupN K G p.1 (p.2.map V.int)) ∧ ks.length < 64 ∧ 1 ≤ d ∧ (∀ p ∈ ks, p.2.length = d ∧ TS.Bd B p.2) ∧
    ∀ (L' : List (Addr × List Int)) p, (∀ r ∈ L', r ∈ ks) → L'.map (·.2) = tset (ks.map (·.2)) → G p = none → Q (.ref p) (upd G p (.lst (L'.map fun p => V.ref p.1)))
theorem pe_sortSc {v : PySem.Str} {scope : Scope} {p pos q p1 p2 : Pos} {ta : TE} (hc : X.calm = true) (hu : X.A.units + 65 < cLine) (hg : Gl X "sorted") (hm : X.mg "sorted" = none)
    (hnm : scope.names = [(PySem.Str.ofString ".0", NameKind.local), (v, NameKind.local)]) (hv0 : (v == PySem.Str.ofString ".0") = false) (hkind : scope.kind = .function) (hd : (v == ("__debug__" : PySem.Str)) = false) (hs : ∀ x, foldedSetIterable a X.env x = pure x)
    (ha : PE X a ta) : PE X (.Call (.Name "sorted" p) [.SetComp (.Name v p1) [⟨.Name v p2, a, [], 0⟩] scope q] [] pos) (fun σ H Q => ta σ H fun x G => ∃ l, x = V.ref l ∧ SetQ X.K Q l G) := by
  refine ⟨fun pins s σ H Q I h => ?_⟩
  refine Call_ (ld_blt I hg hm (by decide +kernel : bootBuiltins "sorted" = some (.builtin "sorted")) (PyProof.Rows.callWith_builtin1 (PyProof.Rows.args_cons ?_ rfl) rfl rfl))
  refine sc_list hnm hv0 hkind hd hs (I.ok.hd hc) (thn (ha.run pins s σ H _ I h) fun xv s1 ⟨x, G, J, rx, qx⟩ => ?_)
  obtain ⟨l, rfl, qx⟩ := qx
  cases rx
  rcases qx with ⟨ns, hq, hl, q⟩ | ⟨ks, d, B, hq, hk, hl, hd1, hB, q⟩
  · obtain ⟨its, rv, pt, hz⟩ := J.list hq
    have hi : IntsAre its ns := by simpa using rv.ints
    have hlen : its.length = ns.length := IntsAre.length hi
    refine ⟨l, its.toArray, rfl, pt.isList, fun D i h => ∃ c, c ≤ i ∧ SetR X.w h D (fun j => decide (j ∈ ns.take i)) c, fun h D e _ => ⟨0, Nat.le_refl 0, setR_new_at e⟩, fun D i h h' k _ ⟨c, hc, R⟩ => ⟨c, hc, R.at k⟩, ?_, ?_⟩
    · rintro D i x s2 Q' E' hx hD o2 ⟨c, hc, R⟩ hQ
      have hx' : its[i]? = some x := by simpa using hx
      have hi2 : i < ns.length := by
        have := (List.getElem?_eq_some_iff.mp hx').1
        omega
      obtain ⟨t, rfl⟩ := PyProof.Rows.IntsAre.int_at hi i x hx'
      have hz2 : ns[i]? = some (ns.getD i 0) := by
        rw [List.getD_eq_getElem?_getD, List.getElem?_eq_getElem hi2] <;> rfl
      refine setR_add R (by unfold scanBound; omega) fun h' sb R2 => hQ h' _ sb ⟨_, ?_, R2.congr fun j => ?_⟩
      · split <;> omega
      · rw [List.take_add_one, hz2]
        simp [List.mem_append]
    · rintro D h' tk hD o2 ⟨c, hc', R⟩
      have e : ns.take its.toArray.size = ns := List.take_of_length_le (by simp; omega)
      rw [e] at R
      exact PyProof.Rows.args_nil (end_ints hc J R (by simp at hc'; omega) hl o2 q)
  · obtain ⟨its, rv, pt, hz⟩ := J.list hq
    have hi : its = ks.map fun p => Value.ref p.1 := by simpa using refs_of_vals rv
    have ht : ∀ p ∈ ks, IsT X.prog X.w s1.heap p.2 p.1 := fun p hp => J.isT (hk p hp).1
    refine ⟨l, its.toArray, rfl, pt.isList, fun D i h => (∀ p ∈ ks, IsT X.prog X.w h p.2 p.1) ∧ ∃ L es ep t, SetTR X.prog X.w h D L es ep t ∧ Got ks i L, fun h D e o => ⟨fun p hp => isT_keep (ht p hp) o, [], #[], 0, _, setTR_fresh e, Got.zero ks⟩, ?_, ?_, ?_⟩
    · rintro D i h h' k o ⟨_, L, es, ep, t, R, g⟩
      have it := fun p hp => isT_keep (ht p hp) o
      exact ⟨it, L, es, ep, t, R.keep k fun p hp => it p (List.mem_of_mem_take (g.sub p hp)), g⟩
    · rintro D i x s2 Q' E' hx hD o2 ⟨it, L, es, ep, t, R, g⟩ hQ
      have hx' : its[i]? = some x := by simpa using hx
      rw [hi, List.getElem?_map] at hx'
      obtain ⟨p, hp, rfl⟩ := Option.map_eq_some_iff.mp hx'
      have hlen : i < ks.length := (List.getElem?_eq_some_iff.mp hp).1
      refine setT_add R (it p (List.mem_of_getElem? hp)) hu (by have := g.len; omega) fun h' tk L' es' ep' t' sb R2 c1 c2 => ?_
      refine hQ h' tk sb ⟨fun r hr => ?_, L', es', ep', t', R2, ?_⟩
      · have r1 : IsT X.prog X.w s1.heap r.2 r.1 := ht r hr
        obtain ⟨o, items, n, ho, rest⟩ := r1
        exact ⟨o, items, n, sb.extBut _ _ (Nat.ne_of_lt (Nat.lt_of_lt_of_le (Heap.lt_size ho) hD)) (o2 _ _ ho), rest⟩
      · rcases Classical.em (p.2 ∈ L.map (·.2)) with c | c
        · rw [c1 c]; exact g.same hp c
        · exact g.more hp (c2 c)
    · rintro D h' tk hD o2 ⟨_, L, es, ep, t, R, g⟩
      have e : its.toArray.size = ks.length := by rw [hi]; simp
      rw [e] at g
      exact PyProof.Rows.args_nil (end_tups hc J R (fun p hp => List.mem_of_mem_take (g.sub p hp)) (fun p hp => g.all p (by rw [List.take_length]; exact hp)) hd1 hB o2 q)
/-- what the clean value says -/
theorem setQ_of {al : Al} {G : Hp} {l : Addr} {us : List V} {xs : List Val} {z : Val} {Q : VK} (hL : SqL S.K G l us) (h2 : RepL S.K al G us xs) (e : setOfL xs = some z) (dm : Dm al G) (d : Done S.K al G true z Q) : SetQ S.K Q l G := by
  unfold setOfL at e
  split at e
  · rename_i ns e1
    split at e
    · rename_i hl
      cases e
      have := h2.of_ints e1
      subst this
      exact .inl ⟨ns, hL, hl, fun p hp => d.lst dm (RepL.ints _) p hp⟩
    · cases e
  · simp only [Option.bind_eq_some_iff] at e
    obtain ⟨rs, e1, e⟩ := e
    split at e
    · rename_i hl
      cases e
      obtain ⟨ks, rfl, rfl, hk⟩ := h2.of_rows e1
      obtain ⟨hl, ho⟩ := hl
      have hn : ks.length < 64 := by simpa using hl
      have hB : ∃ (d : Nat) (B : Int), 1 ≤ d ∧ ∀ p ∈ ks, p.2.length = d ∧ TS.Bd B p.2 := by
        cases hks : ks with
        | nil => exact ⟨1, 0, Nat.le_refl 1, fun _ h => nomatch h⟩
        | cons k0 kr =>
          rw [hks] at ho
          simp only [List.map_cons, rowsOk, Bool.and_eq_true, List.all_eq_true] at ho
          have top : ∀ l : List Int, ∃ B : Int, 0 ≤ B ∧ ∀ i ∈ l, i < B := fun l => by
            induction l with
            | nil => exact ⟨0, Int.le_refl 0, fun _ h => nomatch h⟩
            | cons x l ih =>
              obtain ⟨B, b0, hb⟩ := ih
              exact ⟨max B (x + 1), by omega, fun i hi => by
                rcases List.mem_cons.mp hi with rfl | hi
                · omega
                · have := hb i hi; omega⟩
          obtain ⟨B, b0, hb⟩ := top ((k0 :: kr).flatMap (·.2))
          refine ⟨k0.2.length, B, ?_, fun p hp => ?_⟩
          · have := ho.1
            cases hq : k0.2 with
            | nil => rw [hq] at this; simp at this
            | cons _ _ => simp
          · have hm : p.2 ∈ k0.2 :: kr.map (·.2) := List.mem_map.mpr ⟨p, hp, rfl⟩
            have := ho.2 _ hm
            simp only [decide_eq_true_eq] at this
            exact ⟨this.1, fun i hi => ⟨this.2 i hi, hb i (List.mem_flatMap.mpr ⟨p, hp, hi⟩)⟩⟩
      obtain ⟨dd, B, hd1, hBB⟩ := hB
      refine .inr ⟨ks, dd, B, hL, hk, hn, hd1, hBB, fun L' p sub em hp => ?_⟩
      have r := RepL.rows (al := al) (K := S.K) (H := G) L' fun q hq => hk q (sub q hq)
      rw [em] at r
      exact d.lst dm r p hp
    · cases e
theorem me_sortSc {v : PySem.Str} {scope : Scope} {p pos q p1 p2 : Pos} (hc : X.calm = true) (hu : X.A.units + 65 < cLine) (hK : X.K = S.K) (hg : Gl X "sorted") (hm : X.mg "sorted" = none)
    (hnm : scope.names = [(PySem.Str.ofString ".0", NameKind.local), (v, NameKind.local)]) (hv0 : (v == PySem.Str.ofString ".0") = false) (hkind : scope.kind = .function) (hd : (v == ("__debug__" : PySem.Str)) = false) (hs : ∀ x, foldedSetIterable a X.env x = pure x)
    (ha : PE X a (tE S f1 fa)) : PE X (.Call (.Name "sorted" p) [.SetComp (.Name v p1) [⟨.Name v p2, a, [], 0⟩] scope q] [] pos) (tE S true fun r m => (fa r m).bind fun x m => opt (blt .sortSc [dr m x]) m) := by
  refine pe_imp (pe_sortSc hc hu hg hm hnm hv0 hkind hd hs ha) fun s H Q ⟨r, m, al, re, rl, p⟩ => ?_
  refine ⟨r, m, al, re, rl, (Post.seq p).mono ?_⟩
  rintro u H1 ⟨v, m1, al1, x1, rl1, q1, p1⟩
  obtain ⟨z, e, p2⟩ := p1.opt
  have rd : RepD S.K al1 H1 u (dr m1 v) := .dr q1.1 rl1
  have d : Done S.K al1 H1 true z Q := .of p2 rl1 fun a h => x1.dom a h
  cases ev : dr m1 v <;> rw [ev] at e rd <;> first | (simp only [blt] at e; cases e; done) | skip
  rename_i xs
  obtain ⟨b, us, rfl, h1, h2⟩ := rd.list
  exact ⟨b, rfl, hK ▸ setQ_of (.inl (.inl h1)) h2 e rl1.dm d⟩
end
end MP
set_option Elab.async false
set_option linter.all false
set_option maxRecDepth 100000
set_option maxHeartbeats 4000000
/-! sorted(set(xs)) -/
namespace MP
open PySem PySem.Spec PyProof.Rows L2
section
variable {P : Program} {w : World} {A : Around} {E : Value → Shared → Prop} {s : Shared}
/-- set(xs) of a list of ints -/
theorem set_listI {l : Addr} {items : Array Value} (ns : List Int) {Q : Value → Shared → Prop} (hh : A.handled = none) (hl : s.heap.IsList l items) (hit : IntsAre items.toList ns) (hb : ns.length + 1 < scanBound)
    (h : ∀ (h' : Heap) (tk c : Nat), SetR w h' s.heap.objs.size (fun j => decide (j ∈ ns)) c → c ≤ ns.length → (∀ b o, s.heap.get? b = some o → h'.get? b = some o) → Q (.ref s.heap.objs.size) { s with heap := h', toks := tk }) :
    wpAny (model P w) A (call (.type "set") [.ref l]) Q E s := by
  have hisz : items.size = ns.length := by
    have q := IntsAre.length hit
    rwa [Array.length_toList] at q
  have hf : s.heap.objs.size < (s.heap.push (fresh0 w)).objs.size := by rw [Heap.size_push]; exact Nat.lt_succ_self _
  have hf0 : (s.heap.push (fresh0 w)).get? s.heap.objs.size = some (fresh0 w) := Heap.get?_push_size _ rfl
  obtain ⟨c, tl, hmro⟩ := F.called_set.mro
  have hmade := F.called_set.made
  have hsub := F.called_set.sub
  refine wpAny_call (codeAny_of_tree ?_)
  show wpAny _ _ (callAny (.type "set") _) _ _ _
  refine wpAny_pure ⟨Code.quiet_builtin _ (by decide +kernel), codeAny_builtin F.entry_type_call ?_⟩
  rw [Around.under_plain (weight_type_call_type "set" [.ref l] []) rfl]
  have h1 := F.called_set.notType
  have h2 := F.called_set.canCreate
  have hct := F.typeCall_set_1 (.ref l)
  repeat (any_goals (first | assumption | wp_step))
  refine codeAny_mono (code_set_led1 (.ref l) (E := E) (Q₁ := fun obj s₁ => obj = .ref s.heap.objs.size ∧ s₁ = { s with heap := s.heap.push (fresh0 w) }) ⟨rfl, rfl⟩) fun r s₁ hr => ?_
  cases r with
  | error e => exact hr
  | ok fl =>
  cases fl with
  | ret obj =>
  obtain ⟨rfl, rfl⟩ := hr
  have hT : Shared.TypeIs { s with heap := s.heap.push (fresh0 w) } (.ref s.heap.objs.size) "set" := ⟨_, hf0, rfl⟩
  have hli := F.called_set.init.lookup
  have hbi := F.called_set.init.bind (.ref s.heap.objs.size)
  repeat (any_goals (first | assumption | wp_step))
  refine codeAny_mono (codeAny_call_builtin (R := wants (fun r s₂ => r = .none ∧ ∃ h' tk c, s₂ = { s with heap := h', toks := tk } ∧ SetR w h' s.heap.objs.size (fun j => decide (j ∈ ns)) c ∧ c ≤ ns.length ∧
      (∀ b o, s.heap.get? b = some o → h'.get? b = some o)) E) F.called_set.init.plain F.entry_set_init (check_set_init_1 hT ?_)) fun r₂ s₂ hr₂ => ?_
  · have hlS : l < s.heap.objs.size := by
      obtain ⟨o, e, _⟩ := hl
      exact Heap.lt_size e
    have hval : ∀ (i : Nat) (v : Value), items[i]? = some v → ∃ k t, ns[i]? = some k ∧ v = .int k t := fun i v hv => by
      have hi : i < ns.length := by rw [← hisz]; exact (Array.getElem?_eq_some_iff.mp hv).1
      obtain ⟨t, e⟩ := PyProof.Rows.IntsAre.int_at hit i v (by rw [Array.getElem?_toList]; exact hv)
      refine ⟨ns[i], t, List.getElem?_eq_getElem hi, ?_⟩
      rw [e, List.getD_eq_getElem?_getD, List.getElem?_eq_getElem hi] <;> rfl
    obtain ⟨⟨ocls, odict, odata, oslots⟩, hol, hcl, nl, hdl⟩ := hl
    simp only at hcl hdl
    subst hcl; subst hdl
    have hol' : (s.heap.push (fresh0 w)).get? l = some { cls := .type "list", dict := odict, data := .seq items nl, slots := oslots } := Heap.get?_push_of_some _ hol
    have hsls := F.sub_list_set
    have hslf := F.sub_list_frozenset
    have hne : (Value.type "list" == Value.type "dict") = false := by decide
    have hl1 : (s.heap.push (fresh0 w)).IsList l items := ⟨_, hol', rfl, nl, rfl⟩
    unfold Builtin.«set.__init__» noKeywords Builtin.Frozenset.updateFrom
    generalize hPI : pyIter = PI
    wp_walk
    subst hPI
    refine wpAny_pyIter_list hl1 (wpAny_bind (wpAny_runValue ?_))
    have hh3 : A.in1.in1.in1.handled = none := by simp [hh]
    have ne1 : l ≠ (s.heap.push (fresh0 w)).objs.size := Nat.ne_of_lt (Nat.lt_trans hlS hf)
    have ne2 : s.heap.objs.size ∉ [(s.heap.push (fresh0 w)).objs.size, l] := fun q => by
      rcases List.mem_cons.mp q with q | q
      · exact absurd q (Nat.ne_of_lt hf)
      · exact absurd (List.mem_singleton.mp q) (Nat.ne_of_gt hlS)
    refine set_update_ints ((Walks.list hh3 _ l ne1 items).toS) s.heap.objs.size ne2 ns hisz hb hval (items.size - 0) 0 _ (by omega) (Nat.zero_le _)
      ⟨⟨_, Heap.get?_push_size _ rfl, rfl, rfl⟩, (hl1.push _)⟩ ⟨0, Nat.le_refl 0, setR_new_at (Heap.get?_push_of_some _ hf0)⟩ ?_
    rintro ⟨h', g2, d', tk', os'⟩ c' hm hc' hS'
    obtain rfl : g2 = s.gens := hm.gens
    obtain rfl : d' = s.drawn := hm.drawn
    obtain rfl : os' = s.os := hm.os
    show wpAny _ _ _ _ _ _
    refine wpAny_pure ?_
    show wpAny _ _ (ret Value.none) _ _ _
    refine wpAny_pure ⟨rfl, h', tk', c', rfl, hS', by omega, fun b o e => ?_⟩
    have hb0 : b < s.heap.objs.size := Heap.lt_size e
    refine hm.heap b o (fun q => ?_) (Heap.get?_push_of_some _ (Heap.get?_push_of_some _ e))
    rcases List.mem_cons.mp q with q | q
    · exact absurd q (Nat.ne_of_lt hb0)
    · exact absurd (List.mem_singleton.mp q) (Nat.ne_of_lt (Nat.lt_trans hb0 hf))
  · cases r₂ with
    | error e => exact hr₂
    | ok fl₂ =>
      cases fl₂ with
      | ret r =>
        obtain ⟨rfl, h', tk, c, rfl, hS', hc', hk'⟩ := hr₂
        repeat (any_goals (first | assumption | wp_step))
        exact h h' tk c hS' hc' hk'
      | _ => exact hr₂.elim
  | _ => exact hr.elim
end
section
variable {X : L2.Cx} {S : Sg} {a : Expr} {f1 : Bool} {fa : MP.Env → M → R Val}
theorem pe_sortSet {ta : TE} {p p2 q2 pos : Pos} (hc : X.calm = true) (hu : X.A.units + 65 < cLine) (hg : Gl X "sorted") (hm : X.mg "sorted" = none) (hg2 : Gl X "set") (hm2 : X.mg "set" = none) (ha : PE X a ta) (na : starEach [a] X.env = [(false, eval a X.env)]) :
    PE X (.Call (.Name "sorted" p) [.Call (.Name "set" p2) [a] [] q2] [] pos) (fun σ H Q => ta σ H fun x G => ∃ l, x = V.ref l ∧ ((∃ ns : List Int, SqT X.K G l (ns.map V.int) ∧ ((sset ns).length < 60 ∧ ns.length < 1000) ∧ ∀ p, G p = none → Q (.ref p) (upd G p (.lst ((sset ns).map V.int)))) ∨ SetQ X.K Q l G)) := by
  refine ⟨fun pins s σ H Q I h => ?_⟩
  refine Call_ (ld_blt I hg hm (by decide +kernel : bootBuiltins "sorted" = some (.builtin "sorted")) (PyProof.Rows.callWith_builtin1 (PyProof.Rows.args_cons ?_ rfl) rfl rfl))
  refine Call_ (ld_blt I hg2 hm2 (by decide +kernel : bootBuiltins "set" = some (.type "set")) (PyProof.Rows.callWith_type1 (PyProof.Rows.args_cons (thn (ha.run pins s σ H _ I h) fun v s1 ⟨x, G, J, rx, qx⟩ => PyProof.Rows.args_nil ?_) na) na rfl))
  obtain ⟨l, rfl, qx⟩ := qx
  cases rx
  rcases qx with ⟨ns, hq, hl, q⟩ | ⟨ns, hq, hl, q⟩ | ⟨ks, d, B, hq, hk, hl, hd1, hB, q⟩
  · obtain ⟨its, rv, pt, hz⟩ := J.tuple hq
    exact call_set_tupI ns (J.ok.hd hc) pt (by simpa using rv.ints) (by unfold scanBound; omega) fun h1 tk c R cle keep => PyProof.Rows.args_nil (end_ints hc J R cle hl keep q)
  · obtain ⟨its, rv, pt, hz⟩ := J.list hq
    exact set_listI ns (J.ok.hd hc) pt.isList (by simpa using rv.ints) (by unfold scanBound; omega) fun h1 tk c R cle keep => PyProof.Rows.args_nil (end_ints hc J R cle hl keep q)
  · obtain ⟨its, rv, pl, hz⟩ := J.list hq
    exact call_set_tups (P := X.prog) (w := X.w) ks (J.ok.hd hc) pl.isList (by simpa using refs_of_vals rv) (fun p hp => J.isT (hk p hp).1) hl (by omega) fun h' tk L es ep t R g k =>
      PyProof.Rows.args_nil (end_tups hc J R (fun p hp => List.mem_of_mem_take (g.sub p hp)) (fun p hp => g.all p (by rw [List.take_length]; exact hp)) hd1 hB k q)
theorem me_sortSet {p p2 q2 pos : Pos} (hc : X.calm = true) (hu : X.A.units + 65 < cLine) (hK : X.K = S.K) (hg : Gl X "sorted") (hm : X.mg "sorted" = none) (hg2 : Gl X "set") (hm2 : X.mg "set" = none) (ha : PE X a (tE S f1 fa)) (na : starEach [a] X.env = [(false, eval a X.env)]) :
    PE X (.Call (.Name "sorted" p) [.Call (.Name "set" p2) [a] [] q2] [] pos) (tE S true fun r m => (fa r m).bind fun x m => opt (blt .sortSet [dr m x]) m) := by
  refine pe_imp (pe_sortSet hc hu hg hm hg2 hm2 ha na) fun s H Q ⟨r, m, al, re, rl, p⟩ => ?_
  refine ⟨r, m, al, re, rl, (Post.seq p).mono ?_⟩
  rintro u H1 ⟨v, m1, al1, x1, rl1, q1, p1⟩
  obtain ⟨z, e, p2⟩ := p1.opt
  have rd : RepD S.K al1 H1 u (dr m1 v) := .dr q1.1 rl1
  have d : Done S.K al1 H1 true z Q := .of p2 rl1 fun a h => x1.dom a h
  cases ev : dr m1 v <;> rw [ev] at e rd <;> first | (simp only [blt] at e; cases e; done) | skip
  · rename_i xs
    simp only [blt, Option.bind_eq_some_iff] at e
    obtain ⟨ns, e1, e⟩ := e
    split at e
    · rename_i hl
      cases e
      obtain ⟨b, us, rfl, h1, h2⟩ := rd.tuple
      have := h2.of_ints e1
      subst this
      exact ⟨b, rfl, .inl ⟨ns, hK ▸ h1, hl, fun p hp => d.lst rl1.dm (RepL.ints _) p hp⟩⟩
    · cases e
  · rename_i xs
    obtain ⟨b, us, rfl, h1, h2⟩ := rd.list
    exact ⟨b, rfl, .inr (hK ▸ setQ_of (.inl (.inl h1)) h2 e rl1.dm d)⟩
end
end MP
set_option Elab.async false
set_option linter.all false
set_option maxRecDepth 100000
set_option maxHeartbeats 1000000
/-! MPChk: is a text this clean text? A boolean, and what it gives. -/
namespace MP
open PySem PySem.Spec PyProof.Rows L2
structure Blk where
  N : List Str
  sc : Scope
  fc : Str → Bool
structure Wd where
  fn : List (Str × Nat)
  np : Nat → Nat
  blt : List Str
  kw : List (Nat × Nat × List Str × List Nat)
  nums : List (Str × Int)
  txs : List (Str × Str)
  ko : Nat → Bool := fun _ => false
  exs : List Nat := []
def noStar : Expr → Bool
  | .Starred _ _ => false
  | _ => true
def noStars (xs : List Expr) : Bool := xs.all noStar
def isComp : Expr → Bool
  | .ListComp _ _ _ _ => true
  | .SetComp _ _ _ _ => true
  | .DictComp _ _ _ _ _ => true
  | _ => false
def notSet : Expr → Bool
  | .Set _ _ _ => false
  | _ => true
def notCall : Expr → Bool
  | .Call _ [] _ _ => false
  | _ => true
def varOk (b : Blk) (i : Nat) (y : Str) : Bool :=
  decide (b.N[i]? = some y) && (match b.sc.names.lookup y with
    | some .local => true
    | some .cell => true
    | some .free => true
    | _ => false) && !(y == ("__debug__" : Str)) && !(y == ("__classdict__" : Str))
def gloOk (b : Blk) (y : Str) : Bool := decide (b.sc.names.lookup y = some .globalImplicit) && !(y == ("__debug__" : Str))
def locOk (b : Blk) (y : Str) : Bool := match b.sc.names.lookup y with
  | some .local => true
  | some .cell => b.fc y
  | _ => false
def bName : B → Option Str
  | .len => some "len" | .abs => some "abs" | .int => some "int" | .min2 => some "min" | .max2 => some "max" | .all => some "all" | .any => some "any" | .sum => some "sum"
  | .tuple => some "tuple" | .list => some "list" | .repr => some "repr" | .sorted => some "sorted" | .divmod => some "divmod" | .min1 => some "min" | .max1 => some "max"
  | _ => none
def relabS (scope sc : Scope) : Scope := { scope with names := scope.names.map fun (n, k) => if (k == .free && sc.kind == .function && sc.names.lookup n == some .cell) then (n, .cell) else (n, k) }
def Blk.inn (b : Blk) (scope : Scope) : Blk := ⟨b.N, relabS scope b.sc, fun x => scope.names.lookup x == some .cell⟩
def Es.len : Es → Nat
  | .nil => 0
  | .cons _ r => r.len + 1
mutual
def chkTg (b : Blk) : Tg → Expr → Bool
  | .nm i, .Name y _ => decide (b.N[i]? = some y) && locOk b y
  | .tup ts, .Tuple xs _ _ => noStars xs && chkTgs b ts xs
  | _, _ => false
def chkTgs (b : Blk) : List Tg → List Expr → Bool
  | [], [] => true
  | t :: ts, x :: xs => chkTg b t x && chkTgs b ts xs
  | _, _ => false
end
/-- the name of an exception class -/
def excName_ (W : Wd) (b : Blk) (c : Nat) : Expr → Bool
  | .Name y _ => decide (y = excName c) && gloOk b y && W.exs.contains c
  | _ => false
def tyExpr (W : Wd) (b : Blk) : Ty → Expr → Bool
  | .exc c, x => excName_ W b c x
  | .base k, .Name y _ => decide (k < 4) && decide (y = Str.ofString (baseName k)) && gloOk b y && W.blt.contains y
  | t, .Name y _ => t.plain && decide (y = Str.ofString t.nm) && gloOk b y && W.blt.contains y
  | _, _ => false
def tyExprs (W : Wd) (b : Blk) : List Ty → List Expr → Bool
  | [], [] => true
  | t :: ts, x :: xs => tyExpr W b t x && tyExprs W b ts xs
  | _, _ => false
def isiOk (W : Wd) (b : Blk) (tys : List Ty) (t : Expr) : Bool := match t with
  | .Tuple ts _ _ => !tys.isEmpty && decide (tys.length ≤ 100) && tyExprs W b tys ts
  | t => (match tys with
    | [ty] => tyExpr W b ty t
    | _ => false)
def mName : Mth → Option Str
  | .append => some "append"
  | .popAt => some "pop"
  | .insert => some "insert"
  | .extend => some "extend"
  | _ => none
/-- one name behind the first -/
def var1 : Es → Bool
  | .cons _ (.cons (.var _) .nil) => true
  | _ => false
def fewOk (n : Nat) : Bool := decide (n < 29)
def zipTg : It → Expr → Bool
  | .zip _ _ _, .Tuple _ _ _ => true
  | .zip _ _ _, _ => false
  | .enu _, .Tuple _ _ _ => true
  | .enu _, _ => false
  | _, _ => true
def optOk (e : E) (f : Expr → Bool) : Option Expr → Bool
  | none => isEmp e
  | some x => f x
def isTrue1 : Es → Bool
  | .cons (.con (.bl true)) .nil => true
  | _ => false
theorem isTrue1_eq {r : Es} (h : isTrue1 r = true) : r = .cons (.con (.bl true)) .nil := by
  unfold isTrue1 at h
  split at h
  · rfl
  · cases h
/-- one keyword x=True -/
def kwTrue (x : Str) : List Keyword → Bool
  | [⟨kn, .Constant (.bool true) _ _, _⟩] => decide (kn = some x)
  | _ => false
theorem kwTrue_eq {x : Str} {kws : List Keyword} (h : kwTrue x kws = true) : ∃ kz kcp kp, kws = [⟨some x, .Constant (.bool true) kz kcp, kp⟩] := by
  unfold kwTrue at h
  split at h
  · rw [of_decide_eq_true h]
    exact ⟨_, _, _, rfl⟩
  · cases h
mutual
def chkE (W : Wd) (b : Blk) : E → Expr → Bool
  | .var i, .Name y _ => varOk b i y
  | .con .non, .Constant .none _ _ => true
  | .con (.bl k), .Constant (.bool c) _ _ => decide (k = c)
  | .con (.int k), .Constant (.int c) _ _ => decide (k = c)
  | .con (.str k), .Constant (.str c) _ _ => decide (k = c)
  | .con (.int k), .Name y _ => gloOk b y && decide (W.nums.lookup y = some k)
  | .con (.str k), .Name y _ => gloOk b y && decide (W.txs.lookup y = some k)
  | .bin op x y, .BinOp u op' v _ => decide (op = op') && chkE W b x u && chkE W b y v
  | .neg x, .UnaryOp .USub u _ => chkE W b x u
  | .nt x, .UnaryOp .Not u _ => chkE W b x u
  | .and x r, .BoolOp .And (u :: us) _ => chkE W b x u && chkEs W b r us
  | .or x r, .BoolOp .Or (u :: us) _ => chkE W b x u && chkEs W b r us
  | .ite c x y, .IfExp w u v _ => chkE W b c w && chkE W b x u && chkE W b y v
  | .cmp x ops es, .Compare u ops' us _ => decide (ops = ops') && chkE W b x u && chkEs W b es us && decide (ops.length = us.length) && !us.isEmpty && !lastMarks ops us
  | .idx x i, .Subscript u v _ => chkE W b x u && chkE W b i v && plainIx v
  | .slc x lo hi, .Subscript u (.Slice l h none _) _ => chkE W b x u && optOk lo (chkE W b lo) l && optOk hi (chkE W b hi) h
  | .rev x, .Subscript u (.Slice none none (some (.UnaryOp .USub (.Constant (.int 1) _ _) _)) _) _ => chkE W b x u
  | .tup es, .Tuple us _ _ => noStars us && chkEs W b es us
  | .lst es, .List us _ => noStars us && chkEs W b es us
  | .comp st elt own tg it cd, .ListComp u [g] scope _ => !st && decide (g.is_async = 0) && chkIt W b it g.iter && zipTg it g.target && blkC b.N b.sc scope (own.map fun i => (b.N.getD i default, i)) &&
      (tg.slots.all fun i => own.contains i) && chkTg (b.inn scope) tg g.target && (chkEs W (b.inn scope) cd g.ifs && decide (g.ifs.length ≤ 1)) && chkE W (b.inn scope) elt u
  | .call f es _, .Call (.Name y _) us [] _ => gloOk b y && decide (W.fn.lookup y = some f) && !W.ko f && noStars us && chkEs W b es us
  | .callk f es kes perm _, .Call (.Name y _) us kws _ => gloOk b y && decide (W.fn.lookup y = some f) && noStars us && chkEs W b es us && chkEs W b kes (kws.map (·.value)) && (kws.all fun k => k.arg.isSome) &&
      W.kw.contains (f, us.length, kws.filterMap (·.arg), perm)
  | .blt k es, .Call (.Name y _) us kws _ => gloOk b y && W.blt.contains y && noStars us && if kws.isEmpty then (if k = .lrng then decide (y = "list") && chkRg W b es us else if k = .sortSet then decide (y = "sorted") && chkSt W b es us else if k = .sortSc then decide (y = "sorted") && chkSc W b es us else decide (bName k = some y) && !us.isEmpty && chkEs W b es us)
      else decide (k = .sortedR) && decide (y = "sorted") && kwTrue (Str.ofString "reverse") kws && chkR1 W b es us
  | .blt k es, .Call (.Attribute u y apos) us [] cpos => decide (k = .index) && var1 es && decide (y = Str.ofString "index") && notCall u && (apos.endLine == cpos.line) && noStar u && noStars us && !us.isEmpty && fewOk us.length && chkEs W b es (u :: us)
  | .isi x tys, .Call (.Name y _) [u, t] [] _ => decide (y = "isinstance") && gloOk b y && W.blt.contains y && noStar u && chkE W b x u && isiOk W b tys t
  | .mth k o es, .Call (.Attribute u y apos) us [] cpos => decide (mName k = some y) && notCall u && (apos.endLine == cpos.line) && chkE W b o u && noStars us && !us.isEmpty && fewOk us.length && chkEs W b es us
  | .new x, u => fresh x && chkE W b x u
  | .fld x j, .Attribute u y _ => decide (y = fldName j) && notCall u && chkE W b x u
  | _, _ => false
def chkEs (W : Wd) (b : Blk) : Es → List Expr → Bool
  | .nil, [] => true
  | .cons x r, u :: us => chkE W b x u && chkEs W b r us
  | _, _ => false
def chkRg (W : Wd) (b : Blk) : Es → List Expr → Bool
  | .cons x r, [.Call (.Name z _) (u :: us) [] _] => decide (z = "range") && gloOk b z && W.blt.contains z && noStar u && noStars us && decide (us.length ≤ 1) && chkE W b x u && chkEs W b r us
  | _, _ => false
def chkSt (W : Wd) (b : Blk) : Es → List Expr → Bool
  | .cons x .nil, [.Call (.Name z _) [u] [] _] => decide (z = "set") && gloOk b z && W.blt.contains z && noStar u && chkE W b x u
  | _, _ => false
def chkSc (W : Wd) (b : Blk) : Es → List Expr → Bool
  | .cons x .nil, [.SetComp (.Name v _) [⟨.Name v2 _, it, [], 0⟩] scope _] => decide (v2 = v) && decide (scope.names = [(PySem.Str.ofString ".0", NameKind.local), (v, NameKind.local)]) && (v == PySem.Str.ofString ".0") == false &&
      decide (scope.kind = .function) && (v == ("__debug__" : Str)) == false && notSet it && chkE W b x it
  | _, _ => false
def chkR1 (W : Wd) (b : Blk) : Es → List Expr → Bool
  | .cons x r, [u] => isTrue1 r && chkE W b x u
  | _, _ => false
def chkIt (W : Wd) (b : Blk) : It → Expr → Bool
  | .val x, u => notSet u && chkE W b x u
  | .rng es, .Call (.Name y _) us [] _ => decide (y = "range") && gloOk b y && W.blt.contains y && noStars us && chkEs W b es us && (decide (us.length = 1) || decide (us.length = 2))
  | .zip x y st, .Call (.Name z _) [u, v] kws _ => decide (z = "zip") && gloOk b z && W.blt.contains z && noStar u && noStar v && (if st then kwTrue (Str.ofString "strict") kws else kws.isEmpty) && chkE W b x u && chkE W b y v
  | .enu x, .Call (.Name z _) [u] [] _ => decide (z = "enumerate") && gloOk b z && W.blt.contains z && noStar u && chkE W b x u
  | _, _ => false
end
/-! ### what a block knows -/
structure Good (W : Wd) (C : MP.Cx) (X : L2.Cx) (S : Sg) (b : Blk) : Prop where
  hK : X.K = S.K
  calm : X.calm = true
  scope : X.env.scope = b.sc
  kind : b.sc.kind = .function
  hN : X.N = b.N
  nd : b.N.Nodup
  fc : ∀ x, b.fc x = true → X.fn x = true
  gd : X.A.guards = some []
  un : X.A.units + 65 < cLine
  tk : Takes X S.W
  po : PassesOwn (model X.prog X.w) X.A X.env X.xe
  base : C.base = S.bs.headD 0
  xr : S.xr = xrK S.K
  sup : C.sup = excSup
  xs : ∀ c, W.exs.contains c = true → XGood X c
  call : ∀ f args fl m, args.length ≠ W.np f → C.call f args fl m = .stuck
  blt : ∀ x, W.blt.contains x = true → X.mg x = none
  nums : ∀ x i, W.nums.lookup x = some i → ∃ t, X.mg x = some (.int i t)
  txs : ∀ x i, W.txs.lookup x = some i → ∃ t, X.mg x = some (.str i t)
  fns : ∀ x f, W.fn.lookup x = some f → ∃ k fa fd ps, (∀ fl, FnG X.prog X.w X.K X.mg X.base k fa fd ps (spF S.K S.xr (W.np f) (C.call f) fl)) ∧ Room k X.A ∧ X.mg x = some (.ref fa) ∧ PySem.W.keepIn X.K (.ref fa) = true ∧ (W.ko f = false → Binds X.K fd ps []) ∧
    ∀ n ks perm, W.kw.contains (f, n, ks, perm) = true → KwB X.K fd ps n ks perm
theorem takesF {X : L2.Cx} : Takes X (fun _ _ _ _ => False) := fun _ _ ⟨_, _, _, _, _, _, _, _, _, _, _, _, _, _, _, _, w⟩ => w.elim
section
variable {W : Wd} {C : MP.Cx} {X : L2.Cx} {S : Sg} {b : Blk}
theorem Good.blk (g : Good W C X S b) {scope : Scope} (hk : scope.kind = .function) (s : Shared) (H : Hp) (Ca : Addr) (cl : List (Str × Addr)) (fp : List Addr) :
    Good W C (X.blk s H scope (compEnvC scope cl Ca X.env) fp) S.inn (b.inn scope) where
  hK := g.hK
  calm := g.calm
  scope := by
    show relabel scope X.env = relabS scope b.sc
    unfold relabel relabS Env.kindOf
    rw [g.scope]
  kind := hk
  hN := g.hN
  nd := g.nd
  fc := fun x h => h
  gd := g.gd
  un := g.un
  tk := takesF
  po := PassesOwn.never
  base := g.base
  xr := g.xr
  sup := g.sup
  xs := fun c h => ⟨(g.xs c h).std, (g.xs c h).room, (g.xs c h).lt⟩
  call := g.call
  blt := g.blt
  nums := g.nums
  txs := g.txs
  fns := g.fns
theorem Good.gl (g : Good W C X S b) {y : Str} (h : gloOk b y = true) : Gl X y ∧ (y == ("__debug__" : Str)) = false := by
  unfold gloOk at h
  simp only [Bool.and_eq_true, decide_eq_true_eq, Bool.not_eq_true'] at h
  refine ⟨?_, h.2⟩
  show X.env.scope.names.lookup y = _
  rw [g.scope]
  exact h.1
theorem Good.loc (g : Good W C X S b) {y : Str} (h : locOk b y = true) : L2.Loc X.env.scope y ∧ (X.fn y = true ∨ X.env.scope.names.lookup y = some .local) := by
  unfold locOk at h
  unfold L2.Loc
  rw [g.scope]
  split at h
  · rename_i e
    exact ⟨.inl e, .inr e⟩
  · rename_i e
    exact ⟨.inr e, .inl (g.fc y h)⟩
  · cases h
theorem Good.vis (g : Good W C X S b) {i : Nat} {y : Str} (h : varOk b i y = true) : X.N[i]? = some y ∧ Vis X.env.scope y ∧ (y == ("__debug__" : Str)) = false ∧ (y == ("__classdict__" : Str)) = false := by
  unfold varOk at h
  simp only [Bool.and_eq_true, decide_eq_true_eq, Bool.not_eq_true'] at h
  obtain ⟨⟨⟨h1, h2⟩, h3⟩, h4⟩ := h
  refine ⟨g.hN ▸ h1, ?_, h3, h4⟩
  unfold Vis
  rw [g.scope]
  split at h2
  · rename_i e; exact .inl e
  · rename_i e; exact .inr (.inl e)
  · rename_i e; exact .inr (.inr e)
  · cases h2
end
/-! ### forms -/
theorem star_cons {a : Expr} (h : noStar a = true) (es : List Expr) (env : PySem.Env) : starEach (a :: es) env = (false, eval a env) :: starEach es env := by
  cases a <;> first | rfl | cases h
theorem noStars_cons {a : Expr} {es : List Expr} : noStars (a :: es) = true ↔ noStar a = true ∧ noStars es = true := by simp [noStars]
theorem back_any {pos : Pos} {env : PySem.Env} : ∀ {es : List Expr}, noStars es = true → (backTo pos (starEach es env)).any (·.1) = false
  | [], _ => rfl
  | a :: es, h => by
    rw [noStars_cons] at h
    rw [star_cons h.1]
    show (false || (backTo pos (starEach es env)).any (·.1)) = false
    rw [back_any h.2]
    rfl
theorem back_all {pos : Pos} {env : PySem.Env} : ∀ {es : List Expr}, noStars es = true → (backTo pos (starEach es env)).all (fun x => !x.1) = true
  | [], _ => rfl
  | a :: es, h => by
    rw [noStars_cons] at h
    rw [star_cons h.1]
    show (true && (backTo pos (starEach es env)).all (fun x => !x.1)) = true
    rw [back_all h.2]
    rfl
theorem ass_cons {a : Expr} (h : noStar a = true) (es : List Expr) (env : PySem.Env) : assignEach (a :: es) env = (false, assign a env) :: assignEach es env := by
  cases a <;> first | rfl | cases h
theorem ass_len {env : PySem.Env} : ∀ {es : List Expr}, noStars es = true → (assignEach es env).length = es.length
  | [], _ => rfl
  | a :: es, h => by
    rw [noStars_cons] at h
    rw [ass_cons h.1, List.length_cons, List.length_cons, ass_len h.2]
theorem ass_none {env : PySem.Env} : ∀ {es : List Expr}, noStars es = true → (assignEach es env).findIdx? (·.1) = none
  | [], _ => rfl
  | a :: es, h => by
    rw [noStars_cons] at h
    rw [ass_cons h.1, List.findIdx?_cons]
    simp [ass_none h.2]
theorem sole_false {t v : Expr} {l : Nat} {env : PySem.Env} (h : isComp v = false) : swapsWithSole [t] v l env = pure false := by
  cases v <;> first | rfl | cases h
theorem none_false {v : Expr} {l : Nat} {env : PySem.Env} (h : isComp v = false) : swapsWith v none l env = pure false := by
  cases v <;> first | rfl | cases h
theorem folded_pure {e : Expr} (h : notSet e = true) (env : PySem.Env) (x : Value) : foldedSetIterable e env x = pure x := by
  cases e <;> first | rfl | cases h
theorem attr_base {o : Expr} {y : Str} (h : notCall o = true) (env : PySem.Env) : attributeBase o y env (eval o env) = eval o env := by
  cases o with
  | Call f us kws p =>
    cases us with
    | nil => simp [notCall] at h
    | cons _ _ => cases f <;> rfl
  | _ => rfl
/-! ### targets -/
section
variable {W : Wd} {C : MP.Cx} {X : L2.Cx} {S : Sg} {b : Blk}
theorem chkTgs_len : ∀ {ts : List Tg} {xs : List Expr}, chkTgs b ts xs = true → xs.length = ts.length
  | [], [], _ => rfl
  | [], _ :: _, h => by simp [chkTgs] at h
  | _ :: _, [], h => by simp [chkTgs] at h
  | t :: ts, x :: xs, h => by
    simp only [chkTgs, Bool.and_eq_true] at h
    rw [List.length_cons, List.length_cons, chkTgs_len h.2]
mutual
theorem tg_ok (g : Good W C X S b) : ∀ (t : Tg) (x : Expr), chkTg b t x = true → PG X x (tG S t)
  | .nm i, x, h => by
    cases x <;> simp only [chkTg, Bool.false_eq_true] at h
    simp only [Bool.and_eq_true, decide_eq_true_eq] at h
    obtain ⟨l1, l2⟩ := g.loc h.2
    exact mg_name (g.hN ▸ g.nd) (g.hN ▸ h.1) l1 l2
  | .tup ts, x, h => by
    cases x <;> simp only [chkTg, Bool.false_eq_true] at h
    simp only [Bool.and_eq_true] at h
    exact mg_tup g.hK g.calm (tgs_ok g ts _ h.2 h.1) (chkTgs_len h.2) (ass_len h.1) (ass_none h.1)
  | .star _ _ _, x, h => by simp [chkTg] at h
theorem tgs_ok (g : Good W C X S b) : ∀ (ts : List Tg) (xs : List Expr), chkTgs b ts xs = true → noStars xs = true → PGs X xs (tGs S ts)
  | [], [], _, _ => mgs_nil
  | [], _ :: _, h, _ => by simp [chkTgs] at h
  | _ :: _, [], h, _ => by simp [chkTgs] at h
  | t :: ts, x :: xs, h, hs => by
    simp only [chkTgs, Bool.and_eq_true] at h
    rw [noStars_cons] at hs
    exact mgs_cons (tg_ok g t x h.1) (tgs_ok g ts xs h.2 hs.2) (by rw [ass_cons hs.1]; rfl)
end
/-! ### built-ins -/
theorem me_blt {k : B} {x : Str} {e : Expr} {es : List Expr} {fs : MP.Env → M → R (List Val)} {p pos : Pos} (g : Good W C X S b) (hb : bName k = some x) (hg : Gl X x) (hm : X.mg x = none) (ha : PA X (e :: es) (tEs S fs))
    (he : starEach (e :: es) X.env = (false, eval e X.env) :: starEach es X.env) (hpl : (backTo pos (starEach es X.env)).any (·.1) = false) :
    PE X (.Call (.Name x p) (e :: es) [] pos) (tE S true fun r m => (fs r m).bind fun vs m => opt (blt k (vs.map (dr m))) m) := by
  cases k <;> simp only [bName, Option.some.injEq, reduceCtorEq] at hb <;> subst hb
  · exact pe_imp (pe_callB (g.hK ▸ cb_len) hg hm (by decide +kernel) ha (by decide) (by decide) he hpl) fun s H Q h => blt_imp s H Q h
  · exact pe_imp (pe_callB (g.hK ▸ cb_abs) hg hm (by decide +kernel) ha (by decide) (by decide) he hpl) fun s H Q h => blt_imp s H Q h
  · exact pe_imp (pe_callTy (g.hK ▸ cb_int) hg hm (by decide +kernel) ha (by decide) (by decide) he hpl) fun s H Q h => blt_imp s H Q h
  · exact pe_imp (pe_callTy (g.hK ▸ cb_list) hg hm (by decide +kernel) ha (by decide) (by decide) he hpl) fun s H Q h => blt_imp s H Q h
  · exact pe_imp (pe_callTy (g.hK ▸ cb_tuple) hg hm (by decide +kernel) ha (by decide) (by decide) he hpl) fun s H Q h => blt_imp s H Q h
  · exact pe_imp (pe_callB (g.hK ▸ cb_sorted g.un) hg hm (by decide +kernel) ha (by decide) (by decide) he hpl) fun s H Q h => blt_imp s H Q h
  · exact pe_imp (pe_callB (g.hK ▸ cb_min1 g.calm) hg hm (by decide +kernel) ha (by decide) (by decide) he hpl) fun s H Q h => blt_imp s H Q h
  · exact pe_imp (pe_callB (g.hK ▸ cb_max1 g.calm) hg hm (by decide +kernel) ha (by decide) (by decide) he hpl) fun s H Q h => blt_imp s H Q h
  · exact pe_imp (pe_callB (g.hK ▸ cb_min2 g.calm) hg hm (by decide +kernel) ha (by decide) (by decide) he hpl) fun s H Q h => blt_imp s H Q h
  · exact pe_imp (pe_callB (g.hK ▸ cb_max2 g.calm) hg hm (by decide +kernel) ha (by decide) (by decide) he hpl) fun s H Q h => blt_imp s H Q h
  · exact pe_imp (pe_callB (g.hK ▸ cb_sum g.calm) hg hm (by decide +kernel) ha (by decide) (by decide) he hpl) fun s H Q h => blt_imp s H Q h
  · exact pe_imp (pe_callB (g.hK ▸ cb_all g.calm) hg hm (by decide +kernel) ha (by decide) (by decide) he hpl) fun s H Q h => blt_imp s H Q h
  · exact pe_imp (pe_callB (g.hK ▸ cb_any g.calm) hg hm (by decide +kernel) ha (by decide) (by decide) he hpl) fun s H Q h => blt_imp s H Q h
  · exact pe_imp (pe_callB (g.hK ▸ cb_divmod) hg hm (by decide +kernel) ha (by decide) (by decide) he hpl) fun s H Q h => blt_imp s H Q h
  · exact pe_imp (pe_callB (g.hK ▸ cb_repr g.gd g.un) hg hm (by decide +kernel) ha (by decide) (by decide) he hpl) fun s H Q h => blt_imp s H Q h
theorem exc_name {c : Nat} {x : Expr} (g : Good W C X S b) (h : excName_ W b c x = true) : ∃ p, x = .Name (excName c) p ∧ Gl X (excName c) ∧ (excName c == ("__debug__" : Str)) = false ∧ XGood X c := by
  cases x <;> simp only [excName_, Bool.false_eq_true] at h
  simp only [Bool.and_eq_true, decide_eq_true_eq] at h
  obtain ⟨⟨rfl, h3⟩, h4⟩ := h
  obtain ⟨hg, hd⟩ := g.gl h3
  exact ⟨_, rfl, hg, hd, g.xs c h4⟩
theorem ty_name {t : Ty} {x : Expr} (g : Good W C X S b) (h : tyExpr W b t x = true) : ∃ y p, x = .Name y p ∧ t.okK S.K ∧ PE X (.Name y p) (tC (t.v S.K)) := by
  by_cases hc : ∃ c, t = .exc c
  · obtain ⟨c, rfl⟩ := hc
    simp only [tyExpr] at h
    obtain ⟨p, rfl, hg, hd, q⟩ := exc_name g h
    exact ⟨_, _, rfl, ⟨q.lt, g.hK ▸ q.std.ok⟩, pe_glob (v := .ref (xcls S.K c)) hg q.std.mg (by rw [g.hK]; rfl) hd⟩
  by_cases hb : ∃ k, t = .base k
  · obtain ⟨k, rfl⟩ := hb
    cases x <;> simp only [tyExpr, Bool.false_eq_true] at h
    simp only [Bool.and_eq_true, decide_eq_true_eq] at h
    obtain ⟨⟨⟨h1, rfl⟩, h3⟩, h4⟩ := h
    obtain ⟨hg, hd⟩ := g.gl h3
    refine ⟨_, _, rfl, h1, ?_⟩
    refine pe_bltn (u := .type (baseName k)) hg (g.blt _ h4) ?_ rfl ?_ hd
    · have : k = 0 ∨ k = 1 ∨ k = 2 ∨ k = 3 := by omega
      rcases this with rfl | rfl | rfl | rfl <;> decide +kernel
    · have : k = 0 ∨ k = 1 ∨ k = 2 ∨ k = 3 := by omega
      rcases this with rfl | rfl | rfl | rfl <;> decide
  have ht : t.plain = true := by
    cases t <;> first | rfl | exact absurd ⟨_, rfl⟩ hc | exact absurd ⟨_, rfl⟩ hb
  have hk : t.okK S.K := by cases t <;> first | trivial | cases ht
  have hv : t.v S.K = .ty t.nm := by cases t <;> first | rfl | cases ht
  have h : ∃ y p, x = .Name y p ∧ (t.plain && decide (y = Str.ofString t.nm) && gloOk b y && W.blt.contains y) = true := by
    cases t <;> first | cases ht | skip
    all_goals (cases x <;> simp only [tyExpr, Bool.false_eq_true] at h; exact ⟨_, _, rfl, h⟩)
  obtain ⟨y, p, ex, h'⟩ := h
  subst ex
  simp only [Bool.and_eq_true, decide_eq_true_eq] at h'
  obtain ⟨⟨⟨h1, rfl⟩, h3⟩, h4⟩ := h'
  refine ⟨_, _, rfl, hk, ?_⟩
  rw [hv]
  obtain ⟨hg, hd⟩ := g.gl h3
  refine pe_bltn (u := .type t.nm) hg (g.blt _ h4) ?_ rfl ?_ hd
  · cases t <;> first | decide +kernel | (cases h1; done)
  · cases t <;> first | decide | (cases h1; done)
theorem tys_ok (g : Good W C X S b) : ∀ {ts : List Ty} {xs : List Expr}, tyExprs W b ts xs = true → (∀ t ∈ ts, t.okK S.K) ∧ PA X xs (fun s H Q => Q (ts.map fun t => t.v S.K) H)
  | [], [], _ => ⟨by simp, pa_tys .nil⟩
  | [], _ :: _, h => by simp [tyExprs] at h
  | _ :: _, [], h => by simp [tyExprs] at h
  | t :: ts, x :: xs, h => by
    simp only [tyExprs, Bool.and_eq_true] at h
    obtain ⟨y, p, rfl, h1, h2⟩ := ty_name g h.1
    obtain ⟨h3, h4⟩ := tys_ok g h.2
    refine ⟨fun t ht => ?_, pa_imp (pa_cons h2 h4 rfl) fun s H Q q => q⟩
    rcases List.mem_cons.mp ht with rfl | ht
    · exact h1
    · exact h3 t ht
/-! ### except clauses -/
/-- the classes of a clause -/
def clsNames (W : Wd) (b : Blk) : List Nat → List Expr → Bool
  | [], [] => true
  | c :: cs, x :: xs => excName_ W b c x && clsNames W b cs xs
  | _, _ => false
def clsOk (W : Wd) (b : Blk) (cls : List Nat) (T : Expr) : Bool := match T with
  | .Tuple es _ _ => decide (es.length ≤ 1000) && clsNames W b cls es
  | T => (match cls with
    | [c] => excName_ W b c T
    | _ => false)
theorem clsNames_ok (g : Good W C X S b) : ∀ {cls : List Nat} {es : List Expr}, clsNames W b cls es = true →
    (∀ d ∈ cls, d < 18 ∧ excK S.K d = true) ∧ Paired (fun e c => ∃ x q, e = Expr.Name x q ∧ Names X x c) es (cls.map fun d => Value.ref (xcls S.K d))
  | [], [], _ => ⟨by simp, .nil⟩
  | [], _ :: _, h => by simp [clsNames] at h
  | _ :: _, [], h => by simp [clsNames] at h
  | c :: cs, x :: xs, h => by
    simp only [clsNames, Bool.and_eq_true] at h
    obtain ⟨h3, h4⟩ := clsNames_ok g h.2
    obtain ⟨p, rfl, hg, hd, q⟩ := exc_name g h.1
    refine ⟨fun d hm => ?_, .cons ⟨_, _, rfl, hg, hd, .inl (by rw [← g.hK]; exact q.std.mg)⟩ h4⟩
    rcases List.mem_cons.mp hm with rfl | hm
    · exact ⟨q.lt, g.hK ▸ q.std.ok⟩
    · exact h3 d hm
theorem clsOk_ok (g : Good W C X S b) {cls : List Nat} {T : Expr} (h : clsOk W b cls T = true) : (∀ d ∈ cls, d < 18 ∧ excK S.K d = true) ∧ TyNames X T (cls.map fun d => Value.ref (xcls S.K d)) := by
  unfold clsOk at h
  split at h
  · simp only [Bool.and_eq_true, decide_eq_true_eq] at h
    obtain ⟨h1, h2⟩ := clsNames_ok g h.2
    exact ⟨h1, .tup h2 h.1⟩
  · split at h
    · rename_i c
      obtain ⟨p, rfl, hg, hd, q⟩ := exc_name g h
      refine ⟨fun d hm => ?_, .one ⟨hg, hd, .inl (by rw [← g.hK]; exact q.std.mg)⟩⟩
      rw [List.mem_singleton] at hm
      subst hm
      exact ⟨q.lt, g.hK ▸ q.std.ok⟩
    · cases h
end
end MP
set_option Elab.async false
set_option linter.all false
set_option maxRecDepth 100000
set_option maxHeartbeats 2000000
/-! MPStar2: starred stores, as the clean text says. -/
namespace MP
open PySem PySem.Spec PyProof.Rows L2
mutual
theorem bindT_len2 : ∀ (t : Tg) (v : Val) (r r' : MP.Env), bindT t v r = some r' → r'.length = r.length
  | .nm i, v, r, r', h => by
    simp only [bindT] at h
    split at h
    · cases h
      exact List.length_set
    · cases h
  | .tup ts, v, r, r', h => by
    cases v <;> simp only [bindT, reduceCtorEq] at h
    · exact bindTs_len2 ts _ _ _ h
    · exact bindTs_len2 ts _ _ _ h
  | .star a i b, v, r, r', h => by
    simp only [bindT] at h
    split at h
    · split at h
      · rw [Option.bind_eq_some_iff] at h
        obtain ⟨r1, h1, h2⟩ := h
        have e1 := bindTs_len2 a _ _ _ h1
        have e2 := bindTs_len2 b _ _ _ h2
        rw [e2, List.length_set, e1]
      · cases h
    · cases h
theorem bindTs_len2 : ∀ (ts : List Tg) (vs : List Val) (r r' : MP.Env), bindTs ts vs r = some r' → r'.length = r.length
  | [], [], r, r', h => by simp only [bindTs, Option.some.injEq] at h; rw [h]
  | [], _ :: _, r, r', h => by simp [bindTs] at h
  | _ :: _, [], r, r', h => by simp [bindTs] at h
  | t :: ts, v :: vs, r, r', h => by
    simp only [bindTs, Option.bind_eq_some_iff] at h
    obtain ⟨r1, h1, h2⟩ := h
    rw [bindTs_len2 ts _ _ _ h2, bindT_len2 t _ _ _ h1]
end
theorem bindTs_app : ∀ (a : List Tg) (ts : List Tg) (va vs : List Val) (r r1 : MP.Env), bindTs a va r = some r1 → bindTs (a ++ ts) (va ++ vs) r = bindTs ts vs r1
  | [], ts, [], vs, r, r1, h => by simp only [bindTs, Option.some.injEq] at h; rw [h]; rfl
  | [], _, _ :: _, _, r, r1, h => by simp [bindTs] at h
  | _ :: _, _, [], _, r, r1, h => by simp [bindTs] at h
  | t :: a, ts, v :: va, vs, r, r1, h => by
    simp only [bindTs, Option.bind_eq_some_iff] at h
    obtain ⟨r2, h1, h2⟩ := h
    show (bindT t v r).bind (fun ρ => bindTs (a ++ ts) (va ++ vs) ρ) = _
    rw [h1]
    exact bindTs_app a ts va vs r2 r1 h2
theorem chkTgs_app {b : Blk} : ∀ {a c : List Tg} {xs ys : List Expr}, chkTgs b a xs = true → chkTgs b c ys = true → chkTgs b (a ++ c) (xs ++ ys) = true
  | [], c, [], ys, _, h2 => h2
  | [], _, _ :: _, _, h, _ => by simp [chkTgs] at h
  | _ :: _, _, [], _, h, _ => by simp [chkTgs] at h
  | t :: a, c, x :: xs, ys, h, h2 => by
    simp only [chkTgs, Bool.and_eq_true] at h
    simp only [List.cons_append, chkTgs, Bool.and_eq_true]
    exact ⟨h.1, chkTgs_app h.2 h2⟩
theorem noStars_app {xs ys : List Expr} : noStars (xs ++ ys) = (noStars xs && noStars ys) := by
  unfold noStars
  exact List.all_append
theorem assignEach_star {xs ys : List Expr} {t : Expr} {q : Pos} {env : PySem.Env} (h1 : noStars xs = true) (h2 : noStars ys = true) (ht : noStar t = true) :
    (assignEach (xs ++ .Starred t q :: ys) env).map (·.2) = (assignEach (xs ++ t :: ys) env).map (·.2) ∧ (assignEach (xs ++ .Starred t q :: ys) env).length = xs.length + 1 + ys.length ∧ (assignEach (xs ++ .Starred t q :: ys) env).findIdx? (·.1) = some xs.length := by
  induction xs with
  | nil =>
    have e : assignEach (.Starred t q :: ys) env = (true, assign t env) :: assignEach ys env := rfl
    rw [List.nil_append, List.nil_append, e, ass_cons ht]
    refine ⟨rfl, ?_, rfl⟩
    rw [List.length_cons, ass_len h2]
    simp
    omega
  | cons x xs ih =>
    rw [noStars_cons] at h1
    obtain ⟨i1, i2, i3⟩ := ih h1.2
    rw [List.cons_append, List.cons_append, ass_cons h1.1, ass_cons h1.1]
    refine ⟨by rw [List.map_cons, List.map_cons, i1], by rw [List.length_cons, i2, List.length_cons]; omega, ?_⟩
    rw [List.findIdx?_cons, i3]
    simp
section
variable {W : Wd} {C : MP.Cx} {X : L2.Cx} {S : Sg} {b : Blk} {a c : List Tg} {i k la lb : Nat} {e : Expr} {es es' : List Expr} {f1 : Bool} {fe : MP.Env → M → R Val} {p pos : Pos}
theorem ms_star (hK : X.K = S.K) (hc : X.calm = true) (he : PE X e (tE S f1 fe)) (h : PGs X es' (tGs S (a ++ .nm i :: c))) (hes : (assignEach es X.env).map (·.2) = (assignEach es' X.env).map (·.2)) (hn : (assignEach es X.env).length = a.length + 1 + c.length)
    (hst : (assignEach es X.env).findIdx? (·.1) = some a.length) (hs : swapsWithSole [.Tuple es k p] e pos.line X.env = pure false) (hw : swappedStores [.Tuple es k p] e X.env = pure none) :
    PS X (.Assign [.Tuple es k p] e pos) (tS S fun r m => (fe r m).thn r fun v m => match bindT (.star a i c) (Tg.see m (.star a i c) v) r with
      | some r => .nxt r m
      | none => .stuck) := by
  refine ps_imp (ps_asg he (pg_star (k := k) (pos := p) hc h hes hn hst) hs hw rfl) fun D s H ⟨r, m, al, re, rl, p⟩ => ?_
  refine ⟨r, m, al, re, rl, (p.thn re).mono ?_⟩
  rintro u H1 ⟨v, m1, al1, x1, rl1, q1, p1⟩
  have p1 : PostS S al1 H1 D (match bindT (.star a i c) (dr m1 v) r with
      | some r => .nxt r m1
      | none => .stuck) := p1
  cases eb : bindT (.star a i c) (dr m1 v) r with
  | none => rw [eb] at p1; exact p1.elim
  | some r' =>
    rw [eb] at p1
    have p1 : PostS S al1 H1 D (.nxt r' m1) := p1
    rw [bindT] at eb
    cases es2 : seqOf (dr m1 v) with
    | none => rw [es2] at eb; cases eb
    | some vs =>
      rw [es2] at eb
      dsimp only at eb
      split at eb
      · rename_i hh
        simp only [Bool.and_eq_true, decide_eq_true_eq] at hh
        obtain ⟨h1, h2⟩ := hh
        rw [Option.bind_eq_some_iff] at eb
        obtain ⟨r1, e1, e2⟩ := eb
        have rd : RepD S.K al1 H1 u (dr m1 v) := .dr q1.1 rl1
        have key : ∃ p xs, u = .ref p ∧ (SqT S.K H1 p xs ∨ H1 p = some (.lst xs)) ∧ RepL S.K al1 H1 xs vs := by
          cases ev : dr m1 v with
          | tup ws =>
            rw [ev] at es2 rd
            cases es2
            obtain ⟨p, us, rfl, q, q2⟩ := rd.tuple
            exact ⟨p, us, rfl, .inl q, q2⟩
          | lst ws =>
            rw [ev] at es2 rd
            cases es2
            obtain ⟨p, us, rfl, q, q2⟩ := rd.list
            exact ⟨p, us, rfl, .inr q, q2⟩
          | _ => rw [ev] at es2; cases es2
        obtain ⟨q, xs, rfl, hq, rx⟩ := key
        have hlen := rx.length
        refine ⟨q, xs, rfl, by rw [hK]; exact hq, by omega, fun N hN => ?_⟩
        have sm : Same H1 (upd H1 N (.lst ((xs.drop a.length).take (xs.length - c.length - a.length)))) := same_upd hN
        have x2 : Ext al1 al1 H1 (upd H1 N (.lst ((xs.drop a.length).take (xs.length - c.length - a.length)))) := .of_same sm
        have off : al1.off N := ⟨rl1.new hN, fun hm => rl1.hid N hm hN⟩
        have rN : Rep S.K al1 (upd H1 N (.lst ((xs.drop a.length).take (xs.length - c.length - a.length)))) (.ref N) (.lst ((vs.drop a.length).take (vs.length - c.length - a.length))) := by
          refine .lst upd_same off (RepL.ext x2 _ _ ?_)
          rw [hlen]
          exact (rx.drop _).take _
        refine ⟨r, al1, vs.take a.length ++ .lst ((vs.drop a.length).take (vs.length - c.length - a.length)) :: vs.drop (vs.length - c.length), r', (re.ext x1).ext x2, ?_, ?_, fun s' re' _ => p1 s' _ al1 x2 (rl1.ext sm) re'⟩
        · have e3 : xs.drop (xs.length - c.length) = xs.drop (vs.length - c.length) := by rw [hlen]
          rw [e3]
          have := ((rx.take a.length).ext x2 _ _).append ((RepL.cons rN ((rx.drop (vs.length - c.length)).ext x2 _ _)))
          simpa using this
        · rw [bindTs_app a _ _ _ r r1 e1]
          have hl1 := bindTs_len2 a _ _ _ e1
          show (bindT (.nm i) _ r1).bind _ = _
          rw [bindT, if_pos (by rw [hl1]; exact h2)]
          exact e2
      · cases eb
end
/-- a starred target -/
def starOk (b : Blk) : Tg → Expr → Bool
  | .star a i c, .Tuple es _ _ => (match es.drop a.length with
    | .Starred (.Name y py) _ :: ys => chkTgs b a (es.take a.length) && chkTgs b c ys && noStars (es.take a.length) && noStars ys && chkTg b (.nm i) (.Name y py)
    | _ => false)
  | _, _ => false
theorem starOk_inv {b : Blk} {tg : Tg} {t : Expr} (h : starOk b tg t = true) : ∃ a i c xs y py q ys k p, tg = .star a i c ∧ t = .Tuple (xs ++ .Starred (.Name y py) q :: ys) k p ∧ xs.length = a.length ∧ chkTgs b a xs = true ∧ chkTgs b c ys = true ∧ noStars xs = true ∧ noStars ys = true ∧ chkTg b (.nm i) (.Name y py) = true := by
  unfold starOk at h
  split at h
  · rename_i a i c es k p
    split at h
    · rename_i y py q ys e
      simp only [Bool.and_eq_true] at h
      obtain ⟨⟨⟨⟨h1, h2⟩, h3⟩, h4⟩, h5⟩ := h
      refine ⟨a, i, c, es.take a.length, y, py, q, ys, k, p, rfl, ?_, chkTgs_len h1, h1, h2, h3, h4, h5⟩
      rw [← e, List.take_append_drop]
    · cases h
  · cases h
theorem star_ok {W : Wd} {C : MP.Cx} {X : L2.Cx} {S : Sg} {b : Blk} {tg : Tg} {t v : Expr} {f1 : Bool} {fe : MP.Env → M → R Val} {pos : Pos} (g : Good W C X S b) (h : starOk b tg t = true) (he : PE X v (tE S f1 fe)) (hs : isComp v = false) (hw : ∀ es k p, t = .Tuple es k p → swappedStores [.Tuple es k p] v X.env = pure none) :
    PS X (.Assign [t] v pos) (tS S fun r m => (fe r m).thn r fun v m => match bindT tg (Tg.see m tg v) r with
      | some r => .nxt r m
      | none => .stuck) := by
  obtain ⟨a, i, c, xs, y, py, q, ys, k, p, rfl, rfl, hl, h1, h2, h3, h4, h5⟩ := starOk_inv h
  obtain ⟨s1, s2, s3⟩ := assignEach_star (t := .Name y py) (q := q) (env := X.env) h3 h4 rfl
  have hc : chkTgs b (a ++ .nm i :: c) (xs ++ .Name y py :: ys) = true := chkTgs_app h1 (by simp only [chkTgs, h5, h2, Bool.and_self])
  have hns : noStars (xs ++ .Name y py :: ys) = true := by rw [noStars_app, h3, Bool.true_and, noStars_cons]; exact ⟨rfl, h4⟩
  exact ms_star (k := k) (p := p) g.hK g.calm he (tgs_ok g _ _ hc hns) s1 (by rw [s2, hl, chkTgs_len h2]) (by rw [s3, hl]) (sole_false hs) (hw _ _ _ rfl)
end MP
set_option Elab.async false
set_option linter.all false
set_option maxRecDepth 100000
set_option maxHeartbeats 2000000
/-! MPPre: ahead of MPSound. -/
namespace MP
open PySem PySem.Spec PyProof.Rows L2
section
variable {W : Wd} {C : MP.Cx} {X : L2.Cx} {S : Sg} {b : Blk}
/-- a reading that may give more than is asked -/
theorem pe_fr {x : Expr} {f : Bool} {F : MP.Env → M → R Val} (h : PE X x (tE S f F)) : PE X x (tE S false F) := by
  refine pe_imp h fun s H Q ⟨r, m, al, re, rl, p⟩ => ⟨r, m, al, re, rl, p.weak⟩
theorem pe_eq {x : Expr} {f : Bool} {F G : MP.Env → M → R Val} (h : PE X x (tE S f F)) (e : G = F) : PE X x (tE S f G) := e ▸ h
theorem pt_eq {x : Expr} {F G : MP.Env → M → R Bool} (h : PT X x (tBl S F)) (e : G = F) : PT X x (tBl S G) := e ▸ h
theorem evs_len (C : MP.Cx) : ∀ (es : Es) (r : MP.Env) (m : M) (vs : List Val) (m' : M), evs C es r m = .ok vs m' → vs.length = es.len
  | .nil, r, m, vs, m', h => by
    simp only [evs] at h
    cases h
    rfl
  | .cons x es, r, m, vs, m', h => by
    simp only [evs] at h
    cases e1 : ev C x r m with
    | stuck => rw [e1] at h; cases h
    | exc _ _ _ => rw [e1] at h; cases h
    | ok v m1 =>
      rw [e1] at h
      have h : (evs C es r m1).bind (fun xs m => R.ok (v :: xs) m) = .ok vs m' := h
      cases e2 : evs C es r m1 with
      | stuck => rw [e2] at h; cases h
      | exc _ _ _ => rw [e2] at h; cases h
      | ok ws m2 =>
        rw [e2] at h
        cases h
        show ws.length + 1 = es.len + 1
        rw [evs_len C es r m1 ws _ e2]
theorem chkEs_len {W : Wd} {b : Blk} : ∀ {es : Es} {xs : List Expr}, chkEs W b es xs = true → xs.length = es.len
  | .nil, [], _ => rfl
  | .nil, _ :: _, h => by simp [chkEs] at h
  | .cons _ _, [], h => by simp [chkEs] at h
  | .cons _ r, _ :: xs, h => by
    simp only [chkEs, Bool.and_eq_true] at h
    show xs.length + 1 = r.len + 1
    rw [chkEs_len h.2]
theorem evCmp_bl (C : MP.Cx) : ∀ (es : Es) (ops : List CmpOp) (x : Val) (r : MP.Env) (m : M) (v : Val) (m' : M), evCmp C es ops x r m = .ok v m' → ∃ k, v = .bl k
  | .nil, ops, x, r, m, v, m', h => by simp [evCmp] at h
  | .cons a .nil, [op], x, r, m, v, m', h => by
    simp only [evCmp] at h
    cases e1 : ev C a r m with
    | stuck => rw [e1] at h; cases h
    | exc _ _ _ => rw [e1] at h; cases h
    | ok y m1 =>
      rw [e1] at h
      dsimp only [R.bind] at h
      cases e2 : cop op (dr m1 x) (dr m1 y) with
      | none => rw [e2] at h; cases h
      | some k => rw [e2] at h; cases h; exact ⟨k, rfl⟩
  | .cons a .nil, [], x, r, m, v, m', h => by simp [evCmp] at h
  | .cons a .nil, op :: op' :: ops, x, r, m, v, m', h => by
    simp only [evCmp] at h
    cases e1 : ev C a r m with
    | stuck => rw [e1] at h; cases h
    | exc _ _ _ => rw [e1] at h; cases h
    | ok y m1 =>
      rw [e1] at h
      dsimp only [R.bind] at h
      cases e2 : cop op (dr m1 x) (dr m1 y) with
      | none => rw [e2] at h; cases h
      | some k =>
        rw [e2] at h
        dsimp only [opt] at h
        cases k with
        | false => cases h; exact ⟨_, rfl⟩
        | true => cases h
  | .cons a (.cons c r'), [], x, r, m, v, m', h => by simp [evCmp] at h
  | .cons a (.cons c r'), op :: ops, x, r, m, v, m', h => by
    simp only [evCmp] at h
    cases e1 : ev C a r m with
    | stuck => rw [e1] at h; cases h
    | exc _ _ _ => rw [e1] at h; cases h
    | ok y m1 =>
      rw [e1] at h
      dsimp only [R.bind] at h
      cases e2 : cop op (dr m1 x) (dr m1 y) with
      | none => rw [e2] at h; cases h
      | some k =>
        rw [e2] at h
        dsimp only [opt] at h
        cases k with
        | false => cases h; exact ⟨_, rfl⟩
        | true => exact evCmp_bl C (.cons c r') ops y r m1 v m' h
theorem me_comp {own : List (Str × Nat)} {scope : Scope} {gi : MP.Env → M → R (List Val × List Nat)} {tg : Tg} {gk : MP.Env → M → R Bool} {fr : Bool} {fe : MP.Env → M → R Val} {elt tge iter : Expr} {ifs : List Expr} {pos : Pos}
    (hc : X.calm = true) (hN : X.N.Nodup) (hi : PI X tge iter (tI S gi)) (ok : BlkOk X.N X.env.scope scope own) (ho : ∀ i ∈ tg.slots, i ∈ own.map (·.2))
    (hg : ∀ (s : Shared) (H : Hp) (Ca : Addr) (cl : List (Str × Addr)) (fp : List Addr), PG (X.blk s H scope (compEnvC scope cl Ca X.env) fp) tge (tG S.inn tg))
    (ht : ∀ (s : Shared) (H : Hp) (Ca : Addr) (cl : List (Str × Addr)) (fp : List Addr), PTs (X.blk s H scope (compEnvC scope cl Ca X.env) fp) ifs (tBl S.inn gk))
    (he : ∀ (s : Shared) (H : Hp) (Ca : Addr) (cl : List (Str × Addr)) (fp : List Addr), PE (X.blk s H scope (compEnvC scope cl Ca X.env) fp) elt (tE S.inn fr fe)) (hs : ∀ x, foldedSetIterable iter X.env x = pure x) :
    PE X (.ListComp elt [⟨tge, iter, ifs, 0⟩] scope pos) (tE S true (compF gi tg (own.map (·.2)) gk fe)) :=
  pe_imp (pe_lc hc hN hi ok hg ht he hs) fun s H Q h => lc_imp ho s H Q h
/-- the same, stored in a local name at once -/
theorem ms_comp {i : Nat} {y : Str} {py spos : Pos} {own : List (Str × Nat)} {scope : Scope} {gi : MP.Env → M → R (List Val × List Nat)} {tg : Tg} {gk : MP.Env → M → R Bool} {fr : Bool} {fe : MP.Env → M → R Val} {elt tge iter : Expr} {ifs : List Expr} {pos : Pos}
    (hc : X.calm = true) (hN : X.N.Nodup) (hy : X.N[i]? = some y) (hyl : X.env.scope.names.lookup y = some .local)
    (hsw : swapsWith (.ListComp elt [⟨tge, iter, ifs, 0⟩] scope pos) (some (.Name y py)) spos.line X.env = pure true) (hi : PI X tge iter (tI S gi)) (ok : BlkOk X.N X.env.scope scope own) (ho : ∀ i ∈ tg.slots, i ∈ own.map (·.2))
    (hg : ∀ (s : Shared) (H : Hp) (Ca : Addr) (cl : List (Str × Addr)) (fp : List Addr), PG (X.blk s H scope (compEnvC scope cl Ca X.env) fp) tge (tG S.inn tg))
    (ht : ∀ (s : Shared) (H : Hp) (Ca : Addr) (cl : List (Str × Addr)) (fp : List Addr), PTs (X.blk s H scope (compEnvC scope cl Ca X.env) fp) ifs (tBl S.inn gk))
    (he : ∀ (s : Shared) (H : Hp) (Ca : Addr) (cl : List (Str × Addr)) (fp : List Addr), PE (X.blk s H scope (compEnvC scope cl Ca X.env) fp) elt (tE S.inn fr fe)) (hs : ∀ x, foldedSetIterable iter X.env x = pure x) :
    ∃ t : TE, PS X (.Assign [.Name y py] (.ListComp elt [⟨tge, iter, ifs, 0⟩] scope pos) spos) (tAsg t (gName i)) ∧ ∀ s H Q, tE S true (compF gi tg (own.map (·.2)) gk fe) s H Q → t s H Q :=
  ⟨_, ps_setLc hc hN hy hyl hsw hi ok hg ht he hs, fun s H Q h => lc_imp ho s H Q h⟩
end
theorem own_snd {N : List Str} : ∀ (own : List Nat), (own.map fun i => (N.getD i default, i)).map (·.2) = own
  | [] => rfl
  | _ :: r => by
    have := own_snd (N := N) r
    simp only [List.map_cons, this]
theorem R.bind_ok {α : Type} (r : R α) : (r.bind fun x m => .ok x m) = r := by cases r <;> rfl
def plainT : Expr → Bool
  | .UnaryOp .Not _ _ => false
  | .BoolOp _ _ _ => false
  | .IfExp _ _ _ _ => false
  | .Compare _ _ _ _ => false
  | _ => true
theorem isTrue_of {x : Expr} (h : plainT x = true) (env : PySem.Env) (whole : Sem Value) : isTrue x env whole = (do let v ← whole; standAt x.pos; holding [v] (truthy v)) := by
  cases x <;> first | (cases h; done) | rfl | skip
  rename_i op _ _
  cases op <;> first | (cases h; done) | rfl
def Both (C : MP.Cx) (X : L2.Cx) (S : Sg) (x : Expr) (e : E) : Prop := PE X x (tE S (fresh e) (ev C e)) ∧ PT X x (tBl S (tru_ (ev C e)))
theorem dflt {W : Wd} {C : MP.Cx} {X : L2.Cx} {S : Sg} {b : Blk} {x : Expr} {e : E} (g : Good W C X S b) (h : PE X x (tE S (fresh e) (ev C e))) (hp : plainT x = true) : Both C X S x e :=
  ⟨h, mt_val g.hK h fun whole => isTrue_of hp _ whole⟩
theorem fresh_plain {W : Wd} {b : Blk} {u : E} {x : Expr} (h : fresh u = true) (h2 : chkE W b u x = true) : plainT x = true := by
  cases u <;> first | (simp [fresh] at h; done) | skip
  all_goals (cases x <;> first | rfl | (simp [chkE] at h2; done) | skip)
  all_goals (rename_i o _ _; cases o <;> first | rfl | (simp [chkE] at h2; done))
theorem tru_not (f : MP.Env → M → R Val) (r : MP.Env) (m : M) : tru_ (fun r m => (f r m).bind fun x m => (opt (tru (dr m x)) m).bind fun b m => .ok (.bl (!b)) m) r m = (tru_ f r m).bind fun k m => .ok (!k) m := by
  dsimp only [tru_]
  cases f r m with
  | stuck => rfl
  | exc _ _ _ => rfl
  | ok v m =>
    dsimp only [R.bind]
    cases tru (dr m v) <;> rfl
theorem tru_and (C : MP.Cx) (f : MP.Env → M → R Val) (b : E) (es : Es) (r : MP.Env) (m : M) : tru_ (fun r m => (f r m).bind fun v m => evAnd C (.cons b es) v r m) r m =
    (tru_ f r m).bind fun k m => if k then tru_ (fun r m => (ev C b r m).bind fun v m => evAnd C es v r m) r m else .ok false m := by
  dsimp only [tru_]
  cases f r m with
  | stuck => rfl
  | exc _ _ _ => rfl
  | ok v m =>
    dsimp only [R.bind]
    rw [evAnd]
    cases e : tru (dr m v) with
    | none => rfl
    | some k =>
      cases k with
      | false =>
        simp [MP.opt, R.bind, e]
      | true => rfl
theorem tru_or (C : MP.Cx) (f : MP.Env → M → R Val) (b : E) (es : Es) (r : MP.Env) (m : M) : tru_ (fun r m => (f r m).bind fun v m => evOr C (.cons b es) v r m) r m =
    (tru_ f r m).bind fun k m => if k then .ok true m else tru_ (fun r m => (ev C b r m).bind fun v m => evOr C es v r m) r m := by
  dsimp only [tru_]
  cases f r m with
  | stuck => rfl
  | exc _ _ _ => rfl
  | ok v m =>
    dsimp only [R.bind]
    rw [evOr]
    cases e : tru (dr m v) with
    | none => rfl
    | some k =>
      cases k with
      | true =>
        simp [MP.opt, R.bind, e]
      | false => rfl
theorem pw_eq {X : L2.Cx} {S : Sg} {x : Expr} {F G : MP.Env → M → R Bool} (h : PW X x (tBl S F)) (e : G = F) : PW X x (tBl S G) := e ▸ h
end MP
set_option Elab.async false
set_option linter.all false
set_option maxRecDepth 100000
set_option maxHeartbeats 2000000
/-! MPSound: what is checked is read as the clean text says. -/
namespace MP
open PySem PySem.Spec PyProof.Rows L2
theorem o_ok {C : MP.Cx} {X : L2.Cx} {S : Sg} {e : E} {f : Expr → Bool} (he : ∀ x, f x = true → isEmp e = false ∧ PE X x (tE S (fresh e) (ev C e))) (o : Option Expr) (h : optOk e f o = true) :
    ∃ go, PartOk X S o go ∧ ∀ r m, partO go r m = if isEmp e then .ok none m else (ev C e r m).bind fun y m => opt (partOf y) m := by
  cases o with
  | none =>
    cases e <;> first | (simp [optOk, isEmp] at h; done) | skip
    exact ⟨none, .none, fun r m => rfl⟩
  | some x =>
    obtain ⟨h1, h2⟩ := he x h
    refine ⟨some (ev C e), .some h2, fun r m => ?_⟩
    rw [h1]
    rfl
theorem not_emp {W : Wd} {b : Blk} {e : E} {x : Expr} (h : chkE W b e x = true) : isEmp e = false := by
  cases e <;> first | rfl | (simp [chkE] at h)
theorem ev_sortedR (C : MP.Cx) (x : E) : ev C (.blt .sortedR (.cons x (.cons (.con (.bl true)) .nil))) = fun r m => (ev C x r m).bind fun v m => opt (blt .sortedR [dr m v, .bl true]) m := by
  funext r m
  simp only [ev, evs]
  cases ev C x r m <;> rfl
theorem chkRg_inv {W : Wd} {b : Blk} {es : Es} {us : List Expr} (h : chkRg W b es us = true) : ∃ x r z p u vs pos, es = .cons x r ∧ us = [.Call (.Name z p) (u :: vs) [] pos] ∧ z = "range" ∧ gloOk b z = true ∧ W.blt.contains z = true ∧ noStar u = true ∧ noStars vs = true ∧ vs.length ≤ 1 ∧ chkE W b x u = true ∧ chkEs W b r vs = true := by
  unfold chkRg at h
  split at h
  · simp only [Bool.and_eq_true, decide_eq_true_eq] at h
    obtain ⟨⟨⟨⟨⟨⟨⟨h0, h1⟩, h2⟩, h3⟩, h4⟩, h5⟩, h6⟩, h7⟩ := h
    exact ⟨_, _, _, _, _, _, _, rfl, rfl, h0, h1, h2, h3, h4, h5, h6, h7⟩
  · cases h
theorem chkSt_inv {W : Wd} {b : Blk} {es : Es} {us : List Expr} (h : chkSt W b es us = true) : ∃ x z p u pos, es = .cons x .nil ∧ us = [.Call (.Name z p) [u] [] pos] ∧ z = "set" ∧ gloOk b z = true ∧ W.blt.contains z = true ∧ noStar u = true ∧ chkE W b x u = true := by
  unfold chkSt at h
  split at h
  · simp only [Bool.and_eq_true, decide_eq_true_eq] at h
    obtain ⟨⟨⟨⟨h0, h1⟩, h2⟩, h3⟩, h4⟩ := h
    exact ⟨_, _, _, _, _, rfl, rfl, h0, h1, h2, h3, h4⟩
  · cases h
theorem chkSc_inv {W : Wd} {b : Blk} {es : Es} {us : List Expr} (h : chkSc W b es us = true) : ∃ x v p1 p2 it scope pos, es = .cons x .nil ∧ us = [.SetComp (.Name v p1) [⟨.Name v p2, it, [], 0⟩] scope pos] ∧
    scope.names = [(PySem.Str.ofString ".0", NameKind.local), (v, NameKind.local)] ∧ (v == PySem.Str.ofString ".0") = false ∧ scope.kind = .function ∧ (v == ("__debug__" : Str)) = false ∧ notSet it = true ∧ chkE W b x it = true := by
  unfold chkSc at h
  split at h
  · simp only [Bool.and_eq_true, decide_eq_true_eq, beq_iff_eq] at h
    obtain ⟨⟨⟨⟨⟨⟨rfl, h1⟩, h2⟩, h3⟩, h4⟩, h5⟩, h6⟩ := h
    exact ⟨_, _, _, _, _, _, _, rfl, rfl, h1, h2, h3, h4, h5, h6⟩
  · cases h
theorem chkEs_nil {W : Wd} {b : Blk} {vs : List Expr} (h : chkEs W b .nil vs = true) : vs = [] := by
  cases vs with
  | nil => rfl
  | cons _ _ => simp [chkEs] at h
theorem chkEs_cons {W : Wd} {b : Blk} {y : E} {r : Es} {vs : List Expr} (h : chkEs W b (.cons y r) vs = true) (hl : vs.length ≤ 1) : r = .nil ∧ ∃ w, vs = [w] ∧ chkE W b y w = true := by
  cases vs with
  | nil => simp [chkEs] at h
  | cons w vs =>
    cases vs with
    | cons _ _ => simp at hl
    | nil =>
      simp only [chkEs, Bool.and_eq_true] at h
      refine ⟨?_, w, rfl, h.1⟩
      cases r with
      | nil => rfl
      | cons _ _ => have := h.2; simp [chkEs] at this
mutual
theorem eb {W : Wd} {C : MP.Cx} : ∀ (e : E) (x : Expr) (X : L2.Cx) (S : Sg) (b : Blk), Good W C X S b → chkE W b e x = true → Both C X S x e
  | .var i, x, X, S, b, g, h => by
    cases x <;> simp only [chkE, Bool.false_eq_true] at h
    obtain ⟨h1, h2, h3, h4⟩ := g.vis h
    exact dflt g (pe_eq (me_var h1 h2 h3 h4) (by funext r m; rw [ev]; try rfl)) rfl
  | .con c, x, X, S, b, g, h => by
    cases x <;> first | (cases c <;> simp only [chkE, Bool.false_eq_true] at h; done) | skip
    · rename_i k _ _
      cases c <;> cases k <;> simp only [chkE, Bool.false_eq_true, decide_eq_true_eq] at h
      · exact dflt g (pe_eq me_non (by funext r m; rw [ev]; try rfl)) rfl
      · subst h; exact dflt g (pe_eq me_bl (by funext r m; rw [ev]; try rfl)) rfl
      · subst h; exact dflt g (pe_eq me_int (by funext r m; rw [ev]; try rfl)) rfl
      · subst h; exact dflt g (pe_eq me_str (by funext r m; rw [ev]; try rfl)) rfl
    · cases c <;> simp only [chkE, Bool.false_eq_true, Bool.and_eq_true, decide_eq_true_eq] at h
      · obtain ⟨hg, hd⟩ := g.gl h.1
        obtain ⟨t, ht⟩ := g.nums _ _ h.2
        exact dflt g (pe_eq (f := false) (pe_imp (pe_glob (v := .int _) hg ht ⟨t, rfl⟩ hd) fun s H Q ⟨r, m, al, re, rl, p⟩ => p.val rl (.int _)) (by funext r m; rw [ev]; try rfl)) rfl
      · obtain ⟨hg, hd⟩ := g.gl h.1
        obtain ⟨t, ht⟩ := g.txs _ _ h.2
        exact dflt g (pe_eq (f := false) (pe_imp (pe_glob (v := .str _) hg ht ⟨t, rfl⟩ hd) fun s H Q ⟨r, m, al, re, rl, p⟩ => p.val rl (.str _)) (by funext r m; rw [ev]; try rfl)) rfl
  | .glob _, x, X, S, b, g, h => by simp [chkE] at h
  | .bin op u v, x, X, S, b, g, h => by
    cases x <;> simp only [chkE, Bool.false_eq_true, Bool.and_eq_true, decide_eq_true_eq] at h
    obtain ⟨⟨rfl, h1⟩, h2⟩ := h
    exact dflt g (pe_eq (me_bin g.hK (eb u _ X S b g h1).1 (eb v _ X S b g h2).1) (by funext r m; rw [ev])) rfl
  | .neg u, x, X, S, b, g, h => by
    cases x <;> first | (simp only [chkE, Bool.false_eq_true] at h; done) | skip
    rename_i op y _
    cases op <;> simp only [chkE, Bool.false_eq_true] at h
    exact dflt g (pe_eq (me_neg (eb u _ X S b g h).1) (by funext r m; rw [ev]; try rfl)) rfl
  | .nt u, x, X, S, b, g, h => by
    cases x <;> first | (simp only [chkE, Bool.false_eq_true] at h; done) | skip
    rename_i op y _
    cases op <;> simp only [chkE, Bool.false_eq_true] at h
    have q := eb u _ X S b g h
    have e : ev C (.nt u) = fun r m => (ev C u r m).bind fun x m => (opt (tru (dr m x)) m).bind fun b m => .ok (.bl (!b)) m := by
      funext r m
      rw [ev]
    refine ⟨pe_eq (me_not g.hK q.1) e, pt_eq (mt_not q.2) ?_⟩
    funext r m
    rw [e]
    exact tru_not _ r m
  | .and u r, x, X, S, b, g, h => by
    cases x <;> first | (simp only [chkE, Bool.false_eq_true] at h; done) | skip
    rename_i op ys _
    cases op <;> cases ys <;> simp only [chkE, Bool.false_eq_true, Bool.and_eq_true] at h
    have q := eb u _ X S b g h.1
    have e : ev C (.and u r) = fun ρ m => (ev C u ρ m).bind fun x m => evAnd C r x ρ m := by
      funext ρ m
      rw [ev]
    refine ⟨pe_eq (and_ok r _ _ X S b g h.2 q.1) e, ?_⟩
    rw [e]
    exact (andT_ok r _ _ X S b g h.2 q.2).pt
  | .or u r, x, X, S, b, g, h => by
    cases x <;> first | (simp only [chkE, Bool.false_eq_true] at h; done) | skip
    rename_i op ys _
    cases op <;> cases ys <;> simp only [chkE, Bool.false_eq_true, Bool.and_eq_true] at h
    have q := eb u _ X S b g h.1
    have e : ev C (.or u r) = fun ρ m => (ev C u ρ m).bind fun x m => evOr C r x ρ m := by
      funext ρ m
      rw [ev]
    refine ⟨pe_eq (or_ok r _ _ X S b g h.2 q.1) e, ?_⟩
    rw [e]
    exact (orT_ok r _ _ X S b g h.2 q.2).pt
  | .ite c u v, x, X, S, b, g, h => by
    cases x <;> simp only [chkE, Bool.false_eq_true, Bool.and_eq_true] at h
    have qc := eb c _ X S b g h.1.1
    have qu := eb u _ X S b g h.1.2
    have qv := eb v _ X S b g h.2
    have e : ev C (.ite c u v) = fun r m => (tru_ (ev C c) r m).bind fun k m => if k then ev C u r m else ev C v r m := by
      funext r m
      rw [ev]
      unfold tru_
      cases ev C c r m <;> rfl
    refine ⟨pe_eq (me_ite qc.2 qu.1 qv.1) e, pt_eq (mt_ite qc.2 qu.2 qv.2) ?_⟩
    funext r m
    rw [e]
    show R.bind (R.bind (tru_ (ev C c) r m) _) _ = _
    cases tru_ (ev C c) r m with
    | stuck => rfl
    | exc _ _ _ => rfl
    | ok k m => cases k <;> rfl
  | .cmp u ops es, x, X, S, b, g, h => by
    cases x <;> simp only [chkE, Bool.false_eq_true, Bool.and_eq_true, decide_eq_true_eq, Bool.not_eq_true'] at h
    obtain ⟨⟨⟨⟨⟨rfl, h1⟩, h2⟩, h3⟩, h4⟩, h5⟩ := h
    have q := (eb u _ X S b g h1).1
    have c := fun pos => ch_ok (pos := pos) es _ _ X S b g h2 h3 h4
    have e : ev C (.cmp u ops es) = fun r m => (ev C u r m).bind fun x m => evCmp C es ops x r m := by
      funext r m
      rw [ev]
    refine ⟨pe_eq (me_cmp q (c _) h5) e, ?_⟩
    rw [e]
    exact mt_cmp q (c _) h5 fun x r m v m' e => evCmp_bl C es ops x r m v m' e
  | .idx u i, x, X, S, b, g, h => by
    cases x <;> simp only [chkE, Bool.false_eq_true, Bool.and_eq_true] at h
    exact dflt g (pe_eq (me_idx g.hK (eb u _ X S b g h.1.1).1 (eb i _ X S b g h.1.2).1 h.2) (by funext r m; rw [ev])) rfl
  | .slc u lo hi, x, X, S, b, g, h => by
    cases x <;> first | (simp only [chkE, Bool.false_eq_true] at h; done) | skip
    rename_i y sl _
    cases sl <;> first | (simp only [chkE, Bool.false_eq_true] at h; done) | skip
    rename_i l hh st _
    cases st <;> simp only [chkE, Bool.false_eq_true, Bool.and_eq_true] at h
    obtain ⟨gl, pl, el⟩ := o_ok (fun x hx => ⟨not_emp hx, (eb lo x X S b g hx).1⟩) l h.1.2
    obtain ⟨gh, ph, eh⟩ := o_ok (fun x hx => ⟨not_emp hx, (eb hi x X S b g hx).1⟩) hh h.2
    refine dflt g (pe_eq (pe_fr (me_slc g.hK (eb u _ X S b g h.1.1).1 pl ph)) ?_) rfl
    funext r m
    rw [ev]
    simp only [el, eh]
  | .rev u, x, X, S, b, g, h => by
    cases x <;> first | (simp only [chkE, Bool.false_eq_true] at h; done) | skip
    rename_i y sl _
    cases sl <;> first | (simp only [chkE, Bool.false_eq_true] at h; done) | skip
    rename_i l hh st _
    cases l <;> first | (simp only [chkE, Bool.false_eq_true] at h; done) | skip
    cases hh <;> first | (simp only [chkE, Bool.false_eq_true] at h; done) | skip
    cases st <;> first | (simp only [chkE, Bool.false_eq_true] at h; done) | skip
    rename_i st
    cases st <;> first | (simp only [chkE, Bool.false_eq_true] at h; done) | skip
    rename_i op w _
    cases op <;> first | (simp only [chkE, Bool.false_eq_true] at h; done) | skip
    cases w <;> first | (simp only [chkE, Bool.false_eq_true] at h; done) | skip
    rename_i c _ _
    cases c <;> first | (simp only [chkE, Bool.false_eq_true] at h; done) | skip
    rename_i n
    by_cases hn : n = 1
    · subst hn
      simp only [chkE] at h
      exact dflt g (pe_eq (pe_fr (me_rev g.hK (eb u _ X S b g h).1)) (by funext r m; rw [ev])) rfl
    · simp [chkE, hn] at h
  | .tup es, x, X, S, b, g, h => by
    cases x <;> simp only [chkE, Bool.false_eq_true, Bool.and_eq_true] at h
    exact dflt g (pe_eq (me_tup (es_ok es _ X S b g h.2 h.1)) (by funext r m; rw [ev])) rfl
  | .lst es, x, X, S, b, g, h => by
    cases x <;> simp only [chkE, Bool.false_eq_true, Bool.and_eq_true] at h
    exact dflt g (pe_eq (me_lst (es_ok es _ X S b g h.2 h.1)) (by funext r m; rw [ev])) rfl
  | .comp st elt own tg it cd, x, X, S, b, g, h => by
    cases x <;> first | (simp only [chkE, Bool.false_eq_true] at h; done) | skip
    rename_i y gs scope _
    cases gs <;> first | (simp only [chkE, Bool.false_eq_true] at h; done) | skip
    rename_i ge gr
    cases gr <;> simp only [chkE, Bool.false_eq_true, Bool.and_eq_true, decide_eq_true_eq, Bool.not_eq_true', List.all_eq_true] at h
    obtain ⟨⟨⟨⟨⟨⟨⟨⟨rfl, h0⟩, h1⟩, h2⟩, h3⟩, h4⟩, h5⟩, h6, h6'⟩, h7⟩ := h
    obtain ⟨tge, iter, ifs, asy⟩ := ge
    simp only at h0 h1 h2 h3 h4 h5 h6 h6' h7
    subst h0
    have ok : BlkOk X.N X.env.scope scope (own.map fun i => (b.N.getD i default, i)) := by
      rw [g.hN, g.scope]
      exact blkOk_by h3
    obtain ⟨hi, hns⟩ := it_ok it iter tge X S b g h1 h2
    refine dflt g (pe_eq (me_comp g.calm (g.hN ▸ g.nd) hi ok (fun i hi => by rw [own_snd]; simpa using h4 i hi) (fun s H Ca cl fp => tg_ok (g.blk ok.kind s H Ca cl fp) tg tge h5)
      (fun s H Ca cl fp => cd_ok cd ifs _ _ _ (g.blk ok.kind s H Ca cl fp) h6 h6') (fun s H Ca cl fp => (eb elt y _ _ _ (g.blk ok.kind s H Ca cl fp) h7).1) (hns X.env)) ?_) rfl
    funext r m
    rw [ev, own_snd]
    unfold compF
    congr 1
  | .call f es al, x, X, S, b, g, h => by
    cases x <;> first | (simp only [chkE, Bool.false_eq_true] at h; done) | skip
    rename_i fn us kws _
    cases fn <;> cases kws <;> simp only [chkE, Bool.false_eq_true, Bool.and_eq_true, decide_eq_true_eq] at h
    obtain ⟨⟨⟨⟨h1, h2⟩, hko⟩, h3⟩, h4⟩ := h
    obtain ⟨hg, hd⟩ := g.gl h1
    obtain ⟨k, fa, fd, ps, F, hr, hm, hkp, hb, _⟩ := g.fns _ _ h2
    have hb := hb ((Bool.not_eq_true' _).mp hko)
    have hes := es_ok es us X S b g h4 h3
    cases us with
    | nil =>
      cases es with
      | cons _ _ => simp [chkEs] at h4
      | nil => exact dflt g (pe_eq (me_call0 (F al) hr g.gd g.tk hg hm hkp hb (g.call f) hd) (by funext r m; rw [ev, evs])) rfl
    | cons u us =>
      have h3' := noStars_cons.mp h3
      exact dflt g (pe_eq (me_call (F al) hr g.gd g.tk hg hm hkp hb (g.call f) hes hd (star_cons h3'.1 _ _) (back_any h3'.2)) (by funext r m; rw [ev])) rfl
  | .callk f es kes perm al, x, X, S, b, g, h => by
    cases x <;> first | (simp only [chkE, Bool.false_eq_true] at h; done) | skip
    rename_i fn us kws pos
    cases fn <;> simp only [chkE, Bool.false_eq_true, Bool.and_eq_true, decide_eq_true_eq] at h
    obtain ⟨⟨⟨⟨⟨⟨h1, h2⟩, h3⟩, h4⟩, h5⟩, h6⟩, h7⟩ := h
    obtain ⟨hg, hd⟩ := g.gl h1
    obtain ⟨k, fa, fd, ps, F, hr, hm, hkp, hb, hkw⟩ := g.fns _ _ h2
    have hes := es_ok es us X S b g h4 h3
    have hke := ks_ok kes kws X S b g h5
    have kb := hkw _ _ _ h7
    have hall : (backToKw pos (keywordEach kws X.env)).all (·.1.isSome) = true := by
      clear hke h5 h7 kb
      induction kws with
      | nil => rfl
      | cons kw kws ih =>
        simp only [List.all_cons, Bool.and_eq_true] at h6
        obtain ⟨ka, kv, kp⟩ := kw
        show (ka.isSome && (backToKw pos (keywordEach kws X.env)).all (·.1.isSome)) = true
        rw [h6.1, ih h6.2]
        rfl
    have hks : (backToKw pos (keywordEach kws X.env)).filterMap (·.1) = kws.filterMap (·.arg) := by
      clear hke h5 h7 kb hall h6
      induction kws with
      | nil => rfl
      | cons kw kws ih =>
        obtain ⟨a, v, p⟩ := kw
        cases a with
        | none =>
          have : (backToKw pos (keywordEach (⟨none, v, p⟩ :: kws) X.env)).filterMap (·.1) = (backToKw pos (keywordEach kws X.env)).filterMap (·.1) := rfl
          rw [this, ih]
          rfl
        | some a =>
          have : (backToKw pos (keywordEach (⟨some a, v, p⟩ :: kws) X.env)).filterMap (·.1) = a :: (backToKw pos (keywordEach kws X.env)).filterMap (·.1) := rfl
          rw [this, ih]
          rfl
    have hnk : (backToKw pos (keywordEach kws X.env)).any (·.1.isNone) = false := by
      clear hke h5 h7 kb hall hks
      induction kws with
      | nil => rfl
      | cons kw kws ih =>
        simp only [List.all_cons, Bool.and_eq_true] at h6
        obtain ⟨ka, kv, kp⟩ := kw
        show (ka.isNone || (backToKw pos (keywordEach kws X.env)).any (·.1.isNone)) = false
        rw [ih h6.2]
        cases ka with
        | none => simp at h6
        | some _ => rfl
    have hkl : (kws.filterMap (·.arg)).length = kes.len := by
      rw [← chkEs_len h5, List.length_map]
      clear hke h5 h7 kb hall hks hnk
      induction kws with
      | nil => rfl
      | cons kw kws ih =>
        simp only [List.all_cons, Bool.and_eq_true] at h6
        cases e : kw.arg with
        | none => rw [e] at h6; simp at h6
        | some a =>
          rw [List.filterMap_cons, e]
          show (kws.filterMap (·.arg)).length + 1 = kws.length + 1
          rw [ih h6.2]
    cases us with
    | nil =>
      cases es with
      | cons _ _ => simp [chkEs] at h4
      | nil =>
        refine dflt g (pe_eq (me_callk0 (F al) hr g.gd g.tk hg hm hkp kb (g.call f) hke hd (fun r m vs m' e => by rw [hkl]; exact evs_len C kes r m vs m' e) hall hks ?_) (by funext r m; rw [ev, evs]; rfl)) rfl
        rw [hnk]
        rfl
    | cons u us =>
      have h3' := noStars_cons.mp h3
      refine dflt g (pe_eq (me_callk (F al) hr g.gd g.tk hg hm hkp kb (g.call f) hes hke hd (fun r m vs m' e => by rw [chkEs_len h4]; exact evs_len C es r m vs m' e) (fun r m vs m' e => by rw [hkl]; exact evs_len C kes r m vs m' e)
        (star_cons h3'.1 _ _) hall hks ?_) (by funext r m; rw [ev])) rfl
      rw [hnk, back_any h3]
      rfl
  | .blt k es, x, X, S, b, g, h => by
    cases x <;> first | (simp only [chkE, Bool.false_eq_true] at h; done) | skip
    rename_i fn us kws _
    cases fn <;> first | (simp only [chkE, Bool.false_eq_true] at h; done) | skip
    case Attribute u y apos =>
      cases kws with
      | cons _ _ => simp only [chkE, Bool.false_eq_true] at h
      | nil =>
        simp only [chkE, Bool.and_eq_true, decide_eq_true_eq] at h
        obtain ⟨⟨⟨⟨⟨⟨⟨⟨⟨h0, h1⟩, h2⟩, h3⟩, h4⟩, h5⟩, h6⟩, h7⟩, h8⟩, h9⟩ := h
        subst h0 h2
        cases es with
        | nil => simp [var1] at h1
        | cons o r =>
          cases us with
          | nil => simp at h7
          | cons w us =>
            simp only [chkEs, Bool.and_eq_true] at h9
            have h6' := noStars_cons.mp h6
            have hes := es_ok r (w :: us) X S b g h9.2 h6
            have hfew : ∀ pos : Pos, ((backTo pos (starEach (w :: us) X.env)).all (fun x => !x.1) && (backToKw pos (keywordEach [] X.env)).all (fun x => x.1.isSome)
                && decide ((w :: us).length + ([] : List Keyword).length + (if ([] : List Keyword).isEmpty then 0 else 1) < 30)) = true := fun pos => by
              rw [back_all h6]
              unfold fewOk at h8
              have h8 := of_decide_eq_true h8
              have : decide ((w :: us).length + ([] : List Keyword).length + (if ([] : List Keyword).isEmpty then 0 else 1) < 30) = true := by
                refine decide_eq_true ?_
                simp only [List.length_nil, List.isEmpty_nil, if_true]
                omega
              rw [this]
              rfl
            have hn : ∀ ρ m c gs m', evs C r ρ m ≠ .exc c gs m' := by
              intro ρ m c gs m' e
              rcases r with _ | ⟨v, r⟩
              · simp [var1] at h1
              · cases v <;> first | (simp [var1] at h1; done) | skip
                cases r <;> first | (simp [var1] at h1; done) | skip
                rename_i i
                rw [evs, ev] at e
                revert e
                rcases ρ[i]? with _ | _ | v <;> simp [R.bind, evs]
            have q := me_index (eb o u X S b g h9.1).1 hes g.hK hn (attr_base h3 _) (hfew _) h4 (star_cons h6'.1 _ _) (back_any h6'.2)
            exact dflt g (pe_eq (f := false) (pe_fr q) (by
              funext ρ m
              rw [ev, evs]
              cases ev C o ρ m with
              | stuck => rfl
              | exc _ _ _ => rfl
              | ok x m1 =>
                simp only [R.bind]
                cases evs C r ρ m1 <;> rfl)) rfl
    simp only [chkE, Bool.and_eq_true, decide_eq_true_eq] at h
    obtain ⟨⟨⟨h1, h2⟩, h3⟩, h⟩ := h
    obtain ⟨hg, hd⟩ := g.gl h1
    cases kws with
    | nil =>
      rw [if_pos (show ([] : List Keyword).isEmpty = true from rfl)] at h
      split at h
      · rename_i hk
        subst hk
        rw [Bool.and_eq_true, decide_eq_true_eq] at h
        obtain ⟨rfl, h⟩ := h
        obtain ⟨f, hf⟩ := rg_ok es us X S b g h hg (g.blt _ h2)
        exact dflt g (pe_eq (f := true) (hf _ _).1 (hf ⟨0, 0, 0, 0⟩ ⟨0, 0, 0, 0⟩).2) rfl
      split at h
      · rename_i hk
        subst hk
        rw [Bool.and_eq_true, decide_eq_true_eq] at h
        obtain ⟨rfl, h⟩ := h
        obtain ⟨f, hf⟩ := st_ok es us X S b g h hg (g.blt _ h2)
        exact dflt g (pe_eq (f := true) (hf _ _).1 (hf ⟨0, 0, 0, 0⟩ ⟨0, 0, 0, 0⟩).2) rfl
      split at h
      · rename_i hk
        subst hk
        rw [Bool.and_eq_true, decide_eq_true_eq] at h
        obtain ⟨rfl, h⟩ := h
        obtain ⟨f, hf⟩ := sc_ok es us X S b g h hg (g.blt _ h2)
        exact dflt g (pe_eq (f := true) (hf _ _).1 (hf ⟨0, 0, 0, 0⟩ ⟨0, 0, 0, 0⟩).2) rfl
      simp only [Bool.and_eq_true, decide_eq_true_eq] at h
      obtain ⟨⟨h0, h4⟩, h5⟩ := h
      have hes := es_ok es us X S b g h5 h3
      cases us with
      | nil => simp at h4
      | cons u us =>
        have h3' := noStars_cons.mp h3
        have q := fun p pos => me_blt (p := p) (pos := pos) g h0 hg (g.blt _ h2) hes (star_cons h3'.1 _ _) (back_any h3'.2)
        refine dflt g (pe_eq (f := fresh (.blt k es)) ?_ (show ev C (.blt k es) = _ by funext r m; rw [ev])) rfl
        cases e : fresh (.blt k es) with
        | true => exact q _ _
        | false => exact pe_fr (q _ _)
    | cons kw kws =>
      rw [if_neg (by simp)] at h
      simp only [Bool.and_eq_true, decide_eq_true_eq] at h
      obtain ⟨⟨⟨rfl, rfl⟩, h6⟩, h7⟩ := h
      obtain ⟨kz, kcp, kp, e6⟩ := kwTrue_eq h6
      rw [e6]
      obtain ⟨x, u, rfl, rfl, q0⟩ := sr_ok es us X S b g h7
      have h3' := noStars_cons.mp h3
      have q := fun p pos kp kz kcp => me_sortedR (p := p) (pos := pos) (kp := kp) (kz := kz) (kcp := kcp) g.hK hg (g.blt _ h2) q0 (star_cons h3'.1 _ _)
      have e := ev_sortedR C x
      refine dflt g (pe_eq (f := fresh (.blt .sortedR (.cons x (.cons (.con (.bl true)) .nil)))) ?_ e) rfl
      cases e : fresh (.blt .sortedR (.cons x (.cons (.con (.bl true)) .nil))) with
      | true => exact q _ _ _ _ _
      | false => exact pe_fr (q _ _ _ _ _)
  | .isi u tys, x, X, S, b, g, h => by
    cases x <;> first | (simp only [chkE, Bool.false_eq_true] at h; done) | skip
    rename_i fn us kws _
    cases fn <;> first | (simp only [chkE, Bool.false_eq_true] at h; done) | skip
    rcases us with _ | ⟨y, _ | ⟨t, _ | ⟨w, us⟩⟩⟩ <;> first | (simp only [chkE, Bool.false_eq_true] at h; done) | skip
    cases kws <;> simp only [chkE, Bool.false_eq_true, Bool.and_eq_true, decide_eq_true_eq] at h
    obtain ⟨⟨⟨⟨⟨rfl, h1⟩, h2⟩, h3⟩, h4⟩, h5⟩ := h
    obtain ⟨hg, hd⟩ := g.gl h1
    have hm := g.blt _ h2
    have ha := (eb u y X S b g h4).1
    unfold isiOk at h5
    split at h5
    · rename_i ts _ _
      simp only [Bool.and_eq_true, Bool.not_eq_true', decide_eq_true_eq] at h5
      obtain ⟨⟨h6, h7⟩, h8⟩ := h5
      obtain ⟨h9, h10⟩ := tys_ok g h8
      exact dflt g (pe_eq (me_isiT hg hm h9 h7 (by intro e; rw [e] at h6; simp at h6) g.hK ha h10 (star_cons h3 _ _)) (by funext r m; rw [ev, g.sup])) rfl
    · split at h5
      · rename_i t' _ ty
        obtain ⟨z, p, rfl, h6, h7⟩ := ty_name g h5
        exact dflt g (pe_eq (me_isi1 hg hm h6 g.hK ha h7 (star_cons h3 _ _) rfl) (by funext r m; rw [ev, g.sup])) rfl
      · cases h5
  | .mth k o es, x, X, S, b, g, h => by
    cases x <;> first | (simp only [chkE, Bool.false_eq_true] at h; done) | skip
    rename_i fn us kws _
    cases fn <;> cases kws <;> simp only [chkE, Bool.false_eq_true, Bool.and_eq_true, decide_eq_true_eq] at h
    obtain ⟨⟨⟨⟨⟨⟨⟨h0, h1⟩, h2⟩, h3⟩, h4⟩, h5⟩, h6⟩, h7⟩ := h
    have hes := es_ok es us X S b g h7 h4
    cases us with
    | nil => simp at h5
    | cons u us =>
      have h4' := noStars_cons.mp h4
      have hfew : ∀ pos : Pos, ((backTo pos (starEach (u :: us) X.env)).all (fun x => !x.1) && (backToKw pos (keywordEach [] X.env)).all (fun x => x.1.isSome)
          && decide ((u :: us).length + ([] : List Keyword).length + (if ([] : List Keyword).isEmpty then 0 else 1) < 30)) = true := fun pos => by
        rw [back_all h4]
        unfold fewOk at h6
        have h6 := of_decide_eq_true h6
        have : decide ((u :: us).length + ([] : List Keyword).length + (if ([] : List Keyword).isEmpty then 0 else 1) < 30) = true := by
          refine decide_eq_true ?_
          simp only [List.length_nil, List.isEmpty_nil, if_true]
          omega
        rw [this]
        rfl
      cases k <;> simp only [mName, Option.some.injEq, reduceCtorEq] at h0 <;> subst h0
      · exact dflt g (pe_eq (me_append (eb o _ X S b g h3).1 hes g.hK (attr_base h1 _) (hfew _) h2 (star_cons h4'.1 _ _) (back_any h4'.2)) (by funext r m; rw [ev, g.base])) rfl
      · exact dflt g (pe_eq (me_mth PySem.F.slot_list_pop PySem.F.type_list_pop mt_popAt (by decide) ok_popAt (eb o _ X S b g h3).1 hes g.hK (attr_base h1 _) (hfew _) h2 (star_cons h4'.1 _ _) (back_any h4'.2)) (by funext r m; rw [ev, g.base])) rfl
      · exact dflt g (pe_eq (me_mth PySem.F.slot_list_insert PySem.F.type_list_insert mt_insert (by decide) ok_insert (eb o _ X S b g h3).1 hes g.hK (attr_base h1 _) (hfew _) h2 (star_cons h4'.1 _ _) (back_any h4'.2)) (by funext r m; rw [ev, g.base])) rfl
      · exact dflt g (pe_eq (me_mth PySem.F.slot_list_extend PySem.F.type_list_extend mt_extend (by decide) ok_extend (eb o _ X S b g h3).1 hes g.hK (attr_base h1 _) (hfew _) h2 (star_cons h4'.1 _ _) (back_any h4'.2)) (by funext r m; rw [ev, g.base])) rfl
  | .new u, x, X, S, b, g, h => by
    simp only [chkE, Bool.and_eq_true] at h
    have q := (eb u x X S b g h.2).1
    rw [h.1] at q
    exact dflt g (pe_eq (me_new q) (by funext r m; rw [ev]; try rfl)) (fresh_plain h.1 h.2)
  | .dict _ _, x, X, S, b, g, h => by simp [chkE] at h
  | .fld u j, x, X, S, b, g, h => by
    cases x <;> simp only [chkE, Bool.false_eq_true, Bool.and_eq_true, decide_eq_true_eq] at h
    obtain ⟨⟨h1, h2⟩, h3⟩ := h
    exact dflt g (pe_eq (me_fld g.hK h1 (eb u _ X S b g h3).1 (attr_base h2 _)) (by funext r m; rw [ev]; try rfl)) rfl
  | .emp, x, X, S, b, g, h => by simp [chkE] at h
theorem es_ok {W : Wd} {C : MP.Cx} : ∀ (es : Es) (xs : List Expr) (X : L2.Cx) (S : Sg) (b : Blk), Good W C X S b → chkEs W b es xs = true → noStars xs = true → PA X xs (tEs S (evs C es))
  | .nil, [], X, S, b, g, h, hs => by
    have e : evs C .nil = fun _ m => .ok [] m := by funext r m; rw [evs]
    rw [e]
    exact ms_nil
  | .nil, _ :: _, X, S, b, g, h, hs => by simp [chkEs] at h
  | .cons _ _, [], X, S, b, g, h, hs => by simp [chkEs] at h
  | .cons u r, x :: xs, X, S, b, g, h, hs => by
    simp only [chkEs, Bool.and_eq_true] at h
    rw [noStars_cons] at hs
    have e : evs C (.cons u r) = fun ρ m => (ev C u ρ m).bind fun x m => (evs C r ρ m).bind fun xs m => .ok (x :: xs) m := by funext ρ m; rw [evs]
    rw [e]
    exact ms_cons (eb u x X S b g h.1).1 (es_ok r xs X S b g h.2 hs.2) (star_cons hs.1 _ _)
theorem st_ok {W : Wd} {C : MP.Cx} : ∀ (es : Es) (us : List Expr) (X : L2.Cx) (S : Sg) (b : Blk), Good W C X S b → chkSt W b es us = true → Gl X "sorted" → X.mg "sorted" = none →
    ∃ f : MP.Env → M → R Val, ∀ p pos : Pos, PE X (.Call (.Name "sorted" p) us [] pos) (tE S true f) ∧ ev C (.blt .sortSet es) = f
  | .nil, us, X, S, b, g, h, _, _ => by
    obtain ⟨_, _, _, _, _, e, _⟩ := chkSt_inv h
    cases e
  | .cons x r, us, X, S, b, g, h, hg, hm => by
    obtain ⟨x', z, p', u, pos', e, rfl, rfl, h1, h2, h3, h4⟩ := chkSt_inv h
    injection e with e1 e2
    have q1 := (eb x u X S b g (e1 ▸ h4)).1
    exact ⟨_, fun p pos => ⟨me_sortSet g.calm g.un g.hK hg hm (g.gl h1).1 (g.blt _ h2) q1 (star_cons h3 _ _), by
      rw [e2]
      funext ρ m
      simp only [ev, evs]
      cases ev C x ρ m <;> rfl⟩⟩
theorem sc_ok {W : Wd} {C : MP.Cx} : ∀ (es : Es) (us : List Expr) (X : L2.Cx) (S : Sg) (b : Blk), Good W C X S b → chkSc W b es us = true → Gl X "sorted" → X.mg "sorted" = none →
    ∃ f : MP.Env → M → R Val, ∀ p pos : Pos, PE X (.Call (.Name "sorted" p) us [] pos) (tE S true f) ∧ ev C (.blt .sortSc es) = f
  | .nil, us, X, S, b, g, h, _, _ => by
    obtain ⟨_, _, _, _, _, _, _, e, _⟩ := chkSc_inv h
    cases e
  | .cons x r, us, X, S, b, g, h, hg, hm => by
    obtain ⟨x', v, p1, p2, it, scope, pos', e, rfl, h1, h2, h3, h4, h5, h6⟩ := chkSc_inv h
    injection e with e1 e2
    have q1 := (eb x it X S b g (e1 ▸ h6)).1
    exact ⟨_, fun p pos => ⟨me_sortSc g.calm g.un g.hK hg hm h1 h2 h3 h4 (fun z => folded_pure h5 _ z) q1, by
      rw [e2]
      funext ρ m
      simp only [ev, evs]
      cases ev C x ρ m <;> rfl⟩⟩
theorem rg_ok {W : Wd} {C : MP.Cx} : ∀ (es : Es) (us : List Expr) (X : L2.Cx) (S : Sg) (b : Blk), Good W C X S b → chkRg W b es us = true → Gl X "list" → X.mg "list" = none →
    ∃ f : MP.Env → M → R Val, ∀ p pos : Pos, PE X (.Call (.Name "list" p) us [] pos) (tE S true f) ∧ ev C (.blt .lrng es) = f
  | .nil, us, X, S, b, g, h, _, _ => by
    obtain ⟨_, _, _, _, _, _, _, e, _⟩ := chkRg_inv h
    cases e
  | .cons x .nil, us, X, S, b, g, h, hg, hm => by
    obtain ⟨x', r', z, p', u, vs, pos', e, rfl, rfl, h1, h2, h3, h4, h5, h6, h7⟩ := chkRg_inv h
    injection e with e1 e2
    have q1 := (eb x u X S b g (e1 ▸ h6)).1
    obtain rfl := chkEs_nil (e2 ▸ h7)
    exact ⟨_, fun p pos => ⟨me_lrng1 g.calm g.hK hg hm (g.gl h1).1 (g.blt _ h2) q1 (star_cons h3 _ _), by
      funext ρ m
      simp only [ev, evs]
      cases ev C x ρ m <;> rfl⟩⟩
  | .cons x (.cons y r), us, X, S, b, g, h, hg, hm => by
    obtain ⟨x', r', z, p', u, vs, pos', e, rfl, rfl, h1, h2, h3, h4, h5, h6, h7⟩ := chkRg_inv h
    injection e with e1 e2
    have q1 := (eb x u X S b g (e1 ▸ h6)).1
    obtain ⟨er, w, rfl, h8⟩ := chkEs_cons (e2 ▸ h7) h5
    have q2 := (eb y w X S b g h8).1
    rw [noStars_cons] at h4
    exact ⟨_, fun p pos => ⟨me_lrng2 g.calm g.hK hg hm (g.gl h1).1 (g.blt _ h2) q1 q2 (by rw [star_cons h3, star_cons h4.1]; rfl) (star_cons h4.1 _ _) (back_any (by simp [noStars, h4.1])), by
      rw [er]
      funext ρ m
      simp only [ev, evs]
      cases ev C x ρ m with
      | ok _ m1 =>
        dsimp only [R.bind]
        cases ev C y ρ m1 <;> rfl
      | exc _ _ _ => rfl
      | stuck => rfl⟩⟩
theorem sr_ok {W : Wd} {C : MP.Cx} : ∀ (es : Es) (us : List Expr) (X : L2.Cx) (S : Sg) (b : Blk), Good W C X S b → chkR1 W b es us = true → ∃ x u, es = .cons x (.cons (.con (.bl true)) .nil) ∧ us = [u] ∧ PE X u (tE S (fresh x) (ev C x))
  | .nil, us, X, S, b, g, h => by simp [chkR1] at h
  | .cons x r, us, X, S, b, g, h => by
    rcases us with _ | ⟨u, _ | ⟨u2, us⟩⟩ <;> simp only [chkR1, Bool.false_eq_true, Bool.and_eq_true] at h
    refine ⟨x, u, ?_, rfl, (eb x u X S b g h.2).1⟩
    rw [isTrue1_eq h.1]
theorem ks_ok {W : Wd} {C : MP.Cx} : ∀ (es : Es) (kws : List Keyword) (X : L2.Cx) (S : Sg) (b : Blk), Good W C X S b → chkEs W b es (kws.map (·.value)) = true → PK X kws (tEs S (evs C es))
  | .nil, [], X, S, b, g, h => by
    have e : evs C .nil = fun _ m => .ok [] m := by funext r m; rw [evs]
    rw [e]
    exact ⟨fun pos pins s σ H Q I ⟨r, m, al, re, rl, p⟩ => pk_nil.run pos pins s σ H Q I (Post.done (v := ([] : List Val)) p rl .nil)⟩
  | .nil, _ :: _, X, S, b, g, h => by simp [chkEs] at h
  | .cons _ _, [], X, S, b, g, h => by simp [chkEs] at h
  | .cons u r, ⟨nm, x, kp⟩ :: kws, X, S, b, g, h => by
    simp only [List.map_cons, chkEs, Bool.and_eq_true] at h
    have e : evs C (.cons u r) = fun ρ m => (ev C u ρ m).bind fun x m => (evs C r ρ m).bind fun xs m => .ok (x :: xs) m := by funext ρ m; rw [evs]
    rw [e]
    refine ⟨fun pos pins s σ H Q I ⟨ρ, m, al, re, rl, p⟩ => (pk_cons (eb u x X S b g h.1).1 (ks_ok r kws X S b g h.2)).run pos pins s σ H Q I ?_⟩
    refine ⟨ρ, m, al, re, rl, p.seq.mono ?_⟩
    rintro u1 H1 ⟨v, m1, al1, x1, rl1, q1, p1⟩
    refine ⟨ρ, m1, al1, re.ext x1, rl1, p1.seq.mono ?_⟩
    rintro w H2 ⟨v2, m2, al2, x2, rl2, q2, p2⟩
    exact p2.done rl2 (.cons (q1.1.ext x2 _ _) q2)
theorem and_ok {W : Wd} {C : MP.Cx} : ∀ (es : Es) (u : Expr) (us : List Expr) (X : L2.Cx) (S : Sg) (b : Blk), Good W C X S b → chkEs W b es us = true → ∀ {f : Bool} {fa : MP.Env → M → R Val} {pos : Pos}, PE X u (tE S f fa) →
    PE X (.BoolOp .And (u :: us) pos) (tE S false fun ρ m => (fa ρ m).bind fun v m => evAnd C es v ρ m)
  | .nil, u, [], X, S, b, g, h, f, fa, pos, ha => pe_eq (me_one ha) (by
    funext ρ m
    simp only [evAnd]
    exact R.bind_ok _)
  | .nil, _, _ :: _, X, S, b, g, h, f, fa, pos, ha => by simp [chkEs] at h
  | .cons _ _, _, [], X, S, b, g, h, f, fa, pos, ha => by simp [chkEs] at h
  | .cons c r, u, x :: xs, X, S, b, g, h, f, fa, pos, ha => by
    simp only [chkEs, Bool.and_eq_true] at h
    exact pe_eq (me_and g.hK ha (and_ok r x xs X S b g h.2 (eb c x X S b g h.1).1)) (by
      funext ρ m
      simp only [evAnd])
theorem or_ok {W : Wd} {C : MP.Cx} : ∀ (es : Es) (u : Expr) (us : List Expr) (X : L2.Cx) (S : Sg) (b : Blk), Good W C X S b → chkEs W b es us = true → ∀ {f : Bool} {fa : MP.Env → M → R Val} {pos : Pos}, PE X u (tE S f fa) →
    PE X (.BoolOp .Or (u :: us) pos) (tE S false fun ρ m => (fa ρ m).bind fun v m => evOr C es v ρ m)
  | .nil, u, [], X, S, b, g, h, f, fa, pos, ha => pe_eq (me_one ha) (by
    funext ρ m
    simp only [evOr]
    exact R.bind_ok _)
  | .nil, _, _ :: _, X, S, b, g, h, f, fa, pos, ha => by simp [chkEs] at h
  | .cons _ _, _, [], X, S, b, g, h, f, fa, pos, ha => by simp [chkEs] at h
  | .cons c r, u, x :: xs, X, S, b, g, h, f, fa, pos, ha => by
    simp only [chkEs, Bool.and_eq_true] at h
    exact pe_eq (me_or g.hK ha (or_ok r x xs X S b g h.2 (eb c x X S b g h.1).1)) (by
      funext ρ m
      simp only [evOr])
theorem andT_ok {W : Wd} {C : MP.Cx} : ∀ (es : Es) (u : Expr) (us : List Expr) (X : L2.Cx) (S : Sg) (b : Blk), Good W C X S b → chkEs W b es us = true → ∀ {fa : MP.Env → M → R Val} {pos : Pos}, PT X u (tBl S (tru_ fa)) →
    PW X (.BoolOp .And (u :: us) pos) (tBl S (tru_ fun ρ m => (fa ρ m).bind fun v m => evAnd C es v ρ m))
  | .nil, u, [], X, S, b, g, h, fa, pos, ha => pw_eq (pw_and1 ha) (by
    congr 1
    funext ρ m
    simp only [evAnd]
    exact R.bind_ok _)
  | .nil, _, _ :: _, X, S, b, g, h, fa, pos, ha => by simp [chkEs] at h
  | .cons _ _, _, [], X, S, b, g, h, fa, pos, ha => by simp [chkEs] at h
  | .cons c r, u, x :: xs, X, S, b, g, h, fa, pos, ha => by
    simp only [chkEs, Bool.and_eq_true] at h
    exact pw_eq (mw_and ha (andT_ok r x xs X S b g h.2 (eb c x X S b g h.1).2)) (by
      funext ρ m
      exact tru_and C fa c r ρ m)
theorem orT_ok {W : Wd} {C : MP.Cx} : ∀ (es : Es) (u : Expr) (us : List Expr) (X : L2.Cx) (S : Sg) (b : Blk), Good W C X S b → chkEs W b es us = true → ∀ {fa : MP.Env → M → R Val} {pos : Pos}, PT X u (tBl S (tru_ fa)) →
    PW X (.BoolOp .Or (u :: us) pos) (tBl S (tru_ fun ρ m => (fa ρ m).bind fun v m => evOr C es v ρ m))
  | .nil, u, [], X, S, b, g, h, fa, pos, ha => pw_eq (pw_or1 ha) (by
    congr 1
    funext ρ m
    simp only [evOr]
    exact R.bind_ok _)
  | .nil, _, _ :: _, X, S, b, g, h, fa, pos, ha => by simp [chkEs] at h
  | .cons _ _, _, [], X, S, b, g, h, fa, pos, ha => by simp [chkEs] at h
  | .cons c r, u, x :: xs, X, S, b, g, h, fa, pos, ha => by
    simp only [chkEs, Bool.and_eq_true] at h
    exact pw_eq (mw_or ha (orT_ok r x xs X S b g h.2 (eb c x X S b g h.1).2)) (by
      funext ρ m
      exact tru_or C fa c r ρ m)
theorem ch_ok {W : Wd} {C : MP.Cx} : ∀ (es : Es) (ops : List CmpOp) (xs : List Expr) (X : L2.Cx) (S : Sg) (b : Blk), Good W C X S b → chkEs W b es xs = true → ops.length = xs.length → xs.isEmpty = false → ∀ {pos : Pos}, PCh X S pos ops xs (fun v ρ m => evCmp C es ops v ρ m)
  | .nil, ops, [], X, S, b, g, h, hl, he, pos => by simp at he
  | .nil, _, _ :: _, X, S, b, g, h, hl, he, pos => by simp [chkEs] at h
  | .cons _ _, _, [], X, S, b, g, h, hl, he, pos => by simp at he
  | .cons c .nil, [op], [x], X, S, b, g, h, hl, he, pos => by
    simp only [chkEs, Bool.and_eq_true] at h
    have e : (fun v ρ m => evCmp C (.cons c .nil) [op] v ρ m) = cmpG op (ev C c) := by
      funext v ρ m
      rw [evCmp]
      try rfl
    rw [e]
    exact mc_last g.hK g.un (eb c x X S b g h.1).1
  | .cons c .nil, ops, x :: y :: xs, X, S, b, g, h, hl, he, pos => by simp [chkEs] at h
  | .cons c .nil, [], [x], X, S, b, g, h, hl, he, pos => by simp at hl
  | .cons c .nil, _ :: _ :: _, [x], X, S, b, g, h, hl, he, pos => by simp at hl
  | .cons c (.cons d r), ops, [x], X, S, b, g, h, hl, he, pos => by simp [chkEs] at h
  | .cons c (.cons d r), [], x :: y :: xs, X, S, b, g, h, hl, he, pos => by simp at hl
  | .cons c (.cons d r), [op], x :: y :: xs, X, S, b, g, h, hl, he, pos => by simp at hl
  | .cons c (.cons d r), op :: op' :: ops, x :: y :: xs, X, S, b, g, h, hl, he, pos => by
    have h' := h
    simp only [chkEs, Bool.and_eq_true] at h
    have h2 : chkEs W b (.cons d r) (y :: xs) = true := by
      simp only [chkEs, Bool.and_eq_true]
      exact h.2
    have e : (fun v ρ m => evCmp C (.cons c (.cons d r)) (op :: op' :: ops) v ρ m) = cmpN op (ev C c) (fun v ρ m => evCmp C (.cons d r) (op' :: ops) v ρ m) := by
      funext v ρ m
      rw [evCmp]
      all_goals first | rfl | (intros; simp_all; done)
    rw [e]
    exact mc_cons g.hK g.un (eb c x X S b g h.1).1 (ch_ok (.cons d r) (op' :: ops) (y :: xs) X S b g h2 (by simpa using hl) rfl)
theorem cd_ok {W : Wd} {C : MP.Cx} : ∀ (es : Es) (xs : List Expr) (X : L2.Cx) (S : Sg) (b : Blk), Good W C X S b → chkEs W b es xs = true → xs.length ≤ 1 → PTs X xs (tBl S (evCd C es))
  | .nil, [], X, S, b, g, h, hl => by
    have e : evCd C .nil = fun _ m => .ok true m := by funext r m; rw [evCd]
    rw [e]
    exact ⟨fun pins s σ H Q I ⟨r, m, al, re, rl, p⟩ => pts_nil.run pins s σ H Q I (Post.done (v := true) p rl rfl)⟩
  | .nil, _ :: _, X, S, b, g, h, hl => by simp [chkEs] at h
  | .cons _ _, [], X, S, b, g, h, hl => by simp [chkEs] at h
  | .cons c .nil, [x], X, S, b, g, h, hl => by
    simp only [chkEs, Bool.and_eq_true] at h
    have e : evCd C (.cons c .nil) = tru_ (ev C c) := by funext r m; rw [evCd]; try rfl
    rw [e]
    exact pts_one (eb c x X S b g h.1).2
  | .cons c .nil, _ :: _ :: _, X, S, b, g, h, hl => by simp at hl
  | .cons c (.cons _ _), [_], X, S, b, g, h, hl => by simp [chkEs] at h
  | .cons c (.cons _ _), _ :: _ :: _, X, S, b, g, h, hl => by simp at hl
theorem it_ok {W : Wd} {C : MP.Cx} : ∀ (it : It) (x tge : Expr) (X : L2.Cx) (S : Sg) (b : Blk), Good W C X S b → chkIt W b it x = true → zipTg it tge = true → PI X tge x (tI S (evIt C it)) ∧ ∀ env z, foldedSetIterable x env z = pure z
  | .val u, x, tge, X, S, b, g, h, hz => by
    simp only [chkIt, Bool.and_eq_true] at h
    have e : evIt C (.val u) = fun r m => (ev C u r m).bind fun x m => (opt (iterOf (dr m x)) m).bind fun xs m => .ok (xs, watch x) m := by funext r m; rw [evIt]
    rw [e]
    exact ⟨mi_val g.hK (eb u x X S b g h.2).1, fun env z => folded_pure h.1 env z⟩
  | .rng es, x, tge, X, S, b, g, h, hz => by
    cases x <;> first | (simp only [chkIt, Bool.false_eq_true] at h; done) | skip
    rename_i fn us kws _
    cases fn <;> cases kws <;> simp only [chkIt, Bool.false_eq_true, Bool.and_eq_true, decide_eq_true_eq, Bool.or_eq_true] at h
    obtain ⟨⟨⟨⟨⟨rfl, h1⟩, h2⟩, h3⟩, h4⟩, h5⟩ := h
    obtain ⟨hg, hd⟩ := g.gl h1
    have hm := g.blt _ h2
    have hes := es_ok es us X S b g h4 h3
    have e : evIt C (.rng es) = fun r m => (evs C es r m).bind fun vs m => (opt (rng vs) m).bind fun xs m => .ok (xs, []) m := by funext r m; rw [evIt]
    rw [e]
    have hlen := chkEs_len h4
    refine ⟨?_, fun env z => rfl⟩
    rcases h5 with h5 | h5
    · obtain ⟨u, rfl⟩ := List.length_eq_one_iff.mp h5
      have h3' := noStars_cons.mp h3
      exact mi_rng1 hg hm hes (star_cons h3'.1 _ _) fun r m vs m' e => by rw [evs_len C es r m vs m' e, ← hlen]; rfl
    · obtain ⟨u, v, rfl⟩ : ∃ u v, us = [u, v] := by
        match us, h5 with
        | [u, v], _ => exact ⟨u, v, rfl⟩
      have h3' := noStars_cons.mp h3
      have h3'' := noStars_cons.mp h3'.2
      exact mi_rng2 hg hm hes (by rw [star_cons h3'.1, star_cons h3''.1]; rfl) (star_cons h3''.1 _ _) fun r m vs m' e => by rw [evs_len C es r m vs m' e, ← hlen]; rfl
  | .zip u v st, x, tge, X, S, b, g, h, hz => by
    cases x <;> first | (simp only [chkIt, Bool.false_eq_true] at h; done) | skip
    rename_i fn us kws _
    cases fn <;> first | (simp only [chkIt, Bool.false_eq_true] at h; done) | skip
    rcases us with _ | ⟨y, _ | ⟨z, _ | ⟨w, us⟩⟩⟩ <;> first | (simp only [chkIt, Bool.false_eq_true] at h; done) | skip
    simp only [chkIt, Bool.false_eq_true, Bool.and_eq_true, decide_eq_true_eq] at h
    obtain ⟨⟨⟨⟨⟨⟨⟨rfl, h1⟩, h2⟩, h3⟩, h4⟩, h7⟩, h5⟩, h6⟩ := h
    obtain ⟨hg, hd⟩ := g.gl h1
    have hm := g.blt _ h2
    cases tge <;> first | (simp only [zipTg, Bool.false_eq_true] at hz; done) | skip
    have e : evIt C (.zip u v st) = fun r m => (ev C u r m).bind fun x m => (ev C v r m).bind fun y m => (opt (zipOf st (dr m x) (dr m y)) m).bind fun zs m => .ok (zs, watch x ++ watch y) m := by funext r m; rw [evIt]
    rw [e]
    cases st with
    | false =>
      have h7 : kws.isEmpty = true := h7
      rw [List.isEmpty_iff.mp h7]
      exact ⟨mi_zip g.hK hg hm (eb u y X S b g h5).1 (eb v z X S b g h6).1 (star_cons h3 _ _) (star_cons h4 _ _) (back_any (by simp [noStars, h4])), fun env z => rfl⟩
    | true =>
      obtain ⟨kz, kcp, kp, e6⟩ := kwTrue_eq h7
      rw [e6]
      exact ⟨mi_zipS g.hK hg hm (eb u y X S b g h5).1 (eb v z X S b g h6).1 (star_cons h3 _ _) (star_cons h4 _ _) (back_any (by simp [noStars, h4])), fun env z => rfl⟩
  | .enu u, x, tge, X, S, b, g, h, hz => by
    cases x <;> first | (simp only [chkIt, Bool.false_eq_true] at h; done) | skip
    rename_i fn us kws _
    cases fn <;> first | (simp only [chkIt, Bool.false_eq_true] at h; done) | skip
    rcases us with _ | ⟨y, _ | ⟨z, us⟩⟩ <;> first | (simp only [chkIt, Bool.false_eq_true] at h; done) | skip
    cases kws <;> simp only [chkIt, Bool.false_eq_true, Bool.and_eq_true, decide_eq_true_eq] at h
    obtain ⟨⟨⟨⟨rfl, h1⟩, h2⟩, h3⟩, h4⟩ := h
    obtain ⟨hg, hd⟩ := g.gl h1
    have hm := g.blt _ h2
    cases tge <;> first | (simp only [zipTg, Bool.false_eq_true] at hz; done) | skip
    have e : evIt C (.enu u) = fun r m => (ev C u r m).bind fun x m => (opt (seqOf (dr m x)) m).bind fun xs m => .ok (enuL 0 xs, watch x) m := by funext r m; rw [evIt]
    rw [e]
    exact ⟨mi_enu g.hK hg hm (eb u y X S b g h4).1 (star_cons h3 _ _), fun env z => rfl⟩
  | .items _, x, tge, X, S, b, g, h, hz => by simp [chkIt] at h
end
end MP
set_option Elab.async false
set_option linter.all false
set_option maxRecDepth 100000
set_option maxHeartbeats 2000000
/-! MPStm: statements: checked and sound. -/
namespace MP
open PySem PySem.Spec PyProof.Rows L2
def isList : Expr → Bool
  | .List _ _ => true
  | _ => false
def isTup : Expr → Bool
  | .Tuple _ _ _ => true
  | _ => false
/-- are the stores exchanged -/
def swP (sc : Scope) (ts vs : List Expr) : Option (Option (List Str)) :=
  if (!(ts.length == 2 || ts.length == 3) || vs.length != ts.length) = true then some none
  else if (vs.any fun | .Starred .. => true | _ => false) = true then some none
  else if ((ts.filterMap fun
      | .Name id pos => if (sc.names.lookup id == some .local && pos.line == (ts.head?.map (·.pos.line)).getD 0) = true then some id else none
      | _ => none).length != ts.length || (ts.filterMap fun
      | .Name id pos => if (sc.names.lookup id == some .local && pos.line == (ts.head?.map (·.pos.line)).getD 0) = true then some id else none
      | _ => none).eraseDups.length != (ts.filterMap fun
      | .Name id pos => if (sc.names.lookup id == some .local && pos.line == (ts.head?.map (·.pos.line)).getD 0) = true then some id else none
      | _ => none).length) = true then some none
  else if vs.all (foldedForSure 8) = true then some none
  else if vs.all (constantsAlone 8) = true then none
  else some (some (ts.filterMap fun
      | .Name id pos => if (sc.names.lookup id == some .local && pos.line == (ts.head?.map (·.pos.line)).getD 0) = true then some id else none
      | _ => none))
theorem swP_ok {env : PySem.Env} {sc : Scope} (hsc : env.scope = sc) (hk : sc.kind = .function) {ts vs : List Expr} {k k2 : Nat} {p p2 : Pos} {o : Option (List Str)} (h : swP sc ts vs = some o) :
    swappedStores [.Tuple ts k p] (.Tuple vs k2 p2) env = pure o := by
  subst hsc
  have hb : (env.blockKind != .function) = false := by
    unfold Env.blockKind
    rw [hk]
    rfl
  unfold swP at h
  unfold swappedStores Env.kindOf
  dsimp only
  split at h
  · rename_i h1
    cases h
    have : (!(ts.length == 2 || ts.length == 3) || vs.length != ts.length || env.blockKind != .function) = true := by rw [h1]; rfl
    rw [if_pos this]
  · rename_i h1
    have : ¬ (!(ts.length == 2 || ts.length == 3) || vs.length != ts.length || env.blockKind != .function) = true := by
      rw [hb, Bool.or_false]
      exact h1
    rw [if_neg this]
    split at h
    · rename_i h2
      cases h
      exact if_pos h2
    · rename_i h2
      refine (if_neg h2).trans ?_
      split at h
      · rename_i h3
        cases h
        exact if_pos h3
      · rename_i h3
        refine (if_neg h3).trans ?_
        split at h
        · rename_i h4
          cases h
          exact if_pos h4
        · rename_i h4
          refine (if_neg h4).trans ?_
          split at h
          · cases h
          · rename_i h5
            cases h
            refine (if_neg h5).trans ?_
            rfl
theorem sw_none {t v : Expr} {env : PySem.Env} (h : (isTup v && (isTup t || isList t)) = false) : swappedStores [t] v env = pure none := by
  cases v <;> first | rfl | skip
  all_goals (cases t <;> first | rfl | (simp [isTup, isList] at h; done))
def swB (sc : Scope) : Expr → Expr → Bool
  | .Name y py, .ListComp _ _ s p => sc.names.lookup y == some .local && py.line == p.line && !(s.names.any fun (n, k) => n == y && (k == .local || k == .cell))
  | _, _ => false
theorem sole_comp {env : PySem.Env} {sc : Scope} (hsc : env.scope = sc) (hk : sc.kind = .function) {t u : Expr} {gs : List Comprehension} {s : Scope} {p : Pos} {l : Nat} : swapsWithSole [t] (.ListComp u gs s p) l env = pure (swB sc t (.ListComp u gs s p)) := by
  subst hsc
  have hb : (env.blockKind == .function) = true := by
    unfold Env.blockKind
    rw [hk]
    rfl
  unfold swapsWithSole swapsWith
  cases t <;> first | rfl | skip
  rename_i y py
  simp only [hb, Env.kindOf, swB, Bool.true_and, Expr.pos]
def asgOk (b : Blk) (t v : Expr) : Bool := noStar t && (!isComp v || (isListComp v && !swB b.sc t v)) && (match t, v with
    | .Tuple ts _ _, .Tuple vs _ _ => decide (swP b.sc ts vs = some none)
    | t, v => !(isTup v && (isTup t || isList t)))
where isListComp : Expr → Bool
  | .ListComp _ _ _ _ => true
  | _ => false
def parOk (b : Blk) : Tg → E → Expr → Expr → Bool
  | .tup [.nm i, .nm j], .tup (.cons _ (.cons _ .nil)), .Tuple [.Name x px, .Name y py] k p, .Tuple [u, v] k2 p2 => decide (i ≠ j) && decide (b.N[i]? = some x) && decide (b.N[j]? = some y) && decide (b.sc.names.lookup x = some .local) && decide (b.sc.names.lookup y = some .local) &&
      decide (swP b.sc [.Name x px, .Name y py] [u, v] = some (some [x, y]))
  | .tup [.nm i, .nm j, .nm l], .tup (.cons _ (.cons _ (.cons _ .nil))), .Tuple [.Name x px, .Name y py, .Name z pz] k p, .Tuple [u, v, w] k2 p2 => decide (i ≠ j) && decide (i ≠ l) && decide (j ≠ l) && decide (b.N[i]? = some x) && decide (b.N[j]? = some y) && decide (b.N[l]? = some z) && decide (b.sc.names.lookup x = some .local) && decide (b.sc.names.lookup y = some .local) && decide (b.sc.names.lookup z = some .local) &&
      decide (swP b.sc [.Name x px, .Name y py, .Name z pz] [u, v, w] = some (some [x, y, z]))
  | _, _, _, _ => false
def stoOk (b : Blk) : Tg → Expr → Expr → Bool
  | .nm i, .Name y py, v => decide (b.N[i]? = some y) && decide (b.sc.names.lookup y = some .local) && swB b.sc (.Name y py) v
  | _, _, _ => false
def compE : E → Option (Bool × E)
  | .comp false elt own tg it cd => some (false, .comp false elt own tg it cd)
  | .new (.comp false elt own tg it cd) => some (true, .comp false elt own tg it cd)
  | _ => none
/-- except (C1, ..) as n: y = n -/
def hdOk (W : Wd) (b : Blk) (hs : Hs) (hds : List ExceptHandler) : Bool := match hs, hds with
  | .cons cls (some i) (.cons (.asg (.nm j) (.var i')) .nil) .nil, [.ExceptHandler (some T) (some n) [.Assign [.Name y _] (.Name n' _) _] _] =>
      decide (i' = i) && decide (n' = n) && decide (b.N[i]? = some n) && decide (b.N[j]? = some y) && decide (b.sc.names.lookup n = some .local) && decide (b.sc.names.lookup y = some .local) && !(n == ("__debug__" : Str)) && !(n == ("__classdict__" : Str)) && clsOk W b cls T
  | _, _ => false
theorem hdOk_inv {W : Wd} {b : Blk} {hs : Hs} {hds : List ExceptHandler} (h : hdOk W b hs hds = true) : ∃ cls i j T n y py pn apos pos', hs = .cons cls (some i) (.cons (.asg (.nm j) (.var i)) .nil) .nil ∧ hds = [.ExceptHandler (some T) (some n) [.Assign [.Name y py] (.Name n pn) apos] pos'] ∧
    b.N[i]? = some n ∧ b.N[j]? = some y ∧ b.sc.names.lookup n = some .local ∧ b.sc.names.lookup y = some .local ∧ (n == ("__debug__" : Str)) = false ∧ (n == ("__classdict__" : Str)) = false ∧ clsOk W b cls T = true := by
  unfold hdOk at h
  split at h
  · simp only [Bool.and_eq_true, decide_eq_true_eq, Bool.not_eq_true'] at h
    obtain ⟨⟨⟨⟨⟨⟨⟨⟨rfl, rfl⟩, h1⟩, h2⟩, h3⟩, h4⟩, h5⟩, h6⟩, h7⟩ := h
    exact ⟨_, _, _, _, _, _, _, _, _, _, rfl, rfl, h1, h2, h3, h4, h5, h6, h7⟩
  · cases h
/-- as many arguments as the class has fields -/
def raiseOk (c : Nat) (us : List Expr) : Bool := if fldNo c = 99 then us.isEmpty else decide (us.length = 1)
def raiseB (W : Wd) (b : Blk) (c : Nat) (es : Es) : Stmt → Bool
  | .Raise (some (.Call y us [] _)) none _ => excName_ W b c y && noStars us && chkEs W b es us && raiseOk c us
  | _ => false
theorem raiseB_inv {W : Wd} {b : Blk} {c : Nat} {es : Es} {x : Stmt} (h : raiseB W b c es x = true) : ∃ y us pos pos', x = .Raise (some (.Call y us [] pos)) none pos' ∧ excName_ W b c y = true ∧ noStars us = true ∧ chkEs W b es us = true ∧ raiseOk c us = true := by
  unfold raiseB at h
  split at h
  · simp only [Bool.and_eq_true] at h
    obtain ⟨⟨⟨h1, h2⟩, h3⟩, h4⟩ := h
    exact ⟨_, _, _, _, rfl, h1, h2, h3, h4⟩
  · cases h
mutual
def chkS (W : Wd) (b : Blk) : S → Stmt → Bool
  | .asg tg e, .Assign [t] v _ => (chkE W b e v && chkTg b tg t && asgOk b t v) || (chkE W b e v && parOk b tg e t v) || (chkE W b e v && (compE e).isSome && stoOk b tg t v) || (chkE W b e v && starOk b tg t && !isComp v && !isTup v)
  | .set o i e, .Assign [.Subscript x y _] v _ => chkE W b e v && chkE W b o x && chkE W b i y && plainIx y && !isComp v
  | .exp e, .Expr v _ => chkE W b e v && !isComp v
  | .ret e, .Return (some v) _ => chkE W b e v
  | .retn, .Return none _ => true
  | .iff c p q, .If x us vs _ => chkE W b c x && chkSs W b p us && chkSs W b q vs
  | .for tg it body, .For t x us [] _ => chkTg b tg t && chkIt W b it x && zipTg it t && chkSs W b body us
  | .whl c body, .While x us [] _ => chkE W b c x && chkSs W b body us
  | .aug i op e, .AugAssign (.Name y _) op' v _ => decide (op = op') && (decide (op = .Add) || decide (op = .Sub) || decide (op = .Mult)) && decide (b.N[i]? = some y) && locOk b y && chkE W b e v
  | .pass, .Pass _ => true
  | .stop, _ => true
  | .raise c es, x => raiseB W b c es x
  | .try body hs, .Try xs hds [] [] _ => hdOk W b hs hds && chkSs W b body xs
  | _, _ => false
def chkSs (W : Wd) (b : Blk) : Ss → List Stmt → Bool
  | .nil, [] => true
  | .cons s r, x :: xs => chkS W b s x && chkSs W b r xs
  | _, _ => false
end
theorem ps_eq {X : L2.Cx} {S : Sg} {x : Stmt} {F G : MP.Env → M → Rs} (h : PS X x (tS S F)) (e : G = F) : PS X x (tS S G) := e ▸ h
theorem asg_imp {X : L2.Cx} {S : Sg} {b : Blk} {W : Wd} {C : MP.Cx} (g : Good W C X S b) {i : Nat} {F : MP.Env → M → R Val} {f : Bool} {D : Ends} {s : L2.St} {H : Hp} {t : TE} (hi : i < b.N.length)
    (ht : ∀ s H Q, tE S f F s H Q → t s H Q) (h : tS S (fun r m => (F r m).thn r fun v m => match bindT (.nm i) (Tg.see m (.nm i) v) r with
      | some r => .nxt r m
      | none => .stuck) D s H) : tAsg t (gName i) D s H := by
  obtain ⟨r, m, al, re, rl, p⟩ := h
  refine ht _ _ _ ⟨r, m, al, re, rl, (p.thn re).mono ?_⟩
  rintro u H1 ⟨v, m1, al1, x1, rl1, q1, p1⟩
  have p1 : PostS S al1 H1 D (match (if i < r.length then some (r.set i (some v)) else none) with
    | some r => .nxt r m1
    | none => .stuck) := p1
  split at p1
  · rename_i r' e
    split at e
    · cases e
      exact p1 _ H1 al1 (.refl _ _) rl1 ((re.ext x1).set q1.1 i)
    · cases e
  · exact p1.elim
theorem new_imp {S : Sg} {fa : MP.Env → M → R Val} (s : L2.St) (H : Hp) (Q : VK) (h : tE S false (fun r m => (fa r m).bind fun x m => match x with
    | .lst xs => .ok (.ref m.length) (m ++ [.lst xs])
    | _ => .stuck) s H Q) : tE S true fa s H Q := by
  obtain ⟨r, m, al, re, rl, p⟩ := h
  refine ⟨r, m, al, re, rl, ?_⟩
  dsimp only at p
  cases e : fa r m with
  | stuck => rw [e] at p; exact p
  | exc _ _ _ => rw [e] at p; exact p
  | ok v m1 =>
    rw [e] at p
    intro u H1 al1 x1 rl1 q1
    cases v with
    | lst xs =>
      obtain ⟨a', rfl, h0, rl2⟩ := q1.2 rfl xs rfl
      have p : Post S (relV S false H) al H s Q (.ok (.ref m1.length) (m1 ++ [.lst xs])) := p
      refine p (.ref a') H1 (al1.add [a']) ⟨?_, x1.keep, x1.dom⟩ rl2 ⟨.ref ?_, fun h => by cases h⟩
      · obtain ⟨be, hs, rfl, hb, hh⟩ := x1.more
        refine ⟨be ++ [a'], hs, by simp [Al.add], fun p hp => ?_, hh⟩
        rcases List.mem_append.mp hp with hp | hp
        · exact hb p hp
        · rw [List.mem_singleton] at hp; subst hp; exact h0
      · rw [← rl1.len]
        show (al1.c ++ [a'])[al1.c.length]? = _
        rw [List.getElem?_append_right (Nat.le_refl _)]
        simp
    | _ => exact p.elim
theorem chkE_new {W : Wd} {b : Blk} (u : E) (v : Expr) : chkE W b (.new u) v = (fresh u && chkE W b u v) := by rw [chkE]
/-- a comprehension that is stored at once -/
theorem comp_sto {W : Wd} {C : MP.Cx} {elt : E} {own : List Nat} {tg : Tg} {it : It} {cd : Es} {X : L2.Cx} {S : Sg} {b : Blk} {i : Nat} {y : Str} {py spos : Pos} {v : Expr} (g : Good W C X S b) (h : chkE W b (.comp false elt own tg it cd) v = true) (hs : stoOk b (.nm i) (.Name y py) v = true) :
    ∃ t : TE, PS X (.Assign [.Name y py] v spos) (tAsg t (gName i)) ∧ ∀ s H Q, tE S true (ev C (.comp false elt own tg it cd)) s H Q → t s H Q := by
  simp only [stoOk, Bool.and_eq_true, decide_eq_true_eq] at hs
  obtain ⟨⟨s1, s2⟩, s3⟩ := hs
  cases v <;> first | (simp only [chkE, Bool.false_eq_true] at h; done) | skip
  rename_i u gs scope _
  cases gs <;> first | (simp only [chkE, Bool.false_eq_true] at h; done) | skip
  rename_i ge gr
  cases gr <;> simp only [chkE, Bool.false_eq_true, Bool.and_eq_true, decide_eq_true_eq, Bool.not_eq_true', List.all_eq_true] at h
  obtain ⟨⟨⟨⟨⟨⟨⟨⟨_, h0⟩, h1⟩, h2⟩, h3⟩, h4⟩, h5⟩, h6, h6'⟩, h7⟩ := h
  obtain ⟨tge, iter, ifs, asy⟩ := ge
  simp only at h0 h1 h2 h3 h4 h5 h6 h6' h7
  subst h0
  have ok : BlkOk X.N X.env.scope scope (own.map fun i => (b.N.getD i default, i)) := by
    rw [g.hN, g.scope]
    exact blkOk_by h3
  obtain ⟨hi, hns⟩ := it_ok it iter tge X S b g h1 h2
  have sw := (sole_comp (l := spos.line) g.scope g.kind (t := .Name y py) (u := u) (gs := [⟨tge, iter, ifs, 0⟩]) (s := scope) (p := ‹Pos›)).trans (by rw [s3])
  obtain ⟨t, ht, hq⟩ := ms_comp (S := S) (spos := spos) g.calm (g.hN ▸ g.nd) (g.hN ▸ s1) (by rw [g.scope]; exact s2) sw hi ok (fun i hi => by rw [own_snd]; simpa using h4 i hi) (fun s H Ca cl fp => tg_ok (g.blk ok.kind s H Ca cl fp) tg tge h5)
      (fun s H Ca cl fp => cd_ok cd ifs _ _ _ (g.blk ok.kind s H Ca cl fp) h6 h6') (fun s H Ca cl fp => (eb elt u _ _ _ (g.blk ok.kind s H Ca cl fp) h7).1) (hns X.env)
  refine ⟨t, ht, fun s H Q q => hq s H Q ?_⟩
  have e : compF (evIt C it) tg ((own.map fun i => (b.N.getD i default, i)).map (·.2)) (evCd C cd) (ev C elt) = ev C (.comp false elt own tg it cd) := by
    funext r m
    rw [ev, own_snd]
    unfold compF
    congr 1
  rw [e]
  exact q
def augF (i : Nat) (op : Operator) (f : MP.Env → M → R Val) : MP.Env → M → Rs := fun ρ m => match ρ[i]? with
  | some (some x) => (f ρ m).thn ρ fun y m => match x, y, op with
    | .int a, .int b, .Add => .nxt (ρ.set i (some (.int (a + b)))) m
    | .int a, .int b, .Sub => .nxt (ρ.set i (some (.int (a - b)))) m
    | .int a, .int b, .Mult => if smallI a || smallI b then .nxt (ρ.set i (some (.int (a * b)))) m else .stuck
    | _, _, _ => .stuck
  | _ => .stuck
theorem ms_augM {X : L2.Cx} {S : Sg} {i : Nat} {x : Str} {e : Expr} {f1 : Bool} {fe : MP.Env → M → R Val} {pos pos' : Pos}
    (hN : X.N.Nodup) (hi : X.N[i]? = some x) (hx : L2.Loc X.env.scope x) (hf : X.fn x = true ∨ X.env.scope.names.lookup x = some .local) (he : PE X e (tE S f1 fe)) :
    PS X (.AugAssign (.Name x pos') .Mult e pos) (tS S (augF i .Mult fe)) := by
  refine ps_imp (ps_aug hN hi hx he (show PIp X .Mult _ from fun pins s σ H x y v u Q I r1 r2 h => iop_mul pins s σ H x y v u Q I r1 r2 h) hf) fun D s H ⟨r, m, al, re, rl, p⟩ => ?_
  unfold augF at p
  cases er : r[i]? with
  | none => rw [er] at p; exact p.elim
  | some o =>
    cases o with
    | none => rw [er] at p; exact p.elim
    | some v =>
      rw [er] at p
      obtain ⟨u, e1, q⟩ := re.get i v er
      refine ⟨u, e1, r, m, al, re, rl, (PostS.thn p re).mono ?_⟩
      rintro w H1 ⟨y, m1, al1, x1, rl1, q1, p1⟩
      cases v <;> first | exact p1.elim | skip
      cases y <;> first | exact p1.elim | skip
      rename_i a b
      cases q
      cases q1.1
      dsimp only at p1
      split at p1
      · rename_i hz
        rw [Bool.or_eq_true, smallI_iff, smallI_iff] at hz
        exact ⟨a, b, rfl, rfl, hz, p1 _ H1 al1 (.refl _ _) rl1 ((re.ext x1).set (.int _) i)⟩
      · exact p1.elim
theorem ms_aug {X : L2.Cx} {S : Sg} {i : Nat} {op : Operator} {x : Str} {e : Expr} {f1 : Bool} {fe : MP.Env → M → R Val} {pos pos' : Pos} {g : Int → Int → Int} (ho : PIp X op (ipI g))
    (hN : X.N.Nodup) (hi : X.N[i]? = some x) (hx : L2.Loc X.env.scope x) (hf : X.fn x = true ∨ X.env.scope.names.lookup x = some .local) (he : PE X e (tE S f1 fe)) (hg : ∀ a b : Int, op = .Add → g a b = a + b) (hg2 : ∀ a b : Int, op = .Sub → g a b = a - b) (hm : op ≠ .Mult) :
    PS X (.AugAssign (.Name x pos') op e pos) (tS S (augF i op fe)) := by
  refine ps_imp (ps_aug hN hi hx he ho hf) fun D s H ⟨r, m, al, re, rl, p⟩ => ?_
  unfold augF at p
  cases er : r[i]? with
  | none => rw [er] at p; exact p.elim
  | some o =>
    cases o with
    | none => rw [er] at p; exact p.elim
    | some v =>
      rw [er] at p
      obtain ⟨u, e1, q⟩ := re.get i v er
      refine ⟨u, e1, r, m, al, re, rl, (PostS.thn p re).mono ?_⟩
      rintro w H1 ⟨y, m1, al1, x1, rl1, q1, p1⟩
      cases v <;> first | exact p1.elim | skip
      cases y <;> first | exact p1.elim | skip
      rename_i a b
      cases q
      cases q1.1
      refine ⟨a, b, rfl, rfl, ?_⟩
      cases op <;> first | exact p1.elim | skip
      · rw [hg a b rfl]
        exact p1 _ H1 al1 (.refl _ _) rl1 ((re.ext x1).set (.int _) i)
      · rw [hg2 a b rfl]
        exact p1 _ H1 al1 (.refl _ _) rl1 ((re.ext x1).set (.int _) i)
      · exact absurd rfl hm
/-- a def's own frame -/
structure GoodF (X : L2.Cx) : Prop where
  stk : X.stack = X.env :: X.outer
  frm : X.env.frame = some X.env.locals
  ex : X.ex = []
theorem Good.try_ {W : Wd} {C : MP.Cx} {X : L2.Cx} {S : Sg} {b : Blk} (g : Good W C X S b) {V : WX} {pn : List (Addr × Obj)} {xe : Value → Shared → Prop} (tk : Takes (X.tr pn xe) V) (po : PassesOwn (model X.prog X.w) X.A X.env xe) : Good W C (X.tr pn xe) { S with W := V } b where
  hK := g.hK
  calm := g.calm
  scope := g.scope
  kind := g.kind
  hN := g.hN
  nd := g.nd
  fc := g.fc
  gd := g.gd
  un := g.un
  tk := tk
  po := po
  base := g.base
  xr := g.xr
  sup := g.sup
  xs := fun c h => ⟨(g.xs c h).std, (g.xs c h).room, (g.xs c h).lt⟩
  call := g.call
  blt := g.blt
  nums := g.nums
  txs := g.txs
  fns := g.fns
mutual
theorem s_ok {W : Wd} {C : MP.Cx} : ∀ (s : S) (x : Stmt) (X : L2.Cx) (S : Sg) (b : Blk), Good W C X S b → GoodF X → chkS W b s x = true → PS X x (tS S (ex C s))
  | .asg tg e, x, X, S, b, g, gf, h => by
    cases x <;> first | (simp only [chkS, Bool.false_eq_true] at h; done) | skip
    rename_i ts v apos
    cases ts <;> first | (simp only [chkS, Bool.false_eq_true] at h; done) | skip
    rename_i t ts
    cases ts <;> simp only [chkS, Bool.false_eq_true, Bool.and_eq_true, Bool.or_eq_true] at h
    have ee : ex C (.asg tg e) = fun r m => (ev C e r m).thn r fun v m => match bindT tg (tg.see m v) r with
        | some r => .nxt r m
        | none => .stuck := by
      funext r m
      rw [ex]
      try rfl
    rcases h with ((⟨⟨h1, h2⟩, h3⟩ | ⟨h1, h2⟩) | ⟨⟨h1, h2⟩, h3⟩) | ⟨⟨⟨h1, h2⟩, h3⟩, h4⟩
    rotate_left 3
    · rw [ee]
      simp only [Bool.not_eq_true'] at h3 h4
      exact star_ok g h2 (eb e v X S b g h1).1 h3 fun es k p _ => sw_none (by rw [h4]; rfl)
    · rw [ee]
      unfold asgOk at h3
      simp only [Bool.and_eq_true, Bool.or_eq_true, Bool.not_eq_true'] at h3
      obtain ⟨⟨h3, h4⟩, h5⟩ := h3
      refine ms_asg (eb e v X S b g h1).1 (tg_ok g tg t h2) ?_ ?_ (by rw [ass_cons h3]; rfl)
      · rcases h4 with h4 | h4
        · exact sole_false h4
        · cases v <;> simp only [asgOk.isListComp, Bool.false_eq_true, and_false, false_and] at h4
          rw [sole_comp g.scope g.kind, h4.2]
      · split at h5
        · exact swP_ok g.scope g.kind (of_decide_eq_true h5)
        · exact sw_none ((Bool.not_eq_true' _).mp h5)
    · rw [ee]
      unfold parOk at h2
      split at h2
      · rename_i i j ea ec x px y py k p u v k2 p2
        simp only [Bool.and_eq_true, decide_eq_true_eq] at h2
        obtain ⟨⟨⟨⟨⟨h3, h4⟩, h5⟩, h6⟩, h7⟩, h8⟩ := h2
        simp only [chkE, Bool.and_eq_true] at h1
        have e2 : ev C (.tup (.cons ea (.cons ec .nil))) = fun r m => (evs C (.cons ea (.cons ec .nil)) r m).bind fun vs m => if vs.length ≤ LINE then .ok (.tup vs) m else .stuck := by
          funext r m
          rw [ev]
        rw [e2]
        exact ms_par g.calm (g.hN ▸ g.nd) (g.hN ▸ h4) (g.hN ▸ h5) h3 (by rw [g.scope]; exact h6) (by rw [g.scope]; exact h7) (es_ok _ _ X S b g h1.2 h1.1) (swP_ok g.scope g.kind h8) rfl
      · rename_i i j l ea ec ed x px y py z pz k p u v w k2 p2
        simp only [Bool.and_eq_true, decide_eq_true_eq] at h2
        obtain ⟨⟨⟨⟨⟨⟨⟨⟨⟨a1, a2⟩, a3⟩, a4⟩, a5⟩, a6⟩, a7⟩, a8⟩, a9⟩, a10⟩ := h2
        simp only [chkE, Bool.and_eq_true] at h1
        have e2 : ev C (.tup (.cons ea (.cons ec (.cons ed .nil)))) = fun r m => (evs C (.cons ea (.cons ec (.cons ed .nil))) r m).bind fun vs m => if vs.length ≤ LINE then .ok (.tup vs) m else .stuck := by
          funext r m
          rw [ev]
        rw [e2]
        exact ms_par3 g.calm (g.hN ▸ g.nd) (g.hN ▸ a4) (g.hN ▸ a5) (g.hN ▸ a6) a1 a2 a3 (by rw [g.scope]; exact a7) (by rw [g.scope]; exact a8) (by rw [g.scope]; exact a9) (es_ok _ _ X S b g h1.2 h1.1) (swP_ok g.scope g.kind a10) rfl
      · cases h2
    · rw [ee]
      have key : ∃ i y py, tg = .nm i ∧ t = .Name y py := by
        unfold stoOk at h3
        split at h3
        · exact ⟨_, _, _, rfl, rfl⟩
        · cases h3
      obtain ⟨i, y, py, rfl, rfl⟩ := key
      have hi : i < b.N.length := by
        simp only [stoOk, Bool.and_eq_true, decide_eq_true_eq] at h3
        exact (List.getElem?_eq_some_iff.mp h3.1.1).1
      unfold compE at h2
      split at h2
      · obtain ⟨t, ht, hq⟩ := comp_sto (spos := apos) g h1 h3
        exact ps_imp ht fun D s H q => asg_imp g hi hq q
      · rw [chkE_new, Bool.and_eq_true] at h1
        obtain ⟨t, ht, hq⟩ := comp_sto (spos := apos) g h1.2 h3
        refine ps_imp ht fun D s H q => asg_imp g hi (fun s H Q q => hq s H Q (new_imp s H Q q)) ?_
        have e2 : ∀ u : E, ev C (.new u) = fun r m => (ev C u r m).bind fun x m => match x with
            | .lst xs => .ok (.ref m.length) (m ++ [.lst xs])
            | _ => .stuck := by
          intro u
          funext r m
          rw [ev]
          try rfl
        rw [e2] at q
        exact q
      · cases h2
  | .set o i e, x, X, S, b, g, gf, h => by
    cases x <;> first | (simp only [chkS, Bool.false_eq_true] at h; done) | skip
    rename_i ts v _
    cases ts <;> first | (simp only [chkS, Bool.false_eq_true] at h; done) | skip
    rename_i t ts
    cases ts <;> cases t <;> simp only [chkS, Bool.false_eq_true, Bool.and_eq_true, Bool.not_eq_true'] at h
    obtain ⟨⟨⟨⟨h1, h2⟩, h3⟩, h4⟩, h5⟩ := h
    rename_i y _
    have ee : ex C (.set o i e) = fun r m => (ev C e r m).thn r fun v m => (ev C o r m).thn r fun ov m => (ev C i r m).thn r fun iv m => match setAt C.base m ov iv v with
        | some m => .nxt r m
        | none => .stuck := by
      funext r m
      rw [ex]
      try rfl
    rw [ee, g.base]
    refine ms_set g.hK (eb e v X S b g h1).1 (eb o _ X S b g h2).1 (eb i _ X S b g h3).1 (sole_false h5) (sw_none (by simp [isTup, isList])) fun v => ?_
    cases y <;> first | rfl | skip
    rename_i l u st p
    cases st <;> first | (simp [plainIx] at h4; done) | rfl
  | .sets _ _ _ _, x, X, S, b, g, gf, h => by simp [chkS] at h
  | .aug i op e, x, X, S, b, g, gf, h => by
    cases x <;> first | (simp only [chkS, Bool.false_eq_true] at h; done) | skip
    rename_i t op' v _
    cases t <;> simp only [chkS, Bool.false_eq_true, Bool.and_eq_true, decide_eq_true_eq, Bool.or_eq_true] at h
    obtain ⟨⟨⟨⟨rfl, h1⟩, h2⟩, h3⟩, h4⟩ := h
    obtain ⟨l1, l2⟩ := g.loc h3
    have ee : ex C (.aug i op e) = augF i op (ev C e) := by
      funext r m
      rw [ex]
      rfl
    rw [ee]
    rcases h1 with (rfl | rfl) | rfl
    · exact ms_aug ip_add (g.hN ▸ g.nd) (g.hN ▸ h2) l1 l2 (eb e v X S b g h4).1 (fun _ _ _ => rfl) (fun _ _ h => by cases h) (by simp)
    · exact ms_aug ip_sub (g.hN ▸ g.nd) (g.hN ▸ h2) l1 l2 (eb e v X S b g h4).1 (fun _ _ h => by cases h) (fun _ _ _ => rfl) (by simp)
    · exact ms_augM (g.hN ▸ g.nd) (g.hN ▸ h2) l1 l2 (eb e v X S b g h4).1
  | .exp e, x, X, S, b, g, gf, h => by
    cases x <;> simp only [chkS, Bool.false_eq_true, Bool.and_eq_true, Bool.not_eq_true'] at h
    exact ps_eq (ms_exp (eb e _ X S b g h.1).1 (none_false h.2)) (by funext r m; rw [ex])
  | .ret e, x, X, S, b, g, gf, h => by
    cases x <;> first | (simp only [chkS, Bool.false_eq_true] at h; done) | skip
    rename_i o _
    cases o <;> simp only [chkS, Bool.false_eq_true] at h
    exact ps_eq (ms_ret (eb e _ X S b g h).1) (by funext r m; rw [ex])
  | .retn, x, X, S, b, g, gf, h => by
    cases x <;> first | (simp only [chkS, Bool.false_eq_true] at h; done) | skip
    rename_i o _
    cases o <;> simp only [chkS, Bool.false_eq_true] at h
    exact ps_eq ms_retn (by funext r m; rw [ex])
  | .iff c p q, x, X, S, b, g, gf, h => by
    cases x <;> simp only [chkS, Bool.false_eq_true, Bool.and_eq_true] at h
    refine ps_eq (ms_if (eb c _ X S b g h.1.1).2 (ss_ok p _ X S b g gf h.1.2) (ss_ok q _ X S b g gf h.2)) ?_
    funext r m
    rw [ex]
    unfold tru_
    cases ev C c r m <;> rfl
  | .for tg it body, x, X, S, b, g, gf, h => by
    cases x <;> first | (simp only [chkS, Bool.false_eq_true] at h; done) | skip
    rename_i t x us os _
    cases os <;> simp only [chkS, Bool.false_eq_true, Bool.and_eq_true] at h
    obtain ⟨⟨⟨h1, h2⟩, h3⟩, h4⟩ := h
    obtain ⟨hi, hns⟩ := it_ok it x t X S b g h2 h3
    refine ps_eq (ms_for g.po g.calm hi (tg_ok g tg t h1) (ss_ok body us X S b g gf h4) (hns X.env)) ?_
    funext r m
    rw [ex]
    try rfl
  | .whl c body, x, X, S, b, g, gf, h => by
    cases x <;> first | (simp only [chkS, Bool.false_eq_true] at h; done) | skip
    rename_i x us os _
    cases os <;> simp only [chkS, Bool.false_eq_true, Bool.and_eq_true] at h
    refine ps_eq (ms_while g.po (eb c x X S b g h.1).2 (ss_ok body us X S b g gf h.2)) ?_
    funext r m
    rw [ex]
    try rfl
  | .raise c es, x, X, S, b, g, gf, h => by
    have h : raiseB W b c es x = true := h
    obtain ⟨y, us, pos, pos', rfl, h1, h2, h3, h4⟩ := raiseB_inv h
    obtain ⟨p, rfl, hg, hd, q⟩ := exc_name g h1
    unfold raiseOk at h4
    split at h4
    · rename_i hf
      cases us with
      | cons _ _ => cases h4
      | nil =>
        cases es with
        | cons _ _ => simp [chkEs] at h3
        | nil => exact ps_eq (ms_raise0 g.xr g.hK g.calm g.tk g.gd q hf rfl hg hd) (by funext r m; rw [ex, evs])
    · rename_i hf
      have hl := of_decide_eq_true h4
      cases us with
      | nil => simp at hl
      | cons u us =>
        cases us with
        | cons _ _ => simp at hl
        | nil =>
          cases es with
          | nil => simp [chkEs] at h3
          | cons x es =>
            simp only [chkEs, Bool.and_eq_true] at h3
            cases es with
            | cons _ _ => have := h3.2; simp [chkEs] at this
            | nil =>
              refine ps_eq (ms_raise1 g.xr g.hK g.calm g.tk g.gd q hf rfl hg hd (eb x u X S b g h3.1).1 (star_cons (noStars_cons.mp h2).1 _ _)) ?_
              funext r m
              rw [ex, evs]
              cases ev C x r m with
              | ok v m' => simp only [R.bind, R.thn, evs]
              | exc _ _ _ => rfl
              | stuck => rfl
  | .try body hs, x, X, S, b, g, gf, h => by
    cases x <;> first | (simp only [chkS, Bool.false_eq_true] at h; done) | skip
    rename_i xs hds os fs _
    cases os <;> first | (simp only [chkS, Bool.false_eq_true] at h; done) | skip
    cases fs <;> simp only [chkS, Bool.false_eq_true, Bool.and_eq_true] at h
    obtain ⟨h, h8⟩ := h
    obtain ⟨cls, i, j, T, n, y, py, pn, apos, pos', rfl, rfl, h1, h2, h3, h4, h5, h6, h7⟩ := hdOk_inv h
    obtain ⟨q1, q2⟩ := clsOk_ok g h7
    refine ps_eq (ms_try g.xr g.hK gf.stk gf.frm gf.ex (g.hN ▸ g.nd) (g.hN ▸ h1) (by rw [g.scope]; exact h3) (g.hN ▸ h2) (by rw [g.scope]; exact h4) h5 h6 q2 q1 g.tk (fun V pn xe tk po => ss_ok body xs (X.tr pn xe) { S with W := V } b (g.try_ tk po) ⟨gf.stk, gf.frm, gf.ex⟩ h8)) ?_
    funext r m
    rw [ex]
    cases exs C body r m with
    | nxt _ _ => rfl
    | ret _ _ => rfl
    | stuck => rfl
    | exc c fs r' m' =>
      dsimp only
      rw [exH, exH]
      split
      · have e2 : ∀ ρ m, exs C (.cons (.asg (.nm j) (.var i)) .nil) ρ m = match ρ[i]? with
            | some (some v) => if j < ρ.length then .nxt (ρ.set j (some v)) m else .stuck
            | _ => .stuck := by
          intro ρ m
          rw [exs, ex, ev]
          cases ρ[i]? with
          | none => rfl
          | some o =>
            cases o with
            | none => rfl
            | some v =>
              simp only [bindT, Tg.see]
              by_cases hj : j < ρ.length
              · simp only [R.thn, if_pos hj, Rs.bind, exs]
              · simp only [R.thn, if_neg hj, Rs.bind]
        rw [e2]
        by_cases hi : i < r'.length
        · rw [List.getElem?_set_self hi]
          simp only [R.thn, Rs.bind, List.length_set]
          by_cases hj : j < r'.length
          · rw [if_pos hj, if_pos ⟨hi, hj⟩]
          · rw [if_neg hj, if_neg (fun z => hj z.2)]
        · rw [List.getElem?_eq_none (by rw [List.length_set]; omega), if_neg (fun z => hi z.1)]
      · rfl
  | .pass, x, X, S, b, g, gf, h => by
    cases x <;> simp only [chkS, Bool.false_eq_true] at h
    exact ps_eq ms_pass (by funext r m; rw [ex])
  | .stop, x, X, S, b, g, gf, h => ⟨fun pins s σ H D I ⟨r, m, al, re, rl, p⟩ => by
    rw [ex] at p
    exact p.elim⟩
theorem ss_ok {W : Wd} {C : MP.Cx} : ∀ (s : Ss) (xs : List Stmt) (X : L2.Cx) (S : Sg) (b : Blk), Good W C X S b → GoodF X → chkSs W b s xs = true → PSs X xs (tS S (exs C s))
  | .nil, [], X, S, b, g, gf, h => by
    have e : exs C .nil = fun r m => .nxt r m := by funext r m; rw [exs]
    rw [e]
    exact mss_nil
  | .nil, _ :: _, X, S, b, g, gf, h => by simp [chkSs] at h
  | .cons _ _, [], X, S, b, g, gf, h => by simp [chkSs] at h
  | .cons s r, x :: xs, X, S, b, g, gf, h => by
    simp only [chkSs, Bool.and_eq_true] at h
    have e : exs C (.cons s r) = fun ρ m => (ex C s ρ m).bind fun ρ m => exs C r ρ m := by funext ρ m; rw [exs]
    rw [e]
    exact mss_cons (s_ok s x X S b g gf h.1) (ss_ok r xs X S b g gf h.2)
end
end MP
set_option Elab.async false
set_option linter.all false
set_option maxRecDepth 100000
set_option maxHeartbeats 2000000
/-! MPProg: a whole program of checked defs; the law's call. -/
namespace MP
open PySem PySem.Spec PyProof.Rows L2
/-- a def: its number, name, text, the names of its slots, its parameters, the clean text -/
structure FI where
  fid : Nat
  x : Str
  st : Stmt
  N : List Str
  ps : List Str
  d : Def
  kwo : Bool := false
def wd (G : Prog) (fis : List FI) (blt : List Str) (kw : List (Nat × Nat × List Str × List Nat)) (nums : List (Str × Int) := []) (txs : List (Str × Str) := []) (exs : List Nat := []) : Wd where
  fn := fis.map fun fi => (fi.x, fi.fid)
  np := fun f => match G.defs f with
    | some d => d.np
    | none => 0
  blt := blt
  kw := kw
  nums := nums
  txs := txs
  ko := fun f => fis.any fun fi => fi.kwo && fi.fid == f
  exs := exs
def fnScopeB (N ps : List Str) (sc : Scope) : Bool :=
  decide (sc.kind = .function) && !sc.isCoroutine && !sc.isGenerator && decide N.Nodup && decide (N.take ps.length = ps) && (ps.all fun x => decide (sc.names.lookup x = some .local) || decide (sc.names.lookup x = some .cell)) && sc.names.all fun y => decide (y.2 ≠ .free)
theorem fnScope_by {N ps : List Str} {sc : Scope} (h : fnScopeB N ps sc = true) : FnScope N ps sc := by
  unfold fnScopeB at h
  simp only [Bool.and_eq_true, decide_eq_true_eq, Bool.not_eq_true', List.all_eq_true, Bool.or_eq_true] at h
  obtain ⟨⟨⟨⟨⟨⟨h1, h2⟩, h3⟩, h4⟩, h5⟩, h6⟩, h7⟩ := h
  exact ⟨h1, h2, h3, h4, h5, h6, h7⟩
def chkF (W : Wd) (fi : FI) : Bool := fnScopeB fi.N fi.ps (defScope fi.st) && decide (fi.d.np = fi.ps.length) && decide (fi.d.ns = fi.N.length) && chkSs W ⟨fi.N, defScope fi.st, fun _ => true⟩ fi.d.body (defBody fi.st)
theorem callN_len (G : Prog) : ∀ (k f : Nat) (args : List Val) (fl : Bool) (m : M), args.length ≠ (match G.defs f with
    | some d => d.np
    | none => 0) → callN G k f args fl m = .stuck
  | 0, _, _, _, _, _ => rfl
  | k + 1, f, args, fl, m, h => by
    unfold callN
    cases e : G.defs f with
    | none => rfl
    | some d =>
      rw [e] at h
      exact if_neg h
theorem Ext.cutTo {n : Nat} {al al' : Al} {H H' : Hp} (x : Ext al al' H H') (hn : al.c.length = n) : Ext al (al'.cut n) H H' := by
  obtain ⟨be, hs, rfl, h1, h2⟩ := x.more
  refine ⟨⟨[], hs, ?_, by simp, h2⟩, x.keep, x.dom⟩
  show Al.mk ((al.c ++ be).take n) _ = _
  rw [List.take_append_of_le_length (by omega), List.take_of_length_le (by omega), List.append_nil]
theorem Ext.cutAdd {n : Nat} {al al' : Al} {H H' : Hp} {a : Addr} (x : Ext al al' H H') (hn : al.c.length = n) (ha : a ∈ al'.c.drop n) : Ext al ((al'.cut n).add [a]) H H' := by
  obtain ⟨be, hs, rfl, h1, h2⟩ := x.more
  refine ⟨⟨[a], hs, ?_, fun p hp => ?_, h2⟩, x.keep, x.dom⟩
  · show Al.mk ((al.c ++ be).take n ++ [a]) _ = _
    rw [List.take_append_of_le_length (by omega), List.take_of_length_le (by omega)]
    rfl
  · rw [List.mem_singleton] at hp
    subst hp
    have ha : p ∈ (al.c ++ be).drop n := ha
    rw [List.drop_append_of_le_length (by omega), List.drop_of_length_le (by omega), List.nil_append] at ha
    exact h1 p ha
theorem start_re {K : PySem.W.Frag} {al : Al} {H : Hp} {vs : List V} {args : List Val} {N : List Str} {ns np : Nat} (q : RepL K al H vs args) (hns : ns = N.length) (hnp : args.length = np) :
    RE K al H (L2.start N vs) (args.map some ++ List.replicate (ns - np) none) := by
  have hl := q.length
  unfold L2.start
  refine ⟨by simp [hl, hns, hnp], fun i v e => ?_⟩
  by_cases hi : i < args.length
  · rw [List.getElem?_append_left (by simpa using hi), List.getElem?_map, Option.map_eq_some_iff] at e
    obtain ⟨w, e1, e2⟩ := e
    cases e2
    obtain ⟨u, e3, r⟩ := q.get e1
    refine ⟨u, ?_, r⟩
    rw [List.getElem?_append_left (by simpa [hl] using hi), List.getElem?_map, e3]
    rfl
  · rw [List.getElem?_append_right (by simpa using hi)] at e
    have := List.mem_of_getElem? e
    simp at this
section
variable {P : Program} {w : World} {K : PySem.W.Frag} {mg : Str → Option Value} {base : Heap}
/-- what stands in the module of a def -/
structure Std (P : Program) (w : World) (K : PySem.W.Frag) (mg : Str → Option Value) (W : Wd) (fi : FI) (f : Addr) (fd : FuncData) : Prop where
  fun_ : FunD K fi.x fi.x (defArgs fi.st) (defBody fi.st) (defScope fi.st) [] [] f fd
  mg : mg fi.x = some (.ref f)
  bind : fi.kwo = false → Binds K fd fi.ps []
  kw : ∀ n ks perm, W.kw.contains (fi.fid, n, ks, perm) = true → KwB K fd fi.ps n ks perm
theorem prog_ok {G : Prog} {fis : List FI} {W : Wd} (hd : ∀ fi ∈ fis, G.defs fi.fid = some fi.d) (hc : ∀ fi ∈ fis, chkF W fi = true) (hw : ∀ x f, W.fn.lookup x = some f → ∃ fi ∈ fis, fi.x = x ∧ fi.fid = f)
    (hko : ∀ fi ∈ fis, W.ko fi.fid = false → fi.kwo = false) (hnp : ∀ f, W.np f = match G.defs f with
      | some d => d.np
      | none => 0)
    (hsup : G.sup = excSup) (hxs : ∀ c, W.exs.contains c = true → c < 18 ∧ XStd P w K mg base c)
    (st : ∀ fi ∈ fis, ∃ f fd, Std P w K mg W fi f fd) (hb : ∀ x, W.blt.contains x = true → mg x = none) (hi : ∀ x i, W.nums.lookup x = some i → ∃ t, mg x = some (.int i t)) (ht : ∀ x i, W.txs.lookup x = some i → ∃ t, mg x = some (.str i t)) :
    ∀ (k : Nat), ∀ fi ∈ fis, ∀ f fd, Std P w K mg W fi f fd → ∀ fl, FnG P w K mg base (k + 2) f fd fi.ps (spF K (xrK K) (W.np fi.fid) (callN G k fi.fid) fl)
  | 0, fi, hfi, f, fd, sd, fl => by
    refine ⟨fun vs H Q E h => ?_, fun A outer s H args us vs Q E hg hr e0 hbi rv h => ?_⟩
    · obtain ⟨args, m, al, bs, _, _, _, p⟩ := h
      exact p.elim
    · obtain ⟨args, m, al, bs, _, _, _, p⟩ := h
      exact p.elim
  | k + 1, fi, hfi, f, fd, sd, fl => by
    have c := hc fi hfi
    unfold chkF at c
    simp only [Bool.and_eq_true, decide_eq_true_eq] at c
    obtain ⟨⟨⟨c1, c2⟩, c3⟩, c4⟩ := c
    have hdf := hd fi hfi
    have S := fnScope_by c1
    have np : W.np fi.fid = fi.ps.length := by rw [hnp, hdf]; exact c2
    refine fnG_of sd.fun_ S (fun vs H Q E h => ?_) fun cdv A outer s H vs Q E hg hr h => ?_
    · obtain ⟨args, m, al, bs, hl, q, _, _⟩ := h
      rw [q.length, hl, np]
    · obtain ⟨args, m, al, bs, hl, q, rl, p⟩ := h
      let Sg0 : Sg := ⟨K, m.length :: bs, fun cls d _ H => E cls d H, xrK K⟩
      let C : MP.Cx := ctx G (callN G k) m.length fl
      have good : Good W C (cxOf (L2.CX P w) P w K mg base fi.N fi.x (defScope fi.st) f cdv A outer s H E) Sg0 ⟨fi.N, defScope fi.st, fun _ => true⟩ := {
        hK := rfl, calm := rfl, scope := rfl, kind := S.kind, hN := rfl, nd := S.nd, fc := fun _ _ => rfl, gd := hg
        un := by
          have := hr.un
          show (A.deeper _).units + 65 < cLine
          omega
        tk := takes_of rfl rfl rfl rfl
        po := passes_of rfl
        base := rfl
        xr := rfl
        sup := hsup
        xs := fun c h => ⟨(hxs c h).2, hr.mono (by omega), (hxs c h).1⟩
        call := fun f args fl m h => callN_len G k f args fl m (by rw [← hnp]; exact h)
        blt := hb
        nums := hi
        txs := ht
        fns := fun x id h => by
          obtain ⟨fj, hj, rfl, rfl⟩ := hw x id h
          obtain ⟨fa, fda, sda⟩ := st fj hj
          exact ⟨k + 2, fa, fda, fj.ps, fun fl => prog_ok hd hc hw hko hnp hsup hxs st hb hi ht k fj hj fa fda sda fl, hr, sda.mg, sda.fun_.kp, fun h => sda.bind (hko fj hj h), sda.kw⟩ }
      refine ⟨_, ss_ok fi.d.body (defBody fi.st) _ Sg0 _ good ⟨rfl, rfl, rfl⟩ c4, args.map some ++ List.replicate (fi.d.ns - fi.d.np) none, m, al, start_re q c3 (by rw [hl, np, c2]), rl.enter, ?_⟩
      have hal := rl.len
      have e : callN G (k + 1) fi.fid args fl m = runD G (callN G k) fi.d args fl m := by
        show (match G.defs fi.fid with
          | some d => if args.length = d.np then runD G (callN G k) d args fl m else .stuck
          | none => .stuck) = _
        rw [hdf]
        exact if_pos (by rw [hl, np, c2])
      rw [e] at p
      unfold runD at p
      show PostS Sg0 al H _ (exs C fi.d.body _ m)
      revert p
      show Post _ _ _ _ _ _ (match exs C fi.d.body _ m with
        | .nxt _ m' => R.ok .non (m'.take m.length)
        | .ret v m' => exitR fl m.length v m'
        | .exc c fs _ m' => if pureL fs then .exc c fs (m'.take m.length) else .stuck
        | .stuck => .stuck) → _
      generalize exs C fi.d.body (args.map some ++ List.replicate (fi.d.ns - fi.d.np) none) m = z
      cases z with
      | nxt r' m' => exact fun p s' H' al' x rl' re' => p .non H' (al'.cut m.length) (x.cutTo hal) rl'.leave .non
      | ret v m' =>
        intro p u H' al' x rl' rv
        cases ee : exitR fl m.length v m' with
        | ok z m2 =>
          obtain ⟨al2, h1, h2, h3⟩ := exit_rep rl' rv ee
          have p : Post _ _ _ _ _ _ (exitR fl m.length v m') := p
          rw [ee] at p
          refine p u H' al2 ?_ h2 h3
          rcases h1 with rfl | ⟨a, ha, rfl⟩
          · exact x.cutTo hal
          · exact x.cutAdd hal ha
        | exc c fs m2 =>
          exfalso
          revert ee
          unfold exitR
          split
          · exact fun h => by cases h
          · split
            · split
              · exact fun h => by cases h
              · split
                · split <;> exact fun h => by cases h
                · split <;> exact fun h => by cases h
                · exact fun h => by cases h
            · split <;> exact fun h => by cases h
        | stuck =>
          have p : Post _ _ _ _ _ _ (exitR fl m.length v m') := p
          rw [ee] at p
          exact p.elim
      | exc c fs r' m' =>
        intro p cls d s' H' al' x rl' re' h
        dsimp only at p
        split at p
        · rename_i hp
          obtain ⟨h1, h2, us, h3, h4⟩ := (h : xrK K al' H' cls d c fs)
          exact p cls d H' (al'.cut m.length) (x.cutTo hal) rl'.leave ⟨h1, h2, us, h3, h4.low (.take _ _) _ _ (ltAll_of_pure _ _ hp)⟩
        · exact p.elim
      | stuck => exact fun p => p.elim
end
end MP
set_option Elab.async false
set_option linter.all false
set_option maxRecDepth 100000
set_option maxHeartbeats 2000000
/-! MPLaw: the law's own call, for defs that ask that no repr runs around. -/
namespace MP
open PySem PySem.Spec PyProof.Rows L2
/-- the abstract heap of the start: nothing, or the script alone, which never changes -/
structure Bare (K : PySem.W.Frag) (a : Addr) (H : Hp) (h : Heap) : Prop where
  only : ∀ b u, H b = some u → b = a ∧ K.lookup b = none ∧ ∃ o xs, u = .frz o (.lst xs)
  list : ∀ o, h.get? a = some o → ∀ es ep, o.data ≠ .dict es ep
section
variable {K : PySem.W.Frag} {a : Addr} {H : Hp} {h : Heap}
theorem Bare.keep (B : Bare K a H h) {b : Addr} {o : Obj} (e : h.get? b = some o) (d : (∃ es ep, o.data = .dict es ep) ∨ K.lookup b = some o) : (hidT h H).get? b = some o := by
  refine hidT_get e ?_
  cases q : H b with
  | none => rfl
  | some u =>
    obtain ⟨rfl, hk, _⟩ := B.only b u q
    rcases d with ⟨es, ep, d⟩ | d
    · exact absurd d (B.list o e es ep)
    · rw [hk] at d; cases d
theorem Bare.ns (B : Bare K a H h) {b : Addr} {m : Str → Option Value} (n : h.Ns b m) : (hidT h H).Ns b m :=
  let ⟨o, es, ep, e, d, r⟩ := n
  ⟨o, es, ep, B.keep e (.inl ⟨es, ep, d⟩), d, r⟩
end
theorem law_callG {P : Program} {w : World} {K : PySem.W.Frag} {mg mb : Str → Option Value} {k : Nat} {fa a : Addr} {fd : FuncData} {x : Str} {sp : Sp} {s₁ : Shared} {vs : List Value} {ns : List Int}
    (kin : K.In s₁.heap) (nsG : s₁.heap.Ns mainGlobals mg) (nsB : s₁.heap.Ns builtinsNs mb) (nsE : ∀ x : Str, x ≠ "__name__" → mb x = bootBuiltins x) (lim : s₁.heap.NoLimit) (gens : s₁.gens = #[])
    (obj : s₁.heap.get? a = some { cls := .type "list", data := .seq vs.toArray }) (hin : IntsAre vs ns) (len : ns.length ≤ sizeLine) (room : Room k callerA)
    (F : ∀ base : Heap, K.In base → base.Ns mainGlobals mg → FnG P w K mg base k fa fd [x] sp) (bind1 : ∀ (s : Shared) (u : Value), BindsTo s fd ⟨[u], []⟩ [(x, u)])
    (prom : ∀ H : Hp, (∀ b, H b = none ∨ ∃ o xs, H b = some (.frz o (.lst xs))) → SqL K H a (ns.map V.int) → sp [.ref a] H (fun v _ => v = .bl true) fun _ _ _ => False) :
    codeAny (model P w) callerA (.call (.ref fa) ⟨[.ref a], []⟩) (fun r s' => r = .ok (.ret (.bool true)) ∧ OldK s₁.heap s'.heap ∧ s'.os = s₁.os ∧ AllBare s'.gens) s₁ := by
  have its := vals_ints hin
  have hlen := hin.length
  have run : ∀ H : Hp, Bare K a H s₁.heap → SqL K H a (ns.map V.int) → HOk P w H s₁.heap →
      codeAny (model P w) callerA (.call (.ref fa) ⟨[.ref a], []⟩) (fun r s' => r = .ok (.ret (.bool true)) ∧ OldK s₁.heap s'.heap ∧ s'.os = s₁.os ∧ AllBare s'.gens) s₁ := fun H B hS hok => by
    have kb : K.In (hidT s₁.heap H) := fun b o e => B.keep (kin b o e) (.inr e)
    obtain ⟨ml, l1, l2⟩ := lim
    have md : Mod K mg (hidT s₁.heap H) := ⟨kb, B.ns nsG, ⟨mb, B.ns nsB, nsE⟩, ml, B.ns l1, l2⟩
    have en : Env0 P w K mg (hidT s₁.heap H) callerA [] s₁ H := {
      frames := rfl, mod := md, bs := fun b o e => of_hidT e, bsz := Nat.le_of_eq (hidT_size _ _), funs := trivial
      frf := fun b z => by cases z
      hok := hok, bare := .of_eq gens }
    have fr : ∀ b, H b = none ∨ ∃ o xs, H b = some (.frz o (.lst xs)) := fun b => by
      cases q : H b with
      | none => exact .inl rfl
      | some u =>
        obtain ⟨_, _, o, xs, rfl⟩ := B.only b u q
        exact .inr ⟨o, xs, rfl⟩
    refine codeAny_mono ((F _ kb (B.ns nsG)).run callerA [] s₁ H ⟨[.ref a], []⟩ [.ref a] [.ref a] _ _ rfl room en (bind1 s₁ _) (.cons rfl .nil) (prom H fr hS)) ?_
    rintro r s' z
    cases r with
    | error e =>
      obtain ⟨_, _, _, _, _, _, _, _, _, _, _, _, z⟩ := z
      exact z.elim
    | ok fl =>
      cases fl <;> first | (exact (z : False).elim) | skip
      obtain ⟨v, H', zos, zbare, zun, zok, zr, zq⟩ := z
      have zq : v = .bl true := zq
      subst zq
      cases (show _ = Value.bool true from zr)
      refine ⟨rfl, .of_keep fun b o e => ?_, zos, zbare⟩
      rcases fr b with q | ⟨ob, xs, q⟩
      · exact zun.keep b o e q (fun z => by cases z) (by simp)
      · have g1 := (hok b _ q).1
        rw [e] at g1
        cases g1
        exact (zok b _ (zun.frzs b _ _ q)).1
  cases lk : K.lookup a with
  | some o =>
    have e := (kin a o lk).symm.trans obj
    cases e
    exact run (fun _ => none) ⟨fun b u z => (by cases z), fun o e es ep d => (by rw [obj] at e; cases e; cases d)⟩ (.inr ⟨_, vs.toArray, _, lk, rfl, rfl, rfl, by simpa [hlen] using len, by simpa using its⟩) fun b u z => by cases z
  | none =>
    refine run (fun b => if b = a then some (.frz { cls := .type "list", data := .seq vs.toArray } (.lst (ns.map V.int))) else none) ⟨fun b u z => ?_, fun o e es ep d => by rw [obj] at e; cases e; cases d⟩ (.inl (.inr ⟨_, if_pos rfl⟩)) fun b u z => ?_
    · have z : (if b = a then some (HO.frz { cls := .type "list", data := .seq vs.toArray } (.lst (ns.map V.int))) else none) = some u := z
      split at z
      · rename_i hb
        cases z
        exact ⟨hb, by rw [hb]; exact lk, _, _, rfl⟩
      · cases z
    · have z : (if b = a then some (HO.frz { cls := .type "list", data := .seq vs.toArray } (.lst (ns.map V.int))) else none) = some u := z
      split at z
      · rename_i hb
        cases z
        subst hb
        exact ⟨obj, by simpa using len, vs, _, its, obj⟩
      · cases z
/-- the goal that the head leaves -/
theorem walk_ofG {l : PySem.W.OpenLaw} {n k : Nat} {q : Program} {loose : List Str} {XP : (Str → Option Value) → Heap → Prop} {YP : World → Heap → Prop} {d : DefRec} {x : Str}
    (hn : l.most = some n) (hn2 : n ≤ sizeLine) (hdf : d.params.defaults = []) (hr : Room k callerA)
    (F : ∀ (w : World) (mg : Str → Option Value) (fa : Addr) (h : Heap), YP w h → h.Ns mainGlobals mg → mg d.name = some (.ref fa) →
      ∃ (K : PySem.W.Frag) (fd : FuncData) (sp : Sp), K.In h ∧ (∀ (s : Shared) (u : Value), BindsTo s fd ⟨[u], []⟩ [(x, u)]) ∧
        (∀ (H : Hp) (a : Addr) (ns : List Int), ns.length ≤ n → (∀ b, H b = none ∨ ∃ o xs, H b = some (.frz o (.lst xs))) → SqL K H a (ns.map V.int) → sp [.ref a] H (fun v _ => v = .bl true) fun _ _ _ => False) ∧
        ∀ base : Heap, K.In base → base.Ns mainGlobals mg → FnG l.prog w K mg base k fa fd [x] sp) :
    PySem.W.WalkO q loose XP YP l.row.toRowW d [] (fun f vs => PySem.call f vs) := by
  refine Att.attach_call hn hdf fun w s₀ s₁ mg mb fa o pm cd doc a vs ns G Y ho hd hcd hmg hobj hints hlen hg => ?_
  obtain ⟨K, fd, sp, kin, hbi, hsp, hF⟩ := F w mg fa _ Y G.T.g hmg
  exact law_callG kin G.T.g G.T.b G.T.builtins G.T.nolimit hg hobj hints (Nat.le_trans hlen hn2) hr hF hbi fun H => hsp H a ns hlen
/-- the promise of the law's def, from the clean text -/
theorem law_sp {K : PySem.W.Frag} {G : Prog} {k f : Nat} {ns : List Int} {H : Hp} {a : Addr} (hH : ∀ b, H b = none ∨ ∃ o xs, H b = some (.frz o (.lst xs))) (hS : SqL K H a (ns.map V.int)) (h : ∃ m, callN G k f [.scr ns] false [] = .ok (.bl true) m) :
    spF K (xrK K) 1 (callN G k f) false [.ref a] H (fun v _ => v = .bl true) fun _ _ _ => False := by
  refine ⟨[.scr ns], [], ⟨[], []⟩, [], rfl, .cons (.scr ?_) .nil, ⟨by simp, rfl, fun i a c h1 h2 => (by cases h2), by simp, by simp, .nil, by simp, by simp⟩, ?_⟩
  · rcases hS with hS | hS
    · exact .inl ⟨hS, by simp [Al.off]⟩
    · exact .inr hS
  · obtain ⟨m, e⟩ := h
    rw [e]
    intro u H' al' x rl r
    cases r
    rfl
end MP
set_option Elab.async false
set_option linter.all false
set_option maxRecDepth 100000
set_option maxHeartbeats 2000000
/-! MPXI: the exception classes of a program: what the head sees of them, what they keep. -/
namespace MP
open PySem PySem.Spec PyProof.Rows L2
def newIdT : Nat → String
  | 0 => "ValueError.__new__" | 1 => "LookupError.__new__" | 2 => "RuntimeError.__new__" | _ => "OverflowError.__new__"
def initIdT : Nat → String
  | 0 => "ValueError.__init__" | 1 => "LookupError.__init__" | 2 => "RuntimeError.__init__" | _ => "OverflowError.__init__"
def bmT : Nat → List Value
  | 0 => [.type "ValueError", .type "Exception", .type "BaseException", .type "object"]
  | 1 => [.type "LookupError", .type "Exception", .type "BaseException", .type "object"]
  | 2 => [.type "RuntimeError", .type "Exception", .type "BaseException", .type "object"]
  | _ => [.type "OverflowError", .type "ArithmeticError", .type "Exception", .type "BaseException", .type "object"]
theorem baseX_at {b : Nat} (h : b < 4) : BaseX (baseName b) (newIdT b) (initIdT b) (bmT b) ∧ PySem.W.handedIn (.builtin (initIdT b)) = true := by
  have : b = 0 ∨ b = 1 ∨ b = 2 ∨ b = 3 := by omega
  rcases this with rfl | rfl | rfl | rfl
  · exact ⟨baseX_VE, by decide +kernel⟩
  · exact ⟨baseX_LE, by decide +kernel⟩
  · exact ⟨baseX_RE, by decide +kernel⟩
  · exact ⟨baseX_OE, by decide +kernel⟩
/-- a class: its number, its __init__ -/
structure XI where
  c : Nat
  qual : Str
  st : Stmt
  p : Str
def xOf (xi : XI) : He.DefD := ⟨(excName xi.c, some "__init__"), "__init__", xi.qual, defArgs xi.st, defBody xi.st, defScope xi.st, [], []⟩
def xps (xi : XI) : List Str := if fldNo xi.c = 99 then ["self"] else ["self", xi.p]
/-- the k-th statement of a class's body -/
def clsAt (x : Stmt) (k : Nat) : Stmt := match x with
  | .ClassDef _ _ _ body .. => body.getD k (.Pass ⟨0, 0, 0, 0⟩)
  | _ => .Pass ⟨0, 0, 0, 0⟩
/-- what is seen of the class in the written part -/
def XKB (K : PySem.W.Frag) (c : Nat) : Bool :=
  excK K c && ownXB K (xcls K c) (newIdT (excBase c)) (bmT (excBase c)) && decide (PySem.W.findIn K (.ref (xcls K c)) "__init__" = some (some (.ref (He.ma K (xcls K c) "__init__")))) &&
    decide (PySem.W.typeIn K (.ref (He.ma K (xcls K c) "__init__")) = some (.type "function")) && (decide (fldNo c = 99) || decide (PySem.W.takerIn K (xcls K c) (fldName (fldNo c)) = some none))
def chkB1 (c : Nat) (sc : Scope) (p : Str) : List Stmt → Bool
  | [.Expr (.Call (.Attribute (.Name Bs _) i q1) [.Name s _, .Constant (.str _) _ _] [] q4) _, .Assign [.Attribute (.Name s2 _) fl _] (.Name pp _) _] =>
    decide (Bs = PySem.Str.ofString (baseName (excBase c))) && decide (i = "__init__") && decide (s = "self") && decide (s2 = "self") && decide (fl = fldName (fldNo c)) && decide (pp = p) && (q1.endLine == q4.line) &&
      decide (sc.names.lookup ("self" : Str) = some .local) && decide (sc.names.lookup p = some .local) && decide (sc.names.lookup Bs = some .globalImplicit) && !(p == ("__debug__" : Str)) && !(p == ("__classdict__" : Str))
  | _ => false
def chkB0 (c : Nat) (sc : Scope) : List Stmt → Bool
  | [.Expr (.Call (.Attribute (.Name Bs _) i q1) [.Name s _, .Constant (.str _) _ _] [] q4) _] =>
    decide (Bs = PySem.Str.ofString (baseName (excBase c))) && decide (i = "__init__") && decide (s = "self") && (q1.endLine == q4.line) && decide (sc.names.lookup ("self" : Str) = some .local) && decide (sc.names.lookup Bs = some .globalImplicit)
  | _ => false
def chkXI (xi : XI) : Bool := decide (xi.c < 18) && decide (excBase xi.c < 4) && fnScopeB (xps xi) (xps xi) (defScope xi.st) && (if fldNo xi.c = 99 then chkB0 xi.c (defScope xi.st) (defBody xi.st) else chkB1 xi.c (defScope xi.st) xi.p (defBody xi.st))
theorem xstd_ok {P : Program} {w : World} {K : PySem.W.Frag} {mg : Str → Option Value} {base h : Heap} {xi : XI} {fd : FuncData} (KX : K.In h) (Gm : h.Ns mainGlobals mg) (hc : chkXI xi = true) (hk : XKB K xi.c = true)
    (F : FunD K "__init__" xi.qual (defArgs xi.st) (defBody xi.st) (defScope xi.st) [] [] (He.ma K (xcls K xi.c) "__init__") fd) (hb : Binds K fd (xps xi) []) (hm : mg (PySem.Str.ofString (baseName (excBase xi.c))) = none) : xi.c < 18 ∧ XStd P w K mg base xi.c := by
  unfold XKB at hk
  simp only [Bool.and_eq_true, decide_eq_true_eq] at hk
  obtain ⟨⟨⟨⟨k1, k2⟩, k3⟩, k4⟩, k5⟩ := hk
  unfold chkXI at hc
  simp only [Bool.and_eq_true, decide_eq_true_eq] at hc
  obtain ⟨⟨⟨c1, c2⟩, c3⟩, c4⟩ := hc
  obtain ⟨BX, hh⟩ := baseX_at c2
  have q := excK_has k1
  unfold hasX at q
  refine ⟨c1, ⟨⟨_, _, _, _, _, fd, xps xi, BX, ownXB_ok k2, k3, k4, hb, ?_⟩, PySem.W.mg_of KX Gm (eq_of_beq q), k1⟩⟩
  have S := fnScope_by c3
  split at c4
  · rename_i hf
    rw [if_pos hf]
    have e : xps xi = (["self"] : List Str) := if_pos hf
    rw [e] at S ⊢
    unfold chkB0 at c4
    split at c4
    · rename_i Bs q0 i q1 s q2 m j q3 q4 q5 heq
      simp only [Bool.and_eq_true, decide_eq_true_eq] at c4
      obtain ⟨⟨⟨⟨⟨d1, rfl⟩, rfl⟩, d2⟩, d3⟩, d4⟩ := c4
      exact fnG_x0 (k := 0) (n0 := 0) BX hh d1 F S heq d3 d4 (d1 ▸ hm) d2
    · cases c4
  · rename_i hf
    rw [if_neg hf]
    have e : xps xi = (["self", xi.p] : List Str) := if_neg hf
    rw [e] at S ⊢
    simp only [hf, decide_false, Bool.false_or, decide_eq_true_eq] at k5
    refine ⟨k5, ?_⟩
    unfold chkB1 at c4
    split at c4
    · rename_i Bs q0 i q1 s q2 m j q3 q4 q5 s2 q6 fl q7 pp q8 q9 heq
      simp only [Bool.and_eq_true, decide_eq_true_eq, Bool.not_eq_true'] at c4
      obtain ⟨⟨⟨⟨⟨⟨⟨⟨⟨⟨⟨d1, rfl⟩, rfl⟩, rfl⟩, rfl⟩, d5⟩, d2⟩, d3⟩, d6⟩, d4⟩, d7⟩, d8⟩ := c4
      subst d5
      exact fnG_x1 (k := 0) (n0 := 0) BX hh d1 F S heq d3 d6 d4 (d1 ▸ hm) d2 d7 d8
    · cases c4
/-! ### the head's hook -/
def obsX (fa : List He.Fa) (fn : List He.DefD) (xs : List Nat) (K : PySem.W.Frag) : He.AlD × Bool := (He.obsD fa fn K, xs.all (XKB K))
def SaysX (fa : List He.Fa) (fn : List He.DefD) (xs : List Nat) (K : PySem.W.Frag) : Prop := obsX fa fn xs K = (He.valD fn, true)
def obsXG (n : Nat) (fa : List He.Fa) (fn : List He.DefD) (xs : List Nat) (g : Addr → Option Obj) : He.AlD × Bool := obsX fa fn xs (He.frG g (He.asD g n))
def hookX (n : Nat) (fa : List He.Fa) (fn : List He.DefD) (xs : List Nat) : PySem.W.Hook where
  α := He.AlD × Bool
  obs := fun s => obsXG n fa fn xs s.heap.get?
  val := fun _ => (He.valD fn, true)
  says := fun _ h => ∃ K : PySem.W.Frag, K.In h ∧ SaysX fa fn xs K
  of := fun _ _ e => ⟨_, He.frG_in, e⟩
  keeps := fun _ _ _ ⟨K, hK, c⟩ k => ⟨K, PySem.W.Frag.In.keeps hK k, c⟩
theorem obsXG_eq {n : Nat} {fa : List He.Fa} {fn : List He.DefD} {xs : List Nat} {g : Addr → Option Obj} {s : Shared} (h : ∀ a, g a = s.heap.get? a) : obsXG n fa fn xs g = (hookX n fa fn xs).obs s := by
  have e : g = s.heap.get? := funext h
  rw [e] <;> rfl
end MP
set_option Elab.async false
set_option linter.all false
set_option maxRecDepth 100000
set_option maxHeartbeats 2000000
/-! MPTop: from the head's facts to the law. -/
namespace MP
open PySem PySem.Spec PyProof.Rows L2
abbrev LV : Nat := 40
def dOf (fi : FI) : He.DefD := ⟨(fi.x, none), fi.x, fi.x, defArgs fi.st, defBody fi.st, defScope fi.st, [], []⟩
def faOf (fis : List FI) (blt : List Str) (nums : List (Str × Int) := []) (txs : List (Str × Str) := []) : List He.Fa := ((fis.map (fun fi => .glo fi.x) ++ blt.map .free) ++ nums.map fun p => .int p.1 p.2) ++ txs.map fun p => .str p.1 p.2
theorem lookup_mem {fis : List FI} {x : Str} {f : Nat} : (fis.map fun fi => (fi.x, fi.fid)).lookup x = some f → ∃ fi ∈ fis, fi.x = x ∧ fi.fid = f := by
  induction fis with
  | nil => intro h; cases h
  | cons fi fis ih =>
    intro h
    rw [List.map_cons, List.lookup_cons] at h
    split at h
    · rename_i e
      cases h
      exact ⟨fi, List.mem_cons_self, (eq_of_beq e).symm, rfl⟩
    · obtain ⟨fj, h1, h2⟩ := ih h
      exact ⟨fj, List.mem_cons_of_mem _ h1, h2⟩
theorem law_top {G : Prog} {fis : List FI} {xis : List XI} {blt : List Str} {kws : List (Nat × Nat × List Str × List Nat)} {nums : List (Str × Int)} {txs : List (Str × Str)} {il : FI} {P : Program} {w : World} {K : PySem.W.Frag} {h : Heap} {mg : Str → Option Value} {fa : Addr}
    (KX : K.In h) (Gm : h.Ns mainGlobals mg) (hmg : mg il.x = some (.ref fa)) (c0 : SaysX (faOf fis blt nums txs) (fis.map dOf ++ xis.map xOf) (xis.map (·.c)) K) (hd : ∀ fi ∈ fis, G.defs fi.fid = some fi.d) (hc : ∀ fi ∈ fis, chkF (wd G fis blt kws nums txs (xis.map (·.c))) fi = true)
    (hb : ∀ fi ∈ fis, fi.kwo = false → ∀ f fd, FunD K fi.x fi.x (defArgs fi.st) (defBody fi.st) (defScope fi.st) [] [] f fd → Binds K fd fi.ps [])
    (hk : ∀ fi ∈ fis, ∀ f fd, FunD K fi.x fi.x (defArgs fi.st) (defBody fi.st) (defScope fi.st) [] [] f fd → ∀ n ks perm, kws.contains (fi.fid, n, ks, perm) = true → KwB K fd fi.ps n ks perm)
    (hsup : G.sup = excSup) (hx : ∀ xi ∈ xis, chkXI xi = true ∧ blt.contains (PySem.Str.ofString (baseName (excBase xi.c))) = true)
    (hbx : ∀ xi ∈ xis, ∀ f fd, FunD K "__init__" xi.qual (defArgs xi.st) (defBody xi.st) (defScope xi.st) [] [] f fd → Binds K fd (xps xi) [])
    (hil : il ∈ fis) (hps : il.ps = (["_law_script"] : List Str)) (hnp : il.d.np = 1)
    (hA : ∀ f fd, FunD K il.x il.x (defArgs il.st) (defBody il.st) (defScope il.st) [] [] f fd → ∀ (s : Shared) (u : Value), BindsTo s fd ⟨[u], []⟩ [("_law_script", u)])
    (h0 : ∀ ns : List Int, ns.length ≤ 63 → ∃ m, callN G LV il.fid [.scr ns] false [] = .ok (.bl true) m) :
    ∃ (K : PySem.W.Frag) (fd : FuncData) (sp : Sp), K.In h ∧ (∀ (s : Shared) (u : Value), BindsTo s fd ⟨[u], []⟩ [("_law_script", u)]) ∧
        (∀ (H : Hp) (a : Addr) (ns : List Int), ns.length ≤ 63 → (∀ b, H b = none ∨ ∃ o xs, H b = some (.frz o (.lst xs))) → SqL K H a (ns.map V.int) → sp [.ref a] H (fun v _ => v = .bl true) fun _ _ _ => False) ∧
        ∀ base : Heap, K.In base → base.Ns mainGlobals mg → FnG P w K mg base (LV + 2) fa fd ["_law_script"] sp := by
  have c : He.SaysD (faOf fis blt nums txs) (fis.map dOf ++ xis.map xOf) K := congrArg (fun z : He.AlD × Bool => z.1) c0
  have cx : (xis.map (·.c)).all (XKB K) = true := congrArg (fun z : He.AlD × Bool => z.2) c0
  have fa_at : ∀ f ∈ faOf fis blt nums txs, f.ok K = true := fun f hf => by
    obtain ⟨i, hi⟩ := List.getElem?_of_mem hf
    exact c.fact i hi
  have st : ∀ fi ∈ fis, ∃ f fd, Std P w K mg (wd G fis blt kws nums txs (xis.map (·.c))) fi f fd := fun fi hfi => by
    obtain ⟨i, hi⟩ := List.getElem?_of_mem hfi
    have hi' : (fis.map dOf ++ xis.map xOf)[i]? = some (dOf fi) := by
      rw [List.getElem?_append_left (by rw [List.length_map]; exact (List.getElem?_eq_some_iff.mp hi).1), List.getElem?_map, hi]
      rfl
    obtain ⟨fd, F⟩ := c.def_ i hi'
    have g := He.glo_ok KX Gm (x := fi.x) (fa_at (.glo fi.x) (List.mem_append_left _ (List.mem_append_left _ (List.mem_append_left _ (List.mem_map.mpr ⟨fi, hfi, rfl⟩)))))
    exact ⟨_, fd, F, g, fun h => hb fi hfi h _ _ F, hk fi hfi _ _ F⟩
  have hbl : ∀ x, (wd G fis blt kws nums txs (xis.map (·.c))).blt.contains x = true → mg x = none := fun x hx => by
    have hx : x ∈ blt := List.contains_iff_mem.mp hx
    exact He.free_ok KX Gm (fa_at (.free x) (List.mem_append_left _ (List.mem_append_left _ (List.mem_append_right _ (List.mem_map.mpr ⟨x, hx, rfl⟩)))))
  have hin : ∀ x i, (wd G fis blt kws nums txs (xis.map (·.c))).nums.lookup x = some i → ∃ t, mg x = some (.int i t) := fun x i hx =>
    He.int_ok KX Gm (fa_at (.int x i) (List.mem_append_left _ (List.mem_append_right _ (List.mem_map.mpr ⟨(x, i), PySem.mem_of_lookup hx, rfl⟩))))
  have htx : ∀ x i, (wd G fis blt kws nums txs (xis.map (·.c))).txs.lookup x = some i → ∃ t, mg x = some (.str i t) := fun x i hx =>
    He.str_ok KX Gm (fa_at (.str x i) (List.mem_append_right _ (List.mem_map.mpr ⟨(x, i), PySem.mem_of_lookup hx, rfl⟩)))
  have hxs : ∀ base : Heap, ∀ c, (wd G fis blt kws nums txs (xis.map (·.c))).exs.contains c = true → c < 18 ∧ XStd P w K mg base c := fun base d hd => by
    have hd : (xis.map (·.c)).contains d = true := hd
    rw [List.contains_iff_mem] at hd
    obtain ⟨xi, hxi, rfl⟩ := List.mem_map.mp hd
    obtain ⟨i, hi⟩ := List.getElem?_of_mem hxi
    have hi' : (fis.map dOf ++ xis.map xOf)[(fis.map dOf).length + i]? = some (xOf xi) := by
      rw [List.getElem?_append_right (by omega), Nat.add_sub_cancel_left, List.getElem?_map, hi]
      rfl
    obtain ⟨fd, F⟩ := c.def_ _ hi'
    have hx1 := hx xi hxi
    exact xstd_ok KX Gm hx1.1 (List.all_eq_true.mp cx xi.c (List.mem_map.mpr ⟨xi, hxi, rfl⟩)) F (hbx xi hxi _ _ F) (hbl _ hx1.2)
  obtain ⟨f, fd, sd⟩ := st il hil
  have e := sd.mg.symm.trans hmg
  cases e
  have n1 : (wd G fis blt kws nums txs (xis.map (·.c))).np il.fid = 1 := by
    show (match G.defs il.fid with
      | some d => d.np
      | none => 0) = 1
    rw [hd il hil]
    exact hnp
  refine ⟨K, fd, spF K (xrK K) 1 (callN G LV il.fid) false, KX, hA _ _ sd.fun_, fun H a ns hl hH hS => ?_, fun base _ _ => ?_⟩
  rotate_left
  · have z := prog_ok (base := base) hd hc (fun x f h => lookup_mem h) (fun fi hfi h => by
      cases e : fi.kwo with
      | false => rfl
      | true =>
        have h : (fis.any fun fj => fj.kwo && fj.fid == fi.fid) = false := h
        rw [List.any_eq_false] at h
        exact absurd (by simp [e]) (h fi hfi)) (fun f => rfl) hsup (hxs base) st hbl hin htx LV il hil _ fd sd false
    rw [hps, n1] at z
    exact z
  exact law_sp hH hS (h0 ns hl)
end MP
set_option Elab.async false
set_option linter.all false
set_option maxRecDepth 100000
set_option maxHeartbeats 1000000
/-! MPP: the same language without cells: what is changed stands in its name by value. -/
namespace MP
open PySem (Str Operator CmpOp PyData)
/-- what a name holds: a clean value; a list or dict that nobody changes any more; one's own list or dict (l: made in this frame) -/
inductive Sl where
  | p (v : Val) | r (l : Bool) (v : Val) | o (l : Bool) (v : Val)
  deriving Inhabited
def Sl.val : Sl → Val
  | .p v => v
  | .r _ v => v
  | .o _ v => v
abbrev PEnv := List (Option Sl)
inductive PR (α : Type) where
  | ok (a : α) (ρ : PEnv) | exc (c : Nat) (fs : List Val) (ρ : PEnv) | stuck
@[reducible] def PR.bind {α β : Type} : PR α → (α → PEnv → PR β) → PR β
  | .ok a ρ, k => k a ρ
  | .exc c fs ρ, _ => .exc c fs ρ
  | .stuck, _ => .stuck
def PR.nox {α : Type} : PR α → PR α
  | .exc _ _ _ => .stuck
  | r => r
def popt {α : Type} (o : Option α) (ρ : PEnv) : PR α := match o with
  | some a => .ok a ρ
  | none => .stuck
/-- what a call gives: its value, the arguments as they stand behind it -/
inductive PC where
  | ok (s : Sl) (outs : List Sl) | exc (c : Nat) (fs : List Val) (outs : List Sl) | stuck
abbrev PCallT := Nat → List Sl → Bool → PC
structure PCx where
  call : PCallT
  io : Nat → Nat → Bool
  sup : Nat → Nat → Bool
def chk : E → Val → PEnv → Bool
  | .var i, v, ρ => match ρ[i]? with
    | some (some s) => v.same s.val
    | _ => false
  | _, _, _ => true
def chks : Es → List Val → PEnv → Bool
  | .nil, _, _ => true
  | .cons e r, v :: vs, ρ => chk e v ρ && chks r vs ρ
  | _, _, _ => false
def views : List (E × Val) → PEnv → Bool
  | [], _ => true
  | p :: r, ρ => chk p.1 p.2 ρ && views r ρ
def pv_ : Sl → Option Val
  | .p v => some v
  | _ => none
def pvs_ : List Sl → Option (List Val)
  | [] => some []
  | s :: r => (pv_ s).bind fun v => (pvs_ r).map (v :: ·)
mutual
def bindP : Tg → Val → PEnv → Option PEnv
  | .nm i, v, ρ => if i < ρ.length then some (ρ.set i (some (.p v))) else none
  | .tup ts, .tup vs, ρ => bindPs ts vs ρ
  | .tup ts, .lst vs, ρ => bindPs ts vs ρ
  | .star a i b, v, ρ => match seqOf v with
    | some vs => if decide (a.length + b.length ≤ vs.length) && decide (i < ρ.length) then
        (bindPs a (vs.take a.length) ρ).bind fun ρ => bindPs b (vs.drop (vs.length - b.length)) (ρ.set i (some (.p (.lst ((vs.drop a.length).take (vs.length - b.length - a.length)))))) else none
    | none => none
  | _, _, _ => none
def bindPs : List Tg → List Val → PEnv → Option PEnv
  | [], [], ρ => some ρ
  | t :: ts, v :: vs, ρ => (bindP t v ρ).bind fun ρ => bindPs ts vs ρ
  | _, _, _ => none
end
def bindS : Tg → Sl → PEnv → Option PEnv
  | .nm i, s, ρ => if i < ρ.length then some (ρ.set i (some s)) else none
  | _, _, _ => none
def bindSs : List Tg → List Sl → PEnv → Option PEnv
  | [], [], ρ => some ρ
  | t :: ts, s :: ss, ρ => (bindS t s ρ).bind fun ρ => bindSs ts ss ρ
  | _, _, _ => none
def wipeP (ρ : PEnv) : List Nat → PEnv
  | [] => ρ
  | v :: vs => (wipeP ρ vs).set v none
/-- the names of a comprehension as they were -/
def restP (ρ0 : PEnv) : List Nat → PEnv → PEnv
  | [], ρ => ρ
  | v :: vs, ρ => (restP ρ0 vs ρ).set v (ρ0.getD v none)
/-! ### calls -/
inductive PArg where
  | val (s : Sl) | view (i : Nat) (v : Val) | io (i : Nat)
/-- an argument as it's handed in -/
def argS (ρ : PEnv) : PArg → Option Sl
  | .val s => some s
  | .view i v => match ρ[i]? with
    | some (some (.o _ u)) => if v.same u then some (.r false v) else none
    | _ => none
  | .io i => match ρ[i]? with
    | some (some (.o _ v)) => some (.o false v)
    | _ => none
def argsS (ρ : PEnv) : List PArg → Option (List Sl)
  | [] => some []
  | a :: r => (argS ρ a).bind fun s => (argsS ρ r).map (s :: ·)
def PArg.ix : PArg → List Nat
  | .val _ => []
  | .view _ _ => []
  | .io i => [i]
def PArg.vx : PArg → List Nat
  | .val _ => []
  | .view i _ => [i]
  | .io i => [i]
/-- each name that is handed in to be changed is handed in once -/
def apart : List PArg → Bool
  | [] => true
  | a :: r => (a.ix.all fun i => !(r.flatMap PArg.vx).contains i) && (a.vx.all fun i => !(r.flatMap PArg.ix).contains i) && apart r
/-- the changed names behind the call -/
def backS : List PArg → List Sl → PEnv → Option PEnv
  | [], [], ρ => some ρ
  | .io i :: r, .o false v :: ss, ρ => match ρ[i]? with
    | some (some (.o l _)) => backS r ss (ρ.set i (some (.o l v)))
    | _ => none
  | .io _ :: _, _, _ => none
  | _ :: r, _ :: ss, ρ => backS r ss ρ
  | _, _, _ => none
def pcall (C : PCx) (f : Nat) (as : List PArg) (al : Bool) (ρ : PEnv) : PR Sl :=
  if apart as then match argsS ρ as with
    | some ss => match C.call f ss al with
      | .ok s outs => (match s with
        | .p v => popt (backS as outs ρ) ρ
        | .o true v => if al then popt (backS as outs ρ) ρ else .stuck
        | _ => .stuck : PR PEnv).bind fun ρ _ => .ok s ρ
      | .exc c fs outs => (popt (backS as outs ρ) ρ).bind fun ρ _ => .exc c fs ρ
      | .stuck => .stuck
    | none => .stuck
  else .stuck
def isVar : E → Option Nat
  | .var i => some i
  | _ => none
def argVar (io : Bool) (i : Nat) (ρ : PEnv) : PR PArg := if io then (match ρ[i]? with
  | some (some (.o _ _)) => .ok (.io i) ρ
  | _ => .stuck) else match ρ[i]? with
  | some (some (.o _ v)) => .ok (.view i v) ρ
  | some (some (.r _ v)) => .ok (.val (.r false v)) ρ
  | some (some (.p v)) => .ok (.val (.p v)) ρ
  | _ => .stuck
def argOf (io : Bool) (s : Sl) (ρ : PEnv) : PR PArg := match s with
  | .p v => .ok (.val (.p v)) ρ
  | .r _ v => .ok (.val (.r false v)) ρ
  | .o _ v => if io then .ok (.val (.o false v)) ρ else .stuck
def onlyP (s : Sl) (ρ : PEnv) : PR Val := popt (pv_ s) ρ
def onlyPs (ss : List Sl) (ρ : PEnv) : PR (List Val) := popt (pvs_ ss) ρ
/-! ### comprehensions and loops -/
def pcompL (f : Val → PEnv → PR (Option Val)) (w : PEnv → Bool) : List Val → PEnv → PR (List Val)
  | [], ρ => .ok [] ρ
  | v :: vs, ρ => (f v ρ).bind fun o ρ => if w ρ then (pcompL f w vs ρ).bind fun r ρ => .ok (o.toList ++ r) ρ else .stuck
inductive PRs where
  | nxt (ρ : PEnv) | ret (s : Sl) (ρ : PEnv) | exc (c : Nat) (fs : List Val) (ρ : PEnv) | stuck
@[reducible] def PRs.bind : PRs → (PEnv → PRs) → PRs
  | .nxt ρ, k => k ρ
  | .ret s ρ, _ => .ret s ρ
  | .exc c fs ρ, _ => .exc c fs ρ
  | .stuck, _ => .stuck
@[reducible] def PR.thn {α : Type} : PR α → (α → PEnv → PRs) → PRs
  | .ok a ρ, k => k a ρ
  | .exc c fs ρ, _ => .exc c fs ρ
  | .stuck, _ => .stuck
def ploop (f : Val → PEnv → PRs) : List Val → PEnv → PRs
  | [], ρ => .nxt ρ
  | v :: vs, ρ => (f v ρ).bind fun ρ => ploop f vs ρ
def ploopW (c : PEnv → PR Bool) (f : PEnv → PRs) : Nat → PEnv → PRs
  | 0, _ => .stuck
  | n + 1, ρ => (c ρ).thn fun k ρ => if k then (f ρ).bind fun ρ => ploopW c f n ρ else .nxt ρ
/-! ### methods: the value, what the object is behind it -/
def mthV : Mth → Val → List Val → Option (Val × Val)
  | .append, .lst xs, [v] => if xs.length < LINE then some (.non, .lst (xs ++ [v])) else none
  | .pop, .lst xs, [] => match xs[xs.length - 1]? with
    | some y => some (y, .lst xs.dropLast)
    | none => none
  | .popAt, .lst xs, [.int i] => match ixN xs.length i with
    | some k => match xs[k]? with
      | some y => if small63 i then some (y, .lst (xs.eraseIdx k)) else none
      | none => none
    | none => none
  | .insert, .lst xs, [.int i, v] => if decide (xs.length < LINE) && small63 i && decide (0 ≤ i) then some (.non, .lst (xs.take (min i.toNat xs.length) ++ v :: xs.drop (min i.toNat xs.length))) else none
  | .extend, .lst xs, [.lst ys] => if xs.length + ys.length ≤ LINE then some (.non, .lst (xs ++ ys)) else none
  | .setdefault, .dct ks vs, [k, v] => if keysOk k ks then (match valOf k ks vs with
      | some y => some (y, .dct ks vs)
      | none => if ks.length < LINE then some (v, .dct (ks ++ [k]) (vs ++ [v])) else none) else none
  | _, _, _ => none
def mutV (k : Mth) : Val → Bool
  | .lst _ => k != .setdefault
  | .dct _ _ => k == .setdefault
  | _ => false
def setV : Val → Val → Val → Option Val
  | .lst xs, .int k, v => (ixN xs.length k).map fun j => .lst (xs.set j v)
  | .dct ks vs, i, v => if keysOk i ks && decide (ks.length < LINE) then some (.dct (putK i v ks vs).1 (putK i v ks vs).2) else none
  | _, _, _ => none
def setsV : Val → Val → Val → Val → Option Val
  | .lst xs, .int a, .int b, .lst ys => if decide (0 ≤ a ∧ a ≤ b ∧ xs.length + ys.length ≤ LINE) then some (.lst (xs.take (min a.toNat xs.length) ++ ys ++ xs.drop (min b.toNat xs.length))) else none
  | _, _, _, _ => none
/-- one's own thing in a name is changed -/
def ownSet (ρ : PEnv) (n : Nat) (f : Val → Option Val) : Option PEnv := match ρ[n]? with
  | some (some (.o l v)) => (f v).map fun u => ρ.set n (some (.o l u))
  | _ => none
def ownMth (ρ : PEnv) (n : Nat) (f : Val → Option (Val × Val)) : PR Sl := match ρ[n]? with
  | some (some (.o l v)) => match f v with
    | some p => .ok (.p p.1) (ρ.set n (some (.o l p.2)))
    | none => .stuck
  | _ => .stuck
def ownIs (ρ : PEnv) (n : Nat) (f : Val → Bool) : Bool := match ρ[n]? with
  | some (some (.o _ v)) => f v
  | _ => false
def dictOf (ks vs : List Val) : List Val × List Val := (ks.zip vs).foldl (fun (p : List Val × List Val) kv => putK kv.1 kv.2 p.1 p.2) ([], [])
/-! ### expressions: x tells whether the value may stay somewhere -/
def readP (i : Nat) (x : Bool) (ρ : PEnv) : PR Sl := match ρ[i]? with
  | some (some s) => if x then (match s with
      | .o l v => .ok (.r l v) (ρ.set i (some (.r l v)))
      | s => .ok s ρ) else .ok (.p s.val) ρ
  | _ => .stuck
mutual
def pe (C : PCx) : E → Bool → PEnv → PR Sl
  | .var i, x, ρ => readP i x ρ
  | .con c, _, ρ => .ok (.p c.val) ρ
  | .glob _, _, _ => .stuck
  | .bin op a b, _, ρ => (pe C a false ρ).bind fun x ρ => (pe C b false ρ).bind fun y ρ => if chk a x.val ρ then (popt (bop op x.val y.val) ρ).bind fun z ρ => .ok (.p z) ρ else .stuck
  | .neg a, _, ρ => (pe C a false ρ).bind fun x ρ => match x.val with
    | .int i => .ok (.p (.int (-i))) ρ
    | _ => .stuck
  | .nt a, _, ρ => (pe C a false ρ).bind fun x ρ => (popt (tru x.val) ρ).bind fun b ρ => .ok (.p (.bl (!b))) ρ
  | .and a r, _, ρ => (pe C a true ρ).bind fun x ρ => peAnd C r x ρ
  | .or a r, _, ρ => (pe C a true ρ).bind fun x ρ => peOr C r x ρ
  | .ite c a b, _, ρ => (pe C c false ρ).bind fun x ρ => (popt (tru x.val) ρ).bind fun k ρ => if k then pe C a true ρ else pe C b true ρ
  | .cmp a ops es, _, ρ => (pe C a false ρ).bind fun x ρ => peCmp C es ops a x.val ρ
  | .idx a i, _, ρ => (pe C a false ρ).bind fun x ρ => (pe C i true ρ).bind fun s ρ => (onlyP s ρ).bind fun y ρ => if chk a x.val ρ then (popt (idx x.val y) ρ).bind fun z ρ => .ok (.p z) ρ else .stuck
  | .slc a lo hi, _, ρ => (pe C a false ρ).bind fun x ρ =>
      (if isEmp lo then .ok none ρ else (pe C lo true ρ).bind fun s ρ => (onlyP s ρ).bind fun y ρ => popt (partOf y) ρ).bind fun l ρ =>
      (if isEmp hi then .ok none ρ else (pe C hi true ρ).bind fun s ρ => (onlyP s ρ).bind fun y ρ => popt (partOf y) ρ).bind fun h ρ => if chk a x.val ρ then (popt (slc x.val l h) ρ).bind fun z ρ => .ok (.p z) ρ else .stuck
  | .rev a, _, ρ => (pe C a false ρ).bind fun x ρ => (popt (rev x.val) ρ).bind fun z ρ => .ok (.p z) ρ
  | .tup es, _, ρ => (pes C es ρ).bind fun ss ρ => (onlyPs ss ρ).bind fun vs ρ => .ok (.p (.tup vs)) ρ
  | .lst es, _, ρ => (pes C es ρ).bind fun ss ρ => (onlyPs ss ρ).bind fun vs ρ => .ok (.p (.lst vs)) ρ
  | .comp st elt own tg it cd, _, ρ => (pit C it false ρ).bind fun q ρ0 => if q.1.length ≤ LINE then
      (pcompL (fun v ρ => match bindP tg v (wipeP ρ own) with
        | none => .stuck
        | some ρ1 => (peCd C cd ρ1).nox.bind fun k ρ2 => if k then (pe C elt true ρ2).nox.bind fun s ρ3 => (onlyP s (restP ρ own ρ3)).bind fun y ρ4 => .ok (some y) ρ4 else .ok none (restP ρ own ρ2)) (views q.2) q.1 ρ0).bind
      fun vs ρ => if st then .ok (.p (.set (dedup [] vs))) ρ else .ok (.p (.lst vs)) ρ else .stuck
  | .call f es al, _, ρ => (pas C f true 0 es ρ).bind fun as ρ => pcall C f as al ρ
  | .callk f es kes perm al, _, ρ => (pas C f false 0 es ρ).bind fun as ρ => (pas C f false 0 kes ρ).bind fun bs ρ => pcall C f (perm.map fun i => (as ++ bs).getD i (.val (.p .non))) al ρ
  | .blt b es, _, ρ => (pos C es ρ).bind fun vs ρ => if chks es vs ρ then (popt (blt b vs) ρ).bind fun z ρ => .ok (.p z) ρ else .stuck
  | .isi a tys, _, ρ => (pe C a false ρ).bind fun x ρ => (popt (tys.mapM fun t => isTy C.sup x.val t) ρ).bind fun bs ρ => .ok (.p (.bl (bs.any id))) ρ
  | .mth k (.var n) es, _, ρ => if ownIs ρ n (mutV k) then (pes C es ρ).bind fun ss ρ => (onlyPs ss ρ).bind fun vs ρ => ownMth ρ n fun v => mthV k v vs else .stuck
  | .mth _ _ _, _, _ => .stuck
  | .new a, _, ρ => (pe C a true ρ).bind fun s ρ => (onlyP s ρ).bind fun v ρ => match v with
    | .lst xs => .ok (.o true (.lst xs)) ρ
    | _ => .stuck
  | .dict ks vs, _, ρ => (pes C ks ρ).bind fun ks ρ => (onlyPs ks ρ).bind fun ks ρ => (pes C vs ρ).bind fun vs ρ => (onlyPs vs ρ).bind fun vs ρ => if ks.length == vs.length && ks.all fun k => keysOk k ks then
      .ok (.o true (.dct (dictOf ks vs).1 (dictOf ks vs).2)) ρ else .stuck
  | .fld a j, _, ρ => (pe C a false ρ).bind fun x ρ => match x.val with
    | .exc c fs => if fldNo c = j then (popt fs[0]? ρ).bind fun z ρ => .ok (.p z) ρ else .stuck
    | _ => .stuck
  | .emp, _, _ => .stuck
/-- values that stay -/
def pes (C : PCx) : Es → PEnv → PR (List Sl)
  | .nil, ρ => .ok [] ρ
  | .cons a r, ρ => (pe C a true ρ).bind fun s ρ => (pes C r ρ).bind fun ss ρ => .ok (s :: ss) ρ
/-- values that are looked at -/
def pos (C : PCx) : Es → PEnv → PR (List Val)
  | .nil, ρ => .ok [] ρ
  | .cons a r, ρ => (pe C a false ρ).bind fun s ρ => (pos C r ρ).bind fun vs ρ => .ok (s.val :: vs) ρ
/-- arguments from place j on; b: names may be handed in to be changed -/
def pas (C : PCx) (f : Nat) (b : Bool) : Nat → Es → PEnv → PR (List PArg)
  | _, .nil, ρ => .ok [] ρ
  | j, .cons a r, ρ => (match isVar a with
    | some i => argVar (b && C.io f j) i ρ
    | none => (pe C a true ρ).bind (argOf (b && C.io f j))).bind fun x ρ => (pas C f b (j + 1) r ρ).bind fun xs ρ => .ok (x :: xs) ρ
def peAnd (C : PCx) : Es → Sl → PEnv → PR Sl
  | .nil, x, ρ => .ok x ρ
  | .cons b r, x, ρ => (popt (tru x.val) ρ).bind fun k ρ => if k then (pe C b true ρ).bind fun y ρ => peAnd C r y ρ else .ok x ρ
def peOr (C : PCx) : Es → Sl → PEnv → PR Sl
  | .nil, x, ρ => .ok x ρ
  | .cons b r, x, ρ => (popt (tru x.val) ρ).bind fun k ρ => if k then .ok x ρ else (pe C b true ρ).bind fun y ρ => peOr C r y ρ
def peCmp (C : PCx) : Es → List CmpOp → E → Val → PEnv → PR Sl
  | .cons b .nil, [op], a, x, ρ => (pe C b false ρ).bind fun y ρ => if chk a x ρ then (popt (cop op x y.val) ρ).bind fun k ρ => .ok (.p (.bl k)) ρ else .stuck
  | .cons b r, op :: ops, a, x, ρ => (pe C b false ρ).bind fun y ρ => if chk a x ρ then (popt (cop op x y.val) ρ).bind fun k ρ => if k then peCmp C r ops b y.val ρ else .ok (.p (.bl false)) ρ else .stuck
  | _, _, _, _, _ => .stuck
def peCd (C : PCx) : Es → PEnv → PR Bool
  | .nil, ρ => .ok true ρ
  | .cons c .nil, ρ => (pe C c false ρ).bind fun x ρ => popt (tru x.val) ρ
  | _, _ => .stuck
def pit (C : PCx) : It → Bool → PEnv → PR (List Val × List (E × Val))
  | .val a, x, ρ => (pe C a x ρ).bind fun v ρ => (popt (iterOf v.val) ρ).bind fun xs ρ => .ok (xs, if x then [] else [(a, v.val)]) ρ
  | .rng es, _, ρ => (pes C es ρ).bind fun ss ρ => (onlyPs ss ρ).bind fun vs ρ => (popt (rng vs) ρ).bind fun xs ρ => .ok (xs, []) ρ
  | .enu a, x, ρ => (pe C a x ρ).bind fun v ρ => (popt (seqOf v.val) ρ).bind fun xs ρ => .ok (enuL 0 xs, if x then [] else [(a, v.val)]) ρ
  | .zip a b st, x, ρ => (pe C a x ρ).bind fun u ρ => (pe C b x ρ).bind fun v ρ => if x || chk a u.val ρ then (popt (zipOf st u.val v.val) ρ).bind fun zs ρ => .ok (zs, if x then [] else [(a, u.val), (b, v.val)]) ρ else .stuck
  | .items a, x, ρ => (pe C a x ρ).bind fun v ρ => match v.val with
    | .dct ks vs => .ok (zipL ks vs, if x then [] else [(a, v.val)]) ρ
    | _ => .stuck
end
mutual
def ps (C : PCx) : S → PEnv → PRs
  | .asg (.tup ts) (.tup es), ρ => (pes C es ρ).thn fun ss ρ => match bindSs ts ss ρ with
    | some ρ => .nxt ρ
    | none => .stuck
  | .asg (.nm i) e, ρ => (pe C e true ρ).thn fun s ρ => if i < ρ.length then .nxt (ρ.set i (some s)) else .stuck
  | .asg tg e, ρ => (pe C e true ρ).thn fun s ρ => match bindP tg s.val ρ with
      | some ρ => .nxt ρ
      | none => .stuck
  | .set (.var n) i e, ρ => if ownIs ρ n (fun _ => true) then (pe C e true ρ).thn fun s ρ => (onlyP s ρ).thn fun v ρ => (pe C i true ρ).thn fun s ρ => (onlyP s ρ).thn fun k ρ => match ownSet ρ n fun x => setV x k v with
    | some ρ => .nxt ρ
    | none => .stuck else .stuck
  | .set _ _ _, _ => .stuck
  | .sets (.var n) lo hi e, ρ => if ownIs ρ n (fun _ => true) then (pe C e true ρ).thn fun s ρ => (onlyP s ρ).thn fun v ρ => (pe C lo true ρ).thn fun s ρ => (onlyP s ρ).thn fun l ρ => (pe C hi true ρ).thn fun s ρ => (onlyP s ρ).thn fun h ρ => match ownSet ρ n fun x => setsV x l h v with
    | some ρ => .nxt ρ
    | none => .stuck else .stuck
  | .sets _ _ _ _, _ => .stuck
  | .aug i op e, ρ => match ρ[i]? with
    | some (some (.p x)) => (pe C e true ρ).thn fun s ρ => (onlyP s ρ).thn fun y ρ => match x, y, op with
      | .int a, .int b, .Add => .nxt (ρ.set i (some (.p (.int (a + b)))))
      | .int a, .int b, .Sub => .nxt (ρ.set i (some (.p (.int (a - b)))))
      | .int a, .int b, .Mult => if smallI a || smallI b then .nxt (ρ.set i (some (.p (.int (a * b))))) else .stuck
      | _, _, _ => .stuck
    | _ => .stuck
  | .exp e, ρ => (pe C e true ρ).thn fun _ ρ => .nxt ρ
  | .ret e, ρ => (pe C e true ρ).thn fun s ρ => .ret s ρ
  | .retn, ρ => .ret (.p .non) ρ
  | .iff c a b, ρ => (pe C c false ρ).thn fun x ρ => (popt (tru x.val) ρ).thn fun k ρ => if k then pss C a ρ else pss C b ρ
  | .for tg it body, ρ => (pit C it true ρ).thn fun q ρ => ploop (fun v ρ => match bindP tg v ρ with
    | some ρ => pss C body ρ
    | none => .stuck) q.1 ρ
  | .whl c body, ρ => ploopW (fun ρ => (pe C c false ρ).bind fun x ρ => popt (tru x.val) ρ) (pss C body) WF ρ
  | .raise c es, ρ => (pes C es ρ).thn fun ss ρ => (onlyPs ss ρ).thn fun vs ρ => .exc c vs ρ
  | .try body hs, ρ => match pss C body ρ with
    | .exc c fs ρ => psH C hs c fs ρ
    | r => r
  | .pass, ρ => .nxt ρ
  | .stop, _ => .stuck
def pss (C : PCx) : Ss → PEnv → PRs
  | .nil, ρ => .nxt ρ
  | .cons s r, ρ => (ps C s ρ).bind fun ρ => pss C r ρ
def psH (C : PCx) : Hs → Nat → List Val → PEnv → PRs
  | .nil, c, fs, ρ => .exc c fs ρ
  | .cons cls slot body r, c, fs, ρ => if cls.contains c then (match slot with
    | some i => (pss C body (ρ.set i (some (.p (.exc c fs))))).bind fun ρ => .nxt (ρ.set i none)
    | none => pss C body ρ) else psH C r c fs ρ
end
/-- the arguments behind a call: one's own that were handed in -/
def outS : List Sl → PEnv → List Sl
  | [], _ => []
  | .o _ _ :: r, x :: ρ => x.getD (.p .non) :: outS r ρ
  | _ :: r, _ :: ρ => .p .non :: outS r ρ
  | _ :: r, [] => .p .non :: outS r []
def runP (C : PCx) (d : Def) (ss : List Sl) : PC :=
  match pss C d.body (ss.map some ++ List.replicate (d.ns - d.np) none) with
  | .nxt ρ => .ok (.p .non) (outS ss ρ)
  | .ret s ρ => (match s with
    | .p v => .ok (.p v) (outS ss ρ)
    | .r true v => .ok (.o true v) (outS ss ρ)
    | .o true v => .ok (.o true v) (outS ss ρ)
    | _ => .stuck)
  | .exc c fs ρ => .exc c fs (outS ss ρ)
  | .stuck => .stuck
/-- a call: a list that was made within is a clean value without al -/
def exitP (al : Bool) : PC → PC
  | .ok (.o _ v) outs => if al then .ok (.o true v) outs else .ok (.p v) outs
  | r => r
def pctx (G : Prog) (io : Nat → Nat → Bool) (c : PCallT) : PCx := ⟨c, io, G.sup⟩
def callP (G : Prog) (io : Nat → Nat → Bool) : Nat → PCallT
  | 0 => fun _ _ _ => .stuck
  | k + 1 => fun f ss al => match G.defs f with
    | some d => if ss.length = d.np then exitP al (runP (pctx G io (callP G io k)) d ss) else .stuck
    | none => .stuck
end MP
set_option Elab.async false
set_option linter.all false
set_option maxRecDepth 100000
set_option maxHeartbeats 1000000
/-! MPW: what holds behind a piece of the text (rules that go from the left). -/
namespace MP
open PySem (Str Operator CmpOp PyData)
abbrev KX := Nat → List Val → PEnv → Prop
def wR {α : Type} (r : PR α) (k : α → PEnv → Prop) (kx : KX) : Prop := match r with
  | .ok a ρ => k a ρ
  | .exc c fs ρ => kx c fs ρ
  | .stuck => False
def wS (r : PRs) (kn : PEnv → Prop) (kr : Sl → PEnv → Prop) (kx : KX) : Prop := match r with
  | .nxt ρ => kn ρ
  | .ret s ρ => kr s ρ
  | .exc c fs ρ => kx c fs ρ
  | .stuck => False
def wO {α : Type} (o : Option α) (k : α → Prop) : Prop := match o with
  | some a => k a
  | none => False
mutual
theorem same_self : ∀ v : Val, v.same v = true
  | .non => rfl
  | .bl b => by simp [Val.same]
  | .int i => by simp [Val.same]
  | .str x => by simp [Val.same]
  | .tup xs => by simp only [Val.same]; exact sameL_self xs
  | .lst xs => by simp only [Val.same]; exact sameL_self xs
  | .ref n => by simp [Val.same]
  | .scr ns => by simp [Val.same]
  | .set xs => by simp only [Val.same]; exact sameL_self xs
  | .dct ks vs => by simp only [Val.same, sameL_self, Bool.and_self]
  | .exc c fs => by simp [Val.same, sameL_self]
theorem sameL_self : ∀ vs : List Val, sameL vs vs = true
  | [] => rfl
  | v :: vs => by simp only [sameL, same_self v, sameL_self vs, Bool.and_self]
end
section
variable {α β : Type} {C : PCx} {ρ ρ' : PEnv} {kx : KX} {k : Sl → PEnv → Prop} {x : Bool} {kn : PEnv → Prop} {kr : Sl → PEnv → Prop}
theorem wR_mono {r : PR α} {k k' : α → PEnv → Prop} {kx kx' : KX} (h : wR r k kx) (h1 : ∀ a ρ, k a ρ → k' a ρ) (h2 : ∀ c fs ρ, kx c fs ρ → kx' c fs ρ) : wR r k' kx' := by
  cases r with
  | ok a ρ => exact h1 a ρ h
  | exc c fs ρ => exact h2 c fs ρ h
  | stuck => exact h
theorem wR_bind {r : PR α} {f : α → PEnv → PR β} {k : β → PEnv → Prop} (h : wR r (fun a ρ => wR (f a ρ) k kx) kx) : wR (r.bind f) k kx := by
  cases r <;> exact h
theorem wS_thn {r : PR α} {f : α → PEnv → PRs} (h : wR r (fun a ρ => wS (f a ρ) kn kr kx) kx) : wS (r.thn f) kn kr kx := by
  cases r <;> exact h
theorem wS_bind {r : PRs} {f : PEnv → PRs} (h : wS r (fun ρ => wS (f ρ) kn kr kx) kr kx) : wS (r.bind f) kn kr kx := by
  cases r <;> exact h
theorem wR_popt {o : Option α} {a : α} {k : α → PEnv → Prop} (e : o = some a) (h : k a ρ) : wR (popt o ρ) k kx := by subst e; exact h
/-! ### expressions -/
theorem w_varT {i : Nat} {s : Sl} (e : ρ[i]? = some (some s)) (h : k (.p s.val) ρ) : wR (pe C (.var i) false ρ) k kx := by
  rw [pe, readP, e]; exact h
theorem w_varP {i : Nat} {v : Val} (e : ρ[i]? = some (some (.p v))) (h : k (.p v) ρ) : wR (pe C (.var i) x ρ) k kx := by
  rw [pe, readP, e]; cases x <;> exact h
theorem w_varR {i : Nat} {l : Bool} {v : Val} (e : ρ[i]? = some (some (.r l v))) (h : k (.r l v) ρ) : wR (pe C (.var i) true ρ) k kx := by
  rw [pe, readP, e]; exact h
theorem w_varO {i : Nat} {l : Bool} {v : Val} (e : ρ[i]? = some (some (.o l v))) (h : k (.r l v) (ρ.set i (some (.r l v)))) : wR (pe C (.var i) true ρ) k kx := by
  rw [pe, readP, e]; exact h
theorem w_con {c : Cst} (h : k (.p c.val) ρ) : wR (pe C (.con c) x ρ) k kx := by
  rw [pe]; exact h
theorem w_bin {op : Operator} {a b : E} (h : wR (pe C a false ρ) (fun s ρ => wR (pe C b false ρ) (fun t ρ => chk a s.val ρ = true ∧ wO (bop op s.val t.val) fun z => k (.p z) ρ) kx) kx) : wR (pe C (.bin op a b) x ρ) k kx := by
  rw [pe]
  refine wR_bind (wR_mono h (fun s ρ h => wR_bind (wR_mono h (fun t ρ h => ?_) fun _ _ _ h => h)) fun _ _ _ h => h)
  rw [h.1, if_pos rfl]
  refine wR_bind ?_
  cases e : bop op s.val t.val with
  | none => rw [e] at h; exact h.2.elim
  | some z => rw [e] at h; exact h.2
theorem w_neg {a : E} (h : wR (pe C a false ρ) (fun s ρ => ∃ i, s.val = .int i ∧ k (.p (.int (-i))) ρ) kx) : wR (pe C (.neg a) x ρ) k kx := by
  rw [pe]
  refine wR_bind (wR_mono h (fun s ρ h => ?_) fun _ _ _ h => h)
  obtain ⟨i, e, h⟩ := h
  rw [e]; exact h
theorem w_nt {a : E} (h : wR (pe C a false ρ) (fun s ρ => wO (tru s.val) fun b => k (.p (.bl (!b))) ρ) kx) : wR (pe C (.nt a) x ρ) k kx := by
  rw [pe]
  refine wR_bind (wR_mono h (fun s ρ h => ?_) fun _ _ _ h => h)
  cases e : tru s.val with
  | none => rw [e] at h; exact h.elim
  | some z => rw [e] at h; exact h
theorem w_and {a : E} {r : Es} (h : wR (pe C a true ρ) (fun s ρ => wR (peAnd C r s ρ) k kx) kx) : wR (pe C (.and a r) x ρ) k kx := by
  rw [pe]; exact wR_bind h
theorem w_or {a : E} {r : Es} (h : wR (pe C a true ρ) (fun s ρ => wR (peOr C r s ρ) k kx) kx) : wR (pe C (.or a r) x ρ) k kx := by
  rw [pe]; exact wR_bind h
theorem w_and0 {s : Sl} (h : k s ρ) : wR (peAnd C .nil s ρ) k kx := by
  rw [peAnd]; exact h
theorem w_or0 {s : Sl} (h : k s ρ) : wR (peOr C .nil s ρ) k kx := by
  rw [peOr]; exact h
theorem w_and1 {s : Sl} {b : E} {r : Es} (h : wO (tru s.val) fun t => if t = true then wR (pe C b true ρ) (fun y ρ => wR (peAnd C r y ρ) k kx) kx else k s ρ) : wR (peAnd C (.cons b r) s ρ) k kx := by
  rw [peAnd]
  cases e : tru s.val with
  | none => rw [e] at h; exact h.elim
  | some t =>
    rw [e] at h
    cases t with
    | true => exact wR_bind (r := pe C b true ρ) h
    | false => exact h
theorem w_or1 {s : Sl} {b : E} {r : Es} (h : wO (tru s.val) fun t => if t = true then k s ρ else wR (pe C b true ρ) (fun y ρ => wR (peOr C r y ρ) k kx) kx) : wR (peOr C (.cons b r) s ρ) k kx := by
  rw [peOr]
  cases e : tru s.val with
  | none => rw [e] at h; exact h.elim
  | some t =>
    rw [e] at h
    cases t with
    | true => exact h
    | false => exact wR_bind (r := pe C b true ρ) h
theorem w_ite {c a b : E} (h : wR (pe C c false ρ) (fun s ρ => wO (tru s.val) fun t => if t = true then wR (pe C a true ρ) k kx else wR (pe C b true ρ) k kx) kx) : wR (pe C (.ite c a b) x ρ) k kx := by
  rw [pe]
  refine wR_bind (wR_mono h (fun s ρ h => ?_) fun _ _ _ h => h)
  cases e : tru s.val with
  | none => rw [e] at h; exact h.elim
  | some t =>
    rw [e] at h
    cases t with
    | true => exact h
    | false => exact h
theorem w_cmp {a : E} {ops : List CmpOp} {es : Es} (h : wR (pe C a false ρ) (fun s ρ => wR (peCmp C es ops a s.val ρ) k kx) kx) : wR (pe C (.cmp a ops es) x ρ) k kx := by
  rw [pe]; exact wR_bind h
theorem w_cmp1 {a b : E} {op : CmpOp} {u : Val} (h : wR (pe C b false ρ) (fun t ρ => chk a u ρ = true ∧ wO (cop op u t.val) fun z => k (.p (.bl z)) ρ) kx) : wR (peCmp C (.cons b .nil) [op] a u ρ) k kx := by
  rw [peCmp]
  refine wR_bind (wR_mono h (fun s ρ h => ?_) fun _ _ _ h => h)
  rw [h.1, if_pos rfl]
  refine wR_bind ?_
  cases e : cop op u s.val with
  | none => rw [e] at h; exact h.2.elim
  | some z => rw [e] at h; exact h.2
theorem w_cmp2 {a b c : E} {r : Es} {op op2 : CmpOp} {ops : List CmpOp} {u : Val} (h : wR (pe C b false ρ) (fun t ρ => chk a u ρ = true ∧ wO (cop op u t.val) fun z => if z = true then wR (peCmp C (.cons c r) (op2 :: ops) b t.val ρ) k kx else k (.p (.bl false)) ρ) kx) :
    wR (peCmp C (.cons b (.cons c r)) (op :: op2 :: ops) a u ρ) k kx := by
  rw [peCmp]
  · refine wR_bind (wR_mono h (fun s ρ h => ?_) fun _ _ _ h => h)
    rw [h.1, if_pos rfl]
    refine wR_bind ?_
    cases e : cop op u s.val with
    | none => rw [e] at h; exact h.2.elim
    | some z =>
      rw [e] at h
      cases z with
      | true => exact h.2
      | false => exact h.2
  · intro h; cases h
theorem w_idx {a i : E} (h : wR (pe C a false ρ) (fun s ρ => wR (pe C i true ρ) (fun t ρ => ∃ y, t = .p y ∧ chk a s.val ρ = true ∧ wO (idx s.val y) fun z => k (.p z) ρ) kx) kx) : wR (pe C (.idx a i) x ρ) k kx := by
  rw [pe]
  refine wR_bind (wR_mono h (fun s ρ h => wR_bind (wR_mono h (fun t ρ h => ?_) fun _ _ _ h => h)) fun _ _ _ h => h)
  obtain ⟨y, rfl, h1, h⟩ := h
  refine wR_bind (wR_popt (a := y) rfl ?_)
  rw [h1, if_pos rfl]
  refine wR_bind ?_
  cases e : idx s.val y with
  | none => rw [e] at h; exact h.elim
  | some z => rw [e] at h; exact h
def wPart (C : PCx) (lo : E) (ρ : PEnv) (k : Option Int → PEnv → Prop) (kx : KX) : Prop := if isEmp lo = true then k none ρ else wR (pe C lo true ρ) (fun t ρ => ∃ i, t = .p (.int i) ∧ k (some i) ρ) kx
theorem w_part0 {k : Option Int → PEnv → Prop} (h : k none ρ) : wPart C .emp ρ k kx := by
  exact h
theorem w_part1 {lo : E} {k : Option Int → PEnv → Prop} (e : isEmp lo = false) (h : wR (pe C lo true ρ) (fun t ρ => ∃ i, t = .p (.int i) ∧ k (some i) ρ) kx) : wPart C lo ρ k kx := by
  unfold wPart; rw [if_neg (by rw [e]; simp)]; exact h
theorem wPart_ok {lo : E} {k : Option Int → PEnv → Prop} (h : wPart C lo ρ k kx) : wR (if isEmp lo then .ok none ρ else (pe C lo true ρ).bind fun s ρ => (onlyP s ρ).bind fun y ρ => popt (partOf y) ρ) k kx := by
  unfold wPart at h
  split at h
  · rename_i e; rw [if_pos e]; exact h
  · rename_i e
    rw [if_neg e]
    refine wR_bind (wR_mono h (fun s ρ h => ?_) fun _ _ _ h => h)
    obtain ⟨i, rfl, h⟩ := h
    exact h
theorem w_slc {a lo hi : E} (h : wR (pe C a false ρ) (fun s ρ => wPart C lo ρ (fun l ρ => wPart C hi ρ (fun r ρ => chk a s.val ρ = true ∧ wO (slc s.val l r) fun z => k (.p z) ρ) kx) kx) kx) : wR (pe C (.slc a lo hi) x ρ) k kx := by
  rw [pe]
  refine wR_bind (wR_mono h (fun s ρ h => wR_bind (wPart_ok ?_)) fun _ _ _ h => h)
  unfold wPart at h ⊢
  have key : ∀ l ρ, wPart C hi ρ (fun r ρ => chk a s.val ρ = true ∧ wO (slc s.val l r) fun z => k (.p z) ρ) kx → wR ((if isEmp hi then .ok none ρ else (pe C hi true ρ).bind fun s ρ => (onlyP s ρ).bind fun y ρ => popt (partOf y) ρ).bind
      fun h ρ => if chk a s.val ρ then (popt (slc s.val l h) ρ).bind fun z ρ => .ok (.p z) ρ else .stuck) k kx := fun l ρ h => by
    refine wR_bind (wR_mono (wPart_ok h) (fun r ρ h => ?_) fun _ _ _ h => h)
    rw [h.1, if_pos rfl]
    refine wR_bind ?_
    cases e : slc s.val l r with
    | none => rw [e] at h; exact h.2.elim
    | some z => rw [e] at h; exact h.2
  split at h
  · rename_i e; rw [if_pos e]; exact key _ _ h
  · rename_i e
    rw [if_neg e]
    refine wR_mono h (fun s ρ h => ?_) fun _ _ _ h => h
    obtain ⟨i, rfl, h⟩ := h
    exact ⟨i, rfl, key _ _ h⟩
theorem w_rev {a : E} (h : wR (pe C a false ρ) (fun s ρ => wO (rev s.val) fun z => k (.p z) ρ) kx) : wR (pe C (.rev a) x ρ) k kx := by
  rw [pe]
  refine wR_bind (wR_mono h (fun s ρ h => ?_) fun _ _ _ h => h)
  refine wR_bind ?_
  cases e : rev s.val with
  | none => rw [e] at h; exact h.elim
  | some z => rw [e] at h; exact h
theorem w_tup {es : Es} (h : wR (pes C es ρ) (fun ss ρ => wO (pvs_ ss) fun vs => k (.p (.tup vs)) ρ) kx) : wR (pe C (.tup es) x ρ) k kx := by
  rw [pe]
  refine wR_bind (wR_mono h (fun ss ρ h => ?_) fun _ _ _ h => h)
  refine wR_bind ?_
  unfold onlyPs
  cases e : pvs_ ss with
  | none => rw [e] at h; exact h.elim
  | some z => rw [e] at h; exact h
theorem w_lst {es : Es} (h : wR (pes C es ρ) (fun ss ρ => wO (pvs_ ss) fun vs => k (.p (.lst vs)) ρ) kx) : wR (pe C (.lst es) x ρ) k kx := by
  rw [pe]
  refine wR_bind (wR_mono h (fun ss ρ h => ?_) fun _ _ _ h => h)
  refine wR_bind ?_
  unfold onlyPs
  cases e : pvs_ ss with
  | none => rw [e] at h; exact h.elim
  | some z => rw [e] at h; exact h
theorem w_es0 {k : List Sl → PEnv → Prop} (h : k [] ρ) : wR (pes C .nil ρ) k kx := by
  rw [pes]; exact h
theorem w_es1 {a : E} {r : Es} {k : List Sl → PEnv → Prop} (h : wR (pe C a true ρ) (fun s ρ => wR (pes C r ρ) (fun ss ρ => k (s :: ss) ρ) kx) kx) : wR (pes C (.cons a r) ρ) k kx := by
  rw [pes]
  exact wR_bind (wR_mono h (fun s ρ h => wR_bind h) fun _ _ _ h => h)
theorem w_os0 {k : List Val → PEnv → Prop} (h : k [] ρ) : wR (pos C .nil ρ) k kx := by
  rw [pos]; exact h
theorem w_os1 {a : E} {r : Es} {k : List Val → PEnv → Prop} (h : wR (pe C a false ρ) (fun s ρ => wR (pos C r ρ) (fun ss ρ => k (s.val :: ss) ρ) kx) kx) : wR (pos C (.cons a r) ρ) k kx := by
  rw [pos]
  exact wR_bind (wR_mono h (fun s ρ h => wR_bind h) fun _ _ _ h => h)
/-! ### comprehensions -/
def turnP (C : PCx) (elt : E) (own : List Nat) (tg : Tg) (cd : Es) (v : Val) (ρ : PEnv) : PR (Option Val) := match bindP tg v (wipeP ρ own) with
  | none => .stuck
  | some ρ1 => (peCd C cd ρ1).nox.bind fun k ρ2 => if k then (pe C elt true ρ2).nox.bind fun s ρ3 => (onlyP s (restP ρ own ρ3)).bind fun y ρ4 => .ok (some y) ρ4 else .ok none (restP ρ own ρ2)
theorem w_comp {st : Bool} {elt : E} {own : List Nat} {tg : Tg} {it : It} {cd : Es} (h : wR (pit C it false ρ) (fun q ρ0 => q.1.length ≤ LINE ∧ wR (pcompL (turnP C elt own tg cd) (views q.2) q.1 ρ0) (fun vs ρ => k (.p (if st then .set (dedup [] vs) else .lst vs)) ρ) kx) kx) :
    wR (pe C (.comp st elt own tg it cd) x ρ) k kx := by
  rw [pe]
  refine wR_bind (wR_mono h (fun q ρ h => ?_) fun _ _ _ h => h)
  rw [if_pos h.1]
  refine wR_bind (wR_mono h.2 (fun vs ρ h => ?_) fun _ _ _ h => h)
  cases st with
  | true => exact h
  | false => exact h
/-- a comprehension whose turns change nothing -/
theorem w_map {f : Val → PEnv → PR (Option Val)} {w : PEnv → Bool} {k : List Val → PEnv → Prop} {α : Type} (enc : α → Val) (g : α → Option Val) {xs : List α} (hw : w ρ = true) (hf : ∀ a ∈ xs, f (enc a) ρ = .ok (g a) ρ) (h : k (xs.filterMap g) ρ) :
    wR (pcompL f w (xs.map enc) ρ) k kx := by
  have z : pcompL f w (xs.map enc) ρ = .ok (xs.filterMap g) ρ := by
    clear h
    induction xs with
    | nil => rfl
    | cons a xs ih =>
      rw [List.map_cons, pcompL, hf a List.mem_cons_self]
      show (if w ρ = true then _ else _) = _
      rw [if_pos hw, ih fun b hb => hf b (List.mem_cons_of_mem _ hb)]
      show PR.ok ((g a).toList ++ xs.filterMap g) ρ = _
      rw [List.filterMap_cons]
      cases g a <;> rfl
  rw [z]
  exact h
/-- the turn of one, told by what holds behind it -/
theorem turn_ok {elt : E} {own : List Nat} {tg : Tg} {cd : Es} {v : Val} {ρ1 : PEnv} {o : Option Val} (hb : bindP tg v (wipeP ρ own) = some ρ1)
    (h : wR (peCd C cd ρ1) (fun t ρ2 => if t = true then wR (pe C elt true ρ2) (fun s ρ3 => ∃ y, s = .p y ∧ o = some y ∧ restP ρ own ρ3 = ρ') fun _ _ _ => False else o = none ∧ restP ρ own ρ2 = ρ') fun _ _ _ => False) : turnP C elt own tg cd v ρ = .ok o ρ' := by
  unfold turnP
  rw [hb]
  dsimp only
  cases e : peCd C cd ρ1 with
  | stuck => rw [e] at h; exact h.elim
  | exc _ _ _ => rw [e] at h; exact h.elim
  | ok t ρ2 =>
    rw [e] at h
    cases t with
    | false =>
      obtain ⟨rfl, e2⟩ := (show o = none ∧ restP ρ own ρ2 = ρ' from h)
      show PR.ok none (restP ρ own ρ2) = _
      rw [e2]
    | true =>
      have h : wR (pe C elt true ρ2) (fun s ρ3 => ∃ y, s = .p y ∧ o = some y ∧ restP ρ own ρ3 = ρ') fun _ _ _ => False := h
      show PR.bind (pe C elt true ρ2).nox _ = _
      cases e2 : pe C elt true ρ2 with
      | stuck => rw [e2] at h; exact h.elim
      | exc _ _ _ => rw [e2] at h; exact h.elim
      | ok s ρ3 =>
        rw [e2] at h
        obtain ⟨y, rfl, rfl, e3⟩ := h
        show PR.ok (some y) (restP ρ own ρ3) = _
        rw [e3]
theorem w_cd0 {k : Bool → PEnv → Prop} (h : k true ρ) : wR (peCd C .nil ρ) k kx := by
  rw [peCd]; exact h
theorem w_cd1 {c : E} {k : Bool → PEnv → Prop} (h : wR (pe C c false ρ) (fun s ρ => wO (tru s.val) fun t => k t ρ) kx) : wR (peCd C (.cons c .nil) ρ) k kx := by
  rw [peCd]
  refine wR_bind (wR_mono h (fun s ρ h => ?_) fun _ _ _ h => h)
  cases e : tru s.val with
  | none => rw [e] at h; exact h.elim
  | some z => rw [e] at h; exact h
/-! ### what is walked -/
theorem w_itV {a : E} {k : List Val × List (E × Val) → PEnv → Prop} (h : wR (pe C a x ρ) (fun s ρ => wO (iterOf s.val) fun xs => k (xs, if x then [] else [(a, s.val)]) ρ) kx) : wR (pit C (.val a) x ρ) k kx := by
  rw [pit]
  refine wR_bind (wR_mono h (fun s ρ h => ?_) fun _ _ _ h => h)
  refine wR_bind ?_
  cases e : iterOf s.val with
  | none => rw [e] at h; exact h.elim
  | some z => rw [e] at h; exact h
theorem w_itE {a : E} {k : List Val × List (E × Val) → PEnv → Prop} (h : wR (pe C a x ρ) (fun s ρ => wO (seqOf s.val) fun xs => k (enuL 0 xs, if x then [] else [(a, s.val)]) ρ) kx) : wR (pit C (.enu a) x ρ) k kx := by
  rw [pit]
  refine wR_bind (wR_mono h (fun s ρ h => ?_) fun _ _ _ h => h)
  refine wR_bind ?_
  cases e : seqOf s.val with
  | none => rw [e] at h; exact h.elim
  | some z => rw [e] at h; exact h
theorem w_itR {es : Es} {k : List Val × List (E × Val) → PEnv → Prop} (h : wR (pes C es ρ) (fun ss ρ => wO (pvs_ ss) fun vs => wO (rng vs) fun xs => k (xs, []) ρ) kx) : wR (pit C (.rng es) x ρ) k kx := by
  rw [pit]
  refine wR_bind (wR_mono h (fun ss ρ h => ?_) fun _ _ _ h => h)
  refine wR_bind ?_
  unfold onlyPs
  cases e : pvs_ ss with
  | none => rw [e] at h; exact h.elim
  | some z =>
    rw [e] at h
    refine wR_bind ?_
    have h : wO (rng z) fun xs => k (xs, []) ρ := h
    cases e2 : rng z with
    | none => rw [e2] at h; exact h.elim
    | some w => rw [e2] at h; exact h
theorem w_itZ {a b : E} {st : Bool} {k : List Val × List (E × Val) → PEnv → Prop} (h : wR (pe C a x ρ) (fun s ρ => wR (pe C b x ρ) (fun t ρ => (x || chk a s.val ρ) = true ∧ wO (zipOf st s.val t.val) fun zs => k (zs, if x then [] else [(a, s.val), (b, t.val)]) ρ) kx) kx) :
    wR (pit C (.zip a b st) x ρ) k kx := by
  rw [pit]
  refine wR_bind (wR_mono h (fun s ρ h => wR_bind (wR_mono h (fun t ρ h => ?_) fun _ _ _ h => h)) fun _ _ _ h => h)
  rw [h.1, if_pos rfl]
  refine wR_bind ?_
  cases e : zipOf st s.val t.val with
  | none => rw [e] at h; exact h.2.elim
  | some z => rw [e] at h; exact h.2
theorem w_itI {a : E} {k : List Val × List (E × Val) → PEnv → Prop} (h : wR (pe C a x ρ) (fun s ρ => ∃ ks vs, s.val = .dct ks vs ∧ k (zipL ks vs, if x then [] else [(a, s.val)]) ρ) kx) : wR (pit C (.items a) x ρ) k kx := by
  rw [pit]
  refine wR_bind (wR_mono h (fun s ρ h => ?_) fun _ _ _ h => h)
  obtain ⟨ks, vs, e, h⟩ := h
  rw [e] at h ⊢
  exact h
/-! ### calls, built-ins -/
theorem w_call {f : Nat} {es : Es} {al : Bool} (h : wR (pas C f true 0 es ρ) (fun as ρ => wR (pcall C f as al ρ) k kx) kx) : wR (pe C (.call f es al) x ρ) k kx := by
  rw [pe]; exact wR_bind h
theorem w_callk {f : Nat} {es kes : Es} {perm : List Nat} {al : Bool} (h : wR (pas C f false 0 es ρ) (fun as ρ => wR (pas C f false 0 kes ρ) (fun bs ρ => wR (pcall C f (perm.map fun i => (as ++ bs).getD i (.val (.p .non))) al ρ) k kx) kx) kx) :
    wR (pe C (.callk f es kes perm al) x ρ) k kx := by
  rw [pe]
  exact wR_bind (wR_mono h (fun _ _ h => wR_bind h) fun _ _ _ h => h)
theorem w_as0 {f j : Nat} {b : Bool} {k : List PArg → PEnv → Prop} (h : k [] ρ) : wR (pas C f b j .nil ρ) k kx := by
  rw [pas]; exact h
theorem w_asV {f j i : Nat} {b : Bool} {r : Es} {k : List PArg → PEnv → Prop} (h : wR (argVar (b && C.io f j) i ρ) (fun a ρ => wR (pas C f b (j + 1) r ρ) (fun as ρ => k (a :: as) ρ) kx) kx) : wR (pas C f b j (.cons (.var i) r) ρ) k kx := by
  rw [pas]
  exact wR_bind (wR_mono h (fun _ _ h => wR_bind h) fun _ _ _ h => h)
theorem w_asE {f j : Nat} {a : E} {b : Bool} {r : Es} {k : List PArg → PEnv → Prop} (hv : isVar a = none) (h : wR (pe C a true ρ) (fun s ρ => wR (argOf (b && C.io f j) s ρ) (fun a ρ => wR (pas C f b (j + 1) r ρ) (fun as ρ => k (a :: as) ρ) kx) kx) kx) :
    wR (pas C f b j (.cons a r) ρ) k kx := by
  rw [pas, hv]
  exact wR_bind (wR_bind (wR_mono h (fun _ _ h => wR_mono h (fun _ _ h => wR_bind h) fun _ _ _ h => h) fun _ _ _ h => h))
theorem w_aio {i : Nat} {b l : Bool} {v : Val} {k : PArg → PEnv → Prop} (e : b = true) (e1 : ρ[i]? = some (some (.o l v))) (h : k (.io i) ρ) : wR (argVar b i ρ) k kx := by
  subst e; unfold argVar; rw [e1]; exact h
theorem w_aO {i : Nat} {b l : Bool} {v : Val} {k : PArg → PEnv → Prop} (e : b = false) (e1 : ρ[i]? = some (some (.o l v))) (h : k (.view i v) ρ) : wR (argVar b i ρ) k kx := by
  subst e; unfold argVar; rw [e1]; exact h
theorem w_aR {i : Nat} {b l : Bool} {v : Val} {k : PArg → PEnv → Prop} (e : b = false) (e1 : ρ[i]? = some (some (.r l v))) (h : k (.val (.r false v)) ρ) : wR (argVar b i ρ) k kx := by
  subst e; unfold argVar; rw [e1]; exact h
theorem w_aP {i : Nat} {b : Bool} {v : Val} {k : PArg → PEnv → Prop} (e : b = false) (e1 : ρ[i]? = some (some (.p v))) (h : k (.val (.p v)) ρ) : wR (argVar b i ρ) k kx := by
  subst e; unfold argVar; rw [e1]; exact h
theorem w_eP {b : Bool} {v : Val} {k : PArg → PEnv → Prop} (h : k (.val (.p v)) ρ) : wR (argOf b (.p v) ρ) k kx := h
theorem w_eR {b l : Bool} {v : Val} {k : PArg → PEnv → Prop} (h : k (.val (.r false v)) ρ) : wR (argOf b (.r l v) ρ) k kx := h
theorem w_eO {b l : Bool} {v : Val} {k : PArg → PEnv → Prop} (e : b = true) (h : k (.val (.o false v)) ρ) : wR (argOf b (.o l v) ρ) k kx := by
  subst e; exact h
theorem w_pcall {f : Nat} {as : List PArg} {al : Bool} {ss outs : List Sl} {v : Val} (h1 : apart as = true) (h2 : argsS ρ as = some ss) (h3 : C.call f ss al = .ok (.p v) outs) (h4 : backS as outs ρ = some ρ') (h : k (.p v) ρ') : wR (pcall C f as al ρ) k kx := by
  unfold pcall
  rw [if_pos h1, h2]
  dsimp only
  rw [h3]
  dsimp only
  rw [h4]
  exact h
theorem w_pcallO {f : Nat} {as : List PArg} {ss outs : List Sl} {v : Val} (h1 : apart as = true) (h2 : argsS ρ as = some ss) (h3 : C.call f ss true = .ok (.o true v) outs) (h4 : backS as outs ρ = some ρ') (h : k (.o true v) ρ') : wR (pcall C f as true ρ) k kx := by
  unfold pcall
  rw [if_pos h1, h2]
  dsimp only
  rw [h3]
  dsimp only
  rw [if_pos rfl, h4]
  exact h
theorem w_blt {b : B} {es : Es} (h : wR (pos C es ρ) (fun vs ρ => chks es vs ρ = true ∧ wO (blt b vs) fun z => k (.p z) ρ) kx) : wR (pe C (.blt b es) x ρ) k kx := by
  rw [pe]
  refine wR_bind (wR_mono h (fun vs ρ h => ?_) fun _ _ _ h => h)
  rw [h.1, if_pos rfl]
  refine wR_bind ?_
  cases e : blt b vs with
  | none => rw [e] at h; exact h.2.elim
  | some z => rw [e] at h; exact h.2
theorem w_isi {a : E} {tys : List Ty} (h : wR (pe C a false ρ) (fun s ρ => wO (tys.mapM fun t => isTy C.sup s.val t) fun bs => k (.p (.bl (bs.any id))) ρ) kx) : wR (pe C (.isi a tys) x ρ) k kx := by
  rw [pe]
  refine wR_bind (wR_mono h (fun s ρ h => ?_) fun _ _ _ h => h)
  refine wR_bind ?_
  cases e : tys.mapM fun t => isTy C.sup s.val t with
  | none => rw [e] at h; exact h.elim
  | some z => rw [e] at h; exact h
theorem w_mth {m : Mth} {n : Nat} {es : Es} {l : Bool} {v : Val} (e : ρ[n]? = some (some (.o l v))) (e2 : mutV m v = true)
    (h : wR (pes C es ρ) (fun ss ρ => wO (pvs_ ss) fun vs => ∃ l u, ρ[n]? = some (some (.o l u)) ∧ wO (mthV m u vs) fun q => k (.p q.1) (ρ.set n (some (.o l q.2)))) kx) : wR (pe C (.mth m (.var n) es) x ρ) k kx := by
  rw [pe]
  have : ownIs ρ n (mutV m) = true := by unfold ownIs; rw [e]; exact e2
  rw [if_pos this]
  refine wR_bind (wR_mono h (fun ss ρ h => ?_) fun _ _ _ h => h)
  refine wR_bind ?_
  unfold onlyPs
  cases e : pvs_ ss with
  | none => rw [e] at h; exact h.elim
  | some vs =>
    rw [e] at h
    obtain ⟨l, u, e1, h⟩ := h
    show wR (ownMth ρ n fun v => mthV m v vs) k kx
    unfold ownMth
    rw [e1]
    dsimp only
    cases e2 : mthV m u vs with
    | none => rw [e2] at h; exact h.elim
    | some q => rw [e2] at h; exact h
theorem w_new {a : E} (h : wR (pe C a true ρ) (fun s ρ => ∃ xs, s = .p (.lst xs) ∧ k (.o true (.lst xs)) ρ) kx) : wR (pe C (.new a) x ρ) k kx := by
  rw [pe]
  refine wR_bind (wR_mono h (fun s ρ h => ?_) fun _ _ _ h => h)
  obtain ⟨xs, rfl, h⟩ := h
  exact h
theorem w_dict {ks vs : Es} (h : wR (pes C ks ρ) (fun ss ρ => wO (pvs_ ss) fun us => wR (pes C vs ρ) (fun ss ρ => wO (pvs_ ss) fun ws => (us.length == ws.length && us.all fun k => keysOk k us) = true ∧ k (.o true (.dct (dictOf us ws).1 (dictOf us ws).2)) ρ) kx) kx) : wR (pe C (.dict ks vs) x ρ) k kx := by
  rw [pe]
  refine wR_bind (wR_mono h (fun ss ρ h => ?_) fun _ _ _ h => h)
  refine wR_bind ?_
  unfold onlyPs
  cases e : pvs_ ss with
  | none => rw [e] at h; exact h.elim
  | some us =>
    rw [e] at h
    refine wR_bind (wR_mono h (fun ss ρ h => ?_) fun _ _ _ h => h)
    refine wR_bind ?_
    cases e : pvs_ ss with
    | none => rw [e] at h; exact h.elim
    | some ws =>
      rw [e] at h
      show wR (if (us.length == ws.length && us.all fun k => keysOk k us) = true then _ else _) k kx
      rw [if_pos h.1]
      exact h.2
theorem w_fld {a : E} {j : Nat} (h : wR (pe C a false ρ) (fun s ρ => ∃ c fs, s.val = .exc c fs ∧ fldNo c = j ∧ wO fs[0]? fun z => k (.p z) ρ) kx) : wR (pe C (.fld a j) x ρ) k kx := by
  rw [pe]
  refine wR_bind (wR_mono h (fun s ρ h => ?_) fun _ _ _ h => h)
  obtain ⟨c, fs, e, ej, h⟩ := h
  rw [e]
  dsimp only
  rw [if_pos ej]
  refine wR_bind ?_
  cases e : fs[0]? with
  | none => rw [e] at h; exact h.elim
  | some z => rw [e] at h; exact h
/-! ### statements -/
theorem w_nil (h : kn ρ) : wS (pss C .nil ρ) kn kr kx := by
  rw [pss]; exact h
theorem w_cons {s : S} {r : Ss} (h : wS (ps C s ρ) (fun ρ => wS (pss C r ρ) kn kr kx) kr kx) : wS (pss C (.cons s r) ρ) kn kr kx := by
  rw [pss]; exact wS_bind h
def inB : Nat → PEnv → Bool
  | 0, _ :: _ => true
  | i + 1, _ :: ρ => inB i ρ
  | _, [] => false
theorem inB_lt : ∀ {i : Nat} {ρ : PEnv}, inB i ρ = true → i < ρ.length
  | 0, _ :: _, _ => by simp
  | i + 1, _ :: ρ, h => by
    have := inB_lt (i := i) (ρ := ρ) h
    simp; omega
  | 0, [], h => by cases h
  | _ + 1, [], h => by cases h
theorem w_asg {i : Nat} {e : E} (h : wR (pe C e true ρ) (fun s ρ => inB i ρ = true ∧ kn (ρ.set i (some s))) kx) : wS (ps C (.asg (.nm i) e) ρ) kn kr kx := by
  rw [ps]
  refine wS_thn (wR_mono h (fun s ρ h => ?_) fun _ _ _ h => h)
  rw [if_pos (inB_lt h.1)]
  exact h.2
theorem w_asgs {ts : List Tg} {es : Es} (h : wR (pes C es ρ) (fun ss ρ => wO (bindSs ts ss ρ) kn) kx) : wS (ps C (.asg (.tup ts) (.tup es)) ρ) kn kr kx := by
  rw [ps]
  refine wS_thn (wR_mono h (fun s ρ h => ?_) fun _ _ _ h => h)
  cases e : bindSs ts s ρ with
  | none => rw [e] at h; exact h.elim
  | some z => rw [e] at h; exact h
def isTupE : E → Bool
  | .tup _ => true
  | _ => false
theorem w_asgt {ts : List Tg} {e : E} (he : isTupE e = false) (h : wR (pe C e true ρ) (fun s ρ => wO (bindP (.tup ts) s.val ρ) kn) kx) : wS (ps C (.asg (.tup ts) e) ρ) kn kr kx := by
  have key : ps C (.asg (.tup ts) e) ρ = (pe C e true ρ).thn fun s ρ => match bindP (.tup ts) s.val ρ with
      | some ρ => .nxt ρ
      | none => .stuck := by
    clear h
    cases e <;> first | (cases he; done) | (rw [ps] <;> (intros; first | rfl | contradiction | (rename_i h; cases h)))
  rw [key]
  refine wS_thn (wR_mono h (fun s ρ h => ?_) fun _ _ _ h => h)
  cases e : bindP (.tup ts) s.val ρ with
  | none => rw [e] at h; exact h.elim
  | some z => rw [e] at h; exact h
theorem w_asgx {a b : List Tg} {i : Nat} {e : E} (h : wR (pe C e true ρ) (fun s ρ => wO (bindP (.star a i b) s.val ρ) kn) kx) : wS (ps C (.asg (.star a i b) e) ρ) kn kr kx := by
  have key : ps C (.asg (.star a i b) e) ρ = (pe C e true ρ).thn fun s ρ => match bindP (.star a i b) s.val ρ with
      | some ρ => .nxt ρ
      | none => .stuck := by
    clear h
    rw [ps] <;> (intros; first | rfl | contradiction | (rename_i h _; cases h) | (rename_i h; cases h))
  rw [key]
  refine wS_thn (wR_mono h (fun s ρ h => ?_) fun _ _ _ h => h)
  cases e : bindP (.star a i b) s.val ρ with
  | none => rw [e] at h; exact h.elim
  | some z => rw [e] at h; exact h
theorem w_set {n : Nat} {i e : E} {l : Bool} {v0 : Val} (e0 : ρ[n]? = some (some (.o l v0))) (h : wR (pe C e true ρ) (fun s ρ => ∃ v, s = .p v ∧ wR (pe C i true ρ) (fun t ρ => ∃ y, t = .p y ∧ wO (ownSet ρ n fun x => setV x y v) kn) kx) kx) : wS (ps C (.set (.var n) i e) ρ) kn kr kx := by
  rw [ps, if_pos (by unfold ownIs; rw [e0])]
  refine wS_thn (wR_mono h (fun s ρ h => ?_) fun _ _ _ h => h)
  obtain ⟨v, rfl, h⟩ := h
  refine wS_thn (wR_popt (a := v) rfl ?_)
  refine wS_thn (wR_mono h (fun t ρ h => ?_) fun _ _ _ h => h)
  obtain ⟨y, rfl, h⟩ := h
  refine wS_thn (wR_popt (a := y) rfl ?_)
  cases e : ownSet ρ n fun x => setV x y v with
  | none => rw [e] at h; exact h.elim
  | some z => rw [e] at h; exact h
theorem w_sets {n : Nat} {lo hi e : E} {l : Bool} {v0 : Val} (e0 : ρ[n]? = some (some (.o l v0))) (h : wR (pe C e true ρ) (fun s ρ => ∃ v, s = .p v ∧ wR (pe C lo true ρ) (fun t ρ => ∃ y, t = .p y ∧ wR (pe C hi true ρ) (fun t ρ => ∃ z, t = .p z ∧ wO (ownSet ρ n fun x => setsV x y z v) kn) kx) kx) kx) : wS (ps C (.sets (.var n) lo hi e) ρ) kn kr kx := by
  rw [ps, if_pos (by unfold ownIs; rw [e0])]
  refine wS_thn (wR_mono h (fun s ρ h => ?_) fun _ _ _ h => h)
  obtain ⟨v, rfl, h⟩ := h
  refine wS_thn (wR_popt (a := v) rfl ?_)
  refine wS_thn (wR_mono h (fun t ρ h => ?_) fun _ _ _ h => h)
  obtain ⟨y, rfl, h⟩ := h
  refine wS_thn (wR_popt (a := y) rfl ?_)
  refine wS_thn (wR_mono h (fun t ρ h => ?_) fun _ _ _ h => h)
  obtain ⟨z, rfl, h⟩ := h
  refine wS_thn (wR_popt (a := z) rfl ?_)
  cases e : ownSet ρ n fun x => setsV x y z v with
  | none => rw [e] at h; exact h.elim
  | some z => rw [e] at h; exact h
theorem w_exp {e : E} (h : wR (pe C e true ρ) (fun _ ρ => kn ρ) kx) : wS (ps C (.exp e) ρ) kn kr kx := by
  rw [ps]; exact wS_thn h
theorem w_ret {e : E} (h : wR (pe C e true ρ) kr kx) : wS (ps C (.ret e) ρ) kn kr kx := by
  rw [ps]; exact wS_thn h
theorem w_retn (h : kr (.p .non) ρ) : wS (ps C .retn ρ) kn kr kx := by
  rw [ps]; exact h
theorem w_iff {c : E} {a b : Ss} (h : wR (pe C c false ρ) (fun s ρ => wO (tru s.val) fun t => if t = true then wS (pss C a ρ) kn kr kx else wS (pss C b ρ) kn kr kx) kx) : wS (ps C (.iff c a b) ρ) kn kr kx := by
  rw [ps]
  refine wS_thn (wR_mono h (fun s ρ h => ?_) fun _ _ _ h => h)
  cases e : tru s.val with
  | none => rw [e] at h; exact h.elim
  | some t =>
    rw [e] at h
    cases t with
    | true => exact h
    | false => exact h
def bodyP (C : PCx) (tg : Tg) (body : Ss) (v : Val) (ρ : PEnv) : PRs := match bindP tg v ρ with
  | some ρ => pss C body ρ
  | none => .stuck
theorem w_for {tg : Tg} {it : It} {body : Ss} (h : wR (pit C it true ρ) (fun q ρ => wS (ploop (bodyP C tg body) q.1 ρ) kn kr kx) kx) : wS (ps C (.for tg it body) ρ) kn kr kx := by
  rw [ps]; exact wS_thn h
theorem w_body {tg : Tg} {body : Ss} {v : Val} {ρ1 : PEnv} (e : bindP tg v ρ = some ρ1) (h : wS (pss C body ρ1) kn kr kx) : wS (bodyP C tg body v ρ) kn kr kx := by
  unfold bodyP; rw [e]; exact h
theorem wS_mono {r : PRs} {kn' : PEnv → Prop} {kr' : Sl → PEnv → Prop} {kx' : KX} (h : wS r kn kr kx) (h1 : ∀ ρ, kn ρ → kn' ρ) (h2 : ∀ s ρ, kr s ρ → kr' s ρ) (h3 : ∀ c fs ρ, kx c fs ρ → kx' c fs ρ) : wS r kn' kr' kx' := by
  cases r with
  | nxt ρ => exact h1 ρ h
  | ret s ρ => exact h2 s ρ h
  | exc c fs ρ => exact h3 c fs ρ h
  | stuck => exact h
/-- a loop by what holds ahead of each turn: of what is done and what is left -/
theorem w_loop {f : Val → PEnv → PRs} {α : Type} (enc : α → Val) (P : List α → List α → PEnv → Prop) {xs : List α} (h0 : P [] xs ρ) (hs : ∀ d a r ρ, xs = d ++ a :: r → P d (a :: r) ρ → wS (f (enc a) ρ) (P (d ++ [a]) r) kr kx) (hd : ∀ ρ, P xs [] ρ → kn ρ) : wS (ploop f (xs.map enc) ρ) kn kr kx := by
  have key : ∀ (r d : List α) (ρ : PEnv), xs = d ++ r → P d r ρ → wS (ploop f (r.map enc) ρ) kn kr kx := by
    intro r
    induction r with
    | nil =>
      intro d ρ e h
      rw [List.append_nil] at e
      subst e
      exact hd ρ h
    | cons a r ih =>
      intro d ρ e h
      rw [List.map_cons, ploop]
      refine wS_bind (wS_mono (hs d a r ρ e h) (fun ρ h => ih (d ++ [a]) ρ (by simp [e]) h) (fun _ _ h => h) fun _ _ _ h => h)
  exact key xs [] ρ rfl h0
theorem w_whl {c : E} {body : Ss} (h : wS (ploopW (fun ρ => (pe C c false ρ).bind fun x ρ => popt (tru x.val) ρ) (pss C body) WF ρ) kn kr kx) : wS (ps C (.whl c body) ρ) kn kr kx := by
  rw [ps]; exact h
/-- a while by what holds ahead of each turn with so much left -/
theorem w_while {c : E} {body : Ss} (P : Nat → PEnv → Prop) (n : Nat) (hn : n < WF) (h0 : P n ρ) (hs : ∀ n ρ, P n ρ → wR (pe C c false ρ) (fun s ρ => wO (tru s.val) fun t => if t = true then wS (pss C body ρ) (fun ρ => ∃ m, m < n ∧ P m ρ) kr kx else kn ρ) kx) : wS (ps C (.whl c body) ρ) kn kr kx := by
  refine w_whl ?_
  have key : ∀ (w n : Nat) (ρ : PEnv), n < w → P n ρ → wS (ploopW (fun ρ => (pe C c false ρ).bind fun x ρ => popt (tru x.val) ρ) (pss C body) w ρ) kn kr kx := by
    intro w
    induction w with
    | zero => intro n ρ h; omega
    | succ w ih =>
      intro n ρ hw h
      rw [ploopW]
      refine wS_thn (wR_bind (wR_mono (hs n ρ h) (fun s ρ h => ?_) fun _ _ _ h => h))
      cases e : tru s.val with
      | none => rw [e] at h; exact h.elim
      | some t =>
        rw [e] at h
        cases t with
        | true =>
          have h : wS (pss C body ρ) (fun ρ => ∃ m, m < n ∧ P m ρ) kr kx := h
          exact wS_bind (wS_mono h (fun ρ ⟨m, hm, h⟩ => ih m ρ (by omega) h) (fun _ _ h => h) fun _ _ _ h => h)
        | false => exact h
  exact key WF n ρ hn h0
theorem w_raise {c : Nat} {es : Es} (h : wR (pes C es ρ) (fun ss ρ => wO (pvs_ ss) fun vs => kx c vs ρ) kx) : wS (ps C (.raise c es) ρ) kn kr kx := by
  rw [ps]
  refine wS_thn (wR_mono h (fun ss ρ h => ?_) fun _ _ _ h => h)
  refine wS_thn ?_
  unfold onlyPs
  cases e : pvs_ ss with
  | none => rw [e] at h; exact h.elim
  | some z => rw [e] at h; exact h
theorem w_try {body : Ss} {hs : Hs} (h : wS (pss C body ρ) kn kr fun c fs ρ => wS (psH C hs c fs ρ) kn kr kx) : wS (ps C (.try body hs) ρ) kn kr kx := by
  rw [ps]
  cases e : pss C body ρ <;> rw [e] at h <;> exact h
theorem w_pass (h : kn ρ) : wS (ps C .pass ρ) kn kr kx := by
  rw [ps]; exact h
theorem w_h0 {c : Nat} {fs : List Val} (h : kx c fs ρ) : wS (psH C .nil c fs ρ) kn kr kx := by
  rw [psH.eq_def]; exact h
end
theorem chk_var {i : Nat} {v : Val} {s : Sl} {ρ : PEnv} (e : ρ[i]? = some (some s)) (h : s.val = v) : chk (.var i) v ρ = true := by
  subst h; simp only [chk, e, same_self]
theorem pcop_eq (i j : Int) : cop .Eq (.int i) (.int j) = some (decide (i = j)) := by
  by_cases h : i = j <;> simp [cop, Val.cmpOk, Val.data, Val.deep, Val.eqv, h]
theorem pcop_ne (i j : Int) : cop .NotEq (.int i) (.int j) = some (!decide (i = j)) := by
  by_cases h : i = j <;> simp [cop, Val.cmpOk, Val.data, Val.deep, Val.eqv, h]
theorem tru_int (i : Int) : tru (.int i) = some (decide (i ≠ 0)) := by
  by_cases h : i = 0 <;> simp [tru, h]
theorem wO_some {α : Type} {o : Option α} {a : α} {k : α → Prop} (e : o = some a) (h : k a) : wO o k := by subst e; exact h
theorem w_env {C : PCx} {ρ ρ' : PEnv} {ss : Ss} {kn : PEnv → Prop} {kr : Sl → PEnv → Prop} {kx : KX} (e : ρ = ρ') (h : wS (pss C ss ρ') kn kr kx) : wS (pss C ss ρ) kn kr kx := e ▸ h
/-! ### a def -/
inductive Rets : Bool → Val → Sl → Prop
  | p {al : Bool} {v : Val} : Rets al v (.p v)
  | r {v : Val} : Rets false v (.r true v)
  | o {v : Val} : Rets false v (.o true v)
/-- a call that ends in a clean value -/
theorem call_ok {G : Prog} {io : Nat → Nat → Bool} {k f : Nat} {d : Def} {ss : List Sl} {al : Bool} {v : Val} {outs : List Sl} (hG : G.defs f = some d) (hl : ss.length = d.np)
    (h : wS (pss (pctx G io (callP G io k)) d.body (ss.map some ++ List.replicate (d.ns - d.np) none)) (fun ρ => v = .non ∧ outS ss ρ = outs) (fun s ρ => Rets al v s ∧ outS ss ρ = outs) fun _ _ _ => False) :
    callP G io (k + 1) f ss al = .ok (.p v) outs := by
  show (match G.defs f with
    | some d => if ss.length = d.np then exitP al (runP (pctx G io (callP G io k)) d ss) else .stuck
    | none => .stuck) = _
  rw [hG]
  dsimp only
  rw [if_pos hl]
  unfold runP
  generalize pss (pctx G io (callP G io k)) d.body (ss.map some ++ List.replicate (d.ns - d.np) none) = z at h
  cases z with
  | stuck => exact h.elim
  | exc _ _ _ => exact h.elim
  | nxt ρ =>
    obtain ⟨rfl, h2⟩ := h
    dsimp only
    rw [h2]
    rfl
  | ret s ρ =>
    obtain ⟨h1, h2⟩ := h
    cases h1 <;> (dsimp only; rw [h2]; rfl)
theorem call_own {G : Prog} {io : Nat → Nat → Bool} {k f : Nat} {d : Def} {ss : List Sl} {v : Val} {outs : List Sl} (hG : G.defs f = some d) (hl : ss.length = d.np)
    (h : wS (pss (pctx G io (callP G io k)) d.body (ss.map some ++ List.replicate (d.ns - d.np) none)) (fun ρ => False) (fun s ρ => (s = .r true v ∨ s = .o true v) ∧ outS ss ρ = outs) fun _ _ _ => False) :
    callP G io (k + 1) f ss true = .ok (.o true v) outs := by
  show (match G.defs f with
    | some d => if ss.length = d.np then exitP true (runP (pctx G io (callP G io k)) d ss) else .stuck
    | none => .stuck) = _
  rw [hG]
  dsimp only
  rw [if_pos hl]
  unfold runP
  generalize pss (pctx G io (callP G io k)) d.body (ss.map some ++ List.replicate (d.ns - d.np) none) = z at h
  cases z with
  | stuck => exact h.elim
  | exc _ _ _ => exact h.elim
  | nxt ρ => exact h.elim
  | ret s ρ =>
    obtain ⟨h1, h2⟩ := h
    rcases h1 with rfl | rfl
    · dsimp only; rw [h2]; rfl
    · dsimp only; rw [h2]; rfl
end MP
set_option Elab.async false
set_option linter.all false
set_option maxRecDepth 100000
set_option maxHeartbeats 1000000
/-! MPPR: the language without cells against the one with cells: relations. -/
namespace MP
open PySem (Str Operator CmpOp PyData)
/-! ### same is equal -/
mutual
theorem psame_eq : ∀ a b : Val, a.same b = true → a = b
  | .non, b, h => by cases b <;> simp [Val.same] at h; rfl
  | .bl x, b, h => by cases b <;> simp [Val.same] at h; subst h; rfl
  | .int x, b, h => by cases b <;> simp [Val.same] at h; subst h; rfl
  | .str x, b, h => by cases b <;> simp [Val.same] at h; subst h; rfl
  | .ref x, b, h => by cases b <;> simp [Val.same] at h; subst h; rfl
  | .scr x, b, h => by cases b <;> simp [Val.same] at h; subst h; rfl
  | .tup xs, b, h => by
    cases b <;> simp only [Val.same, Bool.false_eq_true] at h
    rw [psameL_eq xs _ h]
  | .lst xs, b, h => by
    cases b <;> simp only [Val.same, Bool.false_eq_true] at h
    rw [psameL_eq xs _ h]
  | .set xs, b, h => by
    cases b <;> simp only [Val.same, Bool.false_eq_true] at h
    rw [psameL_eq xs _ h]
  | .dct ks vs, b, h => by
    cases b <;> simp only [Val.same, Bool.false_eq_true, Bool.and_eq_true] at h
    rw [psameL_eq ks _ h.1, psameL_eq vs _ h.2]
  | .exc c fs, b, h => by
    cases b <;> simp only [Val.same, Bool.false_eq_true, Bool.and_eq_true, beq_iff_eq] at h
    rw [h.1, psameL_eq fs _ h.2]
theorem psameL_eq : ∀ a b : List Val, sameL a b = true → a = b
  | [], b, h => by cases b <;> simp [sameL] at h; rfl
  | x :: xs, b, h => by
    cases b <;> simp only [sameL, Bool.false_eq_true, Bool.and_eq_true] at h
    rw [psame_eq x _ h.1, psameL_eq xs _ h.2]
end
theorem Cell.same_self : ∀ c : Cell, c.same c = true
  | .lst xs => sameL_self xs
  | .dct ks vs => by simp [Cell.same, sameL_self]
  | .ins c fs => by simp [Cell.same, sameL_self]
theorem dr_pure {m : M} {v : Val} (h : v.pure = true) : dr m v = v := by
  cases v <;> first | rfl | (simp [Val.pure] at h)
/-! ### what a cell shows -/
def At (m : M) (n : Nat) (v : Val) : Prop := v.pure = true ∧ ((∃ xs, v = .lst xs ∧ m[n]? = some (.lst xs)) ∨ ∃ ks vs, v = .dct ks vs ∧ m[n]? = some (.dct ks vs))
theorem At.lt {m : M} {n : Nat} {v : Val} (h : At m n v) : n < m.length := by
  obtain ⟨_, ⟨xs, _, e⟩ | ⟨ks, vs, _, e⟩⟩ := h <;> exact (List.getElem?_eq_some_iff.mp e).1
theorem At.dr {m : M} {n : Nat} {v : Val} (h : At m n v) : dr m (.ref n) = v := by
  obtain ⟨_, ⟨xs, rfl, e⟩ | ⟨ks, vs, rfl, e⟩⟩ := h <;> simp only [MP.dr, e]
theorem At.at {m m' : M} {n : Nat} {v : Val} (h : At m n v) (e : m'[n]? = m[n]?) : At m' n v := by
  obtain ⟨p, ⟨xs, rfl, h⟩ | ⟨ks, vs, rfl, h⟩⟩ := h
  · exact ⟨p, .inl ⟨xs, rfl, e.trans h⟩⟩
  · exact ⟨p, .inr ⟨ks, vs, rfl, e.trans h⟩⟩
theorem At.one {m : M} {n : Nat} {v u : Val} (h : At m n v) (h' : At m n u) : v = u := by rw [← h.dr, ← h'.dr]
inductive SlR (m : M) (b : Nat) : Val → Sl → Prop
  | p {v : Val} : v.pure = true → SlR m b v (.p v)
  | r {n : Nat} {l : Bool} {v : Val} : At m n v → (l = true → b ≤ n) → SlR m b (.ref n) (.r l v)
  | o {n : Nat} {l : Bool} {v : Val} : At m n v → (l = true → b ≤ n) → (l = false → n < b) → SlR m b (.ref n) (.o l v)
def Own (ρP : PEnv) (ρ : Env) (n : Nat) : Prop := ∃ (i : Nat) (l : Bool) (v : Val), ρP[i]? = some (some (.o l v)) ∧ ρ[i]? = some (some (.ref n))
def Has (ρ : Env) (n : Nat) : Prop := ∃ j : Nat, ρ[j]? = some (some (.ref n))
structure EnvR (m : M) (b : Nat) (ρP : PEnv) (ρ : Env) : Prop where
  len : ρP.length = ρ.length
  get : ∀ (i : Nat) s, ρP[i]? = some (some s) → ∃ w, ρ[i]? = some (some w) ∧ SlR m b w s
  uniq : ∀ (i j : Nat) n l v, ρP[i]? = some (some (.o l v)) → ρ[i]? = some (some (.ref n)) → ρ[j]? = some (some (.ref n)) → i = j
  lt : ∀ n, Has ρ n → n < m.length
  ble : b ≤ m.length
structure St (b : Nat) (m : M) (ρP : PEnv) (ρ : Env) (m' : M) (ρP' : PEnv) (ρ' : Env) : Prop where
  env : EnvR m' b ρP' ρ'
  ln : ρP'.length = ρP.length
  le : m.length ≤ m'.length
  keep : ∀ n, n < m.length → ¬ Own ρP ρ n → m'[n]? = m[n]?
  own : ∀ n, n < m.length → Own ρP' ρ' n → Own ρP ρ n
  lo : ∀ (j : Nat) v, ρP'[j]? = some (some (.o false v)) → ∃ u, ρP[j]? = some (some (.o false u)) ∧ ρ'[j]? = ρ[j]?
theorem St.refl {b : Nat} {m : M} {ρP : PEnv} {ρ : Env} (h : EnvR m b ρP ρ) : St b m ρP ρ m ρP ρ := ⟨h, rfl, Nat.le_refl _, fun _ _ _ => rfl, fun _ _ h => h, fun _ v h => ⟨v, h, rfl⟩⟩
theorem St.trans {b : Nat} {m m1 m2 : M} {ρP ρP1 ρP2 : PEnv} {ρ ρ1 ρ2 : Env} (x : St b m ρP ρ m1 ρP1 ρ1) (y : St b m1 ρP1 ρ1 m2 ρP2 ρ2) : St b m ρP ρ m2 ρP2 ρ2 := by
  refine ⟨y.env, y.ln.trans x.ln, Nat.le_trans x.le y.le, fun n hn h => ?_, fun n hn h => x.own n hn (y.own n (Nat.lt_of_lt_of_le hn x.le) h), fun j v h => ?_⟩
  · rw [y.keep n (Nat.lt_of_lt_of_le hn x.le) fun h1 => h (x.own n hn h1), x.keep n hn h]
  · obtain ⟨u, h1, e1⟩ := y.lo j v h
    obtain ⟨t, h2, e2⟩ := x.lo j u h1
    exact ⟨t, h2, e1.trans e2⟩
/-- a value that may stay: as it was made between m and m' -/
inductive Res (lo : Nat) (m' : M) (b : Nat) (ρP' : PEnv) (ρ : Env) : Val → Sl → Prop
  | p {v : Val} : v.pure = true → Res lo m' b ρP' ρ v (.p v)
  | r {n : Nat} {l : Bool} {v : Val} : At m' n v → (l = true → b ≤ n) → ¬ Own ρP' ρ n → Has ρ n → Res lo m' b ρP' ρ (.ref n) (.r l v)
  | o {n : Nat} {v : Val} : At m' n v → lo ≤ n → ¬ Has ρ n → Res lo m' b ρP' ρ (.ref n) (.o true v)
theorem Own.has {ρP : PEnv} {ρ : Env} {n : Nat} (h : Own ρP ρ n) : Has ρ n := by
  obtain ⟨i, _, _, _, e⟩ := h
  exact ⟨i, e⟩
theorem Res.val_pure {lo b : Nat} {m' : M} {ρP' : PEnv} {ρ : Env} {w : Val} {s : Sl} (h : Res lo m' b ρP' ρ w s) : s.val.pure = true ∧ dr m' w = s.val := by
  cases h with
  | p h => exact ⟨h, dr_pure h⟩
  | r h _ _ _ => exact ⟨h.1, h.dr⟩
  | o h _ _ => exact ⟨h.1, h.dr⟩
theorem Res.later {lo b : Nat} {m1 m2 : M} {ρP1 ρP2 : PEnv} {ρ : Env} {w : Val} {s : Sl} (h : Res lo m1 b ρP1 ρ w s) (x : St b m1 ρP1 ρ m2 ρP2 ρ) : Res lo m2 b ρP2 ρ w s := by
  cases h with
  | p h => exact .p h
  | r h h1 h2 h3 => exact .r (h.at (x.keep _ h.lt h2)) h1 (fun q => h2 (x.own _ h.lt q)) h3
  | o h h1 h2 => exact .o (h.at (x.keep _ h.lt fun q => h2 q.has)) h1 h2
theorem Res.weak {lo lo' b : Nat} {m1 : M} {ρP1 : PEnv} {ρ : Env} {w : Val} {s : Sl} (h : Res lo m1 b ρP1 ρ w s) (l : lo' ≤ lo) : Res lo' m1 b ρP1 ρ w s := by
  cases h with
  | p h => exact .p h
  | r h h1 h2 h3 => exact .r h h1 h2 h3
  | o h h1 h2 => exact .o h (by omega) h2
theorem Res.lt {lo b : Nat} {m1 : M} {ρP1 : PEnv} {ρ : Env} {n : Nat} {s : Sl} (h : Res lo m1 b ρP1 ρ (.ref n) s) : n < m1.length := by
  cases h with
  | p h => simp [Val.pure] at h
  | r h _ _ _ => exact h.lt
  | o h _ _ => exact h.lt
/-! ### two runs side by side -/
section
variable {b : Nat} {α β α' β' : Type}
def SimR (b : Nat) (m : M) (ρP : PEnv) (ρ : Env) (V : M → PEnv → α → β → Prop) (p : PR α) (r : R β) : Prop := match p with
  | .ok a ρP' => ∃ x m', r = .ok x m' ∧ St b m ρP ρ m' ρP' ρ ∧ V m' ρP' a x
  | .exc c fs ρP' => ∃ m', r = .exc c fs m' ∧ St b m ρP ρ m' ρP' ρ ∧ pureL fs = true
  | .stuck => True
variable {m m1 : M} {ρP ρP1 : PEnv} {ρ : Env} {V : M → PEnv → α → β → Prop} {W : M → PEnv → α' → β' → Prop}
theorem SimR.from {p : PR α} {r : R β} (x : St b m ρP ρ m1 ρP1 ρ) (h : SimR b m1 ρP1 ρ V p r) : SimR b m ρP ρ V p r := by
  cases p with
  | ok a ρP' =>
    obtain ⟨y, m', e, s, v⟩ := h
    exact ⟨y, m', e, x.trans s, v⟩
  | exc c fs ρP' =>
    obtain ⟨m', e, s, v⟩ := h
    exact ⟨m', e, x.trans s, v⟩
  | stuck => trivial
theorem SimR.bind {p : PR α} {r : R β} {f : α → PEnv → PR α'} {g : β → M → R β'} (h : SimR b m ρP ρ V p r) (k : ∀ a x m' ρP', St b m ρP ρ m' ρP' ρ → V m' ρP' a x → SimR b m ρP ρ W (f a ρP') (g x m')) : SimR b m ρP ρ W (p.bind f) (r.bind g) := by
  cases p with
  | ok a ρP' =>
    obtain ⟨y, m', rfl, s, v⟩ := h
    exact k a y m' ρP' s v
  | exc c fs ρP' =>
    obtain ⟨m', rfl, s, v⟩ := h
    exact ⟨m', rfl, s, v⟩
  | stuck => trivial
theorem SimR.mono {p : PR α} {r : R β} {V' : M → PEnv → α → β → Prop} (h : SimR b m ρP ρ V p r) (k : ∀ a x m' ρP', St b m ρP ρ m' ρP' ρ → V m' ρP' a x → V' m' ρP' a x) : SimR b m ρP ρ V' p r := by
  cases p with
  | ok a ρP' =>
    obtain ⟨y, m', rfl, s, v⟩ := h
    exact ⟨y, m', rfl, s, k a y m' ρP' s v⟩
  | exc c fs ρP' => exact h
  | stuck => trivial
theorem SimR.nox {p : PR α} {r : R β} (h : SimR b m ρP ρ V p r) : SimR b m ρP ρ V p.nox r.nox := by
  cases p with
  | ok a ρP' =>
    obtain ⟨y, m', rfl, s, v⟩ := h
    exact ⟨y, m', rfl, s, v⟩
  | exc c fs ρP' => trivial
  | stuck => trivial
theorem SimR.ok {a : α} {x : β} {m' : M} {ρP' : PEnv} (s : St b m ρP ρ m' ρP' ρ) (v : V m' ρP' a x) : SimR b m ρP ρ V (.ok a ρP') (.ok x m') := ⟨x, m', rfl, s, v⟩
theorem SimR.opt {o : Option α} {V : M → PEnv → α → α → Prop} {m' : M} {ρP' : PEnv} (s : St b m ρP ρ m' ρP' ρ) (v : ∀ a, o = some a → V m' ρP' a a) : SimR b m ρP ρ V (popt o ρP') (opt o m') := by
  cases o with
  | none => trivial
  | some a => exact ⟨a, m', rfl, s, v a rfl⟩
end
/-- a value that is looked at -/
def Opd (b : Nat) (ρ : Env) (e : E) (m' : M) (ρP' : PEnv) (s : Sl) (w : Val) : Prop := chk e s.val ρP' = true ∧ ∀ m2 ρP2, St b m' ρP' ρ m2 ρP2 ρ → chk e s.val ρP2 = true → dr m2 w = s.val ∧ s.val.pure = true
theorem Opd.now {b : Nat} {ρ : Env} {e : E} {m' : M} {ρP' : PEnv} {s : Sl} {w : Val} (h : Opd b ρ e m' ρP' s w) (r : EnvR m' b ρP' ρ) : dr m' w = s.val ∧ s.val.pure = true := h.2 _ _ (.refl r) h.1
theorem chk_no {e : E} {v : Val} {ρ : PEnv} (h : isVar e = none) : chk e v ρ = true := by
  cases e <;> first | rfl | (cases h)
theorem Opd.of {b lo : Nat} {ρ : Env} {e : E} {m' : M} {ρP' : PEnv} {s : Sl} {w : Val} (he : isVar e = none) (h : Res lo m' b ρP' ρ w s) : Opd b ρ e m' ρP' s w := by
  refine ⟨chk_no he, fun m2 ρP2 x _ => ?_⟩
  have := (h.later x).val_pure
  exact ⟨this.2, this.1⟩
/-! ### a name is set -/
theorem get_set {α : Type} {l : List α} {i j : Nat} {x y : α} (h : (l.set i x)[j]? = some y) : (j = i ∧ y = x) ∨ (j ≠ i ∧ l[j]? = some y) := by
  by_cases e : i = j
  · subst e
    have hl : i < l.length := by
      obtain ⟨l1, _⟩ := List.getElem?_eq_some_iff.mp h
      simpa using l1
    rw [List.getElem?_set_self hl] at h
    cases h
    exact .inl ⟨rfl, rfl⟩
  · rw [List.getElem?_set_ne e] at h
    exact .inr ⟨Ne.symm e, h⟩
theorem EnvR.mono {m m' : M} {b : Nat} {ρP : PEnv} {ρ : Env} (r : EnvR m b ρP ρ) (le : m.length ≤ m'.length) (k : ∀ n, Has ρ n → m'[n]? = m[n]?) : EnvR m' b ρP ρ := by
  refine ⟨r.len, fun i s e => ?_, r.uniq, fun n h => Nat.lt_of_lt_of_le (r.lt n h) le, Nat.le_trans r.ble le⟩
  obtain ⟨w, e1, h⟩ := r.get i s e
  refine ⟨w, e1, ?_⟩
  cases h with
  | p h => exact .p h
  | r h h1 => exact .r (h.at (k _ ⟨i, e1⟩)) h1
  | o h h1 h2 => exact .o (h.at (k _ ⟨i, e1⟩)) h1 h2
/-- a clean value into a name -/
theorem EnvR.setP {m : M} {b i : Nat} {ρP : PEnv} {ρ : Env} {v : Val} (r : EnvR m b ρP ρ) (h : v.pure = true) : EnvR m b (ρP.set i (some (.p v))) (ρ.set i (some v)) := by
  have nr : ∀ n, v ≠ .ref n := by rintro n rfl; simp [Val.pure] at h
  refine ⟨by simp [r.len], fun j s e => ?_, fun j k n l u h1 h2 h3 => ?_, fun n ⟨j, h1⟩ => ?_, r.ble⟩
  · rcases get_set e with ⟨rfl, e1⟩ | ⟨hn, e1⟩
    · cases e1
      have hl : j < ρ.length := by
        rw [← r.len]
        obtain ⟨l1, _⟩ := List.getElem?_eq_some_iff.mp e
        simpa using l1
      exact ⟨v, List.getElem?_set_self hl, .p h⟩
    · rw [List.getElem?_set_ne (Ne.symm hn)]
      exact r.get j s e1
  · rcases get_set h1 with ⟨_, e1⟩ | ⟨_, e1⟩
    · cases e1
    · rcases get_set h2 with ⟨_, e2⟩ | ⟨_, e2⟩
      · cases e2; exact absurd rfl (nr n)
      · rcases get_set h3 with ⟨_, e3⟩ | ⟨_, e3⟩
        · cases e3; exact absurd rfl (nr n)
        · exact r.uniq j k n l u e1 e2 e3
  · rcases get_set h1 with ⟨_, e1⟩ | ⟨_, e1⟩
    · cases e1; exact absurd rfl (nr n)
    · exact r.lt n ⟨j, e1⟩
theorem St.setP {m m' : M} {b i : Nat} {ρP ρP' : PEnv} {ρ ρ' : Env} {v : Val} (r : St b m ρP ρ m' ρP' ρ') (h : v.pure = true) : St b m ρP ρ m' (ρP'.set i (some (.p v))) (ρ'.set i (some v)) := by
  have nr : ∀ n, v ≠ .ref n := by rintro n rfl; simp [Val.pure] at h
  refine ⟨r.env.setP h, by simp [r.ln], r.le, r.keep, fun n hn ⟨j, l, u, h1, h2⟩ => ?_, fun j u e => ?_⟩
  · rcases get_set h1 with ⟨_, e1⟩ | ⟨_, e1⟩
    · cases e1
    · rcases get_set h2 with ⟨_, e2⟩ | ⟨_, e2⟩
      · cases e2; exact absurd rfl (nr n)
      · exact r.own n hn ⟨j, l, u, e1, e2⟩
  · rcases get_set e with ⟨_, e1⟩ | ⟨hn, e1⟩
    · cases e1
    · rw [List.getElem?_set_ne (Ne.symm hn)]
      exact r.lo j u e1
/-- a name is emptied -/
theorem EnvR.unset {m : M} {b i : Nat} {ρP : PEnv} {ρ : Env} (r : EnvR m b ρP ρ) : EnvR m b (ρP.set i none) (ρ.set i none) := by
  refine ⟨by simp [r.len], fun j s e => ?_, fun j k n l u h1 h2 h3 => ?_, fun n ⟨j, h1⟩ => ?_, r.ble⟩
  · rcases get_set e with ⟨rfl, e1⟩ | ⟨hn, e1⟩
    · cases e1
    · rw [List.getElem?_set_ne (Ne.symm hn)]
      exact r.get j s e1
  · rcases get_set h1 with ⟨_, e1⟩ | ⟨_, e1⟩
    · cases e1
    · rcases get_set h2 with ⟨_, e2⟩ | ⟨_, e2⟩
      · cases e2
      · rcases get_set h3 with ⟨_, e3⟩ | ⟨_, e3⟩
        · cases e3
        · exact r.uniq j k n l u e1 e2 e3
  · rcases get_set h1 with ⟨_, e1⟩ | ⟨_, e1⟩
    · cases e1
    · exact r.lt n ⟨j, e1⟩
theorem St.unset {m m' : M} {b i : Nat} {ρP ρP' : PEnv} {ρ ρ' : Env} (r : St b m ρP ρ m' ρP' ρ') : St b m ρP ρ m' (ρP'.set i none) (ρ'.set i none) := by
  refine ⟨r.env.unset, by simp [r.ln], r.le, r.keep, fun n hn ⟨j, l, u, h1, h2⟩ => ?_, fun j u e => ?_⟩
  · rcases get_set h1 with ⟨_, e1⟩ | ⟨_, e1⟩
    · cases e1
    · rcases get_set h2 with ⟨_, e2⟩ | ⟨_, e2⟩
      · cases e2
      · exact r.own n hn ⟨j, l, u, e1, e2⟩
  · rcases get_set e with ⟨_, e1⟩ | ⟨hn, e1⟩
    · cases e1
    · rw [List.getElem?_set_ne (Ne.symm hn)]
      exact r.lo j u e1
/-! ### names are bound -/
theorem pureL_get : ∀ {xs : List Val} {v : Val}, pureL xs = true → v ∈ xs → v.pure = true
  | x :: xs, v, h, hv => by
    simp only [pureL, Bool.and_eq_true] at h
    rcases List.mem_cons.mp hv with rfl | hv
    · exact h.1
    · exact pureL_get h.2 hv
theorem pureL_of : ∀ {xs : List Val}, (∀ v ∈ xs, v.pure = true) → pureL xs = true
  | [], _ => rfl
  | x :: xs, h => by
    simp only [pureL, Bool.and_eq_true]
    exact ⟨h x List.mem_cons_self, pureL_of fun v hv => h v (List.mem_cons_of_mem _ hv)⟩
theorem seqOf_pure {v : Val} {xs : List Val} (h : v.pure = true) (e : seqOf v = some xs) : pureL xs = true := by
  cases v <;> simp only [seqOf, Option.some.injEq, reduceCtorEq] at e <;> subst e <;> exact h
/-- both bind, the names outside stay -/
def BindBoth (b : Nat) (m m' : M) (ρP ρP' : PEnv) (ρ ρ' : Env) (sl : List Nat) (o : Option PEnv) (o' : Option Env) : Prop := match o with
  | some ρP2 => ∃ ρ2, o' = some ρ2 ∧ St b m ρP ρ m' ρP2 ρ2 ∧ ∀ j, j ∉ sl → ρP2[j]? = ρP'[j]? ∧ ρ2[j]? = ρ'[j]?
  | none => True
mutual
def Tg.names : Tg → List Nat
  | .nm i => [i]
  | .tup ts => namesL ts
  | .star a i b => namesL a ++ i :: namesL b
def namesL : List Tg → List Nat
  | [] => []
  | t :: ts => t.names ++ namesL ts
end
section
variable {b : Nat} {m m' : M} {ρP : PEnv} {ρ : Env}
mutual
theorem bind_both : ∀ (t : Tg) (v : Val) (ρP' : PEnv) (ρ' : Env), v.pure = true → St b m ρP ρ m' ρP' ρ' → BindBoth b m m' ρP ρP' ρ ρ' t.names (bindP t v ρP') (bindT t v ρ')
  | .nm i, v, ρP', ρ', hv, r => by
    unfold BindBoth
    simp only [bindP, bindT, r.env.len]
    split
    · rename_i h
      split at h
      · cases h
        rename_i hl
        rw [if_pos hl]
        exact ⟨_, rfl, r.setP hv, fun j hj => by
          simp only [Tg.names, List.mem_singleton] at hj
          exact ⟨List.getElem?_set_ne (Ne.symm hj), List.getElem?_set_ne (Ne.symm hj)⟩⟩
      · cases h
    · trivial
  | .tup ts, v, ρP', ρ', hv, r => by
    cases v <;> first | (simp only [bindP, BindBoth]; done) | skip
    · simp only [bindP, bindT, Tg.names]
      exact binds_both ts _ ρP' ρ' hv r
    · simp only [bindP, bindT, Tg.names]
      exact binds_both ts _ ρP' ρ' hv r
  | .star a i c, v, ρP', ρ', hv, r => by
    simp only [bindP, bindT, Tg.names]
    cases e : seqOf v with
    | none => trivial
    | some vs =>
      have hp := seqOf_pure hv e
      dsimp only
      rw [r.env.len]
      split
      · rename_i hz
        have h1 : pureL (vs.take a.length) = true := pureL_of fun v hv => pureL_get hp (List.mem_of_mem_take hv)
        have h2 : pureL (vs.drop (vs.length - c.length)) = true := pureL_of fun v hv => pureL_get hp (List.mem_of_mem_drop hv)
        have h3 : (Val.lst ((vs.drop a.length).take (vs.length - c.length - a.length))).pure = true := pureL_of fun v hv => pureL_get hp (List.mem_of_mem_drop (List.mem_of_mem_take hv))
        have q := binds_both a _ ρP' ρ' h1 r
        unfold BindBoth at q
        cases e1 : bindPs a (vs.take a.length) ρP' with
        | none => simp only [BindBoth, Option.bind_none]
        | some ρP1 =>
          rw [e1] at q
          obtain ⟨ρ1, e2, r1, k1⟩ := q
          rw [e2]
          simp only [Option.bind_some]
          have q2 := binds_both c _ (ρP1.set i (some (.p (.lst ((vs.drop a.length).take (vs.length - c.length - a.length)))))) (ρ1.set i (some (.lst ((vs.drop a.length).take (vs.length - c.length - a.length))))) h2 (r1.setP h3)
          unfold BindBoth at q2 ⊢
          split
          · rename_i ρP2 e3
            rw [e3] at q2
            obtain ⟨ρ2, e4, r2, k2⟩ := q2
            refine ⟨ρ2, e4, r2, fun j hj => ?_⟩
            simp only [List.mem_append, List.mem_cons, not_or] at hj
            obtain ⟨u1, u2⟩ := k2 j hj.2.2
            obtain ⟨w1, w2⟩ := k1 j hj.1
            exact ⟨u1.trans ((List.getElem?_set_ne (Ne.symm hj.2.1)).trans w1), u2.trans ((List.getElem?_set_ne (Ne.symm hj.2.1)).trans w2)⟩
          · trivial
      · trivial
theorem binds_both : ∀ (ts : List Tg) (vs : List Val) (ρP' : PEnv) (ρ' : Env), pureL vs = true → St b m ρP ρ m' ρP' ρ' → BindBoth b m m' ρP ρP' ρ ρ' (namesL ts) (bindPs ts vs ρP') (bindTs ts vs ρ')
  | [], [], ρP', ρ', _, r => by
    simp only [bindPs, bindTs, BindBoth]
    exact ⟨ρ', rfl, r, fun _ _ => by simp⟩
  | [], _ :: _, _, _, _, _ => by simp only [bindPs, BindBoth]
  | _ :: _, [], _, _, _, _ => by simp only [bindPs, BindBoth]
  | t :: ts, v :: vs, ρP', ρ', hv, r => by
    simp only [pureL, Bool.and_eq_true] at hv
    simp only [bindPs, bindTs, namesL]
    have q := bind_both t v ρP' ρ' hv.1 r
    unfold BindBoth at q
    cases e1 : bindP t v ρP' with
    | none => simp only [BindBoth, Option.bind_none]
    | some ρP1 =>
      rw [e1] at q
      obtain ⟨ρ1, e2, r1, k1⟩ := q
      rw [e2]
      simp only [Option.bind_some]
      have q2 := binds_both ts vs ρP1 ρ1 hv.2 r1
      unfold BindBoth at q2 ⊢
      split
      · rename_i ρP2 e3
        rw [e3] at q2
        obtain ⟨ρ2, e4, r2, k2⟩ := q2
        refine ⟨ρ2, e4, r2, fun j hj => ?_⟩
        simp only [List.mem_append, not_or] at hj
        obtain ⟨u1, u2⟩ := k2 j hj.2
        obtain ⟨w1, w2⟩ := k1 j hj.1
        exact ⟨u1.trans w1, u2.trans w2⟩
      · trivial
end
end
end MP
set_option Elab.async false
set_option linter.all false
set_option maxRecDepth 100000
set_option maxHeartbeats 1000000
/-! MPPO: what the operators give has no references. -/
namespace MP
open PySem (Str Operator CmpOp PyData)
theorem pureL_app {xs ys : List Val} (h : pureL xs = true) (h' : pureL ys = true) : pureL (xs ++ ys) = true := pureL_of fun v hv => by
  rcases List.mem_append.mp hv with hv | hv
  · exact pureL_get h hv
  · exact pureL_get h' hv
theorem pureL_sub {xs ys : List Val} (h : pureL xs = true) (s : ∀ v ∈ ys, v ∈ xs) : pureL ys = true := pureL_of fun v hv => pureL_get h (s v hv)
theorem pureL_int (l : List Int) : pureL (l.map .int) = true := pureL_of fun v hv => by
  obtain ⟨i, _, rfl⟩ := List.mem_map.mp hv
  rfl
theorem atV_mem {α : Type} {xs : List α} {i : Int} {x : α} (h : atV xs i = some x) : x ∈ xs := by
  unfold atV at h
  rw [Option.bind_eq_some_iff] at h
  obtain ⟨j, _, e⟩ := h
  exact List.mem_of_getElem? e
theorem valOf_mem {k : Val} : ∀ {ks vs : List Val} {v : Val}, valOf k ks vs = some v → v ∈ vs
  | [], vs, v, h => by cases vs <;> simp [valOf] at h
  | _ :: _, [], v, h => by simp [valOf] at h
  | x :: r, y :: w, v, h => by
    simp only [valOf] at h
    split at h
    · cases h; exact List.mem_cons_self
    · exact List.mem_cons_of_mem _ (valOf_mem h)
theorem bop_pure {op : Operator} {x y z : Val} (e : bop op x y = some z) (hx : x.pure = true) (hy : y.pure = true) : z.pure = true := by
  cases op <;> simp only [bop, reduceCtorEq] at e
  · cases x <;> cases y <;> simp only [bAdd, reduceCtorEq] at e
    · cases e; rfl
    · split at e <;> cases e; rfl
    · split at e <;> cases e; exact pureL_app hx hy
    · split at e <;> cases e; exact pureL_app hx hy
  · cases x <;> cases y <;> simp only [bSub, reduceCtorEq] at e
    cases e; rfl
  · cases x <;> cases y <;> simp only [bMul, reduceCtorEq] at e
    · split at e <;> cases e; rfl
    · split at e <;> cases e
      refine pureL_sub hx fun v hv => ?_
      simp only [repL, List.mem_flatten, List.mem_replicate] at hv
      obtain ⟨l, ⟨_, rfl⟩, h⟩ := hv
      exact h
  all_goals first | (cases e; done) | skip
  all_goals first
    | (cases x <;> cases y <;> simp only [bMod, reduceCtorEq] at e <;> (split at e <;> cases e; rfl); done)
    | (cases x <;> cases y <;> simp only [bPow, reduceCtorEq] at e <;> (split at e <;> cases e; rfl); done)
    | (cases x <;> cases y <;> simp only [bDiv, reduceCtorEq] at e <;> (split at e <;> cases e; rfl); done)
theorem idx_pure {x y z : Val} (e : idx x y = some z) (hx : x.pure = true) : z.pure = true := by
  cases x <;> simp only [idx, reduceCtorEq] at e
  · cases y <;> simp only [idx, reduceCtorEq] at e
    split at e
    · rw [Option.map_eq_some_iff] at e
      obtain ⟨c, _, rfl⟩ := e
      rfl
    · cases e
  · cases y <;> simp only [idx, reduceCtorEq] at e
    exact pureL_get hx (atV_mem e)
  · cases y <;> simp only [idx, reduceCtorEq] at e
    exact pureL_get hx (atV_mem e)
  · cases y <;> simp only [idx, reduceCtorEq] at e
    rw [Option.map_eq_some_iff] at e
    obtain ⟨c, _, rfl⟩ := e
    rfl
  · split at e
    · simp only [Val.pure, Bool.and_eq_true] at hx
      exact pureL_get hx.2 (valOf_mem e)
    · cases e
theorem cutL_mem {α : Type} {xs : List α} {lo hi : Option Int} {x : α} (h : x ∈ cutL xs lo hi) : x ∈ xs := List.mem_of_mem_drop (List.mem_of_mem_take h)
theorem slc_pure {x z : Val} {lo hi : Option Int} (e : slc x lo hi = some z) (hx : x.pure = true) : z.pure = true := by
  cases x <;> simp only [slc, reduceCtorEq, Option.some.injEq] at e
  · split at e <;> cases e; rfl
  · subst e; exact pureL_sub hx fun v hv => cutL_mem hv
  · subst e; exact pureL_sub hx fun v hv => cutL_mem hv
theorem rev_pure {x z : Val} (e : rev x = some z) (hx : x.pure = true) : z.pure = true := by
  cases x <;> simp only [rev, reduceCtorEq, Option.some.injEq] at e
  · subst e; exact pureL_sub hx fun v hv => List.mem_reverse.mp hv
  · subst e; exact pureL_sub hx fun v hv => List.mem_reverse.mp hv
theorem dedup_mem : ∀ {xs acc : List Val} {v : Val}, v ∈ dedup acc xs → v ∈ acc ∨ v ∈ xs
  | [], acc, v, h => .inl h
  | x :: r, acc, v, h => by
    simp only [dedup] at h
    split at h
    · exact (dedup_mem h).imp id (List.mem_cons_of_mem _)
    · rcases dedup_mem h with h | h
      · rcases List.mem_append.mp h with h | h
        · exact .inl h
        · rw [List.mem_singleton] at h
          subst h
          exact .inr List.mem_cons_self
      · exact .inr (List.mem_cons_of_mem _ h)
theorem dedup_pure {xs : List Val} (h : pureL xs = true) : pureL (dedup [] xs) = true := pureL_sub h fun v hv => by
  rcases dedup_mem hv with h | h
  · cases h
  · exact h
theorem sortV_mem {l : List Val} {v : Val} (h : v ∈ sortV l) : v ∈ l := (List.mergeSort_perm l leV).mem_iff.mp h
theorem rngL_pure : ∀ (n : Nat) (lo : Int), pureL (rngL lo n) = true
  | 0, _ => rfl
  | n + 1, lo => by simp [rngL, pureL, Val.pure, rngL_pure n]
theorem rngN_pure : ∀ (n : Nat) (lo c : Int), pureL (rngN lo c n) = true
  | 0, _, _ => rfl
  | n + 1, lo, c => by simp [rngN, pureL, Val.pure, rngN_pure n]
theorem rng_pure {vs xs : List Val} (e : rng vs = some xs) : pureL xs = true := by
  unfold rng at e
  split at e
  · split at e <;> cases e; exact rngL_pure _ _
  · split at e <;> cases e; exact rngL_pure _ _
  · split at e <;> cases e; exact rngN_pure _ _ _
  · cases e
theorem iterOf_pure {v : Val} {xs : List Val} (h : v.pure = true) (e : iterOf v = some xs) : pureL xs = true := by
  cases v <;> simp only [iterOf, Option.some.injEq, reduceCtorEq] at e
  · subst e
    exact pureL_of fun v hv => by obtain ⟨c, _, rfl⟩ := List.mem_map.mp hv; rfl
  · subst e; exact h
  · subst e; exact h
theorem enuL_pure : ∀ {xs : List Val} (n : Int), pureL xs = true → pureL (enuL n xs) = true
  | [], _, _ => rfl
  | x :: r, n, h => by
    simp only [pureL, Bool.and_eq_true] at h
    simp only [enuL, pureL, Val.pure, h.1, enuL_pure (n + 1) h.2, Bool.and_self]
theorem zipL_pure : ∀ {xs ys : List Val}, pureL xs = true → pureL ys = true → pureL (zipL xs ys) = true
  | [], ys, _, _ => by cases ys <;> rfl
  | _ :: _, [], _, _ => rfl
  | x :: xs, y :: ys, h, h' => by
    simp only [pureL, Bool.and_eq_true] at h h'
    simp only [zipL, pureL, Val.pure, h.1, h'.1, zipL_pure h.2 h'.2, Bool.and_self]
theorem zipOf_pure {st : Bool} {u v : Val} {xs : List Val} (e : zipOf st u v = some xs) (h : u.pure = true) (h' : v.pure = true) : pureL xs = true := by
  unfold zipOf at e
  simp only [Option.bind_eq_some_iff] at e
  obtain ⟨xs', e1, ys', e2, e3⟩ := e
  split at e3
  · cases e3
    exact zipL_pure (seqOf_pure h e1) (seqOf_pure h' e2)
  · cases e3
theorem pureL_rows (rs : List (List Int)) : pureL (rs.map encR) = true := pureL_of fun v hv => by
  obtain ⟨r, _, rfl⟩ := List.mem_map.mp hv
  exact pureL_int r
theorem setOfL_pure {xs : List Val} {z : Val} (e : setOfL xs = some z) : z.pure = true := by
  unfold setOfL at e
  split at e
  · split at e
    · cases e; exact pureL_int _
    · cases e
  · rw [Option.bind_eq_some_iff] at e
    obtain ⟨rs, _, e⟩ := e
    split at e
    · cases e; exact pureL_rows _
    · cases e
theorem idxV_pure {xs : List Val} {k : Int} {z : Val} (e : idxV xs k = some z) : z.pure = true := by
  unfold idxV at e
  rw [Option.bind_eq_some_iff] at e
  obtain ⟨ns, _, e⟩ := e
  split at e <;> cases e
  rfl
theorem blt_pure {k : B} {vs : List Val} {z : Val} (e : blt k vs = some z) (h : pureL vs = true) : z.pure = true := by
  unfold blt at e
  split at e
  all_goals first
    | exact setOfL_pure e
    | exact idxV_pure e
    | (cases e; rfl)
    | (split at e <;> first | (cases e; done) | (cases e; rfl))
    | skip
  all_goals try simp only [pureL, Bool.and_eq_true, Bool.and_true] at h
  all_goals first
    | (rw [Option.map_eq_some_iff] at e; obtain ⟨xs, e1, rfl⟩ := e; first | rfl | exact seqOf_pure h e1 | exact rng_pure e1)
    | (rw [Option.bind_eq_some_iff] at e
       obtain ⟨xs, e1, e⟩ := e
       first
       | (split at e
          · cases e; exact rng_pure e1
          · cases e)
       | (split at e
          · cases e; exact pureL_int _
          · cases e)
       | (split at e
          · cases e; exact pureL_int _
          · split at e
            · split at e
              · cases e; exact pureL_sub (show pureL _ = true from by cases e1; exact h) fun v hv => sortV_mem hv
              · cases e
            · cases e)
       | (rw [Option.bind_eq_some_iff] at e; obtain ⟨ns, _, e⟩ := e; first | (rw [Option.map_eq_some_iff] at e; obtain ⟨_, _, rfl⟩ := e; rfl) | (cases ns <;> cases e <;> rfl))
       | (rw [Option.map_eq_some_iff] at e; obtain ⟨_, _, rfl⟩ := e; first | rfl | exact pureL_int _)
       | (rw [Option.map_eq_some_iff] at e; obtain ⟨_, _, rfl⟩ := e; exact dedup_pure (seqOf_pure h e1))
       | (split at e <;> first | (cases e; done) | (rw [Option.map_eq_some_iff] at e; obtain ⟨_, _, rfl⟩ := e; rfl)))
    | (split at e
       · cases e
         rename_i ks vs k d hk
         cases e1 : valOf k ks vs with
         | none => exact h.2.2
         | some y =>
           have := h.1
           simp only [Val.pure, Bool.and_eq_true] at this
           exact pureL_get this.2 (valOf_mem e1)
       · cases e)
    | (cases e; rfl)
    | (cases e; done)
end MP
set_option Elab.async false
set_option linter.all false
set_option maxRecDepth 100000
set_option maxHeartbeats 1000000
/-! MPPC: calls, side by side. -/
namespace MP
open PySem (Str Operator CmpOp PyData)
def ArgR (m : M) (w : Val) : Sl → Prop
  | .p v => w = v ∧ v.pure = true
  | .r l v => l = false ∧ ∃ n, w = .ref n ∧ At m n v
  | .o l v => l = false ∧ ∃ n, w = .ref n ∧ At m n v
structure ArgsR (m : M) (ws : List Val) (ss : List Sl) : Prop where
  len : ws.length = ss.length
  get : ∀ (i : Nat) w s, ws[i]? = some w → ss[i]? = some s → ArgR m w s
  uniq : ∀ (i j : Nat) n l v, ss[i]? = some (.o l v) → ws[i]? = some (.ref n) → ws[j]? = some (.ref n) → i = j
structure CallEnd (m m' : M) (ws : List Val) (ss outs : List Sl) : Prop where
  le : m.length ≤ m'.length
  keep : ∀ n, n < m.length → (∀ (i : Nat) l v, ss[i]? = some (.o l v) → ws[i]? ≠ some (.ref n)) → m'[n]? = m[n]?
  outs : ∀ (i : Nat) n v, outs[i]? = some (.o false v) → (∃ l u, ss[i]? = some (.o l u)) → ws[i]? = some (.ref n) → At m' n v
def CallVal (m m' : M) (w : Val) : Sl → Prop
  | .p v => w = v ∧ v.pure = true
  | .o true v => w = .ref m.length ∧ At m' m.length v
  | _ => True
def CallR_ (m : M) (ws : List Val) (ss : List Sl) (p : PC) (r : R Val) : Prop := match p with
  | .ok s outs => ∃ w m', r = .ok w m' ∧ CallEnd m m' ws ss outs ∧ CallVal m m' w s
  | .exc c fs outs => ∃ m', r = .exc c fs m' ∧ CallEnd m m' ws ss outs ∧ pureL fs = true
  | .stuck => True
def CallsOk (C' : PCx) (C : Cx) : Prop := ∀ f ss al m ws, ArgsR m ws ss → CallR_ m ws ss (C'.call f ss al) (C.call f ws al m)
/-! ### arguments in hand -/
inductive ArgA (lo : Nat) (m : M) (ρP : PEnv) (ρ : Env) : PArg → Val → Prop
  | p {v : Val} : v.pure = true → ArgA lo m ρP ρ (.val (.p v)) v
  | r {n : Nat} {v : Val} : At m n v → ¬ Own ρP ρ n → Has ρ n → ArgA lo m ρP ρ (.val (.r false v)) (.ref n)
  | o {n : Nat} {v : Val} : At m n v → lo ≤ n → ¬ Has ρ n → ArgA lo m ρP ρ (.val (.o false v)) (.ref n)
  | view {i : Nat} {v w : Val} : ρ[i]? = some (some w) → ArgA lo m ρP ρ (.view i v) w
  | io {i : Nat} {w : Val} : ρ[i]? = some (some w) → ArgA lo m ρP ρ (.io i) w
theorem ArgA.later {lo b : Nat} {m1 m2 : M} {ρP1 ρP2 : PEnv} {ρ : Env} {a : PArg} {w : Val} (h : ArgA lo m1 ρP1 ρ a w) (x : St b m1 ρP1 ρ m2 ρP2 ρ) : ArgA lo m2 ρP2 ρ a w := by
  cases h with
  | p h => exact .p h
  | r h h2 h3 => exact .r (h.at (x.keep _ h.lt h2)) (fun q => h2 (x.own _ h.lt q)) h3
  | o h h1 h2 => exact .o (h.at (x.keep _ h.lt fun q => h2 q.has)) h1 h2
  | view h => exact .view h
  | io h => exact .io h
inductive ArgL (m : M) (ρP : PEnv) (ρ : Env) : Nat → List PArg → List Val → Prop
  | nil {lo : Nat} : ArgL m ρP ρ lo [] []
  | cons {lo mid : Nat} {a : PArg} {w : Val} {as : List PArg} {ws : List Val} : ArgA lo m ρP ρ a w → (∀ n, w = .ref n → n < mid) → lo ≤ mid → ArgL m ρP ρ mid as ws → ArgL m ρP ρ lo (a :: as) (w :: ws)
theorem ArgL.later {b : Nat} {m1 m2 : M} {ρP1 ρP2 : PEnv} {ρ : Env} : ∀ {as : List PArg} {lo : Nat} {ws : List Val}, ArgL m1 ρP1 ρ lo as ws → St b m1 ρP1 ρ m2 ρP2 ρ → ArgL m2 ρP2 ρ lo as ws
  | [], _, _, h, x => by cases h; exact .nil
  | a :: as, _, _, h, x => by
    cases h with
    | cons h1 h2 h3 h4 => exact .cons (h1.later x) h2 h3 (h4.later x)
theorem ArgL.len {m : M} {ρP : PEnv} {ρ : Env} : ∀ {as : List PArg} {lo : Nat} {ws : List Val}, ArgL m ρP ρ lo as ws → as.length = ws.length
  | [], _, _, h => by cases h; rfl
  | a :: as, _, _, h => by
    cases h with
    | cons h1 h2 h3 h4 => simp [h4.len]
theorem ArgL.get {m : M} {ρP : PEnv} {ρ : Env} : ∀ {as : List PArg} {lo : Nat} {ws : List Val} {i : Nat} {a : PArg} {w : Val}, ArgL m ρP ρ lo as ws → as[i]? = some a → ws[i]? = some w → ∃ lo', lo ≤ lo' ∧ ArgA lo' m ρP ρ a w
  | [], _, _, _, _, _, h, e, _ => by simp at e
  | a :: as, _, _, 0, _, _, h, e, e2 => by
    cases h with
    | cons h1 h2 h3 h4 =>
      simp at e e2
      subst e; subst e2
      exact ⟨_, Nat.le_refl _, h1⟩
  | a :: as, _, _, i + 1, _, _, h, e, e2 => by
    cases h with
    | cons h1 h2 h3 h4 =>
      obtain ⟨lo', l, q⟩ := h4.get (i := i) (by simpa using e) (by simpa using e2)
      exact ⟨lo', Nat.le_trans h3 l, q⟩
/-- a new one is handed in once -/
theorem ArgL.tmp {m : M} {ρP : PEnv} {ρ : Env} : ∀ {as : List PArg} {lo : Nat} {ws : List Val} {i j n : Nat} {l l' : Bool} {v u : Val}, ArgL m ρP ρ lo as ws → as[i]? = some (.val (.o l v)) → as[j]? = some (.val (.o l' u)) → ws[i]? = some (.ref n) → ws[j]? = some (.ref n) → i = j
  | [], _, _, _, _, _, _, _, _, _, _, e, _, _, _ => by simp at e
  | a :: as, _, _, 0, 0, _, _, _, _, _, _, _, _, _, _ => rfl
  | a :: as, _, _, 0, j + 1, _, _, _, _, _, h, e1, e2, e3, e4 => by
    cases h with
    | cons h1 h2 h3 h4 =>
      simp at e1 e3
      have := h2 _ e3
      obtain ⟨lo', l1, q⟩ := h4.get (i := j) (by simpa using e2) (by simpa using e4)
      cases q with
      | o q1 q2 q3 => omega
  | a :: as, _, _, i + 1, 0, _, _, _, _, _, h, e1, e2, e3, e4 => by
    cases h with
    | cons h1 h2 h3 h4 =>
      simp at e2 e4
      have := h2 _ e4
      obtain ⟨lo', l1, q⟩ := h4.get (i := i) (by simpa using e1) (by simpa using e3)
      cases q with
      | o q1 q2 q3 => omega
  | a :: as, _, _, i + 1, j + 1, _, _, _, _, _, h, e1, e2, e3, e4 => by
    cases h with
    | cons h1 h2 h3 h4 => rw [h4.tmp (i := i) (j := j) (by simpa using e1) (by simpa using e2) (by simpa using e3) (by simpa using e4)]
theorem apart_io : ∀ {as : List PArg} {i j k : Nat} {a : PArg}, apart as = true → as[i]? = some (.io k) → as[j]? = some a → k ∈ a.vx → i = j
  | [], _, _, _, _, _, e, _, _ => by simp at e
  | a :: as, 0, 0, _, _, _, _, _, _ => rfl
  | a :: as, 0, j + 1, k, c, h, e, e2, hk => by
    simp only [apart, Bool.and_eq_true, List.all_eq_true, Bool.not_eq_true'] at h
    simp at e
    subst e
    have := h.1.1 k (by simp [PArg.ix])
    have hm : k ∈ as.flatMap PArg.vx := List.mem_flatMap.mpr ⟨c, List.mem_of_getElem? (by simpa using e2), hk⟩
    rw [List.contains_iff_mem.mpr hm] at this
    cases this
  | a :: as, i + 1, 0, k, c, h, e, e2, hk => by
    simp only [apart, Bool.and_eq_true, List.all_eq_true, Bool.not_eq_true'] at h
    simp at e2
    subst e2
    have := h.1.2 k hk
    have hm : k ∈ as.flatMap PArg.ix := List.mem_flatMap.mpr ⟨.io k, List.mem_of_getElem? (by simpa using e), by simp [PArg.ix]⟩
    rw [List.contains_iff_mem.mpr hm] at this
    cases this
  | a :: as, i + 1, j + 1, k, c, h, e, e2, hk => by
    simp only [apart, Bool.and_eq_true] at h
    rw [apart_io (i := i) (j := j) h.2 (by simpa using e) (by simpa using e2) hk]
theorem argsS_get {ρ : PEnv} : ∀ {as : List PArg} {ss : List Sl} {i : Nat} {s : Sl}, argsS ρ as = some ss → ss[i]? = some s → ∃ a, as[i]? = some a ∧ argS ρ a = some s
  | [], ss, i, s, h, e => by simp [argsS] at h; subst h; simp at e
  | a :: as, ss, i, s, h, e => by
    simp only [argsS, Option.bind_eq_some_iff, Option.map_eq_some_iff] at h
    obtain ⟨t, h1, ts, h2, rfl⟩ := h
    cases i with
    | zero => simp at e; subst e; exact ⟨a, rfl, h1⟩
    | succ i =>
      obtain ⟨a', e1, e2⟩ := argsS_get h2 (by simpa using e)
      exact ⟨a', by simpa using e1, e2⟩
theorem argsS_len {ρ : PEnv} : ∀ {as : List PArg} {ss : List Sl}, argsS ρ as = some ss → ss.length = as.length
  | [], ss, h => by simp [argsS] at h; subst h; rfl
  | a :: as, ss, h => by
    simp only [argsS, Option.bind_eq_some_iff, Option.map_eq_some_iff] at h
    obtain ⟨t, h1, ts, h2, rfl⟩ := h
    simp [argsS_len h2]
/-- an argument that is changed: a name's own, or a new one -/
theorem argS_o {lo b : Nat} {m : M} {ρP : PEnv} {ρ : Env} {a : PArg} {w : Val} {l : Bool} {v : Val} (r : EnvR m b ρP ρ) (h : ArgA lo m ρP ρ a w) (e : argS ρP a = some (.o l v)) : l = false ∧ ∃ n, w = .ref n ∧ At m n v ∧
    ((∃ i l, a = .io i ∧ ρP[i]? = some (some (.o l v)) ∧ ρ[i]? = some (some (.ref n))) ∨ (a = .val (.o false v) ∧ lo ≤ n ∧ ¬ Has ρ n)) := by
  cases h with
  | p _ => simp [argS] at e
  | r _ _ _ => simp [argS] at e
  | o h1 h2 h3 =>
    simp only [argS, Option.some.injEq, Sl.o.injEq] at e
    obtain ⟨rfl, rfl⟩ := e
    exact ⟨rfl, _, rfl, h1, .inr ⟨rfl, h2, h3⟩⟩
  | view h =>
    simp only [argS] at e
    split at e
    · split at e <;> cases e
    · cases e
  | @io i w h =>
    simp only [argS] at e
    split at e
    · rename_i l' v' e1
      simp only [Option.some.injEq, Sl.o.injEq] at e
      obtain ⟨rfl, rfl⟩ := e
      obtain ⟨w', e2, q⟩ := r.get _ _ e1
      rw [h] at e2
      cases e2
      cases q with
      | o q1 q2 q3 => exact ⟨rfl, _, rfl, q1, .inl ⟨i, l', rfl, e1, h⟩⟩
    · cases e
theorem ArgL.argsR {lo b : Nat} {m : M} {ρP : PEnv} {ρ : Env} {as : List PArg} {ws : List Val} {ss : List Sl} (r : EnvR m b ρP ρ) (h : ArgL m ρP ρ lo as ws) (ha : apart as = true) (e : argsS ρP as = some ss) : ArgsR m ws ss := by
  refine ⟨by rw [argsS_len e, h.len], fun i w s e1 e2 => ?_, fun i j n l v e1 e2 e3 => ?_⟩
  · obtain ⟨a, e3, e4⟩ := argsS_get e e2
    obtain ⟨lo', _, q⟩ := h.get e3 e1
    cases q with
    | p q => simp [argS] at e4; subst e4; exact ⟨rfl, q⟩
    | r q1 q2 q3 => simp [argS] at e4; subst e4; exact ⟨rfl, _, rfl, q1⟩
    | o q1 q2 q3 => simp [argS] at e4; subst e4; exact ⟨rfl, _, rfl, q1⟩
    | view q =>
      simp only [argS] at e4
      split at e4
      · rename_i l u e5
        split at e4
        · rename_i hs
          cases e4
          have := psame_eq _ _ hs
          subst this
          obtain ⟨w', e6, q'⟩ := r.get _ _ e5
          rw [q] at e6
          cases e6
          cases q' with
          | o q1 q2 q3 => exact ⟨rfl, _, rfl, q1⟩
        · cases e4
      · cases e4
    | io q =>
      simp only [argS] at e4
      split at e4
      · rename_i l u e5
        cases e4
        obtain ⟨w', e6, q'⟩ := r.get _ _ e5
        rw [q] at e6
        cases e6
        cases q' with
        | o q1 q2 q3 => exact ⟨rfl, _, rfl, q1⟩
      · cases e4
  · obtain ⟨a, e4, e5⟩ := argsS_get e e1
    obtain ⟨lo', _, q⟩ := h.get e4 e2
    obtain ⟨rfl, n', en, hat, hc⟩ := argS_o r q e5
    cases en
    have hj : j < as.length := by
      rw [h.len]
      exact (List.getElem?_eq_some_iff.mp e3).1
    have e6 : as[j]? = some as[j] := List.getElem?_eq_getElem hj
    obtain ⟨lo2, _, q2⟩ := h.get e6 e3
    rcases hc with ⟨i0, l0, rfl, f1, f2⟩ | ⟨rfl, f1, f2⟩
    · generalize as[j] = c at *
      cases q2 with
      | r p1 p2 p3 => exact absurd ⟨i0, l0, v, f1, f2⟩ p2
      | o p1 p2 p3 => exact absurd ⟨i0, f2⟩ p3
      | @view i1 _ _ p =>
        have := r.uniq i0 i1 _ _ _ f1 f2 p
        subst this
        exact apart_io ha e4 e6 (by simp [PArg.vx])
      | @io i1 _ p =>
        have := r.uniq i0 i1 _ _ _ f1 f2 p
        subst this
        exact apart_io ha e4 e6 (by simp [PArg.vx])
      | p p1 => simp [Val.pure] at p1
    · generalize hc : as[j] = c at *
      cases q2 with
      | r p1 p2 p3 => exact absurd p3 f2
      | o p1 p2 p3 => exact h.tmp e4 e6 e2 e3
      | view p => exact absurd ⟨_, p⟩ f2
      | io p => exact absurd ⟨_, p⟩ f2
      | p p1 => simp [Val.pure] at p1
/-- the names behind the call -/
theorem backS_get : ∀ {as : List PArg} {outs : List Sl} {ρ ρ' : PEnv}, backS as outs ρ = some ρ' → apart as = true → ρ'.length = ρ.length ∧ ∀ i : Nat, (∃ (j : Nat) (l : Bool) (v u : Val), as[j]? = some (.io i) ∧ outs[j]? = some (.o false v) ∧ ρ[i]? = some (some (.o l u)) ∧ ρ'[i]? = some (some (.o l v))) ∨
      ((∀ j : Nat, as[j]? ≠ some (.io i)) ∧ ρ'[i]? = ρ[i]?)
  | [], [], ρ, ρ', h, _ => by simp [backS] at h; subst h; exact ⟨rfl, fun i => .inr ⟨by simp, rfl⟩⟩
  | [], _ :: _, ρ, ρ', h, _ => by simp [backS] at h
  | .io k :: as, [], ρ, ρ', h, _ => by simp [backS] at h
  | .io k :: as, .p _ :: ss, ρ, ρ', h, _ => by simp [backS] at h
  | .io k :: as, .r _ _ :: ss, ρ, ρ', h, _ => by simp [backS] at h
  | .io k :: as, .o true _ :: ss, ρ, ρ', h, _ => by simp [backS] at h
  | .io k :: as, .o false v :: ss, ρ, ρ', h, ha => by
    simp only [backS] at h
    have ha' := ha
    simp only [apart, Bool.and_eq_true] at ha
    split at h
    · rename_i l u e
      obtain ⟨hl, q⟩ := backS_get h ha.2
      refine ⟨by rw [hl]; simp, fun i => ?_⟩
      by_cases hik : i = k
      · subst hik
        rcases q i with ⟨j, l', v', u', q1, _⟩ | ⟨q1, q2⟩
        · have := apart_io (i := 0) (j := j + 1) ha' rfl (by simpa using q1) (by simp [PArg.vx])
          omega
        · refine .inl ⟨0, l, v, u, rfl, rfl, e, ?_⟩
          rw [q2, List.getElem?_set_self (List.getElem?_eq_some_iff.mp e).1]
      · rcases q i with ⟨j, l', v', u', q1, q2, q3, q4⟩ | ⟨q1, q2⟩
        · rw [List.getElem?_set_ne (Ne.symm hik)] at q3
          exact .inl ⟨j + 1, l', v', u', by simpa using q1, by simpa using q2, q3, q4⟩
        · refine .inr ⟨fun j => ?_, by rw [q2, List.getElem?_set_ne (Ne.symm hik)]⟩
          cases j with
          | zero => simp; exact fun e => hik e.symm
          | succ j => simpa using q1 j
    · cases h
  | .val a :: as, [], ρ, ρ', h, _ => by simp [backS] at h
  | .view _ _ :: as, [], ρ, ρ', h, _ => by simp [backS] at h
  | .val a :: as, s :: ss, ρ, ρ', h, ha => by
    simp only [backS] at h
    simp only [apart, Bool.and_eq_true] at ha
    obtain ⟨hl, q⟩ := backS_get h ha.2
    refine ⟨hl, fun i => ?_⟩
    rcases q i with ⟨j, l', v', u', q1, q2, q3, q4⟩ | ⟨q1, q2⟩
    · exact .inl ⟨j + 1, l', v', u', by simpa using q1, by simpa using q2, q3, q4⟩
    · refine .inr ⟨fun j => ?_, q2⟩
      cases j with
      | zero => simp
      | succ j => simpa using q1 j
  | .view x y :: as, s :: ss, ρ, ρ', h, ha => by
    simp only [backS] at h
    simp only [apart, Bool.and_eq_true] at ha
    obtain ⟨hl, q⟩ := backS_get h ha.2
    refine ⟨hl, fun i => ?_⟩
    rcases q i with ⟨j, l', v', u', q1, q2, q3, q4⟩ | ⟨q1, q2⟩
    · exact .inl ⟨j + 1, l', v', u', by simpa using q1, by simpa using q2, q3, q4⟩
    · refine .inr ⟨fun j => ?_, q2⟩
      cases j with
      | zero => simp
      | succ j => simpa using q1 j
/-- behind a call -/
theorem call_st {b lo : Nat} {m m1 m' : M} {ρP ρP1 ρP2 : PEnv} {ρ : Env} {as : List PArg} {ws : List Val} {ss outs : List Sl} (x : St b m ρP ρ m1 ρP1 ρ) (h : ArgL m1 ρP1 ρ lo as ws) (hlo : m.length ≤ lo) (ha : apart as = true) (e : argsS ρP1 as = some ss) (c : CallEnd m1 m' ws ss outs)
    (eb : backS as outs ρP1 = some ρP2) : St b m ρP ρ m' ρP2 ρ := by
  have r := x.env
  obtain ⟨hl, q⟩ := backS_get eb ha
  -- what isn't handed in to be changed stays
  have kp : ∀ n, n < m1.length → (∀ (i : Nat) l, ρ[i]? = some (some (.ref n)) → ρP1[i]? = some (some (.o l (dr m1 (.ref n)))) → ∀ j : Nat, as[j]? ≠ some (.io i)) → (Has ρ n ∨ n < m.length) → m'[n]? = m1[n]? := fun n hn hk hh => by
    refine c.keep n hn fun i l v e1 e2 => ?_
    obtain ⟨a, e3, e4⟩ := argsS_get e e1
    obtain ⟨lo', hlo', qa⟩ := h.get e3 e2
    obtain ⟨rfl, n', en, hat, hc⟩ := argS_o r qa e4
    cases en
    rcases hc with ⟨i0, l0, rfl, f1, f2⟩ | ⟨rfl, f1, f2⟩
    · exact hk i0 l0 f2 (by rw [hat.dr]; exact f1) i e3
    · rcases hh with hh | hh
      · exact f2 hh
      · omega
  have own2 : ∀ n, Own ρP2 ρ n → Own ρP1 ρ n := by
    rintro n ⟨i, l, v, h1, h2⟩
    rcases q i with ⟨j, l', v', u', q1, q2, q3, q4⟩ | ⟨q1, q2⟩
    · exact ⟨i, l', u', q3, h2⟩
    · exact ⟨i, l, v, q2 ▸ h1, h2⟩
  refine ⟨⟨by rw [hl]; exact r.len, fun i s es => ?_, fun i j n l v h1 h2 h3 => ?_, fun n hn => Nat.lt_of_lt_of_le (r.lt n hn) c.le, Nat.le_trans r.ble c.le⟩, hl.trans x.ln, Nat.le_trans x.le c.le, fun n hn ho => ?_, fun n hn ho => x.own n hn (own2 n ho), fun j v hj => ?_⟩
  · rcases q i with ⟨j, l, v, u, q1, q2, q3, q4⟩ | ⟨q1, q2⟩
    · rw [q4] at es
      cases es
      obtain ⟨w, ew, qs⟩ := r.get i _ q3
      refine ⟨w, ew, ?_⟩
      cases qs with
      | @o n _ _ p1 p2 p3 =>
        have hj : j < ws.length := by
          rw [← h.len]
          exact (List.getElem?_eq_some_iff.mp q1).1
        have e1 : ws[j]? = some ws[j] := List.getElem?_eq_getElem hj
        obtain ⟨lo', _, qa⟩ := h.get q1 e1
        have ew2 : ws[j] = .ref n := by
          generalize ws[j] = w2 at qa
          cases qa with
          | io p =>
            rw [ew] at p
            cases p
            rfl
        rw [ew2] at e1
        have es : ∃ l u, ss[j]? = some (.o l u) := by
          have hs : j < ss.length := by rw [argsS_len e]; exact (List.getElem?_eq_some_iff.mp q1).1
          obtain ⟨a, e3, e4⟩ := argsS_get e (List.getElem?_eq_getElem hs)
          rw [q1] at e3
          cases e3
          simp only [argS, q3, Option.some.injEq] at e4
          exact ⟨false, u, by rw [List.getElem?_eq_getElem hs, ← e4]⟩
        exact .o (c.outs j n v q2 es e1) p2 p3
    · rw [q2] at es
      obtain ⟨w, ew, qs⟩ := r.get i _ es
      refine ⟨w, ew, ?_⟩
      have key : ∀ n, ρ[i]? = some (some (.ref n)) → m'[n]? = m1[n]? := fun n hn => kp n (r.lt n ⟨i, hn⟩) (fun i' l' h1 h2 j hj => by
        have := r.uniq i' i n _ _ h2 h1 hn
        subst this
        exact q1 j hj) (.inl ⟨i, hn⟩)
      cases qs with
      | p p1 => exact .p p1
      | r p1 p2 => exact .r (p1.at (key _ ew)) p2
      | o p1 p2 p3 => exact .o (p1.at (key _ ew)) p2 p3
  · rcases q i with ⟨j', l', v', u', q1, q2, q3, q4⟩ | ⟨q1, q2⟩
    · exact r.uniq i j n l' u' q3 h2 h3
    · exact r.uniq i j n l v (q2 ▸ h1) h2 h3
  · rw [kp n (Nat.lt_of_lt_of_le hn x.le) (fun i l h1 h2 j hj => ho (x.own n hn ⟨i, l, _, h2, h1⟩)) (.inr hn), x.keep n hn ho]
  · rcases q j with ⟨j', l', v', u', q1, q2, q3, q4⟩ | ⟨q1, q2⟩
    · rw [q4] at hj
      cases hj
      obtain ⟨t, h1, h2⟩ := x.lo j u' q3
      exact ⟨t, h1, h2⟩
    · exact x.lo j v (q2 ▸ hj)
theorem pcall_sim {C' : PCx} {C : Cx} (hC : CallsOk C' C) {b lo : Nat} {m m1 : M} {ρP ρP1 : PEnv} {ρ : Env} {f : Nat} {as : List PArg} {ws : List Val} {al : Bool} (x : St b m ρP ρ m1 ρP1 ρ) (h : ArgL m1 ρP1 ρ lo as ws) (hlo : m.length ≤ lo) :
    SimR b m ρP ρ (fun m' ρP' s w => Res m.length m' b ρP' ρ w s) (pcall C' f as al ρP1) (C.call f ws al m1) := by
  unfold pcall
  split
  · rename_i ha
    cases e : argsS ρP1 as with
    | none => trivial
    | some ss =>
      dsimp only
      have q := hC f ss al m1 ws (h.argsR x.env ha e)
      unfold CallR_ at q
      cases ec : C'.call f ss al with
      | stuck => trivial
      | exc c fs outs =>
        rw [ec] at q
        obtain ⟨m', e1, q1, q2⟩ := q
        dsimp only
        cases eb : backS as outs ρP1 with
        | none => trivial
        | some ρP2 => exact ⟨m', e1, call_st x h hlo ha e q1 eb, q2⟩
      | ok s outs =>
        rw [ec] at q
        obtain ⟨w, m', e1, q1, q2⟩ := q
        dsimp only
        cases s with
        | r _ _ => trivial
        | p v =>
          cases eb : backS as outs ρP1 with
          | none => simp only [popt, PR.bind, SimR]
          | some ρP2 =>
            obtain ⟨rfl, q2⟩ := q2
            exact ⟨w, m', e1, call_st x h hlo ha e q1 eb, .p q2⟩
        | o l v =>
          cases l with
          | false => trivial
          | true =>
            cases al with
            | false => trivial
            | true =>
              cases eb : backS as outs ρP1 with
              | none => simp only [popt, PR.bind, SimR, if_true]
              | some ρP2 =>
                obtain ⟨rfl, q2⟩ := q2
                refine ⟨.ref m1.length, m', e1, call_st x h hlo ha e q1 eb, .o q2 x.le fun hh => ?_⟩
                have := x.env.lt _ hh
                omega
  · trivial
end MP
set_option Elab.async false
set_option linter.all false
set_option maxRecDepth 100000
set_option maxHeartbeats 2000000
/-! MPPE: expressions, side by side. -/
namespace MP
open PySem (Str Operator CmpOp PyData)
def Es.size : Es → Nat
  | .nil => 0
  | .cons _ r => r.size + 1
mutual
/-- what is asked of a text -/
def wfE : E → Bool
  | .var _ => true
  | .con _ => true
  | .glob _ => true
  | .bin _ a b => wfE a && wfE b
  | .neg a => wfE a
  | .nt a => wfE a
  | .and a r => wfE a && wfEs r
  | .or a r => wfE a && wfEs r
  | .ite c a b => wfE c && wfE a && wfE b
  | .cmp a _ es => wfE a && wfEs es
  | .idx a i => wfE a && wfE i
  | .slc a lo hi => wfE a && wfE lo && wfE hi
  | .rev a => wfE a
  | .tup es => Nat.ble es.size 1000 && wfEs es
  | .lst es => Nat.ble es.size 1000 && wfEs es
  | .comp _ elt own tg it cd => (tg.names.all fun i => own.contains i) && wfE elt && wfIt it && wfEs cd
  | .call _ es _ => wfEs es
  | .callk _ es kes _ _ => wfEs es && wfEs kes
  | .blt _ es => wfEs es
  | .isi a _ => wfE a
  | .mth _ o es => wfE o && wfEs es
  | .new a => wfE a
  | .dict ks vs => wfEs ks && wfEs vs
  | .fld a _ => wfE a
  | .emp => true
def wfEs : Es → Bool
  | .nil => true
  | .cons a r => wfE a && wfEs r
def wfIt : It → Bool
  | .val a => wfE a
  | .rng es => wfEs es
  | .enu a => wfE a
  | .zip a b _ => wfE a && wfE b
  | .items a => wfE a
end
inductive ResL (m : M) (b : Nat) (ρP : PEnv) (ρ : Env) : Nat → List Val → List Sl → Prop
  | nil {lo : Nat} : ResL m b ρP ρ lo [] []
  | cons {lo mid : Nat} {w : Val} {s : Sl} {ws : List Val} {ss : List Sl} : Res lo m b ρP ρ w s → (∀ n, w = .ref n → n < mid) → lo ≤ mid → ResL m b ρP ρ mid ws ss → ResL m b ρP ρ lo (w :: ws) (s :: ss)
theorem ResL.later {b : Nat} {m1 m2 : M} {ρP1 ρP2 : PEnv} {ρ : Env} : ∀ {ss : List Sl} {lo : Nat} {ws : List Val}, ResL m1 b ρP1 ρ lo ws ss → St b m1 ρP1 ρ m2 ρP2 ρ → ResL m2 b ρP2 ρ lo ws ss
  | [], _, _, h, x => by cases h; exact .nil
  | s :: ss, _, _, h, x => by
    cases h with
    | cons h1 h2 h3 h4 => exact .cons (h1.later x) h2 h3 (h4.later x)
theorem ResL.pvs {b : Nat} {m1 : M} {ρP1 : PEnv} {ρ : Env} : ∀ {ss : List Sl} {lo : Nat} {ws vs : List Val}, ResL m1 b ρP1 ρ lo ws ss → pvs_ ss = some vs → ws = vs ∧ pureL vs = true
  | [], _, _, vs, h, e => by cases h; simp [pvs_] at e; subst e; exact ⟨rfl, rfl⟩
  | s :: ss, _, _, vs, h, e => by
    cases h with
    | cons h1 h2 h3 h4 =>
      simp only [pvs_, Option.bind_eq_some_iff, Option.map_eq_some_iff] at e
      obtain ⟨v, e1, us, e2, rfl⟩ := e
      obtain ⟨rfl, p⟩ := h4.pvs e2
      cases s with
      | p u =>
        simp [pv_] at e1
        subst e1
        cases h1 with
        | p h1 => exact ⟨rfl, by simp [pureL, h1, p]⟩
      | r _ _ => cases e1
      | o _ _ => cases e1
theorem ResL.len {b : Nat} {m1 : M} {ρP1 : PEnv} {ρ : Env} : ∀ {ss : List Sl} {lo : Nat} {ws : List Val}, ResL m1 b ρP1 ρ lo ws ss → ws.length = ss.length
  | [], _, _, h => by cases h; rfl
  | s :: ss, _, _, h => by
    cases h with
    | cons h1 h2 h3 h4 => simp [h4.len]
theorem pv_res {lo b : Nat} {m1 : M} {ρP1 : PEnv} {ρ : Env} {w v : Val} {s : Sl} (h : Res lo m1 b ρP1 ρ w s) (e : pv_ s = some v) : w = v ∧ v.pure = true ∧ s = .p v := by
  cases s with
  | p u =>
    simp [pv_] at e
    subst e
    cases h with
    | p h => exact ⟨rfl, h, rfl⟩
  | r _ _ => cases e
  | o _ _ => cases e
section
variable {b : Nat} {m m1 : M} {ρP ρP1 : PEnv} {ρ : Env}
theorem simZ {lo : Nat} {o : Option Val} (st : EnvR m b ρP ρ) (hp : ∀ z, o = some z → z.pure = true) : SimR b m ρP ρ (fun m' ρP' s w => Res lo m' b ρP' ρ w s) ((popt o ρP).bind fun z ρ => .ok (.p z) ρ) (opt o m) := by
  cases o with
  | none => trivial
  | some z => exact ⟨z, m, rfl, .refl st, .p (hp z rfl)⟩
theorem simV {α β : Type} {V : M → PEnv → α → β → Prop} {lo : Nat} {s : Sl} {w : Val} (st : EnvR m b ρP ρ) (h : Res lo m b ρP ρ w s) {f : Val → PEnv → PR α} {r : R β} (k : ∀ v, w = v → v.pure = true → s = .p v → SimR b m ρP ρ V (f v ρP) r) : SimR b m ρP ρ V ((onlyP s ρP).bind f) r := by
  unfold onlyP
  cases e : pv_ s with
  | none => trivial
  | some v =>
    obtain ⟨h1, h2, h3⟩ := pv_res h e
    exact k v h1 h2 h3
theorem simVs {α β : Type} {V : M → PEnv → α → β → Prop} {lo : Nat} {ss : List Sl} {ws : List Val} (h : ResL m b ρP ρ lo ws ss) {f : List Val → PEnv → PR α} {r : R β} (k : ∀ vs, ws = vs → pureL vs = true → SimR b m ρP ρ V (f vs ρP) r) : SimR b m ρP ρ V ((onlyPs ss ρP).bind f) r := by
  unfold onlyPs
  cases e : pvs_ ss with
  | none => trivial
  | some vs =>
    obtain ⟨h1, h2⟩ := h.pvs e
    exact k vs h1 h2
theorem pe_false {C' : PCx} {e : E} (h : isVar e = none) (ρP : PEnv) : pe C' e false ρP = pe C' e true ρP := by
  cases e <;> first | (cases h; done) | (simp only [pe]; done) | skip
  rename_i k o es
  cases o <;> simp only [pe]
theorem simO {C' : PCx} {C : Cx} {e : E} (r : EnvR m b ρP ρ) (h : SimR b m ρP ρ (fun m' ρP' s w => Res m.length m' b ρP' ρ w s) (pe C' e true ρP) (ev C e ρ m)) : SimR b m ρP ρ (fun m' ρP' s w => Opd b ρ e m' ρP' s w) (pe C' e false ρP) (ev C e ρ m) := by
  cases hv : isVar e with
  | none =>
    rw [pe_false hv]
    exact h.mono fun s w m' ρP' _ q => .of hv q
  | some i =>
    cases e <;> first | (cases hv; done) | skip
    rename_i j
    rw [pe, ev]
    unfold readP
    cases e1 : ρP[j]? with
    | none => trivial
    | some o =>
      cases o with
      | none => trivial
      | some s =>
        obtain ⟨w, e2, q⟩ := r.get j s e1
        dsimp only
        rw [e2]
        refine ⟨w, m, rfl, .refl r, ?_, fun m2 ρP2 x hc => ?_⟩
        · simp only [chk, e1, Sl.val, same_self]
        · simp only [chk] at hc
          split at hc
          · rename_i s2 e3
            have hs := psame_eq _ _ hc
            obtain ⟨w2, e4, q2⟩ := x.env.get j s2 e3
            rw [e2] at e4
            cases e4
            show dr m2 w = s.val ∧ s.val.pure = true
            have hs : s.val = s2.val := hs
            rw [hs]
            cases q2 with
            | p p1 => exact ⟨dr_pure p1, p1⟩
            | r p1 _ => exact ⟨p1.dr, p1.1⟩
            | o p1 _ _ => exact ⟨p1.dr, p1.1⟩
          · cases hc
end
/-! ### comprehensions -/
theorem wipeP_get : ∀ (own : List Nat) (ρ : PEnv), (wipeP ρ own).length = ρ.length ∧ ∀ i : Nat, (i ∈ own → ∀ s, (wipeP ρ own)[i]? ≠ some (some s)) ∧ (i ∉ own → (wipeP ρ own)[i]? = ρ[i]?)
  | [], ρ => ⟨rfl, fun i => ⟨fun h => (by cases h), fun _ => rfl⟩⟩
  | v :: vs, ρ => by
    obtain ⟨h1, h2⟩ := wipeP_get vs ρ
    refine ⟨by simp [wipeP, h1], fun i => ⟨fun h s e => ?_, fun h => ?_⟩⟩
    · rcases get_set e with ⟨_, e1⟩ | ⟨hn, e1⟩
      · cases e1
      · rcases List.mem_cons.mp h with h | h
        · exact hn h
        · exact (h2 i).1 h s e1
    · simp only [List.mem_cons, not_or] at h
      rw [wipeP, List.getElem?_set_ne (Ne.symm h.1)]
      exact (h2 i).2 h.2
theorem wipeE_get : ∀ (own : List Nat) (ρ : Env), (wipeE ρ own).length = ρ.length ∧ ∀ i : Nat, (i ∈ own → ∀ s, (wipeE ρ own)[i]? ≠ some (some s)) ∧ (i ∉ own → (wipeE ρ own)[i]? = ρ[i]?)
  | [], ρ => ⟨rfl, fun i => ⟨fun h => (by cases h), fun _ => rfl⟩⟩
  | v :: vs, ρ => by
    obtain ⟨h1, h2⟩ := wipeE_get vs ρ
    refine ⟨by simp [wipeE, h1], fun i => ⟨fun h s e => ?_, fun h => ?_⟩⟩
    · rcases get_set e with ⟨_, e1⟩ | ⟨hn, e1⟩
      · cases e1
      · rcases List.mem_cons.mp h with h | h
        · exact hn h
        · exact (h2 i).1 h s e1
    · simp only [List.mem_cons, not_or] at h
      rw [wipeE, List.getElem?_set_ne (Ne.symm h.1)]
      exact (h2 i).2 h.2
theorem restP_get : ∀ (own : List Nat) (ρ0 ρ : PEnv), ρ0.length = ρ.length → (restP ρ0 own ρ).length = ρ.length ∧ ∀ i : Nat, (i ∈ own → (restP ρ0 own ρ)[i]? = ρ0[i]?) ∧ (i ∉ own → (restP ρ0 own ρ)[i]? = ρ[i]?)
  | [], ρ0, ρ, _ => ⟨rfl, fun i => ⟨fun h => (by cases h), fun _ => rfl⟩⟩
  | v :: vs, ρ0, ρ, hl => by
    obtain ⟨h1, h2⟩ := restP_get vs ρ0 ρ hl
    refine ⟨by simp [restP, h1], fun i => ⟨fun h => ?_, fun h => ?_⟩⟩
    · by_cases hi : v = i
      · subst hi
        rw [restP]
        by_cases hv : v < ρ.length
        · rw [List.getElem?_set_self (by rw [h1]; exact hv), List.getD_eq_getElem?_getD, List.getElem?_eq_getElem (by rw [hl]; exact hv)]
          rfl
        · rw [List.getElem?_eq_none (by simp [h1]; omega), List.getElem?_eq_none (by omega)]
      · rw [restP, List.getElem?_set_ne hi]
        rcases List.mem_cons.mp h with h | h
        · exact absurd h.symm hi
        · exact (h2 i).1 h
    · simp only [List.mem_cons, not_or] at h
      rw [restP, List.getElem?_set_ne (Ne.symm h.1)]
      exact (h2 i).2 h.2
section
variable {b : Nat} {m m' : M} {ρP ρP1 ρP3 : PEnv} {ρ ρ1 : Env} {own : List Nat}
theorem wipe_st (r : EnvR m b ρP ρ) : EnvR m b (wipeP ρP own) (wipeE ρ own) ∧ ∀ n, Own (wipeP ρP own) (wipeE ρ own) n → ∃ (j : Nat) (l : Bool) (v : Val), j ∉ own ∧ ρP[j]? = some (some (.o l v)) ∧ ρ[j]? = some (some (.ref n)) := by
  obtain ⟨p1, p2⟩ := wipeP_get own ρP
  obtain ⟨e1, e2⟩ := wipeE_get own ρ
  have hP : ∀ (i : Nat) s, (wipeP ρP own)[i]? = some (some s) → i ∉ own ∧ ρP[i]? = some (some s) := fun i s h => by
    by_cases hi : i ∈ own
    · exact absurd h ((p2 i).1 hi s)
    · exact ⟨hi, (p2 i).2 hi ▸ h⟩
  have hE : ∀ (i : Nat) s, (wipeE ρ own)[i]? = some (some s) → i ∉ own ∧ ρ[i]? = some (some s) := fun i s h => by
    by_cases hi : i ∈ own
    · exact absurd h ((e2 i).1 hi s)
    · exact ⟨hi, (e2 i).2 hi ▸ h⟩
  refine ⟨⟨by rw [p1, e1]; exact r.len, fun i s h => ?_, fun i j n l v h1 h2 h3 => r.uniq i j n l v (hP _ _ h1).2 (hE _ _ h2).2 (hE _ _ h3).2, fun n ⟨j, h⟩ => r.lt n ⟨j, (hE _ _ h).2⟩, r.ble⟩, fun n ⟨j, l, v, h1, h2⟩ => ⟨j, l, v, (hP _ _ h1).1, (hP _ _ h1).2, (hE _ _ h2).2⟩⟩
  obtain ⟨hi, h⟩ := hP _ _ h
  obtain ⟨w, ew, q⟩ := r.get i s h
  exact ⟨w, ((e2 i).2 hi).trans ew, q⟩
/-- behind a turn the names of the comprehension are as they were -/
theorem rest_st (r : EnvR m b ρP ρ) (x1 : St b m (wipeP ρP own) (wipeE ρ own) m ρP1 ρ1) (k1 : ∀ j, j ∉ own → ρP1[j]? = (wipeP ρP own)[j]? ∧ ρ1[j]? = (wipeE ρ own)[j]?) (x : St b m ρP1 ρ1 m' ρP3 ρ1) : St b m ρP ρ m' (restP ρP own ρP3) ρ := by
  obtain ⟨rw_, ow⟩ := wipe_st (own := own) r
  obtain ⟨p1, p2⟩ := wipeP_get own ρP
  obtain ⟨e1, e2⟩ := wipeE_get own ρ
  have l3 : ρP.length = ρP3.length := by rw [x.ln, x1.ln, p1]
  obtain ⟨q1, q2⟩ := restP_get own ρP ρP3 l3
  have own1 : ∀ n, n < m.length → Own ρP1 ρ1 n → ∃ (j : Nat) (l : Bool) (v : Val), j ∉ own ∧ ρP[j]? = some (some (.o l v)) ∧ ρ[j]? = some (some (.ref n)) := fun n hn h => ow n (x1.own n hn h)
  have ownR : ∀ n, Own (restP ρP own ρP3) ρ n → Own ρP ρ n := by
    rintro n ⟨i, l, v, h1, h2⟩
    by_cases hi : i ∈ own
    · exact ⟨i, l, v, (q2 i).1 hi ▸ h1, h2⟩
    · have hn : n < m.length := r.lt n ⟨i, h2⟩
      have h1' : ρP3[i]? = some (some (.o l v)) := (q2 i).2 hi ▸ h1
      have h2' : ρ1[i]? = some (some (.ref n)) := ((k1 i hi).2.trans ((e2 i).2 hi)).trans h2
      obtain ⟨j, l', v', _, a1, a2⟩ := own1 n hn (x.own n hn ⟨i, l, v, h1', h2'⟩)
      exact ⟨j, l', v', a1, a2⟩
  refine ⟨⟨by rw [q1, ← l3]; exact r.len, fun i s h => ?_, fun i j n l v h1 h2 h3 => ?_, fun n h => Nat.lt_of_lt_of_le (r.lt n h) x.le, Nat.le_trans r.ble x.le⟩, by rw [q1, ← l3], x.le, fun n hn h => ?_, fun n hn h => ownR n h, fun j v h => ?_⟩
  · by_cases hi : i ∈ own
    · rw [(q2 i).1 hi] at h
      obtain ⟨w, ew, q⟩ := r.get i s h
      refine ⟨w, ew, ?_⟩
      have key : ∀ n, w = .ref n → m'[n]? = m[n]? := fun n hw => by
        subst hw
        have hn : n < m.length := r.lt n ⟨i, ew⟩
        refine x.keep n hn fun ho => ?_
        obtain ⟨j, l', v', hj, a1, a2⟩ := own1 n hn ho
        have := r.uniq j i n l' v' a1 a2 ew
        subst this
        exact hj hi
      cases q with
      | p p => exact .p p
      | r p p' => exact .r (p.at (key _ rfl)) p'
      | o p p' p'' => exact .o (p.at (key _ rfl)) p' p''
    · rw [(q2 i).2 hi] at h
      obtain ⟨w, ew, q⟩ := x.env.get i s h
      exact ⟨w, ((k1 i hi).2.trans ((e2 i).2 hi)) ▸ ew, q⟩
  · obtain ⟨k, l', v', a1, a2⟩ := ownR n ⟨i, l, v, h1, h2⟩
    rw [← r.uniq k i n _ _ a1 a2 h2, ← r.uniq k j n _ _ a1 a2 h3]
  · refine x.keep n hn fun ho => h ?_
    obtain ⟨j, l', v', _, a1, a2⟩ := own1 n hn ho
    exact ⟨j, l', v', a1, a2⟩
  · by_cases hj : j ∈ own
    · exact ⟨v, (q2 j).1 hj ▸ h, rfl⟩
    · rw [(q2 j).2 hj] at h
      obtain ⟨u, a1, _⟩ := x.lo j v h
      exact ⟨u, ((k1 j hj).1.trans ((p2 j).2 hj)) ▸ a1, rfl⟩
end
end MP
set_option Elab.async false
set_option linter.all false
set_option maxRecDepth 100000
set_option maxHeartbeats 4000000
/-! MPPF: expressions, side by side: the walk over the text. -/
namespace MP
open PySem (Str Operator CmpOp PyData)
abbrev SE (b : Nat) (m : M) (ρP : PEnv) (ρ : Env) (p : PR Sl) (r : R Val) : Prop := SimR b m ρP ρ (fun m' ρP' s w => Res m.length m' b ρP' ρ w s) p r
/-- what is walked -/
def ItV (b : Nat) (ρ : Env) (m' : M) (ρP' : PEnv) (q : List Val × List (E × Val)) (p : List Val × List Nat) : Prop := q.1 = p.1 ∧ pureL q.1 = true ∧ ∀ m2 ρP2, St b m' ρP' ρ m2 ρP2 ρ → views q.2 ρP2 = true → stands m' m2 p.2 = true
def ItF (ρ : Env) (m' : M) (ρP' : PEnv) (q : List Val × List (E × Val)) (p : List Val × List Nat) : Prop := q.1 = p.1 ∧ pureL q.1 = true ∧ ∀ n ∈ p.2, n < m'.length ∧ ¬ Own ρP' ρ n
theorem SE.weak {b lo : Nat} {m : M} {ρP : PEnv} {ρ : Env} {p : PR Sl} {r : R Val} (h : SE b m ρP ρ p r) (l : lo ≤ m.length) : SimR b m ρP ρ (fun m' ρP' s w => Res lo m' b ρP' ρ w s) p r :=
  h.mono fun _ _ _ _ _ q => q.weak l
theorem pstands_self (m : M) : ∀ l : List Nat, (∀ n ∈ l, n < m.length) → ∀ m2 : M, (∀ n ∈ l, m2[n]? = m[n]?) → stands m m2 l = true
  | [], _, _, _ => rfl
  | n :: l, h, m2, h2 => by
    simp only [stands, h2 n List.mem_cons_self, List.getElem?_eq_getElem (h n List.mem_cons_self), Cell.same_self, Bool.true_and]
    exact pstands_self m l (fun n hn => h n (List.mem_cons_of_mem _ hn)) m2 fun n hn => h2 n (List.mem_cons_of_mem _ hn)
/-- a thing that is walked and looked at by its name stands while the name does -/
theorem Opd.stand {b : Nat} {ρ : Env} {e : E} {m m1 m2 : M} {ρP1 ρP2 : PEnv} {s : Sl} {w : Val} (h : Opd b ρ e m1 ρP1 s w) (r : EnvR m1 b ρP1 ρ) (x : St b m1 ρP1 ρ m2 ρP2 ρ) (hc : chk e s.val ρP2 = true) (hw : ∀ n, w = .ref n → n < m1.length) : stands m1 m2 (watch w) = true := by
  cases w <;> first | rfl | skip
  rename_i n
  have h1 := (h.now r).1
  have h2 := (h.2 m2 ρP2 x hc).1
  have hn := hw n rfl
  have hn2 : n < m2.length := Nat.lt_of_lt_of_le hn x.le
  have hp := (h.now r).2
  simp only [watch, stands, List.getElem?_eq_getElem hn, List.getElem?_eq_getElem hn2, Bool.and_true]
  simp only [dr, List.getElem?_eq_getElem hn] at h1
  simp only [dr, List.getElem?_eq_getElem hn2] at h2
  cases e1 : m1[n] with
  | lst xs =>
    rw [e1] at h1
    cases e2 : m2[n] with
    | lst ys =>
      rw [e2] at h2
      have := h1.trans h2.symm
      injection this with this
      subst this
      exact Cell.same_self _
    | dct _ _ => rw [e2] at h2; have := h1.trans h2.symm; cases this
    | ins _ _ => rw [e2] at h2; have := h1.trans h2.symm; cases this
  | dct ks vs =>
    rw [e1] at h1
    cases e2 : m2[n] with
    | dct _ _ =>
      rw [e2] at h2
      have := h1.trans h2.symm
      injection this with this1 this2
      subst this1; subst this2
      exact Cell.same_self _
    | lst _ => rw [e2] at h2; have := h1.trans h2.symm; cases this
    | ins _ _ => rw [e2] at h2; have := h1.trans h2.symm; cases this
  | ins _ _ =>
    rw [e1] at h1
    have h1 : Val.ref n = s.val := h1
    rw [← h1] at hp
    cases hp
theorem Opd.lt {b : Nat} {ρ : Env} {e : E} {m1 : M} {ρP1 : PEnv} {s : Sl} {w : Val} (h : Opd b ρ e m1 ρP1 s w) (r : EnvR m1 b ρP1 ρ) : ∀ n, w = .ref n → n < m1.length := by
  rintro n rfl
  obtain ⟨h1, h2⟩ := h.now r
  by_cases hn : n < m1.length
  · exact hn
  · rw [MP.dr, List.getElem?_eq_none (by omega)] at h1
    have h1 : Val.ref n = s.val := h1
    rw [← h1] at h2
    cases h2
theorem Res.watch {lo b : Nat} {ρ : Env} {m1 : M} {ρP1 : PEnv} {s : Sl} {w : Val} (h : Res lo m1 b ρP1 ρ w s) : ∀ n ∈ watch w, n < m1.length ∧ ¬ Own ρP1 ρ n := by
  cases h with
  | p h => cases w <;> first | (simp [MP.watch]; done) | (cases h)
  | r h h1 h2 h3 => intro n hn; simp only [MP.watch, List.mem_singleton] at hn; subst hn; exact ⟨h.lt, h2⟩
  | o h h1 h2 => intro n hn; simp only [MP.watch, List.mem_singleton] at hn; subst hn; exact ⟨h.lt, fun q => h2 q.has⟩
theorem pcomp_sim {b : Nat} {ρ : Env} {f : Val → PEnv → PR (Option Val)} {g : Val → M → R (Option Val)} {wP : PEnv → Bool} {w : M → Bool} {m0 : M} {ρP0 : PEnv}
    (hf : ∀ v m ρP, v.pure = true → EnvR m b ρP ρ → SimR b m ρP ρ (fun _ _ o o' => o = o' ∧ ∀ y, o = some y → y.pure = true) (f v ρP) (g v m)) (hw : ∀ m2 ρP2, St b m0 ρP0 ρ m2 ρP2 ρ → wP ρP2 = true → w m2 = true) :
    ∀ (xs acc : List Val) (m : M) (ρP : PEnv), pureL xs = true → acc.length + xs.length ≤ LINE → St b m0 ρP0 ρ m ρP ρ → SimR b m ρP ρ (fun _ _ vs ws => ws = acc ++ vs ∧ pureL vs = true) (pcompL f wP xs ρP) (compL g w acc xs m)
  | [], acc, m, ρP, _, _, x => ⟨acc, m, rfl, .refl x.env, by simp, rfl⟩
  | v :: xs, acc, m, ρP, hp, hl, x => by
    simp only [pureL, Bool.and_eq_true] at hp
    rw [List.length_cons] at hl
    rw [pcompL, compL]
    refine SimR.bind (hf v m ρP hp.1 x.env) fun o o' m1 ρP1 x1 ⟨ho, hy⟩ => SimR.from x1 ?_
    subst ho
    split
    · rename_i hv
      rw [if_pos (hw m1 ρP1 (x.trans x1) hv)]
      have ih := fun acc h => pcomp_sim hf hw xs acc m1 ρP1 hp.2 h (x.trans x1)
      cases o with
      | none =>
        refine SimR.mono (V := fun _ _ vs ws => ws = acc ++ vs ∧ pureL vs = true) ?_ fun _ _ _ _ _ h => h
        have z := ih acc (by omega)
        dsimp only
        cases e : pcompL f wP xs ρP1 with
        | stuck => trivial
        | exc c fs ρP' => rw [e] at z; exact z
        | ok vs ρP' => rw [e] at z; exact z
      | some y =>
        dsimp only
        rw [if_pos (show acc.length < LINE by omega)]
        have z := ih (acc ++ [y]) (by simp; omega)
        cases e : pcompL f wP xs ρP1 with
        | stuck => trivial
        | exc c fs ρP' => rw [e] at z; exact z
        | ok vs ρP' =>
          rw [e] at z
          obtain ⟨ws, m', e1, s, rfl, p⟩ := z
          exact ⟨_, m', e1, s, by simp, by
            show pureL (y :: vs) = true
            simp only [pureL, hy y rfl, p, Bool.and_self]⟩
    · trivial
def cellOf : Val → Cell
  | .dct ks vs => .dct ks vs
  | .lst xs => .lst xs
  | _ => .lst []
def isCell : Val → Bool
  | .dct _ _ => true
  | .lst _ => true
  | _ => false
theorem At.by {m : M} {n : Nat} {u : Val} (hp : u.pure = true) (hi : isCell u = true) (h : m[n]? = some (cellOf u)) : At m n u := by
  cases u <;> first | (cases hi; done) | skip
  · exact ⟨hp, .inl ⟨_, rfl, h⟩⟩
  · exact ⟨hp, .inr ⟨_, _, rfl, h⟩⟩
theorem own_set_st {b : Nat} {m : M} {ρP : PEnv} {ρ : Env} {n a : Nat} {l : Bool} {v u : Val} (r : EnvR m b ρP ρ) (e1 : ρP[n]? = some (some (.o l v))) (e2 : ρ[n]? = some (some (.ref a))) (hp : u.pure = true) (hi : isCell u = true) :
    St b m ρP ρ (m.set a (cellOf u)) (ρP.set n (some (.o l u))) ρ := by
  have ha : a < m.length := r.lt a ⟨n, e2⟩
  have own' : ∀ k, Own (ρP.set n (some (.o l u))) ρ k → Own ρP ρ k := by
    rintro k ⟨j, l', v', h1, h2⟩
    rcases get_set h1 with ⟨rfl, h⟩ | ⟨hn, h⟩
    · exact ⟨j, l, v, e1, h2⟩
    · exact ⟨j, l', v', h, h2⟩
  refine ⟨⟨by simp [r.len], fun j s h => ?_, fun j k n' l' v' h1 h2 h3 => ?_, fun k h => by simpa using r.lt k h, by simpa using r.ble⟩, by simp, by simp, fun k hk h => ?_, fun k _ h => own' k h, fun j t h => ?_⟩
  · rcases get_set h with ⟨rfl, h5⟩ | ⟨hn, h5⟩
    · cases h5
      obtain ⟨w, ew, q⟩ := r.get j _ e1
      rw [e2] at ew
      cases ew
      refine ⟨_, e2, ?_⟩
      cases q with
      | o p1 p2 p3 => exact .o (.by hp hi (List.getElem?_set_self ha)) p2 p3
    · obtain ⟨w, ew, q⟩ := r.get j s h5
      refine ⟨w, ew, ?_⟩
      have key : ∀ k, w = .ref k → (m.set a (cellOf u))[k]? = m[k]? := fun k hk => by
        subst hk
        refine List.getElem?_set_ne fun e => hn ?_
        subst e
        exact (r.uniq n j a l v e1 e2 ew).symm
      cases q with
      | p p1 => exact .p p1
      | r p1 p2 => exact .r (p1.at (key _ rfl)) p2
      | o p1 p2 p3 => exact .o (p1.at (key _ rfl)) p2 p3
  · rcases get_set h1 with ⟨rfl, h5⟩ | ⟨hn, h5⟩
    · exact r.uniq j k n' l v e1 h2 h3
    · exact r.uniq j k n' l' v' h5 h2 h3
  · refine List.getElem?_set_ne fun e => h ?_
    subst e
    exact ⟨n, l, v, e1, e2⟩
  · rcases get_set h with ⟨rfl, h5⟩ | ⟨hn, h5⟩
    · cases h5
      exact ⟨v, e1, rfl⟩
    · exact ⟨t, h5, rfl⟩
theorem new_res {b lo : Nat} {m : M} {ρP : PEnv} {ρ : Env} {u : Val} (r : EnvR m b ρP ρ) (hp : u.pure = true) (hi : isCell u = true) (hlo : lo ≤ m.length) : St b m ρP ρ (m ++ [cellOf u]) ρP ρ ∧ Res lo (m ++ [cellOf u]) b ρP ρ (.ref m.length) (.o true u) := by
  refine ⟨⟨r.mono (by simp) fun n hn => List.getElem?_append_left (r.lt n hn), rfl, by simp, fun n hn _ => List.getElem?_append_left hn, fun _ _ h => h, fun j v h => ⟨v, h, rfl⟩⟩, .o (.by hp hi (by simp)) hlo fun hh => ?_⟩
  have := r.lt _ hh
  omega
theorem putK_pure {k v : Val} (hk : k.pure = true) (hv : v.pure = true) : ∀ {ks vs : List Val}, pureL ks = true → pureL vs = true → pureL (putK k v ks vs).1 = true ∧ pureL (putK k v ks vs).2 = true
  | [], vs, _, _ => by cases vs <;> simp [putK, pureL, hk, hv]
  | _ :: _, [], _, _ => by simp [putK, pureL, hk, hv]
  | x :: r, y :: w, h1, h2 => by
    simp only [pureL, Bool.and_eq_true] at h1 h2
    simp only [putK]
    split
    · simp [pureL, h1.1, h1.2, hv, h2.2]
    · obtain ⟨q1, q2⟩ := putK_pure hk hv h1.2 h2.2
      simp [pureL, h1.1, h2.1, q1, q2]
theorem dictOf_pure {ks vs : List Val} (h1 : pureL ks = true) (h2 : pureL vs = true) : pureL (dictOf ks vs).1 = true ∧ pureL (dictOf ks vs).2 = true := by
  have key : ∀ (l : List (Val × Val)) (p : List Val × List Val), (∀ q ∈ l, q.1.pure = true ∧ q.2.pure = true) → pureL p.1 = true → pureL p.2 = true → pureL (l.foldl (fun (p : List Val × List Val) kv => putK kv.1 kv.2 p.1 p.2) p).1 = true ∧ pureL (l.foldl (fun (p : List Val × List Val) kv => putK kv.1 kv.2 p.1 p.2) p).2 = true := by
    intro l
    induction l with
    | nil => intro p _ a b; exact ⟨a, b⟩
    | cons q l ih =>
      intro p h a b
      have hq := h q List.mem_cons_self
      obtain ⟨c, d⟩ := putK_pure hq.1 hq.2 a b
      exact ih _ (fun q hq => h q (List.mem_cons_of_mem _ hq)) c d
  exact key _ _ (fun q hq => ⟨pureL_get h1 (List.of_mem_zip hq).1, pureL_get h2 (List.of_mem_zip hq).2⟩) rfl rfl
theorem mth_ok {m : M} {base a : Nat} {k : Mth} {v z u : Val} {vs : List Val} (hat : At m a v) (hv : pureL vs = true) (e : mthV k v vs = some (z, u)) : mthd base m k (.ref a) vs = .ok z (m.set a (cellOf u)) ∧ z.pure = true ∧ u.pure = true ∧ isCell u = true := by
  obtain ⟨hp, ⟨xs, rfl, hm⟩ | ⟨ks, ws, rfl, hm⟩⟩ := hat
  · have hp : pureL xs = true := hp
    unfold mthV at e
    split at e <;> first | (cases e; done) | skip
    · rename_i xs' v' hx
      cases hx
      split at e <;> cases e
      rename_i hl
      simp only [pureL, Bool.and_true] at hv
      refine ⟨?_, rfl, pureL_app hp (by simp [pureL, hv]), rfl⟩
      simp only [mthd, hm, storable, hv, hl, Bool.true_or, decide_true, Bool.and_self, if_true, cellOf]
    · rename_i xs' hx
      cases hx
      split at e <;> cases e
      rename_i y hy
      refine ⟨?_, pureL_get hp (List.mem_of_getElem? hy), pureL_sub hp fun x hx => List.dropLast_subset _ hx, rfl⟩
      simp only [mthd, hm, hy, cellOf]
    · rename_i xs' i hx
      cases hx
      split at e <;> first | (cases e; done) | skip
      rename_i k hk
      split at e <;> first | (cases e; done) | skip
      rename_i y hy
      split at e <;> cases e
      rename_i hs
      refine ⟨?_, pureL_get hp (List.mem_of_getElem? hy), pureL_sub hp fun x hx => List.mem_of_mem_eraseIdx hx, rfl⟩
      simp only [mthd, hm, hk, hy, hs, if_true, cellOf]
    · rename_i xs' i v' hx
      cases hx
      split at e <;> cases e
      rename_i hz
      simp only [Bool.and_eq_true, decide_eq_true_eq] at hz
      simp only [pureL, Bool.and_eq_true, Bool.and_true] at hv
      refine ⟨?_, rfl, ?_, rfl⟩
      · simp only [mthd, hm, storable, hv.2, hz.1.1, hz.1.2, hz.2, Bool.true_or, decide_true, Bool.and_self, if_true, cellOf]
      · refine pureL_of fun x hx => ?_
        rcases List.mem_append.mp hx with hx | hx
        · exact pureL_get hp (List.mem_of_mem_take hx)
        · rcases List.mem_cons.mp hx with rfl | hx
          · exact hv.2
          · exact pureL_get hp (List.mem_of_mem_drop hx)
    · rename_i xs' ys hx
      cases hx
      split at e <;> cases e
      rename_i hl
      simp only [pureL, Bool.and_true] at hv
      have hv : pureL ys = true := hv
      refine ⟨?_, rfl, pureL_app hp hv, rfl⟩
      simp only [mthd, hm, dr, hv, hl, Bool.true_or, decide_true, Bool.and_self, if_true, cellOf]
    · rename_i hx
      cases hx
  · simp only [Val.pure, Bool.and_eq_true] at hp
    unfold mthV at e
    split at e <;> first | (cases e; done) | skip
    all_goals (rename_i hx; first | (cases hx; done) | skip)
    cases hx
    simp only [pureL, Bool.and_eq_true, Bool.and_true] at hv
    split at e <;> first | (cases e; done) | skip
    rename_i hk
    split at e
    · rename_i y hy
      cases e
      refine ⟨?_, pureL_get hp.2 (valOf_mem hy), by simp [Val.pure, hp], rfl⟩
      simp only [mthd, hm, hk, storable, hv.2, hy, Bool.true_or, Bool.and_self, if_true, cellOf]
      rw [show m.set a (.dct ks ws) = m from by
        obtain ⟨hl, hh⟩ := List.getElem?_eq_some_iff.mp hm
        rw [← hh]
        exact List.set_getElem_self hl]
    · rename_i hy
      split at e <;> cases e
      rename_i hl
      refine ⟨?_, hv.2, ?_, rfl⟩
      · simp only [mthd, hm, hk, storable, hv.2, hy, hl, Bool.true_or, Bool.and_self, if_true, cellOf]
      · simp only [Val.pure, Bool.and_eq_true]
        exact ⟨pureL_app hp.1 (by simp [pureL, hv.1]), pureL_app hp.2 (by simp [pureL, hv.2])⟩
/-- arguments that are looked at alone -/
def PArg.plain : PArg → Bool
  | .val (.p _) => true
  | .val (.r _ _) => true
  | .view _ _ => true
  | _ => false
theorem pas_plain {C' : PCx} {f : Nat} : ∀ (es : Es) (j : Nat) (ρP : PEnv) (as : List PArg) (ρP' : PEnv), pas C' f false j es ρP = .ok as ρP' → ∀ a ∈ as, a.plain = true
  | .nil, j, ρP, as, ρP', h => by
    rw [pas] at h
    cases h
    simp
  | .cons e es, j, ρP, as, ρP', h => by
    rw [pas] at h
    have key : ∀ {o : PR PArg}, (∀ a ρ, o = .ok a ρ → a.plain = true) → (o.bind fun x ρ => (pas C' f false (j + 1) es ρ).bind fun xs ρ => .ok (x :: xs) ρ) = .ok as ρP' → ∀ a ∈ as, a.plain = true := by
      intro o ho h
      cases o with
      | stuck => cases h
      | exc _ _ _ => cases h
      | ok a ρ =>
        have h : (pas C' f false (j + 1) es ρ).bind (fun xs ρ => .ok (a :: xs) ρ) = .ok as ρP' := h
        cases e2 : pas C' f false (j + 1) es ρ with
        | stuck => rw [e2] at h; cases h
        | exc _ _ _ => rw [e2] at h; cases h
        | ok xs ρ2 =>
          rw [e2] at h
          cases h
          intro c hc
          rcases List.mem_cons.mp hc with rfl | hc
          · exact ho _ _ rfl
          · exact pas_plain es (j + 1) ρ xs _ e2 c hc
    refine key ?_ h
    intro a ρ he
    cases hv : isVar e with
    | none =>
      rw [hv] at he
      dsimp only at he
      cases e2 : pe C' e true ρP with
      | stuck => rw [e2] at he; cases he
      | exc _ _ _ => rw [e2] at he; cases he
      | ok s ρ2 =>
        rw [e2] at he
        cases s with
        | p v => cases he; rfl
        | r l v => cases he; rfl
        | o l v => cases he
    | some i =>
      rw [hv] at he
      simp only [Bool.false_and, argVar, Bool.false_eq_true, if_false] at he
      split at he <;> cases he <;> rfl
theorem ArgL.perm {b lo lo' : Nat} {m : M} {ρP : PEnv} {ρ : Env} {as bs : List PArg} {ws zs : List Val} (r : EnvR m b ρP ρ) (h : ArgL m ρP ρ lo as ws) (h' : ArgL m ρP ρ lo' bs zs) (p1 : ∀ a ∈ as, a.plain = true) (p2 : ∀ a ∈ bs, a.plain = true) :
    ∀ perm : List Nat, ArgL m ρP ρ m.length (perm.map fun i => (as ++ bs).getD i (.val (.p .non))) (perm.map fun i => (ws ++ zs).getD i .non)
  | [] => .nil
  | i :: perm => by
    have one : ∃ lo, ArgA lo m ρP ρ ((as ++ bs).getD i (.val (.p .non))) ((ws ++ zs).getD i .non) ∧ ((as ++ bs).getD i (.val (.p .non))).plain = true := by
      rw [List.getD_eq_getElem?_getD, List.getD_eq_getElem?_getD]
      have l1 := h.len
      have l2 := h'.len
      by_cases hi : i < as.length
      · rw [List.getElem?_append_left hi, List.getElem?_append_left (by omega), List.getElem?_eq_getElem hi, List.getElem?_eq_getElem (show i < ws.length by omega)]
        obtain ⟨lo', _, q⟩ := h.get (List.getElem?_eq_getElem hi) (List.getElem?_eq_getElem (show i < ws.length by omega))
        exact ⟨lo', q, p1 _ (List.getElem_mem hi)⟩
      · rw [List.getElem?_append_right (by omega), List.getElem?_append_right (by omega), l1]
        by_cases hi2 : i - ws.length < bs.length
        · rw [List.getElem?_eq_getElem hi2, List.getElem?_eq_getElem (show i - ws.length < zs.length by omega)]
          obtain ⟨lo', _, q⟩ := h'.get (List.getElem?_eq_getElem hi2) (List.getElem?_eq_getElem (show i - ws.length < zs.length by omega))
          exact ⟨lo', q, p2 _ (List.getElem_mem hi2)⟩
        · rw [List.getElem?_eq_none (by omega), List.getElem?_eq_none (by omega)]
          exact ⟨0, .p rfl, rfl⟩
    obtain ⟨lo, q, hp⟩ := one
    rw [List.map_cons, List.map_cons]
    refine .cons (mid := m.length) ?_ (fun n hn => ?_) (Nat.le_refl _) (ArgL.perm r h h' p1 p2 perm)
    · generalize (as ++ bs).getD i (.val (.p .non)) = a at q hp
      generalize (ws ++ zs).getD i .non = w at q
      cases q with
      | p q => exact .p q
      | r q1 q2 q3 => exact .r q1 q2 q3
      | o q1 q2 q3 => cases hp
      | view q => exact .view q
      | io q => cases hp
    · generalize (as ++ bs).getD i (.val (.p .non)) = a at q hp
      rw [hn] at q
      cases q with
      | p q => cases q
      | r q1 q2 q3 => exact q1.lt
      | o q1 q2 q3 => exact q1.lt
      | view q => exact r.lt n ⟨_, q⟩
      | io q => exact r.lt n ⟨_, q⟩
section
variable {C' : PCx} {C : Cx} (hC : CallsOk C' C) (hS : C'.sup = C.sup) {b : Nat}
include hC hS
mutual
theorem simE : ∀ (e : E), wfE e = true → ∀ (m : M) (ρP : PEnv) (ρ : Env), EnvR m b ρP ρ → SE b m ρP ρ (pe C' e true ρP) (ev C e ρ m)
  | .var i, _, m, ρP, ρ, r => by
    rw [pe, ev]
    unfold readP
    cases e1 : ρP[i]? with
    | none => trivial
    | some o =>
      cases o with
      | none => trivial
      | some s =>
        obtain ⟨w, e2, q⟩ := r.get i s e1
        dsimp only
        rw [e2]
        rw [if_pos rfl]
        cases s with
        | p v =>
          cases q with
          | p p1 => exact ⟨w, m, rfl, .refl r, .p p1⟩
        | r l v =>
          cases q with
          | @r n _ _ p1 p2 => exact ⟨_, m, rfl, .refl r, .r p1 p2 (fun ⟨j, l', v', h1, h2⟩ => by
              have := r.uniq j i n l' v' h1 h2 e2
              subst this
              rw [e1] at h1
              cases h1) ⟨i, e2⟩⟩
        | o l v =>
          cases q with
          | @o n _ _ p1 p2 p3 =>
            have own' : ∀ k, Own (ρP.set i (some (.r l v))) ρ k → Own ρP ρ k ∧ k ≠ n := by
              rintro k ⟨j, l', v', h1, h2⟩
              rcases get_set h1 with ⟨_, h⟩ | ⟨hn, h⟩
              · cases h
              · refine ⟨⟨j, l', v', h, h2⟩, ?_⟩
                rintro rfl
                exact hn (r.uniq j i k l' v' h h2 e2)
            refine ⟨_, m, rfl, ⟨⟨by simp [r.len], fun j s h => ?_, fun j k n' l' v' h1 h2 h3 => ?_, r.lt, r.ble⟩, by simp, Nat.le_refl _, fun _ _ _ => rfl, fun k _ h => (own' k h).1, fun j u h => ?_⟩, .r p1 p2 (fun h => (own' n h).2 rfl) ⟨i, e2⟩⟩
            · rcases get_set h with ⟨rfl, h5⟩ | ⟨_, h5⟩
              · cases h5
                exact ⟨_, e2, .r p1 p2⟩
              · exact r.get j s h5
            · rcases get_set h1 with ⟨_, h⟩ | ⟨_, h⟩
              · cases h
              · exact r.uniq j k n' l' v' h h2 h3
            · rcases get_set h with ⟨_, h⟩ | ⟨_, h⟩
              · cases h
              · exact ⟨u, h, rfl⟩
  | .con c, _, m, ρP, ρ, r => by
    rw [pe, ev]
    exact ⟨_, m, rfl, .refl r, .p (by cases c <;> rfl)⟩
  | .glob _, _, m, ρP, ρ, r => by rw [pe]; trivial
  | .bin op x y, h, m, ρP, ρ, r => by
    simp only [wfE, Bool.and_eq_true] at h
    rw [pe, ev]
    refine SimR.bind (simO r (simE x h.1 m ρP ρ r)) fun s w m1 ρ1 x1 o1 => SimR.from x1 ?_
    refine SimR.bind (simO x1.env (simE y h.2 m1 ρ1 ρ x1.env)) fun t u m2 ρ2 x2 o2 => SimR.from x2 ?_
    split
    · rename_i hc
      obtain ⟨d1, q1⟩ := o1.2 m2 ρ2 x2 hc
      obtain ⟨d2, q2⟩ := o2.now x2.env
      rw [d1, d2]
      exact simZ x2.env fun z e => bop_pure e q1 q2
    · trivial
  | .neg x, h, m, ρP, ρ, r => by
    simp only [wfE] at h
    rw [pe, ev]
    refine SimR.bind (simO r (simE x h m ρP ρ r)) fun s w m1 ρ1 x1 o1 => SimR.from x1 ?_
    obtain ⟨d1, q1⟩ := o1.now x1.env
    cases e : s.val <;> try trivial
    rename_i i
    rw [e] at d1
    have : w = .int i := by
      cases w <;> simp only [dr, reduceCtorEq] at d1
      · rw [d1]
      · split at d1 <;> cases d1
    subst this
    exact ⟨_, m1, rfl, .refl x1.env, .p rfl⟩
  | .nt x, h, m, ρP, ρ, r => by
    simp only [wfE] at h
    rw [pe, ev]
    refine SimR.bind (simO r (simE x h m ρP ρ r)) fun s w m1 ρ1 x1 o1 => SimR.from x1 ?_
    rw [(o1.now x1.env).1]
    cases e : tru s.val with
    | none => trivial
    | some k => exact ⟨_, m1, rfl, .refl x1.env, .p rfl⟩
  | .and x es, h, m, ρP, ρ, r => by
    simp only [wfE, Bool.and_eq_true] at h
    rw [pe, ev]
    exact SimR.bind (simE x h.1 m ρP ρ r) fun s w m1 ρ1 x1 o1 => SimR.from x1 (simAnd es h.2 m.length s w m1 ρ1 ρ x1.env o1 x1.le)
  | .or x es, h, m, ρP, ρ, r => by
    simp only [wfE, Bool.and_eq_true] at h
    rw [pe, ev]
    exact SimR.bind (simE x h.1 m ρP ρ r) fun s w m1 ρ1 x1 o1 => SimR.from x1 (simOr es h.2 m.length s w m1 ρ1 ρ x1.env o1 x1.le)
  | .ite c x y, h, m, ρP, ρ, r => by
    simp only [wfE, Bool.and_eq_true] at h
    rw [pe, ev]
    refine SimR.bind (simO r (simE c h.1.1 m ρP ρ r)) fun s w m1 ρ1 x1 o1 => SimR.from x1 ?_
    rw [(o1.now x1.env).1]
    cases e : tru s.val with
    | none => trivial
    | some k =>
      cases k with
      | true => exact (simE x h.1.2 m1 ρ1 ρ x1.env).weak x1.le
      | false => exact (simE y h.2 m1 ρ1 ρ x1.env).weak x1.le
  | .cmp x ops es, h, m, ρP, ρ, r => by
    simp only [wfE, Bool.and_eq_true] at h
    rw [pe, ev]
    exact SimR.bind (simO r (simE x h.1 m ρP ρ r)) fun s w m1 ρ1 x1 o1 => SimR.from x1 (simCmp es h.2 ops m.length x s w m1 ρ1 ρ x1.env o1)
  | .idx x i, h, m, ρP, ρ, r => by
    simp only [wfE, Bool.and_eq_true] at h
    rw [pe, ev]
    refine SimR.bind (simO r (simE x h.1 m ρP ρ r)) fun s w m1 ρ1 x1 o1 => SimR.from x1 ?_
    refine SimR.bind (simE i h.2 m1 ρ1 ρ x1.env) fun t u m2 ρ2 x2 o2 => SimR.from x2 ?_
    refine simV x2.env o2 fun v hv hp _ => ?_
    subst hv
    split
    · rename_i hc
      obtain ⟨d1, q1⟩ := o1.2 m2 ρ2 x2 hc
      rw [d1]
      exact simZ x2.env fun z e => idx_pure e q1
    · trivial
  | .slc x lo hi, h, m, ρP, ρ, r => by
    simp only [wfE, Bool.and_eq_true] at h
    rw [pe, ev]
    refine SimR.bind (simO r (simE x h.1.1 m ρP ρ r)) fun s w m1 ρ1 x1 o1 => SimR.from x1 ?_
    have part : ∀ (y : E), wfE y = true → (∀ (m : M) (ρP : PEnv) (ρ : Env), EnvR m b ρP ρ → SE b m ρP ρ (pe C' y true ρP) (ev C y ρ m)) → ∀ (m : M) (ρP : PEnv), EnvR m b ρP ρ →
        SimR b m ρP ρ (fun _ _ a x => a = x) (if isEmp y then .ok none ρP else (pe C' y true ρP).bind fun s ρ => (onlyP s ρ).bind fun y ρ => popt (partOf y) ρ) (if isEmp y then .ok none m else (ev C y ρ m).bind fun y m => opt (partOf y) m) := fun y hy ih m ρP r => by
      split
      · exact ⟨none, m, rfl, .refl r, rfl⟩
      · refine SimR.bind (ih m ρP ρ r) fun t u m2 ρ2 x2 o2 => SimR.from x2 ?_
        refine simV x2.env o2 fun v hv hp _ => ?_
        subst hv
        exact SimR.opt (.refl x2.env) fun a _ => rfl
    refine SimR.bind (part lo h.1.2 (simE lo h.1.2) m1 ρ1 x1.env) fun l l' m2 ρ2 x2 e2 => SimR.from x2 ?_
    subst e2
    refine SimR.bind (part hi h.2 (simE hi h.2) m2 ρ2 x2.env) fun l2 l2' m3 ρ3 x3 e3 => SimR.from x3 ?_
    subst e3
    split
    · rename_i hc
      obtain ⟨d1, q1⟩ := o1.2 m3 ρ3 (x2.trans x3) hc
      rw [d1]
      exact simZ x3.env fun z e => slc_pure e q1
    · trivial
  | .rev x, h, m, ρP, ρ, r => by
    simp only [wfE] at h
    rw [pe, ev]
    refine SimR.bind (simO r (simE x h m ρP ρ r)) fun s w m1 ρ1 x1 o1 => SimR.from x1 ?_
    obtain ⟨d1, q1⟩ := o1.now x1.env
    rw [d1]
    exact simZ x1.env fun z e => rev_pure e q1
  | .tup es, h, m, ρP, ρ, r => by
    simp only [wfE, Bool.and_eq_true] at h
    rw [pe, ev]
    refine SimR.bind (simEs es h.2 m ρP ρ r) fun ss ws m1 ρ1 x1 o1 => SimR.from x1 ?_
    refine simVs o1.1 fun vs hv hp => ?_
    subst hv
    have hl : ws.length ≤ LINE := by
      rw [o1.1.len, o1.2]
      have := Nat.le_of_ble_eq_true h.1
      unfold LINE
      omega
    rw [if_pos hl]
    exact ⟨_, m1, rfl, .refl x1.env, .p hp⟩
  | .lst es, h, m, ρP, ρ, r => by
    simp only [wfE, Bool.and_eq_true] at h
    rw [pe, ev]
    refine SimR.bind (simEs es h.2 m ρP ρ r) fun ss ws m1 ρ1 x1 o1 => SimR.from x1 ?_
    refine simVs o1.1 fun vs hv hp => ?_
    subst hv
    have hl : ws.length ≤ LINE := by
      rw [o1.1.len, o1.2]
      have := Nat.le_of_ble_eq_true h.1
      unfold LINE
      omega
    rw [if_pos hl]
    exact ⟨_, m1, rfl, .refl x1.env, .p hp⟩
  | .comp st elt own tg it cd, h, m, ρP, ρ, r => by
    simp only [wfE, Bool.and_eq_true, List.all_eq_true] at h
    obtain ⟨⟨⟨h1, h2⟩, h3⟩, h4⟩ := h
    rw [pe, ev]
    refine SimR.bind (simIt it h3 m ρP ρ r) fun q p m0 ρ0 x0 ⟨v1, v2, v3⟩ => SimR.from x0 ?_
    split
    · rename_i hl
      rw [← v1]
      refine SimR.bind (pcomp_sim (m0 := m0) (ρP0 := ρ0) (fun v m ρP hv r => ?_) v3 q.1 [] m0 ρ0 v2 (by simpa using hl) (.refl x0.env)) fun vs ws m1 ρ1 x1 ⟨e1, p1⟩ => SimR.from x1 ?_
      · obtain ⟨rw_, _⟩ := wipe_st (own := own) r
        have bb := bind_both tg v (wipeP ρP own) (wipeE ρ own) hv (.refl rw_)
        unfold BindBoth at bb
        cases eb : bindP tg v (wipeP ρP own) with
        | none => trivial
        | some ρP1 =>
          rw [eb] at bb
          obtain ⟨ρ1, e2, x1, k1⟩ := bb
          rw [e2]
          dsimp only
          have k2 : ∀ j, j ∉ own → ρP1[j]? = (wipeP ρP own)[j]? ∧ ρ1[j]? = (wipeE ρ own)[j]? := fun j hj => k1 j fun hn => hj (List.contains_iff_mem.mp (h1 j hn))
          have fin : ∀ {m2 : M} {ρP2 : PEnv}, St b m ρP1 ρ1 m2 ρP2 ρ1 → St b m ρP ρ m2 (restP ρP own ρP2) ρ := fun x => rest_st r x1 k2 x
          have z := (simCd cd h4 m ρP1 ρ1 x1.env).nox
          cases ec : (peCd C' cd ρP1).nox with
          | stuck => trivial
          | exc c fs _ =>
            exfalso
            revert ec
            cases peCd C' cd ρP1 <;> (intro h; cases h)
          | ok k ρP2 =>
            rw [ec] at z
            obtain ⟨k', m2, e3, x2, ek⟩ := z
            subst ek
            rw [e3]
            dsimp only [R.bind, PR.bind]
            cases k with
            | false => exact ⟨none, m2, rfl, fin x2, rfl, fun y h => by cases h⟩
            | true =>
              rw [if_pos rfl, if_pos rfl]
              have z := (simE elt h2 m2 ρP2 ρ1 x2.env).nox
              cases ee : (pe C' elt true ρP2).nox with
              | stuck => trivial
              | exc c fs _ =>
                exfalso
                revert ee
                cases pe C' elt true ρP2 <;> (intro h; cases h)
              | ok s ρP3 =>
                rw [ee] at z
                obtain ⟨w, m3, e4, x3, o3⟩ := z
                rw [e4]
                dsimp only [R.bind, PR.bind]
                unfold onlyP
                cases ep : pv_ s with
                | none => trivial
                | some y =>
                  obtain ⟨rfl, py, _⟩ := pv_res o3 ep
                  exact ⟨some w, m3, rfl, fin (x2.trans x3), rfl, fun y h => by cases h; exact py⟩
      · rw [List.nil_append] at e1
        subst e1
        cases st with
        | true => exact ⟨_, m1, rfl, .refl x1.env, .p (dedup_pure p1)⟩
        | false => exact ⟨_, m1, rfl, .refl x1.env, .p p1⟩
    · trivial
  | .call f es al, h, m, ρP, ρ, r => by
    simp only [wfE] at h
    rw [pe, ev]
    exact SimR.bind (simAs es h f true 0 m ρP ρ r) fun as ws m1 ρ1 x1 o1 => by
      have := pcall_sim hC (b := b) (lo := m.length) (f := f) (al := al) x1 o1 (Nat.le_refl _)
      exact this
  | .callk f es kes perm al, h, m, ρP, ρ, r => by
    simp only [wfE, Bool.and_eq_true] at h
    rw [pe, ev]
    have z1 := simAs es h.1 f false 0 m ρP ρ r
    cases e1 : pas C' f false 0 es ρP with
    | stuck => trivial
    | exc c fs ρ' =>
      rw [e1] at z1
      obtain ⟨m', q1, q2, q3⟩ := z1
      rw [q1]
      exact ⟨m', rfl, q2, q3⟩
    | ok as ρ1 =>
      rw [e1] at z1
      obtain ⟨ws, m1, q1, x1, o1⟩ := z1
      rw [q1]
      dsimp only [PR.bind, R.bind]
      have z2 := simAs kes h.2 f false 0 m1 ρ1 ρ x1.env
      cases e2 : pas C' f false 0 kes ρ1 with
      | stuck => trivial
      | exc c fs ρ' =>
        rw [e2] at z2
        obtain ⟨m', q1, q2, q3⟩ := z2
        rw [q1]
        exact ⟨m', rfl, x1.trans q2, q3⟩
      | ok bs ρ2 =>
        rw [e2] at z2
        obtain ⟨zs, m2, q2, x2, o2⟩ := z2
        rw [q2]
        dsimp only [PR.bind, R.bind]
        have x := x1.trans x2
        exact pcall_sim hC (b := b) (lo := m2.length) (f := f) (al := al) x (ArgL.perm x.env (o1.later x2) o2 (pas_plain es 0 ρP as ρ1 e1) (pas_plain kes 0 ρ1 bs ρ2 e2) perm) x.le
  | .blt k es, h, m, ρP, ρ, r => by
    simp only [wfE] at h
    rw [pe, ev]
    refine SimR.bind (simOs es h m ρP ρ r) fun vs ws m1 ρ1 x1 o1 => SimR.from x1 ?_
    split
    · rename_i hc
      obtain ⟨d1, q1⟩ := o1 m1 ρ1 (.refl x1.env) hc
      rw [d1]
      exact simZ x1.env fun z e => blt_pure e q1
    · trivial
  | .isi x tys, h, m, ρP, ρ, r => by
    simp only [wfE] at h
    rw [pe, ev]
    refine SimR.bind (simO r (simE x h m ρP ρ r)) fun s w m1 ρ1 x1 o1 => SimR.from x1 ?_
    rw [(o1.now x1.env).1, hS]
    cases e : tys.mapM fun t => isTy C.sup s.val t with
    | none => trivial
    | some k => exact ⟨_, m1, rfl, .refl x1.env, .p rfl⟩
  | .mth k o es, h, m, ρP, ρ, r => by
    simp only [wfE, Bool.and_eq_true] at h
    cases o <;> first | (simp only [pe, SE, SimR]; done) | skip
    rename_i n
    rw [pe, ev]
    split
    · rename_i hi
      unfold ownIs at hi
      cases e1 : ρP[n]? with
      | none => rw [e1] at hi; cases hi
      | some o =>
        cases o with
        | none => rw [e1] at hi; cases hi
        | some s =>
          cases s with
          | p _ => rw [e1] at hi; cases hi
          | r _ _ => rw [e1] at hi; cases hi
          | o l v =>
            rw [e1] at hi
            have hi : mutV k v = true := hi
            obtain ⟨w, e2, q⟩ := r.get n _ e1
            cases q with
            | @o a _ _ p1 p2 p3 =>
              rw [ev, e2]
              dsimp only [R.bind]
              have hm : mutOk k m (.ref a) = true := by
                obtain ⟨_, ⟨xs, rfl, e⟩ | ⟨ks, vs, rfl, e⟩⟩ := p1 <;> simp only [mutOk, e] <;> exact hi
              rw [if_pos hm]
              refine SimR.bind (simEs es h.2 m ρP ρ r) fun ss ws m1 ρ1 x1 o1 => SimR.from x1 ?_
              refine simVs o1.1 fun vs hv hp => ?_
              subst hv
              unfold ownMth
              cases e3 : ρ1[n]? with
              | none => trivial
              | some o =>
                cases o with
                | none => trivial
                | some s =>
                  cases s with
                  | p _ => trivial
                  | r _ _ => trivial
                  | o l2 v2 =>
                    dsimp only
                    cases e4 : mthV k v2 ws with
                    | none => trivial
                    | some q =>
                      obtain ⟨z, u⟩ := q
                      obtain ⟨w', e5, q'⟩ := x1.env.get n _ e3
                      rw [e2] at e5
                      cases e5
                      cases q' with
                      | o p4 p5 p6 =>
                        obtain ⟨f1, f2, f3, f4⟩ := mth_ok (base := C.base) p4 hp e4
                        exact ⟨z, _, f1, own_set_st x1.env e3 e2 f3 f4, .p f2⟩
    · trivial
  | .new x, h, m, ρP, ρ, r => by
    simp only [wfE] at h
    rw [pe, ev]
    refine SimR.bind (simE x h m ρP ρ r) fun s w m1 ρ1 x1 o1 => SimR.from x1 ?_
    refine simV x1.env o1 fun v hv hp _ => ?_
    subst hv
    cases w <;> try trivial
    rename_i xs _
    obtain ⟨y1, y2⟩ := new_res (u := .lst xs) x1.env hp rfl x1.le
    exact ⟨_, _, rfl, y1, y2⟩
  | .dict ks vs, h, m, ρP, ρ, r => by
    simp only [wfE, Bool.and_eq_true] at h
    rw [pe, ev]
    refine SimR.bind (simEs ks h.1 m ρP ρ r) fun ss us m1 ρ1 x1 o1 => SimR.from x1 ?_
    refine simVs o1.1 fun us' hv hp => ?_
    subst hv
    refine SimR.bind (simEs vs h.2 m1 ρ1 ρ x1.env) fun ss ws m2 ρ2 x2 o2 => SimR.from x2 ?_
    refine simVs o2.1 fun ws' hv2 hp2 => ?_
    subst hv2
    split
    · rename_i hc
      obtain ⟨d1, d2⟩ := dictOf_pure hp hp2
      obtain ⟨y1, y2⟩ := new_res (u := .dct (dictOf us ws).1 (dictOf us ws).2) x2.env (by simp [Val.pure, d1, d2]) rfl (Nat.le_trans x1.le x2.le)
      exact ⟨_, _, rfl, y1, y2⟩
    · trivial
  | .fld x j, h, m, ρP, ρ, r => by
    simp only [wfE] at h
    rw [pe, ev]
    refine SimR.bind (simO r (simE x h m ρP ρ r)) fun s w m1 ρ1 x1 o1 => SimR.from x1 ?_
    obtain ⟨d1, q1⟩ := o1.now x1.env
    cases e : s.val <;> try trivial
    rename_i c fs
    rw [e] at d1 q1
    have : w = .exc c fs := by
      cases w <;> simp only [dr, reduceCtorEq] at d1
      · split at d1 <;> cases d1
      · rw [d1]
    subst this
    dsimp only
    by_cases hj : fldNo c = j
    · rw [if_pos hj, if_pos hj]
      exact simZ x1.env fun z e => pureL_get q1 (List.mem_of_getElem? e)
    · rw [if_neg hj]
      trivial
  | .emp, _, m, ρP, ρ, r => by rw [pe]; trivial
theorem simEs : ∀ (es : Es), wfEs es = true → ∀ (m : M) (ρP : PEnv) (ρ : Env), EnvR m b ρP ρ → SimR b m ρP ρ (fun m' ρP' ss ws => ResL m' b ρP' ρ m.length ws ss ∧ ss.length = es.size) (pes C' es ρP) (evs C es ρ m)
  | .nil, _, m, ρP, ρ, r => by
    rw [pes, evs]
    exact ⟨[], m, rfl, .refl r, .nil, rfl⟩
  | .cons e es, h, m, ρP, ρ, r => by
    simp only [wfEs, Bool.and_eq_true] at h
    rw [pes, evs]
    refine SimR.bind (simE e h.1 m ρP ρ r) fun s w m1 ρ1 x1 o1 => SimR.from x1 ?_
    refine SimR.bind (simEs es h.2 m1 ρ1 ρ x1.env) fun ss ws m2 ρ2 x2 o2 => SimR.from x2 ?_
    refine ⟨_, m2, rfl, .refl x2.env, .cons (o1.later x2) (fun n hn => ?_) x1.le o2.1, by simp [o2.2, Es.size]⟩
    subst hn
    exact o1.lt
theorem simOs : ∀ (es : Es), wfEs es = true → ∀ (m : M) (ρP : PEnv) (ρ : Env), EnvR m b ρP ρ → SimR b m ρP ρ (fun m' ρP' vs ws => ∀ m2 ρP2, St b m' ρP' ρ m2 ρP2 ρ → chks es vs ρP2 = true → ws.map (dr m2) = vs ∧ pureL vs = true) (pos C' es ρP) (evs C es ρ m)
  | .nil, _, m, ρP, ρ, r => by
    rw [pos, evs]
    exact ⟨[], m, rfl, .refl r, fun _ _ _ _ => ⟨rfl, rfl⟩⟩
  | .cons e es, h, m, ρP, ρ, r => by
    simp only [wfEs, Bool.and_eq_true] at h
    rw [pos, evs]
    refine SimR.bind (simO r (simE e h.1 m ρP ρ r)) fun s w m1 ρ1 x1 o1 => SimR.from x1 ?_
    refine SimR.bind (simOs es h.2 m1 ρ1 ρ x1.env) fun ss ws m2 ρ2 x2 o2 => SimR.from x2 ?_
    refine ⟨_, m2, rfl, .refl x2.env, fun m3 ρ3 x3 hc => ?_⟩
    simp only [chks, Bool.and_eq_true] at hc
    obtain ⟨d1, q1⟩ := o1.2 m3 ρ3 (x2.trans x3) hc.1
    obtain ⟨d2, q2⟩ := o2 m3 ρ3 x3 hc.2
    exact ⟨by rw [List.map_cons, d1, d2], by simp only [pureL, q1, q2, Bool.and_self]⟩
theorem simAs : ∀ (es : Es), wfEs es = true → ∀ (f : Nat) (io : Bool) (j : Nat) (m : M) (ρP : PEnv) (ρ : Env), EnvR m b ρP ρ → SimR b m ρP ρ (fun m' ρP' as ws => ArgL m' ρP' ρ m.length as ws) (pas C' f io j es ρP) (evs C es ρ m)
  | .nil, _, f, io, j, m, ρP, ρ, r => by
    rw [pas, evs]
    exact ⟨[], m, rfl, .refl r, .nil⟩
  | .cons e es, h, f, io, j, m, ρP, ρ, r => by
    simp only [wfEs, Bool.and_eq_true] at h
    rw [pas, evs]
    have one : SimR b m ρP ρ (fun m' ρP' a w => ArgA m.length m' ρP' ρ a w ∧ ∀ n, w = .ref n → n < m'.length) (match isVar e with
        | some i => argVar (io && C'.io f j) i ρP
        | none => (pe C' e true ρP).bind (argOf (io && C'.io f j))) (ev C e ρ m) := by
      cases hv : isVar e with
      | none =>
        dsimp only
        have z := simE e h.1 m ρP ρ r
        cases ee : pe C' e true ρP with
        | stuck => trivial
        | exc c fs ρ' => rw [ee] at z; exact z
        | ok s ρ' =>
          rw [ee] at z
          obtain ⟨w, m1, e1, x1, o1⟩ := z
          show SimR b m ρP ρ _ (argOf (io && C'.io f j) s ρ') _
          have hlt : ∀ n, w = .ref n → n < m1.length := fun n hn => by subst hn; exact o1.lt
          cases o1 with
          | p q => exact ⟨w, m1, e1, x1, .p q, hlt⟩
          | r q1 q2 q3 q4 => exact ⟨_, m1, e1, x1, .r q1 q3 q4, hlt⟩
          | o q1 q2 q3 =>
            unfold argOf
            dsimp only
            split
            · exact ⟨_, m1, e1, x1, .o q1 q2 q3, hlt⟩
            · trivial
      | some i =>
        cases e <;> first | (cases hv; done) | skip
        rename_i k
        cases hv
        dsimp only
        rw [ev]
        unfold argVar
        cases e1 : ρP[i]? with
        | none => split <;> trivial
        | some o =>
          cases o with
          | none => split <;> trivial
          | some s =>
            obtain ⟨w, e2, q⟩ := r.get i s e1
            rw [e2]
            have hlt : ∀ n, w = .ref n → n < m.length := fun n hn => r.lt n ⟨i, hn ▸ e2⟩
            split
            · cases s <;> try trivial
              exact ⟨w, m, rfl, .refl r, .io e2, hlt⟩
            · cases s with
              | p v =>
                cases q with
                | p p1 => exact ⟨w, m, rfl, .refl r, .p p1, hlt⟩
              | r l v =>
                cases q with
                | @r n _ _ p1 p2 => exact ⟨_, m, rfl, .refl r, .r p1 (fun ⟨j, l', v', h1, h2⟩ => by
                    have := r.uniq j i n l' v' h1 h2 e2
                    subst this
                    rw [e1] at h1
                    cases h1) ⟨i, e2⟩, hlt⟩
              | o l v => exact ⟨w, m, rfl, .refl r, .view e2, hlt⟩
    refine SimR.bind one fun a w m1 ρ1 x1 o1 => SimR.from x1 ?_
    refine SimR.bind (simAs es h.2 f io (j + 1) m1 ρ1 ρ x1.env) fun as ws m2 ρ2 x2 o2 => SimR.from x2 ?_
    exact ⟨_, m2, rfl, .refl x2.env, .cons (o1.1.later x2) o1.2 x1.le o2⟩
theorem simAnd : ∀ (es : Es), wfEs es = true → ∀ (lo : Nat) (s : Sl) (w : Val) (m : M) (ρP : PEnv) (ρ : Env), EnvR m b ρP ρ → Res lo m b ρP ρ w s → lo ≤ m.length → SimR b m ρP ρ (fun m' ρP' s w => Res lo m' b ρP' ρ w s) (peAnd C' es s ρP) (evAnd C es w ρ m)
  | .nil, _, lo, s, w, m, ρP, ρ, r, o, l => by
    rw [peAnd, evAnd]
    exact ⟨w, m, rfl, .refl r, o⟩
  | .cons e es, h, lo, s, w, m, ρP, ρ, r, o, l => by
    simp only [wfEs, Bool.and_eq_true] at h
    rw [peAnd, evAnd, o.val_pure.2]
    cases e1 : tru s.val with
    | none => trivial
    | some k =>
      cases k with
      | false => exact ⟨w, m, rfl, .refl r, o⟩
      | true => exact SimR.bind (p := pe C' e true ρP) (r := ev C e ρ m) ((simE e h.1 m ρP ρ r).weak l) fun t u m1 ρ1 x1 o1 => SimR.from x1 (simAnd es h.2 lo t u m1 ρ1 ρ x1.env o1 (Nat.le_trans l x1.le))
theorem simOr : ∀ (es : Es), wfEs es = true → ∀ (lo : Nat) (s : Sl) (w : Val) (m : M) (ρP : PEnv) (ρ : Env), EnvR m b ρP ρ → Res lo m b ρP ρ w s → lo ≤ m.length → SimR b m ρP ρ (fun m' ρP' s w => Res lo m' b ρP' ρ w s) (peOr C' es s ρP) (evOr C es w ρ m)
  | .nil, _, lo, s, w, m, ρP, ρ, r, o, l => by
    rw [peOr, evOr]
    exact ⟨w, m, rfl, .refl r, o⟩
  | .cons e es, h, lo, s, w, m, ρP, ρ, r, o, l => by
    simp only [wfEs, Bool.and_eq_true] at h
    rw [peOr, evOr, o.val_pure.2]
    cases e1 : tru s.val with
    | none => trivial
    | some k =>
      cases k with
      | true => exact ⟨w, m, rfl, .refl r, o⟩
      | false => exact SimR.bind (p := pe C' e true ρP) (r := ev C e ρ m) ((simE e h.1 m ρP ρ r).weak l) fun t u m1 ρ1 x1 o1 => SimR.from x1 (simOr es h.2 lo t u m1 ρ1 ρ x1.env o1 (Nat.le_trans l x1.le))
theorem simCmp : ∀ (es : Es), wfEs es = true → ∀ (ops : List CmpOp) (lo : Nat) (a : E) (s : Sl) (w : Val) (m : M) (ρP : PEnv) (ρ : Env), EnvR m b ρP ρ → Opd b ρ a m ρP s w → SimR b m ρP ρ (fun m' ρP' s w => Res lo m' b ρP' ρ w s) (peCmp C' es ops a s.val ρP) (evCmp C es ops w ρ m)
  | .nil, _, ops, lo, a, s, w, m, ρP, ρ, r, o => by simp only [peCmp, SimR]
  | .cons e .nil, h, [op], lo, a, s, w, m, ρP, ρ, r, o => by
    simp only [wfEs, Bool.and_eq_true] at h
    rw [peCmp, evCmp]
    refine SimR.bind (simO r (simE e h.1 m ρP ρ r)) fun t u m1 ρ1 x1 o1 => SimR.from x1 ?_
    split
    · rename_i hc
      rw [(o.2 m1 ρ1 x1 hc).1, (o1.now x1.env).1]
      cases e1 : cop op s.val t.val with
      | none => trivial
      | some k => exact ⟨_, m1, rfl, .refl x1.env, .p rfl⟩
    · trivial
  | .cons e .nil, h, [], lo, a, s, w, m, ρP, ρ, r, o => by simp only [peCmp, SimR]
  | .cons e .nil, h, op :: op2 :: ops, lo, a, s, w, m, ρP, ρ, r, o => by
    simp only [wfEs, Bool.and_eq_true] at h
    rw [peCmp, evCmp]
    · refine SimR.bind (simO r (simE e h.1 m ρP ρ r)) fun t u m1 ρ1 x1 o1 => SimR.from x1 ?_
      split
      · rename_i hc
        rw [(o.2 m1 ρ1 x1 hc).1, (o1.now x1.env).1]
        cases e1 : cop op s.val t.val with
        | none => trivial
        | some k =>
          cases k with
          | false => exact ⟨_, m1, rfl, .refl x1.env, .p rfl⟩
          | true => simp only [opt, popt, R.bind, PR.bind, if_true]; rw [peCmp]; trivial; all_goals (intros; simp_all)
      · trivial
    all_goals (intros; simp_all)
  | .cons e (.cons e2 es), h, [], lo, a, s, w, m, ρP, ρ, r, o => by simp only [peCmp, SimR]
  | .cons e (.cons e2 es), h, op :: ops, lo, a, s, w, m, ρP, ρ, r, o => by
    have h' := h
    simp only [wfEs, Bool.and_eq_true] at h
    have h2 : wfEs (.cons e2 es) = true := by
      simp only [wfEs, Bool.and_eq_true]
      exact h.2
    rw [peCmp, evCmp]
    · refine SimR.bind (simO r (simE e h.1 m ρP ρ r)) fun t u m1 ρ1 x1 o1 => SimR.from x1 ?_
      split
      · rename_i hc
        rw [(o.2 m1 ρ1 x1 hc).1, (o1.now x1.env).1]
        cases e1 : cop op s.val t.val with
        | none => trivial
        | some k =>
          cases k with
          | false => exact ⟨_, m1, rfl, .refl x1.env, .p rfl⟩
          | true => exact simCmp (.cons e2 es) h2 ops lo e t u m1 ρ1 ρ x1.env o1
      · trivial
    all_goals (intros; simp_all)
theorem simCd : ∀ (es : Es), wfEs es = true → ∀ (m : M) (ρP : PEnv) (ρ : Env), EnvR m b ρP ρ → SimR b m ρP ρ (fun _ _ k k' => k = k') (peCd C' es ρP) (evCd C es ρ m)
  | .nil, _, m, ρP, ρ, r => by
    rw [peCd, evCd]
    exact ⟨true, m, rfl, .refl r, rfl⟩
  | .cons e .nil, h, m, ρP, ρ, r => by
    simp only [wfEs, Bool.and_eq_true] at h
    rw [peCd, evCd]
    refine SimR.bind (simO r (simE e h.1 m ρP ρ r)) fun t u m1 ρ1 x1 o1 => SimR.from x1 ?_
    rw [(o1.now x1.env).1]
    exact SimR.opt (.refl x1.env) fun a _ => rfl
  | .cons e (.cons e2 es), h, m, ρP, ρ, r => by simp only [peCd, SimR]
theorem simIt : ∀ (it : It), wfIt it = true → ∀ (m : M) (ρP : PEnv) (ρ : Env), EnvR m b ρP ρ → SimR b m ρP ρ (fun m' ρP' q p => ItV b ρ m' ρP' q p) (pit C' it false ρP) (evIt C it ρ m)
  | .val e, h, m, ρP, ρ, r => by
    simp only [wfIt] at h
    rw [pit, evIt]
    refine SimR.bind (simO r (simE e h m ρP ρ r)) fun s w m1 ρ1 x1 o1 => SimR.from x1 ?_
    obtain ⟨d1, q1⟩ := o1.now x1.env
    rw [d1]
    cases e1 : iterOf s.val with
    | none => trivial
    | some xs =>
      refine ⟨_, m1, rfl, .refl x1.env, rfl, iterOf_pure q1 e1, fun m2 ρ2 x2 hv => ?_⟩
      simp only [views, Bool.and_true, Bool.false_eq_true, if_false] at hv
      exact o1.stand (m := m) x1.env x2 hv (o1.lt x1.env)
  | .rng es, h, m, ρP, ρ, r => by
    simp only [wfIt] at h
    rw [pit, evIt]
    refine SimR.bind (simEs es h m ρP ρ r) fun ss ws m1 ρ1 x1 o1 => SimR.from x1 ?_
    refine simVs o1.1 fun vs hv hp => ?_
    subst hv
    cases e1 : rng ws with
    | none => trivial
    | some xs => exact ⟨_, m1, rfl, .refl x1.env, rfl, rng_pure e1, fun _ _ _ _ => rfl⟩
  | .enu e, h, m, ρP, ρ, r => by
    simp only [wfIt] at h
    rw [pit, evIt]
    refine SimR.bind (simO r (simE e h m ρP ρ r)) fun s w m1 ρ1 x1 o1 => SimR.from x1 ?_
    obtain ⟨d1, q1⟩ := o1.now x1.env
    rw [d1]
    cases e1 : seqOf s.val with
    | none => trivial
    | some xs =>
      refine ⟨_, m1, rfl, .refl x1.env, rfl, enuL_pure 0 (seqOf_pure q1 e1), fun m2 ρ2 x2 hv => ?_⟩
      simp only [views, Bool.and_true, Bool.false_eq_true, if_false] at hv
      exact o1.stand (m := m) x1.env x2 hv (o1.lt x1.env)
  | .zip e e2 st, h, m, ρP, ρ, r => by
    simp only [wfIt, Bool.and_eq_true] at h
    rw [pit, evIt]
    refine SimR.bind (simO r (simE e h.1 m ρP ρ r)) fun s w m1 ρ1 x1 o1 => SimR.from x1 ?_
    refine SimR.bind (simO x1.env (simE e2 h.2 m1 ρ1 ρ x1.env)) fun t u m2 ρ2 x2 o2 => SimR.from x2 ?_
    split
    · rename_i hc
      simp only [Bool.false_or] at hc
      obtain ⟨d1, q1⟩ := o1.2 m2 ρ2 x2 hc
      obtain ⟨d2, q2⟩ := o2.now x2.env
      rw [d1, d2]
      cases e1 : zipOf st s.val t.val with
      | none => trivial
      | some xs =>
        refine ⟨_, m2, rfl, .refl x2.env, rfl, zipOf_pure e1 q1 q2, fun m3 ρ3 x3 hv => ?_⟩
        simp only [views, Bool.and_true, Bool.false_eq_true, if_false, Bool.and_eq_true] at hv
        have o1' : Opd b ρ e m2 ρ2 s w := ⟨hc, fun m4 ρ4 x4 hc4 => o1.2 m4 ρ4 (x2.trans x4) hc4⟩
        have y1 := o1'.stand (m := m) x2.env x3 hv.1 (o1'.lt x2.env)
        have y2 := o2.stand (m := m) x2.env x3 hv.2 (o2.lt x2.env)
        show stands m2 m3 (watch w ++ watch u) = true
        cases w <;> cases u <;> simp only [watch, stands, List.append_nil, List.nil_append, List.cons_append, Bool.and_true, Bool.and_eq_true] at y1 y2 ⊢ <;> first | exact y1 | exact y2 | exact ⟨y1, y2⟩ | trivial
    · trivial
  | .items e, h, m, ρP, ρ, r => by
    simp only [wfIt] at h
    rw [pit, evIt]
    refine SimR.bind (simO r (simE e h m ρP ρ r)) fun s w m1 ρ1 x1 o1 => SimR.from x1 ?_
    obtain ⟨d1, q1⟩ := o1.now x1.env
    rw [d1]
    cases e1 : s.val <;> try trivial
    rename_i ks vs
    rw [e1] at q1
    simp only [Val.pure, Bool.and_eq_true] at q1
    refine ⟨_, m1, rfl, .refl x1.env, rfl, zipL_pure q1.1 q1.2, fun m2 ρ2 x2 hv => ?_⟩
    simp only [views, Bool.and_true, Bool.false_eq_true, if_false] at hv
    rw [← e1] at hv
    exact o1.stand (m := m) x1.env x2 hv (o1.lt x1.env)
end
end
end MP
set_option Elab.async false
set_option linter.all false
set_option maxRecDepth 100000
set_option maxHeartbeats 4000000
/-! MPPG: statements and calls, side by side. -/
namespace MP
open PySem (Str Operator CmpOp PyData)
mutual
def wfS : S → Bool
  | .asg _ e => wfE e
  | .set o i e => wfE o && wfE i && wfE e
  | .sets o lo hi e => wfE o && wfE lo && wfE hi && wfE e
  | .aug _ _ e => wfE e
  | .exp e => wfE e
  | .ret e => wfE e
  | .retn => true
  | .iff c a b => wfE c && wfSs a && wfSs b
  | .for _ it body => wfIt it && wfSs body
  | .whl c body => wfE c && wfSs body
  | .raise _ es => wfEs es
  | .try body hs => wfSs body && wfHs hs
  | .pass => true
  | .stop => true
def wfSs : Ss → Bool
  | .nil => true
  | .cons s r => wfS s && wfSs r
def wfHs : Hs → Bool
  | .nil => true
  | .cons _ _ body r => wfSs body && wfHs r
end
def SimS (b : Nat) (m : M) (ρP : PEnv) (ρ : Env) (p : PRs) (r : Rs) : Prop := match p with
  | .nxt ρP' => ∃ ρ' m', r = .nxt ρ' m' ∧ St b m ρP ρ m' ρP' ρ'
  | .ret s ρP' => ∃ w ρ' m', r = .ret w m' ∧ St b m ρP ρ m' ρP' ρ' ∧ Res b m' b ρP' ρ' w s
  | .exc c fs ρP' => ∃ ρ' m', r = .exc c fs ρ' m' ∧ St b m ρP ρ m' ρP' ρ' ∧ pureL fs = true
  | .stuck => True
section
variable {b : Nat} {α β : Type} {m m1 : M} {ρP ρP1 : PEnv} {ρ ρ1 : Env} {V : M → PEnv → α → β → Prop}
theorem SimS.from {p : PRs} {r : Rs} (x : St b m ρP ρ m1 ρP1 ρ1) (h : SimS b m1 ρP1 ρ1 p r) : SimS b m ρP ρ p r := by
  cases p with
  | nxt ρP' =>
    obtain ⟨ρ', m', e, s⟩ := h
    exact ⟨ρ', m', e, x.trans s⟩
  | ret s ρP' =>
    obtain ⟨w, ρ', m', e, s, v⟩ := h
    exact ⟨w, ρ', m', e, x.trans s, v⟩
  | exc c fs ρP' =>
    obtain ⟨ρ', m', e, s, v⟩ := h
    exact ⟨ρ', m', e, x.trans s, v⟩
  | stuck => trivial
theorem SimS.thn {p : PR α} {r : R β} {f : α → PEnv → PRs} {g : β → M → Rs} (h : SimR b m ρP ρ V p r) (k : ∀ a x m' ρP', St b m ρP ρ m' ρP' ρ → V m' ρP' a x → SimS b m ρP ρ (f a ρP') (g x m')) : SimS b m ρP ρ (p.thn f) (r.thn ρ g) := by
  cases p with
  | ok a ρP' =>
    obtain ⟨y, m', rfl, s, v⟩ := h
    exact k a y m' ρP' s v
  | exc c fs ρP' =>
    obtain ⟨m', rfl, s, v⟩ := h
    exact ⟨ρ, m', rfl, s, v⟩
  | stuck => trivial
theorem SimS.bind {p : PRs} {r : Rs} {f : PEnv → PRs} {g : Env → M → Rs} (h : SimS b m ρP ρ p r) (k : ∀ m' ρP' ρ', St b m ρP ρ m' ρP' ρ' → SimS b m ρP ρ (f ρP') (g ρ' m')) : SimS b m ρP ρ (p.bind f) (r.bind g) := by
  cases p with
  | nxt ρP' =>
    obtain ⟨ρ', m', rfl, s⟩ := h
    exact k m' ρP' ρ' s
  | ret s ρP' =>
    obtain ⟨w, ρ', m', rfl, s, v⟩ := h
    exact ⟨w, ρ', m', rfl, s, v⟩
  | exc c fs ρP' =>
    obtain ⟨ρ', m', rfl, s, v⟩ := h
    exact ⟨ρ', m', rfl, s, v⟩
  | stuck => trivial
theorem simVS {lo : Nat} {s : Sl} {w : Val} (h : Res lo m b ρP ρ w s) {f : Val → PEnv → PRs} {r : Rs} (k : ∀ v, w = v → v.pure = true → s = .p v → SimS b m ρP ρ (f v ρP) r) : SimS b m ρP ρ ((onlyP s ρP).thn f) r := by
  unfold onlyP
  cases e : pv_ s with
  | none => trivial
  | some v =>
    obtain ⟨h1, h2, h3⟩ := pv_res h e
    exact k v h1 h2 h3
theorem simVsS {lo : Nat} {ss : List Sl} {ws : List Val} (h : ResL m b ρP ρ lo ws ss) {f : List Val → PEnv → PRs} {r : Rs} (k : ∀ vs, ws = vs → pureL vs = true → SimS b m ρP ρ (f vs ρP) r) : SimS b m ρP ρ ((onlyPs ss ρP).thn f) r := by
  unfold onlyPs
  cases e : pvs_ ss with
  | none => trivial
  | some vs =>
    obtain ⟨h1, h2⟩ := h.pvs e
    exact k vs h1 h2
end
/-! ### a name gets a value that stays -/
inductive Sets (lo : Nat) (m : M) (b : Nat) (ρP : PEnv) (ρ : Env) : Val → Sl → Prop
  | p {v : Val} : v.pure = true → Sets lo m b ρP ρ v (.p v)
  | r {n : Nat} {l : Bool} {v : Val} : At m n v → (l = true → b ≤ n) → ¬ Own ρP ρ n → Sets lo m b ρP ρ (.ref n) (.r l v)
  | o {n : Nat} {v : Val} : At m n v → lo ≤ n → b ≤ n → ¬ Has ρ n → Sets lo m b ρP ρ (.ref n) (.o true v)
theorem Sets.lt {lo b : Nat} {m : M} {ρP : PEnv} {ρ : Env} {n : Nat} {s : Sl} (h : Sets lo m b ρP ρ (.ref n) s) : n < m.length := by
  cases h with
  | p h => cases h
  | r h _ _ => exact h.lt
  | o h _ _ _ => exact h.lt
theorem set_st {b i : Nat} {m0 m : M} {ρP0 ρP : PEnv} {ρ0 ρ : Env} {w : Val} {s : Sl} (x : St b m0 ρP0 ρ0 m ρP ρ) (h : Sets m0.length m b ρP ρ w s) :
    St b m0 ρP0 ρ0 m (ρP.set i (some s)) (ρ.set i (some w)) := by
  have r := x.env
  have slr : SlR m b w s := by
    cases h with
    | p h => exact .p h
    | r h h1 _ => exact .r h h1
    | o h h1 h2 h3 => exact .o h (fun _ => h2) (fun q => by cases q)
  refine ⟨⟨by simp [r.len], fun j t e => ?_, fun j k n l v h1 h2 h3 => ?_, fun n ⟨j, h1⟩ => ?_, r.ble⟩, by simp [x.ln], x.le, x.keep, fun n hn ⟨j, l, u, h1, h2⟩ => ?_, fun j u e => ?_⟩
  · rcases get_set e with ⟨rfl, e1⟩ | ⟨hn, e1⟩
    · cases e1
      have hl : j < ρ.length := by
        rw [← r.len]
        obtain ⟨l1, _⟩ := List.getElem?_eq_some_iff.mp e
        simpa using l1
      exact ⟨w, List.getElem?_set_self hl, slr⟩
    · rw [List.getElem?_set_ne (Ne.symm hn)]
      exact r.get j t e1
  · rcases get_set h1 with ⟨rfl, e1⟩ | ⟨n1, e1⟩
    · cases e1
      rcases get_set h2 with ⟨_, e2⟩ | ⟨n2, _⟩
      · cases e2
        rcases get_set h3 with ⟨e3, _⟩ | ⟨_, e3⟩
        · exact e3.symm
        · cases h with
          | o _ _ _ q => exact absurd ⟨k, e3⟩ q
      · exact absurd rfl n2
    · rcases get_set h2 with ⟨rfl, e2⟩ | ⟨_, e2⟩
      · exact absurd rfl n1
      · rcases get_set h3 with ⟨rfl, e3⟩ | ⟨_, e3⟩
        · cases e3
          cases h with
          | p q => cases q
          | r _ _ q => exact absurd ⟨j, l, v, e1, e2⟩ q
          | o _ _ _ q => exact absurd ⟨j, e2⟩ q
        · exact r.uniq j k n l v e1 e2 e3
  · rcases get_set h1 with ⟨_, e1⟩ | ⟨_, e1⟩
    · cases e1
      exact h.lt
    · exact r.lt n ⟨j, e1⟩
  · rcases get_set h1 with ⟨rfl, e1⟩ | ⟨n1, e1⟩
    · cases e1
      rcases get_set h2 with ⟨_, e2⟩ | ⟨n2, _⟩
      · cases e2
        cases h with
        | o _ q _ _ => omega
      · exact absurd rfl n2
    · rcases get_set h2 with ⟨rfl, e2⟩ | ⟨_, e2⟩
      · exact absurd rfl n1
      · exact x.own n hn ⟨j, l, u, e1, e2⟩
  · rcases get_set e with ⟨rfl, e1⟩ | ⟨hn, e1⟩
    · cases e1
      cases h
    · rw [List.getElem?_set_ne (Ne.symm hn)]
      exact x.lo j u e1
theorem bindSs_both {b : Nat} {m0 m : M} {ρP0 ρP1 : PEnv} {ρ0 ρ1 : Env} (hb : b ≤ m0.length) : ∀ (ts : List Tg) (ss : List Sl) (ws : List Val) (lo : Nat) (ρP : PEnv) (ρ : Env), ResL m b ρP1 ρ1 lo ws ss → m0.length ≤ lo → St b m0 ρP0 ρ0 m ρP ρ →
    (∀ n, Has ρ n → Has ρ1 n ∨ n < lo) → (∀ n, Own ρP ρ n → Own ρP1 ρ1 n ∨ ¬ Has ρ1 n) → ∀ ρP2, bindSs ts ss ρP = some ρP2 → ∃ ρ2, bindTs ts ws ρ = some ρ2 ∧ St b m0 ρP0 ρ0 m ρP2 ρ2
  | [], [], ws, lo, ρP, ρ, h, _, x, _, _, ρP2, e => by
    cases h
    simp only [bindSs, Option.some.injEq] at e
    subst e
    exact ⟨ρ, by simp only [bindTs], x⟩
  | [], _ :: _, ws, lo, ρP, ρ, h, _, x, _, _, ρP2, e => by simp [bindSs] at e
  | _ :: _, [], ws, lo, ρP, ρ, h, _, x, _, _, ρP2, e => by simp [bindSs] at e
  | t :: ts, s :: ss, ws, lo, ρP, ρ, h, hlo, x, i1, i2, ρP2, e => by
    cases h with
    | @cons _ mid w _ ws _ h1 h2 h3 h4 =>
      simp only [bindSs, Option.bind_eq_some_iff] at e
      obtain ⟨ρPn, e1, e⟩ := e
      simp only [bindTs]
      have sn : ∀ i, t = .nm i → Sets m0.length m b ρP ρ w s → (∀ n, s.val = s.val → w = .ref n → ((∃ l v, s = .r l v) ∧ Has ρ1 n) ∨ ¬ Has ρ1 n) → ∃ ρ2, ((bindT t w ρ).bind fun ρ => bindTs ts ws ρ) = some ρ2 ∧ St b m0 ρP0 ρ0 m ρP2 ρ2 := by
        rintro i rfl hs hf
        simp only [bindS] at e1
        split at e1
        · cases e1
          rename_i hl
          rw [x.env.len] at hl
          simp only [bindT, if_pos hl, Option.bind_some]
          refine bindSs_both hb ts ss ws mid _ _ h4 (Nat.le_trans hlo h3) (set_st x hs) (fun n ⟨j, hj⟩ => ?_) (fun n ⟨j, l, v, g1, g2⟩ => ?_) ρP2 e
          · rcases get_set hj with ⟨_, e2⟩ | ⟨_, e2⟩
            · cases e2
              exact .inr (h2 n rfl)
            · exact (i1 n ⟨j, e2⟩).imp id fun q => by omega
          · rcases get_set g1 with ⟨rfl, e2⟩ | ⟨n1, e2⟩
            · cases e2
              rcases get_set g2 with ⟨_, e3⟩ | ⟨n2, _⟩
              · cases e3
                rcases hf n rfl rfl with ⟨⟨l', v', q⟩, _⟩ | q
                · cases q
                · exact .inr q
              · exact absurd rfl n2
            · rcases get_set g2 with ⟨rfl, e3⟩ | ⟨_, e3⟩
              · exact absurd rfl n1
              · exact i2 n ⟨j, l, v, e2, e3⟩
        · cases e1
      cases t with
      | nm i =>
        cases h1 with
        | p hp => exact sn i rfl (.p hp) fun n _ hn => by subst hn; cases hp
        | r a1 a2 a3 a4 =>
          refine sn i rfl (.r a1 a2 fun ho => ?_) fun n _ hn => by cases hn; exact .inl ⟨⟨_, _, rfl⟩, a4⟩
          rcases i2 _ ho with q | q
          · exact a3 q
          · exact q a4
        | o a1 a2 a3 =>
          refine sn i rfl (.o a1 (by omega) (by omega) fun hh => ?_) fun n _ hn => by cases hn; exact .inr a3
          rcases i1 _ hh with q | q
          · exact a3 q
          · omega
      | tup ts' => simp [bindS] at e1
      | star a i c => simp [bindS] at e1
section
variable {C' : PCx} {C : Cx} (hC : CallsOk C' C) (hS : C'.sup = C.sup) {b : Nat}
include hC hS
theorem asg_pat {tg : Tg} {e : E} {m : M} {ρP : PEnv} {ρ : Env} (r : EnvR m b ρP ρ) (h : wfE e = true) (hn : ∀ i, tg ≠ .nm i) : SimS b m ρP ρ ((pe C' e true ρP).thn fun s ρ => match bindP tg s.val ρ with
      | some ρ => .nxt ρ
      | none => .stuck) ((ev C e ρ m).thn ρ fun v m => match bindT tg (tg.see m v) ρ with
    | some ρ => .nxt ρ m
    | none => .stuck) := by
  refine SimS.thn (simE hC hS e h m ρP ρ r) fun s w m1 ρ1 x1 o1 => SimS.from x1 ?_
  obtain ⟨p1, d1⟩ := o1.val_pure
  have hs : tg.see m1 w = s.val := by
    cases tg with
    | nm i => exact absurd rfl (hn i)
    | tup _ => exact d1
    | star _ _ _ => exact d1
  rw [hs]
  have q := bind_both tg s.val ρ1 ρ p1 (.refl x1.env)
  unfold BindBoth at q
  cases e1 : bindP tg s.val ρ1 with
  | none => trivial
  | some ρ2 =>
    rw [e1] at q
    obtain ⟨ρ', e2, y, _⟩ := q
    rw [e2]
    exact ⟨ρ', m1, rfl, y⟩
theorem setV_ok {m : M} {base a : Nat} {v u k x : Val} (hat : At m a v) (hx : x.pure = true) (hk : k.pure = true) (e : setV v k x = some u) : setAt base m (.ref a) k x = some (m.set a (cellOf u)) ∧ u.pure = true ∧ isCell u = true := by
  obtain ⟨hp, ⟨xs, rfl, hm⟩ | ⟨ks, ws, rfl, hm⟩⟩ := hat
  · cases k <;> simp only [setV, reduceCtorEq, Option.map_eq_some_iff] at e
    obtain ⟨j, e1, rfl⟩ := e
    refine ⟨?_, ?_, rfl⟩
    · simp only [setAt, hm, e1, Option.bind_some, storable, hx, Bool.true_or, if_true, cellOf]
    · have hp : pureL xs = true := hp
      exact pureL_of fun y hy => by
        rcases List.mem_or_eq_of_mem_set hy with h | rfl
        · exact pureL_get hp h
        · exact hx
  · simp only [Val.pure, Bool.and_eq_true] at hp
    simp only [setV] at e
    split at e
    · rename_i hz
      cases e
      obtain ⟨q1, q2⟩ := putK_pure hk hx hp.1 hp.2
      simp only [Bool.and_eq_true, decide_eq_true_eq] at hz
      refine ⟨?_, by simp only [Val.pure, q1, q2, Bool.and_self], rfl⟩
      simp only [setAt, hm, hz.1, hz.2, storable, hx, Bool.true_or, Bool.and_self, decide_true, if_true, cellOf]
    · cases e
theorem setsV_ok {m : M} {base a : Nat} {v u lo hi x : Val} (hat : At m a v) (hx : x.pure = true) (e : setsV v lo hi x = some u) : setSl base m (.ref a) lo hi x = some (m.set a (cellOf u)) ∧ u.pure = true ∧ isCell u = true := by
  unfold setsV at e
  split at e
  · rename_i xs i j ys
    split at e <;> cases e
    rename_i hz
    obtain ⟨hp, ⟨xs', hxs, hm⟩ | ⟨ks, ws, hxs, hm⟩⟩ := hat
    · cases hxs
      have hp : pureL xs = true := hp
      have hy : pureL ys = true := hx
      refine ⟨?_, ?_, rfl⟩
      · simp only [setSl, hm, hz, hy, Bool.true_or, Bool.and_self, if_true, cellOf]
      · refine pureL_of fun y hyy => ?_
        rcases List.mem_append.mp hyy with h | h
        · rcases List.mem_append.mp h with h | h
          · exact pureL_get hp (List.mem_of_mem_take h)
          · exact pureL_get hy h
        · exact pureL_get hp (List.mem_of_mem_drop h)
    · cases hxs
  · cases e
theorem own_end {m : M} {ρP : PEnv} {ρ : Env} {n : Nat} {w : Val} {f : Val → Option Val} {g : Val → Option M} (r : EnvR m b ρP ρ) (e1 : ρ[n]? = some (some w)) (hf : ∀ a v u, At m a v → w = .ref a → f v = some u → g w = some (m.set a (cellOf u)) ∧ u.pure = true ∧ isCell u = true) :
    SimS b m ρP ρ (match ownSet ρP n f with
      | some ρ => .nxt ρ
      | none => .stuck) (match g w with
      | some m => .nxt ρ m
      | none => .stuck) := by
  unfold ownSet
  cases e3 : ρP[n]? with
  | none => trivial
  | some o =>
    cases o with
    | none => trivial
    | some s =>
      cases s with
      | p _ => trivial
      | r _ _ => trivial
      | o l v =>
        dsimp only
        obtain ⟨w', e2, q⟩ := r.get n _ e3
        rw [e1] at e2
        cases e2
        cases q with
        | @o a _ _ p1 p2 p3 =>
          cases e4 : f v with
          | none => trivial
          | some u =>
            obtain ⟨f1, f2, f3⟩ := hf a v u p1 rfl e4
            rw [f1]
            exact ⟨ρ, _, rfl, own_set_st r e3 e1 f2 f3⟩
theorem loop_sim {f : Val → PEnv → PRs} {g : Val → Env → M → Rs} {w : M → Bool} {m0 : M} {ρP0 : PEnv} {ρ0 : Env}
    (hf : ∀ v m ρP ρ, v.pure = true → EnvR m b ρP ρ → SimS b m ρP ρ (f v ρP) (g v ρ m)) (hw : ∀ m2 ρP2 ρ2, St b m0 ρP0 ρ0 m2 ρP2 ρ2 → w m2 = true) :
    ∀ (xs : List Val) (m : M) (ρP : PEnv) (ρ : Env), pureL xs = true → St b m0 ρP0 ρ0 m ρP ρ → SimS b m ρP ρ (ploop f xs ρP) (loopL g w xs ρ m)
  | [], m, ρP, ρ, _, x => ⟨ρ, m, rfl, .refl x.env⟩
  | v :: xs, m, ρP, ρ, hp, x => by
    simp only [pureL, Bool.and_eq_true] at hp
    rw [ploop, loopL]
    refine SimS.bind (hf v m ρP ρ hp.1 x.env) fun m1 ρP1 ρ1 x1 => SimS.from x1 ?_
    rw [if_pos (hw m1 ρP1 ρ1 (x.trans x1))]
    exact loop_sim hf hw xs m1 ρP1 ρ1 hp.2 (x.trans x1)
theorem loopW_sim {c : PEnv → PR Bool} {c' : Env → M → R Bool} {f : PEnv → PRs} {g : Env → M → Rs} (hc : ∀ m ρP ρ, EnvR m b ρP ρ → SimR b m ρP ρ (fun _ _ k k' => k = k') (c ρP) (c' ρ m)) (hf : ∀ m ρP ρ, EnvR m b ρP ρ → SimS b m ρP ρ (f ρP) (g ρ m)) :
    ∀ (n : Nat) (m : M) (ρP : PEnv) (ρ : Env), EnvR m b ρP ρ → SimS b m ρP ρ (ploopW c f n ρP) (loopW c' g n ρ m)
  | 0, m, ρP, ρ, _ => trivial
  | n + 1, m, ρP, ρ, r => by
    rw [ploopW, loopW]
    refine SimS.thn (hc m ρP ρ r) fun k k' m1 ρP1 x1 hk => SimS.from x1 ?_
    subst hk
    cases k with
    | false => exact ⟨ρ, m1, rfl, .refl x1.env⟩
    | true => exact SimS.bind (p := f ρP1) (r := g ρ m1) (hf m1 ρP1 ρ x1.env) fun m2 ρP2 ρ2 x2 => SimS.from x2 (loopW_sim hc hf n m2 ρP2 ρ2 x2.env)
/-- what a for walks -/
theorem simItF : ∀ (it : It), wfIt it = true → ∀ (m : M) (ρP : PEnv) (ρ : Env), EnvR m b ρP ρ → SimR b m ρP ρ (fun m' ρP' q p => ItF ρ m' ρP' q p) (pit C' it true ρP) (evIt C it ρ m)
  | .val e, h, m, ρP, ρ, r => by
    simp only [wfIt] at h
    rw [pit, evIt]
    refine SimR.bind (simE hC hS e h m ρP ρ r) fun s w m1 ρ1 x1 o1 => SimR.from x1 ?_
    obtain ⟨q1, d1⟩ := o1.val_pure
    rw [d1]
    cases e1 : iterOf s.val with
    | none => trivial
    | some xs => exact ⟨_, m1, rfl, .refl x1.env, rfl, iterOf_pure q1 e1, o1.watch⟩
  | .rng es, h, m, ρP, ρ, r => by
    simp only [wfIt] at h
    rw [pit, evIt]
    refine SimR.bind (simEs hC hS es h m ρP ρ r) fun ss ws m1 ρ1 x1 o1 => SimR.from x1 ?_
    refine simVs o1.1 fun vs hv hp => ?_
    subst hv
    cases e1 : rng ws with
    | none => trivial
    | some xs => exact ⟨_, m1, rfl, .refl x1.env, rfl, rng_pure e1, by simp⟩
  | .enu e, h, m, ρP, ρ, r => by
    simp only [wfIt] at h
    rw [pit, evIt]
    refine SimR.bind (simE hC hS e h m ρP ρ r) fun s w m1 ρ1 x1 o1 => SimR.from x1 ?_
    obtain ⟨q1, d1⟩ := o1.val_pure
    rw [d1]
    cases e1 : seqOf s.val with
    | none => trivial
    | some xs => exact ⟨_, m1, rfl, .refl x1.env, rfl, enuL_pure 0 (seqOf_pure q1 e1), o1.watch⟩
  | .zip e e2 st, h, m, ρP, ρ, r => by
    simp only [wfIt, Bool.and_eq_true] at h
    rw [pit, evIt]
    refine SimR.bind (simE hC hS e h.1 m ρP ρ r) fun s w m1 ρ1 x1 o1 => SimR.from x1 ?_
    refine SimR.bind (simE hC hS e2 h.2 m1 ρ1 ρ x1.env) fun t u m2 ρ2 x2 o2 => SimR.from x2 ?_
    have o1' := o1.later x2
    obtain ⟨q1, d1⟩ := o1'.val_pure
    obtain ⟨q2, d2⟩ := o2.val_pure
    simp only [Bool.true_or, if_true]
    rw [d1, d2]
    cases e1 : zipOf st s.val t.val with
    | none => trivial
    | some xs =>
      refine ⟨_, m2, rfl, .refl x2.env, rfl, zipOf_pure e1 q1 q2, fun n hn => ?_⟩
      rcases List.mem_append.mp hn with hn | hn
      · exact o1'.watch n hn
      · exact o2.watch n hn
  | .items e, h, m, ρP, ρ, r => by
    simp only [wfIt] at h
    rw [pit, evIt]
    refine SimR.bind (simE hC hS e h m ρP ρ r) fun s w m1 ρ1 x1 o1 => SimR.from x1 ?_
    obtain ⟨q1, d1⟩ := o1.val_pure
    rw [d1]
    cases e1 : s.val <;> try trivial
    rename_i ks vs
    rw [e1] at q1
    simp only [Val.pure, Bool.and_eq_true] at q1
    exact ⟨_, m1, rfl, .refl x1.env, rfl, zipL_pure q1.1 q1.2, o1.watch⟩
mutual
theorem simS : ∀ (s : S), wfS s = true → ∀ (m : M) (ρP : PEnv) (ρ : Env), EnvR m b ρP ρ → SimS b m ρP ρ (ps C' s ρP) (ex C s ρ m)
  | .asg tg e, h, m, ρP, ρ, r => by
    simp only [wfS] at h
    rw [ex]
    cases tg with
    | nm i =>
      have key : ps C' (.asg (.nm i) e) ρP = (pe C' e true ρP).thn fun s ρ => if i < ρ.length then .nxt (ρ.set i (some s)) else .stuck := by rw [ps]
      rw [key]
      refine SimS.thn (simE hC hS e h m ρP ρ r) fun s w m1 ρ1 x1 o1 => ?_
      split
      · rename_i hl
        rw [x1.env.len] at hl
        have : bindT (.nm i) (Tg.see m1 (.nm i) w) ρ = some (ρ.set i (some w)) := by
          simp only [bindT, Tg.see, if_pos hl]
        rw [this]
        refine ⟨_, m1, rfl, set_st x1 ?_⟩
        cases o1 with
        | p q => exact .p q
        | r q1 q2 q3 q4 => exact .r q1 q2 q3
        | o q1 q2 q3 => exact .o q1 q2 (Nat.le_trans r.ble q2) q3
      · trivial
    | tup ts =>
      by_cases he : ∃ es, e = .tup es
      · obtain ⟨es, rfl⟩ := he
        simp only [wfE, Bool.and_eq_true] at h
        rw [ps, ev]
        have z := simEs hC hS es h.2 m ρP ρ r
        cases e1 : pes C' es ρP with
        | stuck => trivial
        | exc c fs ρ' =>
          rw [e1] at z
          obtain ⟨m', q1, q2, q3⟩ := z
          rw [q1]
          exact ⟨ρ, m', rfl, q2, q3⟩
        | ok ss ρ1 =>
          rw [e1] at z
          obtain ⟨ws, m1, q1, x1, o1, o2⟩ := z
          rw [q1]
          have hl : ws.length ≤ LINE := by
            rw [o1.len, o2]
            have := Nat.le_of_ble_eq_true h.1
            unfold LINE
            omega
          dsimp only [R.bind, PR.thn]
          rw [if_pos hl]
          dsimp only [R.thn]
          cases e2 : bindSs ts ss ρ1 with
          | none => trivial
          | some ρ2 =>
            obtain ⟨ρ2', e3, x2⟩ := bindSs_both r.ble ts ss ws m.length ρ1 ρ o1 (Nat.le_refl _) x1 (fun n h => .inl h) (fun n h => .inl h) ρ2 e2
            have : bindT (.tup ts) (Tg.see m1 (.tup ts) (.tup ws)) ρ = some ρ2' := by
              show bindT (.tup ts) (.tup ws) ρ = _
              rw [bindT]
              exact e3
            rw [this]
            exact ⟨ρ2', m1, rfl, x2⟩
      · have key : ps C' (.asg (.tup ts) e) ρP = (pe C' e true ρP).thn fun s ρ => match bindP (.tup ts) s.val ρ with
            | some ρ => .nxt ρ
            | none => .stuck := by
          cases e <;> first | exact absurd ⟨_, rfl⟩ he | (rw [ps] <;> (intros; first | rfl | contradiction | (rename_i h; cases h)))
        rw [key]
        exact asg_pat hC hS r h fun i => by simp
    | star a i c =>
      have key : ps C' (.asg (.star a i c) e) ρP = (pe C' e true ρP).thn fun s ρ => match bindP (.star a i c) s.val ρ with
          | some ρ => .nxt ρ
          | none => .stuck := by
        rw [ps] <;> (intros; first | rfl | contradiction | (rename_i h _; cases h) | (rename_i h; cases h))
      rw [key]
      exact asg_pat hC hS r h fun i => by simp
  | .set o i e, h, m, ρP, ρ, r => by
    simp only [wfS, Bool.and_eq_true] at h
    cases o <;> first | (simp only [ps, SimS]; done) | skip
    rename_i n
    rw [ps, ex]
    split
    · rename_i hi
      have hn : ∃ w, ρ[n]? = some (some w) := by
        unfold ownIs at hi
        cases e1 : ρP[n]? with
        | none => rw [e1] at hi; cases hi
        | some o =>
          cases o with
          | none => rw [e1] at hi; cases hi
          | some s =>
            obtain ⟨w, e2, _⟩ := r.get n s e1
            exact ⟨w, e2⟩
      obtain ⟨w0, e0⟩ := hn
      refine SimS.thn (simE hC hS e h.2 m ρP ρ r) fun s w m1 ρ1 x1 o1 => SimS.from x1 ?_
      refine simVS o1 fun v hv hp _ => ?_
      subst hv
      rw [show ev C (.var n) ρ m1 = .ok w0 m1 by rw [ev, e0]]
      dsimp only [R.thn]
      refine SimS.thn (simE hC hS i h.1.2 m1 ρ1 ρ x1.env) fun t u m2 ρ2 x2 o2 => SimS.from x2 ?_
      refine simVS o2 fun k hk hkp _ => ?_
      subst hk
      exact own_end hC hS (w := w0) (g := fun x => setAt C.base m2 x u w) x2.env e0 fun a v u' hat hw e4 => by
        subst hw
        exact setV_ok hC hS hat hp hkp e4
    · trivial
  | .sets o lo hi e, h, m, ρP, ρ, r => by
    simp only [wfS, Bool.and_eq_true] at h
    cases o <;> first | (simp only [ps, SimS]; done) | skip
    rename_i n
    rw [ps, ex]
    split
    · rename_i hi'
      have hn : ∃ w, ρ[n]? = some (some w) := by
        unfold ownIs at hi'
        cases e1 : ρP[n]? with
        | none => rw [e1] at hi'; cases hi'
        | some o =>
          cases o with
          | none => rw [e1] at hi'; cases hi'
          | some s =>
            obtain ⟨w, e2, _⟩ := r.get n s e1
            exact ⟨w, e2⟩
      obtain ⟨w0, e0⟩ := hn
      refine SimS.thn (simE hC hS e h.2 m ρP ρ r) fun s w m1 ρ1 x1 o1 => SimS.from x1 ?_
      refine simVS o1 fun v hv hp _ => ?_
      subst hv
      rw [show ev C (.var n) ρ m1 = .ok w0 m1 by rw [ev, e0]]
      dsimp only [R.thn]
      refine SimS.thn (simE hC hS lo h.1.1.2 m1 ρ1 ρ x1.env) fun t u m2 ρ2 x2 o2 => SimS.from x2 ?_
      refine simVS o2 fun k hk hkp _ => ?_
      subst hk
      refine SimS.thn (simE hC hS hi h.1.2 m2 ρ2 ρ x2.env) fun t u2 m3 ρ3 x3 o3 => SimS.from x3 ?_
      refine simVS o3 fun k2 hk2 hkp2 _ => ?_
      subst hk2
      exact own_end hC hS (w := w0) (g := fun x => setSl C.base m3 x u u2 w) x3.env e0 fun a v u' hat hw e4 => by
        subst hw
        exact setsV_ok hC hS hat hp e4
    · trivial
  | .aug i op e, h, m, ρP, ρ, r => by
    simp only [wfS] at h
    rw [ps, ex]
    cases e1 : ρP[i]? with
    | none => trivial
    | some o =>
      cases o with
      | none => trivial
      | some s =>
        cases s with
        | r _ _ => trivial
        | o _ _ => trivial
        | p x =>
          obtain ⟨w, e2, q⟩ := r.get i _ e1
          cases q with
          | p p1 =>
            dsimp only
            rw [e2]
            dsimp only
            refine SimS.thn (simE hC hS e h m ρP ρ r) fun s u m1 ρ1 x1 o1 => SimS.from x1 ?_
            refine simVS o1 fun v hv hp _ => ?_
            subst hv
            cases x <;> try trivial
            cases u <;> try trivial
            cases op <;> try trivial
            · exact ⟨_, m1, rfl, (St.refl x1.env).setP rfl⟩
            · exact ⟨_, m1, rfl, (St.refl x1.env).setP rfl⟩
            · dsimp only
              split
              · exact ⟨_, m1, rfl, (St.refl x1.env).setP rfl⟩
              · trivial
  | .exp e, h, m, ρP, ρ, r => by
    simp only [wfS] at h
    rw [ps, ex]
    exact SimS.thn (simE hC hS e h m ρP ρ r) fun s w m1 ρ1 x1 o1 => ⟨ρ, m1, rfl, x1⟩
  | .ret e, h, m, ρP, ρ, r => by
    simp only [wfS] at h
    rw [ps, ex]
    exact SimS.thn (simE hC hS e h m ρP ρ r) fun s w m1 ρ1 x1 o1 => ⟨w, ρ, m1, rfl, x1, o1.weak r.ble⟩
  | .retn, h, m, ρP, ρ, r => by
    rw [ps, ex]
    exact ⟨_, ρ, m, rfl, .refl r, .p rfl⟩
  | .iff c x y, h, m, ρP, ρ, r => by
    simp only [wfS, Bool.and_eq_true] at h
    rw [ps, ex]
    refine SimS.thn (simO r (simE hC hS c h.1.1 m ρP ρ r)) fun s w m1 ρ1 x1 o1 => SimS.from x1 ?_
    rw [(o1.now x1.env).1]
    cases e : tru s.val with
    | none => trivial
    | some k =>
      cases k with
      | true => exact simSs x h.1.2 m1 ρ1 ρ x1.env
      | false => exact simSs y h.2 m1 ρ1 ρ x1.env
  | .for tg it body, h, m, ρP, ρ, r => by
    simp only [wfS, Bool.and_eq_true] at h
    rw [ps, ex]
    refine SimS.thn (simItF hC hS it h.1 m ρP ρ r) fun q p m1 ρ1 x1 ⟨v1, v2, v3⟩ => SimS.from x1 ?_
    rw [← v1]
    refine loop_sim hC hS (m0 := m1) (ρP0 := ρ1) (ρ0 := ρ) (fun v m ρP ρ hv r => ?_) (fun m2 ρP2 ρ2 x => ?_) q.1 m1 ρ1 ρ v2 (.refl x1.env)
    · have bb := bind_both tg v ρP ρ hv (.refl r)
      unfold BindBoth at bb
      cases eb : bindP tg v ρP with
      | none => trivial
      | some ρP2 =>
        rw [eb] at bb
        obtain ⟨ρ2, e2, x2, _⟩ := bb
        rw [e2]
        exact SimS.from x2 (simSs body h.2 m ρP2 ρ2 x2.env)
    · exact pstands_self m1 p.2 (fun n hn => (v3 n hn).1) m2 fun n hn => x.keep n (v3 n hn).1 (v3 n hn).2
  | .whl c body, h, m, ρP, ρ, r => by
    simp only [wfS, Bool.and_eq_true] at h
    rw [ps, ex]
    refine loopW_sim hC hS (fun m ρP ρ r => ?_) (fun m ρP ρ r => simSs body h.2 m ρP ρ r) WF m ρP ρ r
    refine SimR.bind (simO r (simE hC hS c h.1 m ρP ρ r)) fun s w m1 ρ1 x1 o1 => SimR.from x1 ?_
    rw [(o1.now x1.env).1]
    exact SimR.opt (.refl x1.env) fun a _ => rfl
  | .raise c es, h, m, ρP, ρ, r => by
    simp only [wfS] at h
    rw [ps, ex]
    refine SimS.thn (simEs hC hS es h m ρP ρ r) fun ss ws m1 ρ1 x1 o1 => SimS.from x1 ?_
    refine simVsS o1.1 fun vs hv hp => ?_
    subst hv
    exact ⟨ρ, m1, rfl, .refl x1.env, hp⟩
  | .try body hs, h, m, ρP, ρ, r => by
    simp only [wfS, Bool.and_eq_true] at h
    rw [ps, ex]
    have z := simSs body h.1 m ρP ρ r
    cases e : pss C' body ρP with
    | stuck => trivial
    | nxt ρ' =>
      rw [e] at z
      obtain ⟨ρ2, m2, q1, q2⟩ := z
      rw [q1]
      exact ⟨ρ2, m2, rfl, q2⟩
    | ret s ρ' =>
      rw [e] at z
      obtain ⟨w, ρ2, m2, q1, q2, q3⟩ := z
      rw [q1]
      exact ⟨w, ρ2, m2, rfl, q2, q3⟩
    | exc c fs ρ' =>
      rw [e] at z
      obtain ⟨ρ2, m2, q1, q2, q3⟩ := z
      rw [q1]
      exact SimS.from q2 (simH hs h.2 c fs q3 m2 ρ' ρ2 q2.env)
  | .pass, h, m, ρP, ρ, r => by
    rw [ps, ex]
    exact ⟨ρ, m, rfl, .refl r⟩
  | .stop, h, m, ρP, ρ, r => by
    rw [ps]
    trivial
theorem simSs : ∀ (s : Ss), wfSs s = true → ∀ (m : M) (ρP : PEnv) (ρ : Env), EnvR m b ρP ρ → SimS b m ρP ρ (pss C' s ρP) (exs C s ρ m)
  | .nil, h, m, ρP, ρ, r => by
    rw [pss, exs]
    exact ⟨ρ, m, rfl, .refl r⟩
  | .cons s t, h, m, ρP, ρ, r => by
    simp only [wfSs, Bool.and_eq_true] at h
    rw [pss, exs]
    exact SimS.bind (simS s h.1 m ρP ρ r) fun m1 ρP1 ρ1 x1 => SimS.from x1 (simSs t h.2 m1 ρP1 ρ1 x1.env)
theorem simH : ∀ (hs : Hs), wfHs hs = true → ∀ (c : Nat) (fs : List Val), pureL fs = true → ∀ (m : M) (ρP : PEnv) (ρ : Env), EnvR m b ρP ρ → SimS b m ρP ρ (psH C' hs c fs ρP) (exH C hs c fs ρ m)
  | .nil, h, c, fs, hf, m, ρP, ρ, r => by
    rw [psH.eq_def, exH.eq_def]
    exact ⟨ρ, m, rfl, .refl r, hf⟩
  | .cons cls slot body t, h, c, fs, hf, m, ρP, ρ, r => by
    simp only [wfHs, Bool.and_eq_true] at h
    rw [psH.eq_def, exH.eq_def]
    dsimp only
    split
    · cases slot with
      | none => exact simSs body h.1 m ρP ρ r
      | some i =>
        have x := (St.refl r).setP (i := i) (v := .exc c fs) hf
        refine SimS.bind (SimS.from x (simSs body h.1 m _ _ x.env)) fun m1 ρP1 ρ1 x1 => ?_
        exact ⟨_, m1, rfl, x1.unset⟩
    · exact simH t h.2 c fs hf m ρP ρ r
end
end
end MP
set_option Elab.async false
set_option linter.all false
set_option maxRecDepth 100000
set_option maxHeartbeats 4000000
/-! MPPZ: what the language without cells computes, the one with cells computes. -/
namespace MP
open PySem (Str Operator CmpOp PyData)
theorem outS_get : ∀ {ss : List Sl} {ρ : PEnv} {i : Nat} {v : Val}, (outS ss ρ)[i]? = some (.o false v) → (∃ l u, ss[i]? = some (.o l u)) → ρ[i]? = some (some (.o false v))
  | [], _, _, _, e, _ => by simp [outS] at e
  | .o l u :: r, x :: ρ, 0, v, e, _ => by
    simp only [outS, List.getElem?_cons_zero, Option.some.injEq] at e
    cases x with
    | none => cases e
    | some s => simp at e; subst e; rfl
  | .o l u :: r, x :: ρ, i + 1, v, e, h => by
    simp only [outS, List.getElem?_cons_succ] at e h ⊢
    exact outS_get e h
  | .p _ :: r, x :: ρ, 0, v, e, h => by simp at h
  | .r _ _ :: r, x :: ρ, 0, v, e, h => by simp at h
  | .p _ :: r, x :: ρ, i + 1, v, e, h => by
    simp only [outS, List.getElem?_cons_succ] at e h ⊢
    exact outS_get e h
  | .r _ _ :: r, x :: ρ, i + 1, v, e, h => by
    simp only [outS, List.getElem?_cons_succ] at e h ⊢
    exact outS_get e h
  | s :: r, [], 0, v, e, h => by
    cases s <;> simp [outS] at e
  | s :: r, [], i + 1, v, e, h => by
    exfalso
    have key : ∀ (r : List Sl) (i : Nat), (outS r [])[i]? ≠ some (.o false v) := by
      intro r
      induction r with
      | nil => intro i; simp [outS]
      | cons s r ih =>
        intro i
        cases i with
        | zero => cases s <;> simp [outS]
        | succ i => cases s <;> simp only [outS, List.getElem?_cons_succ] <;> exact ih i
    exact key _ _ e
theorem env_init {m : M} {ss : List Sl} {ws : List Val} (h : ArgsR m ws ss) (k : Nat) : EnvR m m.length (ss.map some ++ List.replicate k none) (ws.map some ++ List.replicate k none) := by
  have gP : ∀ (i : Nat) s, (ss.map some ++ List.replicate k none)[i]? = some (some s) → ss[i]? = some s := fun i s e => by
    by_cases hi : i < ss.length
    · rw [List.getElem?_append_left (by simpa using hi), List.getElem?_map] at e
      cases e2 : ss[i]? with
      | none => rw [e2] at e; cases e
      | some t => rw [e2] at e; cases e; rfl
    · rw [List.getElem?_append_right (by simpa using hi)] at e
      have := List.mem_of_getElem? e
      simp at this
  have gE : ∀ (i : Nat) s, (ws.map some ++ List.replicate k none)[i]? = some (some s) → ws[i]? = some s := fun i s e => by
    by_cases hi : i < ws.length
    · rw [List.getElem?_append_left (by simpa using hi), List.getElem?_map] at e
      cases e2 : ws[i]? with
      | none => rw [e2] at e; cases e
      | some t => rw [e2] at e; cases e; rfl
    · rw [List.getElem?_append_right (by simpa using hi)] at e
      have := List.mem_of_getElem? e
      simp at this
  have at_ : ∀ (i : Nat) n, ws[i]? = some (.ref n) → n < m.length := fun i n e => by
    have hi : i < ss.length := by rw [← h.len]; exact (List.getElem?_eq_some_iff.mp e).1
    have q := h.get i _ _ e (List.getElem?_eq_getElem hi)
    generalize ss[i] = s at q
    cases s with
    | p v => obtain ⟨rfl, q⟩ := q; cases q
    | r l v => obtain ⟨_, n', e1, q⟩ := q; cases e1; exact q.lt
    | o l v => obtain ⟨_, n', e1, q⟩ := q; cases e1; exact q.lt
  refine ⟨by simp [h.len], fun i s e => ?_, fun i j n l v h1 h2 h3 => h.uniq i j n l v (gP _ _ h1) (gE _ _ h2) (gE _ _ h3), fun n ⟨j, e⟩ => at_ j n (gE _ _ e), Nat.le_refl _⟩
  have e1 := gP _ _ e
  have hi : i < ws.length := by rw [h.len]; exact (List.getElem?_eq_some_iff.mp e1).1
  have e2 : ws[i]? = some ws[i] := List.getElem?_eq_getElem hi
  refine ⟨ws[i], ?_, ?_⟩
  · rw [List.getElem?_append_left (by simpa using hi), List.getElem?_map, e2]
    rfl
  · have q := h.get i _ _ e2 e1
    generalize ws[i] = w at q
    cases s with
    | p v => obtain ⟨rfl, q⟩ := q; exact .p q
    | r l v =>
      obtain ⟨rfl, n', rfl, q⟩ := q
      exact .r q (fun h => by cases h)
    | o l v =>
      obtain ⟨rfl, n', rfl, q⟩ := q
      exact .o q (fun h => by cases h) (fun _ => q.lt)
theorem take_at {m : M} {n k : Nat} {v : Val} (h : At m n v) (hk : n < k) : At (m.take k) n v := h.at (by rw [List.getElem?_take, if_pos hk])
theorem call_end {m m' : M} {ss : List Sl} {ws : List Val} {k : Nat} {ρP' : PEnv} {ρ' : Env} {e : M} (h : ArgsR m ws ss) (x : St m.length m (ss.map some ++ List.replicate k none) (ws.map some ++ List.replicate k none) m' ρP' ρ') :
    CallEnd m (m'.take m.length ++ e) ws ss (outS ss ρP') := by
  have hl : (m'.take m.length).length = m.length := by rw [List.length_take]; exact Nat.min_eq_left x.le
  refine ⟨by rw [List.length_append, hl]; omega, fun n hn hk => ?_, fun i n v h1 h2 h3 => ?_⟩
  · rw [List.getElem?_append_left (by omega), List.getElem?_take, if_pos hn]
    refine x.keep n hn fun ⟨i, l, v, a1, a2⟩ => ?_
    have hi : i < ss.length := by
      by_cases hi : i < ss.length
      · exact hi
      · rw [List.getElem?_append_right (by simpa using hi)] at a1
        have := List.mem_of_getElem? a1
        simp at this
    rw [List.getElem?_append_left (by simpa using hi), List.getElem?_map] at a1
    rw [List.getElem?_append_left (by simpa [h.len] using hi), List.getElem?_map] at a2
    refine hk i l v ?_ ?_
    · cases e1 : ss[i]? with
      | none => rw [e1] at a1; cases a1
      | some t => rw [e1] at a1; cases a1; rfl
    · cases e1 : ws[i]? with
      | none => rw [e1] at a2; cases a2
      | some t => rw [e1] at a2; cases a2; rfl
  · have e1 := outS_get h1 h2
    obtain ⟨u, e2, e3⟩ := x.lo i v e1
    have hi : i < ws.length := (List.getElem?_eq_some_iff.mp h3).1
    have e4 : ρ'[i]? = some (some (.ref n)) := by
      rw [e3, List.getElem?_append_left (by simpa using hi), List.getElem?_map, h3]
      rfl
    obtain ⟨w, e5, q⟩ := x.env.get i _ e1
    rw [e4] at e5
    cases e5
    cases q with
    | o q1 q2 q3 =>
      have hn : n < m.length := by
        obtain ⟨l, u, e6⟩ := h2
        have q := h.get i _ _ h3 e6
        obtain ⟨_, n', e7, q⟩ := q
        cases e7
        exact q.lt
      exact (take_at q1 hn).at (List.getElem?_append_left (by rw [hl]; exact hn))
theorem callP_ok {G : Prog} {io : Nat → Nat → Bool} (hw : ∀ f d, G.defs f = some d → wfSs d.body = true) : ∀ (k base : Nat) (al : Bool), CallsOk (pctx G io (callP G io k)) (ctx G (callN G k) base al)
  | 0, base, al => fun f ss al m ws h => trivial
  | k + 1, base, al0 => fun f ss al m ws h => by
    show CallR_ m ws ss (callP G io (k + 1) f ss al) (callN G (k + 1) f ws al m)
    simp only [callP, callN]
    cases hd : G.defs f with
    | none => trivial
    | some d =>
      dsimp only
      rw [h.len]
      split
      · rename_i hl
        have ih := callP_ok (io := io) hw k m.length al
        have r0 := env_init h (d.ns - d.np)
        have z := simSs (b := m.length) ih rfl d.body (hw f d hd) m _ _ r0
        unfold runP runD
        have nil : ∀ m' : M, m'.take m.length = m'.take m.length ++ [] := fun _ => by simp
        cases e : pss (pctx G io (callP G io k)) d.body (ss.map some ++ List.replicate (d.ns - d.np) none) with
        | stuck => trivial
        | nxt ρP' =>
          rw [e] at z
          obtain ⟨ρ', m', e1, x⟩ := z
          rw [e1]
          refine ⟨_, _, rfl, ?_, rfl, rfl⟩
          rw [nil]
          exact call_end h x
        | exc c fs ρP' =>
          rw [e] at z
          obtain ⟨ρ', m', e1, x, hp⟩ := z
          rw [e1]
          dsimp only
          rw [if_pos hp]
          refine ⟨_, rfl, ?_, hp⟩
          rw [nil]
          exact call_end h x
        | ret s ρP' =>
          rw [e] at z
          obtain ⟨w, ρ', m', e1, x, hr⟩ := z
          rw [e1]
          dsimp only
          have cell : ∀ n v, At m' n v → m.length ≤ n → CallR_ m ws ss (exitP al (.ok (.o true v) (outS ss ρP'))) (exitR al m.length (.ref n) m') := fun n v q1 q2 => by
            have nk : ¬ n < m.length := by omega
            cases al with
            | false =>
              refine ⟨v, m'.take m.length, ?_, ?_, rfl, q1.1⟩
              · unfold exitR
                simp only [Val.pure, Bool.false_eq_true, if_false]
                show (match frz m.length m' (4095 + 1) (.ref n) with
                  | some v => R.ok v (m'.take m.length)
                  | none => .stuck) = _
                simp only [frz, if_neg nk]
                obtain ⟨p, ⟨xs, rfl, hm⟩ | ⟨ks, vs, rfl, hm⟩⟩ := q1
                · rw [hm]
                  have p : pureL xs = true := p
                  dsimp only
                  rw [if_pos p]
                · rw [hm]
                  have p : (pureL ks && pureL vs) = true := p
                  dsimp only
                  rw [if_pos p]
              · rw [nil]
                exact call_end h x
            | true =>
              have hl : (m'.take m.length).length = m.length := by rw [List.length_take]; exact Nat.min_eq_left x.le
              refine ⟨.ref m.length, m'.take m.length ++ [cellOf v], ?_, call_end h x, rfl, ?_⟩
              · unfold exitR
                simp only [Val.pure, Bool.false_eq_true, if_false, if_neg nk]
                obtain ⟨p, ⟨xs, rfl, hm⟩ | ⟨ks, vs, rfl, hm⟩⟩ := q1
                · rw [hm]
                  have p : pureL xs = true := p
                  dsimp only
                  rw [if_pos p]
                  rfl
                · rw [hm]
                  have p : (pureL ks && pureL vs) = true := p
                  dsimp only
                  rw [if_pos p]
                  rfl
              · refine .by q1.1 ?_ ?_
                · obtain ⟨p, ⟨xs, rfl, hm⟩ | ⟨ks, vs, rfl, hm⟩⟩ := q1 <;> rfl
                · rw [List.getElem?_append_right (by omega), hl]
                  simp
          cases hr with
          | @p v q =>
            refine ⟨w, m'.take m.length, ?_, ?_, rfl, q⟩
            · unfold exitR
              rw [if_pos q]
            · rw [nil]
              exact call_end h x
          | @r n l v q1 q2 q3 q4 =>
            cases l with
            | false => trivial
            | true => exact cell n v q1 (q2 rfl)
          | @o n v q1 q2 q3 => exact cell n v q1 q2
      · trivial
/-- the law's own call -/
theorem law_P {G : Prog} {io : Nat → Nat → Bool} (hw : ∀ f d, G.defs f = some d → wfSs d.body = true) {k f : Nat} {ns : List Int} {outs : List Sl} (h : callP G io k f [.p (.scr ns)] false = .ok (.p (.bl true)) outs) : ∃ m, callN G k f [.scr ns] false [] = .ok (.bl true) m := by
  have z := callP_ok (io := io) hw k 0 false f [.p (.scr ns)] false [] [.scr ns] ⟨rfl, fun i w s h1 h2 => by
    cases i with
    | zero => simp at h1 h2; subst h1; subst h2; exact ⟨rfl, rfl⟩
    | succ i => simp at h1, fun i j n l v h1 h2 h3 => by
    cases i with
    | zero => simp at h1
    | succ i => simp at h1⟩
  unfold CallR_ at z
  have h : (pctx G io (callP G io k)).call f [.p (.scr ns)] false = .ok (.p (.bl true)) outs := h
  rw [h] at z
  obtain ⟨w, m', e, _, rfl, _⟩ := z
  exact ⟨m', e⟩
end MP
set_option Elab.async false
set_option linter.all false
set_option maxRecDepth 100000
namespace MP
open PySem (Str Operator CmpOp PyData)
/-- place_of(row, who): row, who, found, place, one -/
def D44_place_of : Def where
  np := 2
  ns := 5
  body := (.cons (.asg (.nm 2) (.comp false (.var 3) [3, 4] (.tup [(.nm 3), (.nm 4)]) (.enu (.var 0)) (.cons (.cmp (.var 4) [.Eq] (.cons (.var 1) .nil)) .nil))) (.cons (.iff (.cmp (.var 2) [.Eq] (.cons (.lst .nil) .nil)) (.cons (.raise 7 (.cons (.var 1) .nil)) .nil) .nil) (.cons (.ret (.idx (.var 2) (.con (.int 0)))) .nil)))
/-- taller_ahead(row, who): row, who, one -/
def D45_taller_ahead : Def where
  np := 2
  ns := 3
  body := (.cons (.ret (.blt .len (.cons (.comp false (.var 2) [2] (.nm 2) (.val (.slc (.var 0) .emp (.call 44 (.cons (.var 0) (.cons (.var 1) .nil)) false))) (.cons (.cmp (.var 2) [.Gt] (.cons (.var 1) .nil)) .nil)) .nil))) .nil)
/-- taller_behind(row, who): row, who, one -/
def D46_taller_behind : Def where
  np := 2
  ns := 3
  body := (.cons (.ret (.blt .len (.cons (.comp false (.var 2) [2] (.nm 2) (.val (.slc (.var 0) (.bin .Add (.call 44 (.cons (.var 0) (.cons (.var 1) .nil)) false) (.con (.int 1))) .emp)) (.cons (.cmp (.var 2) [.Gt] (.cons (.var 1) .nil)) .nil)) .nil))) .nil)
/-- floors_seeing(ahead, behind, houses): ahead, behind, houses, left, right, found, floor -/
def D47_floors_seeing : Def where
  np := 3
  ns := 7
  body := (.cons (.asg (.tup [(.nm 3), (.nm 4)]) (.var 2)) (.cons (.asg (.nm 5) (.comp false (.tup (.cons (.con (.str "left")) (.cons (.var 6) .nil))) [6] (.nm 6) (.val (.var 3)) (.cons (.cmp (.var 0) [.Lt] (.cons (.var 6) .nil)) .nil))) (.cons (.ret (.bin .Add (.var 5) (.comp false (.tup (.cons (.con (.str "right")) (.cons (.var 6) .nil))) [6] (.nm 6) (.val (.var 4)) (.cons (.cmp (.var 1) [.Lt] (.cons (.var 6) .nil)) .nil)))) .nil)))
/-- seeing(row, houses, who): row, houses, who -/
def D48_seeing : Def where
  np := 3
  ns := 3
  body := (.cons (.ret (.call 47 (.cons (.call 45 (.cons (.var 0) (.cons (.var 2) .nil)) false) (.cons (.call 46 (.cons (.var 0) (.cons (.var 2) .nil)) false) (.cons (.var 1) .nil))) false)) .nil)
/-- views_of(row, houses): row, houses, seen, who, found, side, floors, some, floor -/
def D49_views_of : Def where
  np := 2
  ns := 9
  body := (.cons (.asg (.nm 2) (.comp false (.tup (.cons (.var 3) (.cons (.call 48 (.cons (.var 0) (.cons (.var 1) (.cons (.var 3) .nil))) false) .nil))) [3] (.nm 3) (.val (.blt .sorted (.cons (.var 0) .nil))) .nil)) (.cons (.asg (.nm 4) (.new (.lst .nil))) (.cons (.for (.tup [(.nm 5), (.nm 6)]) (.zip (.tup (.cons (.con (.str "left")) (.cons (.con (.str "right")) .nil))) (.var 1) true) (.cons (.exp (.mth .append (.var 4) (.cons (.blt .tuple (.cons (.comp false (.blt .tuple (.cons (.comp false (.var 3) [3, 7] (.tup [(.nm 3), (.nm 7)]) (.val (.var 2)) (.cons (.cmp (.tup (.cons (.var 5) (.cons (.var 8) .nil))) [.In] (.cons (.var 7) .nil)) .nil)) .nil)) [8] (.nm 8) (.val (.var 6)) .nil) .nil)) .nil))) .nil)) (.cons (.ret (.tup (.cons (.idx (.var 4) (.con (.int 0))) (.cons (.idx (.var 4) (.con (.int 1))) .nil)))) .nil))))
/-- _law_pot(_law_script, _law_k): _law_script, _law_k, _law_cell -/
def D1_pot : Def where
  np := 2
  ns := 3
  body := (.cons (.asg (.nm 2) (.con (.int 0))) (.cons (.iff (.cmp (.var 1) [.Lt] (.cons (.blt .len (.cons (.var 0) .nil)) .nil)) (.cons (.asg (.nm 2) (.idx (.var 0) (.var 1))) .nil) .nil) (.cons (.ret (.new (.lst (.cons (.bin .Mult (.blt .abs (.cons (.var 2) .nil)) (.blt .int (.cons (.cmp (.blt .abs (.cons (.var 2) .nil)) [.GtE] (.cons (.bin .Pow (.con (.int 10)) (.con (.int 18))) .nil)) .nil))) (.cons (.bin .Mod (.bin .Mult (.bin .Add (.bin .Add (.bin .Mod (.var 2) (.con (.int 2147483587))) (.bin .Mult (.con (.int 104729)) (.var 1))) (.con (.int 29))) (.con (.int 40692))) (.con (.int 2147483399))) (.cons (.con (.int 0)) .nil)))))) .nil)))
/-- _law_take(_law_pot_here, _law_bound): _law_pot_here, _law_bound, _law_found, _law_once -/
def D2_take : Def where
  np := 2
  ns := 4
  body := (.cons (.iff (.cmp (.idx (.var 0) (.con (.int 0))) [.Gt] (.cons (.con (.int 0)) .nil)) (.cons (.asg (.nm 2) (.bin .Mod (.idx (.var 0) (.con (.int 0))) (.var 1))) (.cons (.set (.var 0) (.con (.int 0)) (.bin .FloorDiv (.idx (.var 0) (.con (.int 0))) (.var 1))) (.cons (.ret (.var 2)) .nil))) .nil) (.cons (.iff (.cmp (.var 1) [.Gt] (.cons (.bin .Pow (.con (.int 10)) (.con (.int 7))) .nil)) (.cons (.ret (.bin .Mod (.bin .Add (.call 2 (.cons (.var 0) (.cons (.bin .Pow (.con (.int 10)) (.con (.int 7))) .nil)) false) (.bin .Mult (.bin .Pow (.con (.int 10)) (.con (.int 7))) (.call 2 (.cons (.var 0) (.cons (.bin .Add (.bin .FloorDiv (.var 1) (.bin .Pow (.con (.int 10)) (.con (.int 7)))) (.con (.int 1))) .nil)) false))) (.var 1))) .nil) .nil) (.cons (.set (.var 0) (.con (.int 2)) (.bin .Add (.idx (.var 0) (.con (.int 2))) (.con (.int 1)))) (.cons (.asg (.nm 3) (.bin .Mod (.bin .Pow (.bin .Add (.idx (.var 0) (.con (.int 1))) (.bin .Mult (.con (.int 52774)) (.idx (.var 0) (.con (.int 2))))) (.con (.int 3))) (.con (.int 2147483563)))) (.cons (.ret (.bin .Mod (.bin .FloorDiv (.bin .Mod (.bin .Add (.bin .Mult (.var 3) (.bin .Add (.bin .Mod (.var 3) (.con (.int 40013))) (.con (.int 11)))) (.bin .Mult (.idx (.var 0) (.con (.int 2))) (.con (.int 6089)))) (.con (.int 2147483647))) (.con (.int 32))) (.var 1))) .nil)))))
/-- _law_pick(_law_pot_here, _law_some): _law_pot_here, _law_some -/
def D26_pick : Def where
  np := 2
  ns := 2
  body := (.cons (.ret (.idx (.var 1) (.call 2 (.cons (.var 0) (.cons (.blt .len (.cons (.var 1) .nil)) .nil)) false))) .nil)
/-- _law_tall(_law_pot_here, _law_count): _law_pot_here, _law_count, _law_gap, _law_level, _law_found, _law_k -/
def D27_tall : Def where
  np := 2
  ns := 6
  body := (.cons (.asg (.tup [(.nm 2), (.nm 3)]) (.tup (.cons (.call 26 (.cons (.var 0) (.cons (.lst (.cons (.con (.int 1)) (.cons (.con (.int 1)) (.cons (.con (.int 9)) (.cons (.bin .Pow (.con (.int 10)) (.con (.int 6))) .nil))))) .nil)) false) (.cons (.call 26 (.cons (.var 0) (.cons (.lst (.cons (.var 1) (.cons (.con (.int 100)) (.cons (.neg (.con (.int 5))) (.cons (.bin .Sub (.bin .Pow (.con (.int 10)) (.con (.int 9))) (.con (.int 40))) (.cons (.neg (.bin .Pow (.con (.int 10)) (.con (.int 8)))) .nil)))))) .nil)) false) .nil)))) (.cons (.asg (.nm 4) (.new (.lst .nil))) (.cons (.for (.nm 5) (.rng (.cons (.var 1) .nil)) (.cons (.exp (.mth .append (.var 4) (.cons (.var 3) .nil))) (.cons (.asg (.nm 3) (.bin .Sub (.bin .Sub (.var 3) (.con (.int 1))) (.call 2 (.cons (.var 0) (.cons (.var 2) .nil)) false))) .nil))) (.cons (.ret (.var 4)) .nil))))
/-- _law_strewn(_law_pot_here, _law_some): _law_pot_here, _law_some, _law_rest, _law_found -/
def D28_strewn : Def where
  np := 2
  ns := 4
  body := (.cons (.asg (.tup [(.nm 2), (.nm 3)]) (.tup (.cons (.new (.blt .list (.cons (.var 1) .nil))) (.cons (.new (.lst .nil)) .nil)))) (.cons (.whl (.cmp (.var 2) [.NotEq] (.cons (.lst .nil) .nil)) (.cons (.exp (.mth .append (.var 3) (.cons (.mth .popAt (.var 2) (.cons (.call 2 (.cons (.var 0) (.cons (.blt .len (.cons (.var 2) .nil)) .nil)) false) .nil)) .nil))) .nil)) (.cons (.ret (.var 3)) .nil)))
/-- _law_line(_law_pot_here, _law_count): _law_pot_here, _law_count -/
def D29_line : Def where
  np := 2
  ns := 2
  body := (.cons (.ret (.blt .tuple (.cons (.call 28 (.cons (.var 0) (.cons (.call 27 (.cons (.var 0) (.cons (.var 1) .nil)) false) .nil)) false) .nil))) .nil)
/-- _law_floors(_law_pot_here, _law_most): _law_pot_here, _law_most, _law_way, _law_found, _law_storey -/
def D5_floors : Def where
  np := 2
  ns := 5
  body := (.cons (.asg (.tup [(.nm 2), (.nm 3)]) (.tup (.cons (.call 2 (.cons (.var 0) (.cons (.con (.int 5)) .nil)) false) (.cons (.new (.lst .nil)) .nil)))) (.cons (.iff (.cmp (.var 2) [.Eq] (.cons (.con (.int 1)) .nil)) (.cons (.ret (.lst (.cons (.bin .Add (.con (.int 1)) (.call 2 (.cons (.var 0) (.cons (.var 1) .nil)) false)) .nil))) .nil) .nil) (.cons (.for (.nm 4) (.rng (.cons (.con (.int 1)) (.cons (.bin .Add (.var 1) (.con (.int 1))) .nil))) (.cons (.iff (.or (.cmp (.var 2) [.Eq] (.cons (.con (.int 4)) .nil)) (.cons (.and (.cmp (.var 2) [.Gt] (.cons (.con (.int 1)) .nil)) (.cons (.cmp (.call 2 (.cons (.var 0) (.cons (.var 2) .nil)) false) [.Eq] (.cons (.con (.int 0)) .nil)) .nil)) .nil)) (.cons (.exp (.mth .append (.var 3) (.cons (.var 4) .nil))) .nil) .nil) .nil)) (.cons (.ret (.var 3)) .nil))))
/-- _law_homes(_law_pot_here, _law_most): _law_pot_here, _law_most -/
def D6_homes : Def where
  np := 2
  ns := 2
  body := (.cons (.ret (.tup (.cons (.blt .tuple (.cons (.call 5 (.cons (.var 0) (.cons (.var 1) .nil)) false) .nil)) (.cons (.blt .tuple (.cons (.call 5 (.cons (.var 0) (.cons (.var 1) .nil)) false) .nil)) .nil)))) .nil)
/-- turned(row): row -/
def D54_turned : Def where
  np := 1
  ns := 1
  body := (.cons (.ret (.blt .tuple (.cons (.rev (.var 0)) .nil))) .nil)
/-- views(row, houses): row, houses -/
def D55_views : Def where
  np := 2
  ns := 2
  body := (.cons (.ret (.call 49 (.cons (.var 0) (.cons (.var 1) .nil)) false)) .nil)
/-- seen_by(row, houses, who): row, houses, who, found, left, side, floor -/
def D56_seen_by : Def where
  np := 3
  ns := 7
  body := (.cons (.asg (.nm 3) (.call 48 (.cons (.var 0) (.cons (.var 1) (.cons (.var 2) .nil))) false)) (.cons (.asg (.nm 4) (.blt .len (.cons (.comp false (.var 5) [5, 6] (.tup [(.nm 5), (.nm 6)]) (.val (.var 3)) (.cons (.cmp (.var 5) [.Eq] (.cons (.con (.str "left")) .nil)) .nil)) .nil))) (.cons (.ret (.tup (.cons (.var 4) (.cons (.bin .Sub (.blt .len (.cons (.var 3) .nil)) (.var 4)) .nil)))) .nil)))
/-- _law_spots(_law_line_here, _law_told): _law_line_here, _law_told, _law_found, _law_part, _law_soul, _law_some -/
def D57_spots : Def where
  np := 2
  ns := 6
  body := (.cons (.asg (.nm 2) (.new (.lst .nil))) (.cons (.for (.nm 3) (.val (.var 1)) (.cons (.exp (.mth .append (.var 2) (.cons (.comp false (.comp false (.blt .index (.cons (.var 0) (.cons (.var 4) .nil))) [4] (.nm 4) (.val (.var 5)) .nil) [5] (.nm 5) (.val (.var 3)) .nil) .nil))) .nil)) (.cons (.ret (.var 2)) .nil)))
/-- _law_right(_law_pot_here): _law_pot_here, _law_line_here, _law_homes_here, _law_told, _law_tall_here, _law_wing, _law_k, _law_storey, _law_soul, _law_lower, _law_wide -/
def D58_right : Def where
  np := 1
  ns := 11
  body := (.cons (.asg (.nm 1) (.call 29 (.cons (.var 0) (.cons (.bin .Add (.con (.int 1)) (.call 2 (.cons (.var 0) (.cons (.con (.int 24)) .nil)) false)) .nil)) false)) (.cons (.asg (.nm 2) (.call 6 (.cons (.var 0) (.cons (.con (.int 12)) .nil)) false)) (.cons (.asg (.nm 3) (.call 55 (.cons (.var 1) (.cons (.var 2) .nil)) false)) (.cons (.iff (.cmp (.call 55 (.cons (.call 54 (.cons (.var 1) .nil) false) (.cons (.tup (.cons (.idx (.var 2) (.con (.int 1))) (.cons (.idx (.var 2) (.con (.int 0))) .nil))) .nil)) false) [.NotEq] (.cons (.tup (.cons (.idx (.var 3) (.con (.int 1))) (.cons (.idx (.var 3) (.con (.int 0))) .nil))) .nil)) (.cons (.ret (.con (.bl false))) .nil) .nil) (.cons (.asg (.nm 4) (.rev (.blt .sorted (.cons (.var 1) .nil)))) (.cons (.for (.nm 5) (.val (.tup (.cons (.con (.int 0)) (.cons (.con (.int 1)) .nil)))) (.cons (.for (.tup [(.nm 6), (.nm 7)]) (.enu (.idx (.var 2) (.var 5))) (.cons (.iff (.nt (.blt .all (.cons (.comp false (.cmp (.var 8) [.In] (.cons (.idx (.idx (.var 3) (.var 5)) (.var 6)) .nil)) [8] (.nm 8) (.val (.slc (.var 4) .emp (.var 7))) .nil) .nil))) (.cons (.ret (.con (.bl false))) .nil) .nil) (.cons (.asg (.nm 9) (.ite (.cmp (.var 6) [.Gt] (.cons (.con (.int 0)) .nil)) (.idx (.idx (.var 3) (.var 5)) (.bin .Sub (.var 6) (.con (.int 1)))) (.tup .nil))) (.cons (.iff (.nt (.blt .all (.cons (.comp false (.cmp (.var 8) [.In] (.cons (.idx (.idx (.var 3) (.var 5)) (.var 6)) .nil)) [8] (.nm 8) (.val (.var 9)) .nil) .nil))) (.cons (.ret (.con (.bl false))) .nil) .nil) .nil)))) .nil)) (.cons (.iff (.cmp (.call 56 (.cons (.var 1) (.cons (.var 2) (.cons (.idx (.var 4) (.con (.int 0))) .nil))) false) [.NotEq] (.cons (.tup (.cons (.blt .len (.cons (.idx (.var 2) (.con (.int 0))) .nil)) (.cons (.blt .len (.cons (.idx (.var 2) (.con (.int 1))) .nil)) .nil))) .nil)) (.cons (.ret (.con (.bl false))) .nil) .nil) (.cons (.asg (.nm 10) (.blt .tuple (.cons (.comp false (.bin .Sub (.bin .Mult (.con (.int 3)) (.blt .index (.cons (.blt .sorted (.cons (.var 1) .nil)) (.cons (.var 8) .nil)))) (.con (.int 7))) [8] (.nm 8) (.val (.var 1)) .nil) .nil))) (.cons (.ret (.cmp (.call 57 (.cons (.var 1) (.cons (.var 3) .nil)) false) [.Eq] (.cons (.call 57 (.cons (.var 10) (.cons (.call 55 (.cons (.var 10) (.cons (.var 2) .nil)) false) .nil)) false) .nil))) .nil)))))))))
/-- law(_law_script): _law_script, _law_k, _law_pot_here, _law_turn -/
def D59_law : Def where
  np := 1
  ns := 4
  body := (.cons (.for (.nm 1) (.rng (.cons (.blt .max2 (.cons (.con (.int 1)) (.cons (.blt .min2 (.cons (.con (.int 3)) (.cons (.blt .len (.cons (.var 0) .nil)) .nil))) .nil))) .nil)) (.cons (.asg (.nm 2) (.call 1 (.cons (.var 0) (.cons (.var 1) .nil)) true)) (.cons (.iff (.nt (.blt .all (.cons (.comp false (.call 58 (.cons (.var 2) .nil) false) [3] (.nm 3) (.rng (.cons (.con (.int 3)) .nil)) .nil) .nil))) (.cons (.ret (.con (.bl false))) .nil) .nil) .nil))) (.cons (.ret (.con (.bl true))) .nil))
/-- which arguments are changed -/
def IO : Nat → Nat → Bool
  | 2, 0 => true
  | 5, 0 => true
  | 6, 0 => true
  | 7, 0 => true
  | 9, 0 => true
  | 26, 0 => true
  | 27, 0 => true
  | 28, 0 => true
  | 29, 0 => true
  | 41, 0 => true
  | 52, 0 => true
  | 58, 0 => true
  | 68, 0 => true
  | 77, 0 => true
  | 85, 0 => true
  | 96, 0 => true
  | 98, 0 => true
  | 117, 0 => true
  | 118, 0 => true
  | 131, 2 => true
  | 131, 3 => true
  | 151, 0 => true
  | 152, 0 => true
  | 220, 0 => true
  | 222, 0 => true
  | 225, 0 => true
  | 228, 0 => true
  | 233, 0 => true
  | 241, 0 => true
  | 251, 0 => true
  | 254, 0 => true
  | 324, 0 => true
  | 327, 0 => true
  | 330, 0 => true
  | 336, 0 => true
  | 339, 0 => true
  | 342, 0 => true
  | 348, 0 => true
  | 358, 0 => true
  | 363, 0 => true
  | _, _ => false
end MP
set_option Elab.async false
set_option linter.all false
/-! MPV: small steps for the stepper. -/
namespace MP
theorem ex_p {v : Val} {P : Val → Prop} (h : P v) : ∃ y, Sl.p v = .p y ∧ P y := ⟨v, rfl, h⟩
theorem ex_pi {i : Int} {P : Int → Prop} (h : P i) : ∃ y, Sl.p (.int i) = .p (.int y) ∧ P y := ⟨i, rfl, h⟩
theorem ex_vi {i : Int} {P : Int → Prop} (h : P i) : ∃ y, (Sl.p (.int i)).val = .int y ∧ P y := ⟨i, rfl, h⟩
theorem ex_vi2 {i : Int} {P : Int → Prop} (h : P i) : ∃ y, (Sl.p (Cst.int i).val).val = .int y ∧ P y := ⟨i, rfl, h⟩
theorem ex_pi2 {i : Int} {P : Int → Prop} (h : P i) : ∃ y, Sl.p (Cst.int i).val = .p (.int y) ∧ P y := ⟨i, rfl, h⟩
theorem ex_pl {xs : List Val} {P : List Val → Prop} (h : P xs) : ∃ y, Sl.p (.lst xs) = .p (.lst y) ∧ P y := ⟨xs, rfl, h⟩
theorem cEq {a b : Int} : cop .Eq (.int a) (.int b) = some (decide (a = b)) := by
  simp [cop, Val.cmpOk, Val.data, Val.deep, Val.eqv]
  by_cases h : a = b <;> simp [h]
theorem cNe {a b : Int} : cop .NotEq (.int a) (.int b) = some (!decide (a = b)) := by
  simp [cop, Val.cmpOk, Val.data, Val.deep, Val.eqv]
  by_cases h : a = b <;> simp [h]
theorem wO_mod {i j : Int} {k : Val → Prop} (hj : 0 < j) (h : k (.int (i % j))) : wO (bop .Mod (.int i) (.int j)) k := by
  unfold wO
  simp only [bop, bMod, hj, decide_true, if_true]
  exact h
theorem wO_div {i j : Int} {k : Val → Prop} (hj : 0 < j ∧ j < 2 ^ 200) (h : k (.int (i / j))) : wO (bop .FloorDiv (.int i) (.int j)) k := by
  unfold wO
  simp only [bop, bDiv, hj, and_self, decide_true, if_true]
  exact h
theorem wO_mul {i j : Int} {k : Val → Prop} (hj : (smallI i || smallI j) = true) (h : k (.int (i * j))) : wO (bop .Mult (.int i) (.int j)) k := by
  unfold wO
  simp only [bop, bMul, hj, if_true]
  exact h
theorem wO_pow {i j : Int} {k : Val → Prop} (hj : 0 ≤ j ∧ j ≤ 1000000 ∧ i.natAbs < 2 ^ 64) (h : k (.int (i ^ j.toNat))) : wO (bop .Pow (.int i) (.int j)) k := by
  unfold wO
  simp only [bop, bPow, hj, and_self, decide_true, if_true]
  exact h
theorem wO_atL {xs : List Val} {i : Int} {j : Nat} {v : Val} {k : Val → Prop} (hi : ixN xs.length i = some j) (hv : xs[j]? = some v) (h : k v) : wO (idx (.lst xs) (.int i)) k := by
  unfold wO
  simp only [idx, atV, hi, Option.bind_some, hv]
  exact h
theorem wO_atT {xs : List Val} {i : Int} {j : Nat} {v : Val} {k : Val → Prop} (hi : ixN xs.length i = some j) (hv : xs[j]? = some v) (h : k v) : wO (idx (.tup xs) (.int i)) k := by
  unfold wO
  simp only [idx, atV, hi, Option.bind_some, hv]
  exact h
theorem ixN_nat {n : Nat} {i : Int} (h0 : 0 ≤ i) (h1 : i < n) : ixN n i = some i.toNat := by
  unfold ixN
  rw [if_pos h0, if_pos h1]
theorem chks_nil {ρ : PEnv} : chks .nil [] ρ = true := rfl
theorem chks_cons {e : E} {r : Es} {v : Val} {vs : List Val} {ρ : PEnv} (h : chk e v ρ = true) (h' : chks r vs ρ = true) : chks (.cons e r) (v :: vs) ρ = true := by
  show (chk e v ρ && chks r vs ρ) = true
  rw [h, h']
  rfl
section
variable {G : Prog} {io : Nat → Nat → Bool} {k f : Nat} {as : List PArg} {ss outs : List Sl} {al : Bool} {v : Val} {ρ ρ' : PEnv} {kk : Sl → PEnv → Prop} {kx : KX}
theorem w_pc (e : callP G io k f ss al = .ok (.p v) outs) (h1 : apart as = true) (h2 : argsS ρ as = some ss) (h4 : backS as outs ρ = some ρ') (h : kk (.p v) ρ') : wR (pcall (pctx G io (callP G io k)) f as al ρ) kk kx :=
  w_pcall h1 h2 e h4 h
theorem w_pcO (e : callP G io k f ss true = .ok (.o true v) outs) (h1 : apart as = true) (h2 : argsS ρ as = some ss) (h4 : backS as outs ρ = some ρ') (h : kk (.o true v) ρ') : wR (pcall (pctx G io (callP G io k)) f as true ρ) kk kx :=
  w_pcallO h1 h2 e h4 h
end
/-- a call that ends in a clean value, told behind -/
theorem call_ex {G : Prog} {io : Nat → Nat → Bool} {k f : Nat} {d : Def} {ss : List Sl} {al : Bool} {Q : Val → List Sl → Prop} (hG : G.defs f = some d) (hl : ss.length = d.np)
    (h : wS (pss (pctx G io (callP G io k)) d.body (ss.map some ++ List.replicate (d.ns - d.np) none)) (fun ρ => Q .non (outS ss ρ)) (fun s ρ => ∃ v, Rets al v s ∧ Q v (outS ss ρ)) fun _ _ _ => False) :
    ∃ v outs, Q v outs ∧ callP G io (k + 1) f ss al = .ok (.p v) outs := by
  have e : callP G io (k + 1) f ss al = (match G.defs f with
    | some d => if ss.length = d.np then exitP al (runP (pctx G io (callP G io k)) d ss) else .stuck
    | none => .stuck) := rfl
  rw [e, hG]
  dsimp only
  rw [if_pos hl]
  unfold runP
  generalize pss (pctx G io (callP G io k)) d.body (ss.map some ++ List.replicate (d.ns - d.np) none) = z at h
  cases z with
  | stuck => exact h.elim
  | exc _ _ _ => exact h.elim
  | nxt ρ => exact ⟨_, _, h, rfl⟩
  | ret s ρ =>
    obtain ⟨v, h1, h2⟩ := h
    refine ⟨v, _, h2, ?_⟩
    cases h1 <;> rfl
theorem call_exO {G : Prog} {io : Nat → Nat → Bool} {k f : Nat} {d : Def} {ss : List Sl} {Q : Val → List Sl → Prop} (hG : G.defs f = some d) (hl : ss.length = d.np)
    (h : wS (pss (pctx G io (callP G io k)) d.body (ss.map some ++ List.replicate (d.ns - d.np) none)) (fun ρ => False) (fun s ρ => ∃ v, (s = .r true v ∨ s = .o true v) ∧ Q v (outS ss ρ)) fun _ _ _ => False) :
    ∃ v outs, Q v outs ∧ callP G io (k + 1) f ss true = .ok (.o true v) outs := by
  have e : callP G io (k + 1) f ss true = (match G.defs f with
    | some d => if ss.length = d.np then exitP true (runP (pctx G io (callP G io k)) d ss) else .stuck
    | none => .stuck) := rfl
  rw [e, hG]
  dsimp only
  rw [if_pos hl]
  unfold runP
  generalize pss (pctx G io (callP G io k)) d.body (ss.map some ++ List.replicate (d.ns - d.np) none) = z at h
  cases z with
  | stuck => exact h.elim
  | exc _ _ _ => exact h.elim
  | nxt ρ => exact h.elim
  | ret s ρ =>
    obtain ⟨v, h1, h2⟩ := h
    refine ⟨v, _, h2, ?_⟩
    rcases h1 with rfl | rfl <;> rfl
theorem rngL_map : ∀ (n : Nat) (lo : Int), rngL lo n = (List.range' 0 n).map fun (i : Nat) => Val.int (lo + (i : Int))
  | 0, _ => rfl
  | n + 1, lo => by
    rw [rngL, rngL_map n (lo + 1), List.range'_succ, List.map_cons]
    refine congr (congrArg _ (by simp)) ?_
    rw [show (0 : Nat) + 1 = 1 from rfl, show List.range' 1 n = (List.range' 0 n).map (· + 1) from by
      refine List.ext_getElem (by simp) fun i h1 h2 => ?_
      simp
      omega]
    rw [List.map_map]
    refine List.map_congr_left fun a _ => ?_
    simp only [Function.comp, Val.int.injEq]
    omega
theorem wO_rng1 {j : Int} {k : List Val → Prop} (h0 : -(2 ^ 62) ≤ j ∧ j < 2 ^ 62) (h : k ((List.range' 0 j.toNat).map fun (i : Nat) => Val.int (i : Int))) : wO (rng [.int j]) k := by
  unfold wO
  have : rng62 j = true := by unfold rng62; exact decide_eq_true h0
  simp only [rng, this, if_true]
  rw [rngL_map]
  simpa using h
/-- a range of a sum or a difference is left alone by the stepper -/
inductive RngHold (j : Int) (k : List Val → Prop) : Prop where
  | a (it : wO (rng [.int j]) k)
  | b (it : wO (rng [.int j]) k)
theorem RngHold.it {j : Int} {k : List Val → Prop} (h : RngHold j k) : wO (rng [.int j]) k := by
  cases h <;> assumption
theorem wO_rngA {i j : Int} {k : List Val → Prop} (h : RngHold (i + j) k) : wO (rng [.int (i + j)]) k := h.it
theorem wO_rngS {i j : Int} {k : List Val → Prop} (h : RngHold (i - j) k) : wO (rng [.int (i - j)]) k := h.it
theorem wO_rng2 {i j : Int} {k : List Val → Prop} (h0 : -(2 ^ 62) ≤ i ∧ i < 2 ^ 62) (h1 : -(2 ^ 62) ≤ j ∧ j < 2 ^ 62) (h : k ((List.range' 0 (j - i).toNat).map fun (n : Nat) => Val.int (i + (n : Int)))) : wO (rng [.int i, .int j]) k := by
  unfold wO
  have a1 : rng62 i = true := by unfold rng62; exact decide_eq_true h0
  have a2 : rng62 j = true := by unfold rng62; exact decide_eq_true h1
  simp only [rng, a1, a2, Bool.and_self, if_true]
  rw [rngL_map]
  exact h
theorem ex_own {ρ : PEnv} {n : Nat} {l : Bool} {v : Val} {P : Bool → Val → Prop} (e : ρ[n]? = some (some (.o l v))) (h : P l v) : ∃ l u, ρ[n]? = some (some (.o l u)) ∧ P l u := ⟨l, v, e, h⟩
theorem wO_app {xs : List Val} {v : Val} {k : Val × Val → Prop} (hl : xs.length < LINE) (h : k (.non, .lst (xs ++ [v]))) : wO (mthV .append (.lst xs) [v]) k := by
  unfold wO
  simp only [mthV, hl, if_true]
  exact h
theorem wO_popAt {xs : List Val} {i : Int} {k : Val × Val → Prop} (h0 : 0 ≤ i) (h1 : i < xs.length) (hl : xs.length < 1000000) (h : ∀ y, xs[i.toNat]? = some y → k (y, .lst (xs.eraseIdx i.toNat))) : wO (mthV .popAt (.lst xs) [.int i]) k := by
  have hi : i.toNat < xs.length := by omega
  unfold wO
  have e : xs[i.toNat]? = some xs[i.toNat] := List.getElem?_eq_getElem hi
  have s : small63 i = true := by unfold small63; exact decide_eq_true (by omega)
  simp only [mthV, ixN_nat h0 h1, e, s, if_true]
  exact h _ e
theorem wO_neL {xs : List Val} {k : Bool → Prop} (hx : (Val.lst xs).cmpOk = true) (h : k (!xs.isEmpty)) : wO (cop .NotEq (.lst xs) (.lst [])) k := by
  unfold wO
  have e : (Val.lst []).cmpOk = true := by decide
  simp only [cop, hx, e, Bool.and_self, if_true]
  cases xs <;> exact h
theorem cmp_ints : ∀ xs : List Int, (Val.lst (xs.map .int)).cmpOk = true := fun xs => by
  have h1 : dataL (xs.map Val.int) = true := by
    induction xs with
    | nil => rfl
    | cons x xs ih => simp only [List.map_cons, dataL, Val.data, ih, Bool.and_self]
  have h2 : deepL (xs.map Val.int) = 0 := by
    induction xs with
    | nil => rfl
    | cons x xs ih =>
      have h1' : dataL (xs.map Val.int) = true := by
        simp only [List.map_cons, dataL, Val.data, Bool.true_and] at h1
        exact h1
      simp only [List.map_cons, deepL, Val.deep, ih h1']
      rfl
  unfold Val.cmpOk
  simp only [Val.data, Val.deep, h1, h2]
  decide
theorem wO_list {x : Val} {xs : List Val} {k : Val → Prop} (hx : seqOf x = some xs) (h : k (.lst xs)) : wO (blt .list [x]) k := by
  unfold wO
  simp only [blt, hx, Option.map_some]
  exact h
theorem intsOf_of : ∀ xs : List Int, intsOf (xs.map .int) = some xs
  | [] => rfl
  | x :: xs => by simp only [List.map_cons, intsOf, intsOf_of xs, Option.map_some]
theorem wO_sorted {x : Val} {xs : List Int} {k : Val → Prop} (hx : seqOf x = some (xs.map .int)) (h : k (.lst ((isort xs).map .int))) : wO (blt .sorted [x]) k := by
  unfold wO
  simp only [blt, hx, Option.bind_some, intsOf_of]
  exact h
theorem wO_iter {x : Val} {xs : List Val} {k : List Val → Prop} (hx : seqOf x = some xs) (h : k xs) : wO (iterOf x) k := by
  cases x <;> simp only [seqOf, Option.some.injEq, reduceCtorEq] at hx <;> subst hx <;> exact h
theorem eraseIdx_mapV {α β : Type} (f : α → β) : ∀ (l : List α) (i : Nat), (l.map f).eraseIdx i = (l.eraseIdx i).map f
  | [], _ => rfl
  | _ :: _, 0 => rfl
  | a :: l, i + 1 => by simp only [List.map_cons, List.eraseIdx_cons_succ, eraseIdx_mapV f l i]
theorem perm_erase {α : Type} : ∀ (l : List α) (i : Nat) (y : α), l[i]? = some y → (y :: l.eraseIdx i).Perm l
  | [], _, _, h => by simp at h
  | a :: l, 0, y, h => by simp at h; subst h; exact .refl _
  | a :: l, i + 1, y, h => by
    rw [List.getElem?_cons_succ] at h
    exact (List.Perm.swap a y _).trans ((perm_erase l i y h).cons a)
theorem range_at {N a : Nat} {d r : List Nat} (e : List.range' 0 N = d ++ a :: r) : a = d.length ∧ d.length + (r.length + 1) = N := by
  have h1 := congrArg List.length e
  simp at h1
  have h2 := congrArg (fun l => l[d.length]?) e
  simp only [List.getElem?_append_right (Nat.le_refl _), Nat.sub_self, List.getElem?_cons_zero] at h2
  rw [List.getElem?_range' (by omega)] at h2
  simp at h2
  omega
section
variable {f : Val → PEnv → PRs} {kn : PEnv → Prop} {kr : Sl → PEnv → Prop} {kx : KX} {ρ : PEnv}
theorem w_lp0 (h : kn ρ) : wS (ploop f [] ρ) kn kr kx := h
theorem w_lp1 {v : Val} {vs : List Val} (h : wS (f v ρ) (fun ρ => wS (ploop f vs ρ) kn kr kx) kr kx) : wS (ploop f (v :: vs) ρ) kn kr kx := by
  rw [ploop]
  cases e : f v ρ with
  | nxt ρ1 => rw [e] at h; exact h
  | ret s ρ1 => rw [e] at h; exact h
  | exc c fs ρ1 => rw [e] at h; exact h
  | stuck => rw [e] at h; exact h
end
theorem views1 {e : E} {v : Val} {ρ : PEnv} (h : chk e v ρ = true) : views [(e, v)] ρ = true := by
  simp only [views, h, Bool.and_self]
theorem wO_slcTo {x : Val} {xs : List Val} {p : Int} {k : Val → Prop} (hx : seqOf x = some xs) (h0 : 0 ≤ p) (h1 : p ≤ xs.length) (h : ∀ y, seqOf y = some (xs.take p.toNat) → k y) : wO (slc x none (some p)) k := by
  have e : cutL xs none (some p) = xs.take p.toNat := by
    have e1 : sIx xs.length xs.length (some p) = p.toNat := by
      show (if p < 0 then _ else _) = _
      rw [if_neg (by omega), Nat.min_eq_left (by omega)]
    have e2 : sIx xs.length 0 none = 0 := rfl
    unfold cutL
    rw [e1, e2, List.drop_zero, Nat.sub_zero]
  cases x <;> simp only [seqOf, Option.some.injEq, reduceCtorEq] at hx <;> subst hx
  · exact h _ (by simp only [seqOf, e])
  · exact h _ (by simp only [seqOf, e])
theorem wO_slcFrom {x : Val} {xs : List Val} {p : Int} {k : Val → Prop} (hx : seqOf x = some xs) (h0 : 0 ≤ p) (h1 : p ≤ xs.length) (h : ∀ y, seqOf y = some (xs.drop p.toNat) → k y) : wO (slc x (some p) none) k := by
  have e : cutL xs (some p) none = xs.drop p.toNat := by
    have e1 : sIx xs.length 0 (some p) = p.toNat := by
      show (if p < 0 then _ else _) = _
      rw [if_neg (by omega), Nat.min_eq_left (by omega)]
    have e2 : sIx xs.length xs.length none = xs.length := rfl
    unfold cutL
    rw [e1, e2, List.take_of_length_le (by simp)]
  cases x <;> simp only [seqOf, Option.some.injEq, reduceCtorEq] at hx <;> subst hx
  · exact h _ (by simp only [seqOf, e])
  · exact h _ (by simp only [seqOf, e])
theorem wO_bind2 {x a b : Val} {i j : Nat} {ρ : PEnv} {k : PEnv → Prop} (hx : seqOf x = some [a, b]) (hi : inB i ρ = true) (hj : inB j (ρ.set i (some (.p a))) = true) (h : k ((ρ.set i (some (.p a))).set j (some (.p b)))) : wO (bindP (.tup [.nm i, .nm j]) x ρ) k := by
  have inb : ∀ (i : Nat) (ρ : PEnv), inB i ρ = true → i < ρ.length := by
    intro i
    induction i with
    | zero => intro ρ h; cases ρ <;> simp [inB] at h ⊢
    | succ i ih => intro ρ h; cases ρ with
      | nil => simp [inB] at h
      | cons a ρ => have := ih ρ (by simpa [inB] using h); simp; omega
  have hi := inb i ρ hi
  have hj := inb j _ hj
  unfold wO
  cases x <;> simp only [seqOf, Option.some.injEq, reduceCtorEq] at hx <;> subst hx <;> (simp only [bindP, bindPs, if_pos hi, Option.bind_some, if_pos hj]; exact h)
theorem enuL_zipIdx : ∀ (xs : List Int) (n : Nat), enuL (n : Int) (xs.map .int) = (xs.zipIdx n).map fun p => Val.tup [.int (p.2 : Int), .int p.1]
  | [], _ => rfl
  | x :: xs, n => by
    rw [List.map_cons, enuL, List.zipIdx_cons, List.map_cons]
    have := enuL_zipIdx xs (n + 1)
    rw [← this]
    simp
theorem wO_enu {x : Val} {xs : List Int} {k : List Val → Prop} (hx : seqOf x = some (xs.map .int)) (h : k (xs.map .int)) : wO (seqOf x) k := by
  rw [hx]
  exact h
theorem wO_eqNil {xs : List Int} {k : Bool → Prop} (h : k xs.isEmpty) : wO (cop .Eq (.lst (xs.map .int)) (.lst [])) k := by
  unfold wO
  have e : (Val.lst []).cmpOk = true := by decide
  simp only [cop, cmp_ints xs, e, Bool.and_self, if_true]
  cases xs <;> exact h
theorem w_ift {A B : Prop} (h : A) : if true = true then A else B := by rw [if_pos rfl]; exact h
theorem w_ifn {A B : Prop} (h : B) : if false = true then A else B := by rw [if_neg (by decide)]; exact h
theorem w_ifc {c : Bool} {A B : Prop} (hc : c = true) (h : A) : if c = true then A else B := by rw [if_pos hc]; exact h
theorem w_ifd {c : Bool} {A B : Prop} (hc : c = false) (h : B) : if c = true then A else B := by rw [hc, if_neg (by decide)]; exact h
/-- a comprehension of truths whose turns change what it walks beside -/
theorem w_inv {f : Val → PEnv → PR (Option Val)} {w : PEnv → Bool} {k : List Val → PEnv → Prop} {kx : KX} {ρ : PEnv} {α : Type} (enc : α → Val) (P : Nat → PEnv → Prop) {xs : List α} (h0 : P xs.length ρ)
    (hs : ∀ a ∈ xs, ∀ n ρ, P (n + 1) ρ → ∃ ρ', f (enc a) ρ = .ok (some (.bl true)) ρ' ∧ w ρ' = true ∧ P n ρ') (hd : ∀ ρ, P 0 ρ → k (xs.map fun _ => Val.bl true) ρ) : wR (pcompL f w (xs.map enc) ρ) k kx := by
  have key : ∀ (xs : List α) (ρ : PEnv), P xs.length ρ → (∀ a ∈ xs, ∀ n ρ, P (n + 1) ρ → ∃ ρ', f (enc a) ρ = .ok (some (.bl true)) ρ' ∧ w ρ' = true ∧ P n ρ') → ∃ ρ', pcompL f w (xs.map enc) ρ = .ok (xs.map fun _ => Val.bl true) ρ' ∧ P 0 ρ' := by
    intro xs
    induction xs with
    | nil => intro ρ h _; exact ⟨ρ, rfl, h⟩
    | cons a xs ih =>
      intro ρ h hs
      obtain ⟨ρ1, e1, e2, e3⟩ := hs a List.mem_cons_self _ ρ h
      obtain ⟨ρ2, e4, e5⟩ := ih ρ1 e3 fun b hb => hs b (List.mem_cons_of_mem _ hb)
      refine ⟨ρ2, ?_, e5⟩
      rw [List.map_cons, pcompL, e1]
      show (if w ρ1 = true then _ else _) = _
      rw [if_pos e2, e4]
      rfl
  obtain ⟨ρ', e, h⟩ := key xs ρ h0 hs
  rw [e]
  exact hd ρ' h
end MP
set_option Elab.async false
set_option linter.all false
set_option maxRecDepth 100000
set_option maxHeartbeats 1000000
/-! MPA: what is drawn. -/
namespace MP
local macro_rules | `(tactic| array_get_dec) => `(tactic| (repeat (first
    | ((with_reducible apply w_env); · simp only [List.set_cons_succ, List.set_cons_zero]; exact rfl)
    | with_reducible refine w_cons ?_
    | with_reducible refine w_nil ?_
    | ((with_reducible apply w_varP); exact rfl)
    | ((with_reducible apply w_varT); exact rfl)
    | ((with_reducible apply w_varR); exact rfl)
    | with_reducible refine w_con ?_
    | with_reducible refine w_asgs ?_
    | with_reducible refine w_asg ?_
    | ((with_reducible apply w_asgt); exact rfl)
    | with_reducible refine w_asgx ?_
    | with_reducible refine w_ret ?_
    | with_reducible refine w_iff ?_
    | with_reducible refine w_bin ?_
    | with_reducible refine w_cmp ?_
    | with_reducible refine w_cmp1 ?_
    | with_reducible refine w_cmp2 ?_
    | with_reducible refine w_idx ?_
    | with_reducible refine w_call ?_
    | with_reducible refine w_callk ?_
    | with_reducible refine w_as0 ?_
    | with_reducible refine w_asV ?_
    | ((with_reducible apply w_asE); exact rfl)
    | ((with_reducible apply w_aio); exact rfl; exact rfl)
    | ((with_reducible apply w_aP); exact rfl; exact rfl)
    | ((with_reducible apply w_aR); exact rfl; exact rfl)
    | ((with_reducible apply w_aO); exact rfl; exact rfl)
    | with_reducible refine w_eP ?_
    | with_reducible refine w_eR ?_
    | ((with_reducible apply w_eO); exact rfl)
    | with_reducible refine w_blt ?_
    | with_reducible refine w_es0 ?_
    | with_reducible refine w_es1 ?_
    | with_reducible refine w_os0 ?_
    | with_reducible refine w_os1 ?_
    | with_reducible refine w_tup ?_
    | with_reducible refine w_lst ?_
    | with_reducible refine w_new ?_
    | with_reducible refine w_neg ?_
    | with_reducible refine w_nt ?_
    | with_reducible refine w_and ?_
    | with_reducible refine w_or ?_
    | with_reducible refine w_and0 ?_
    | with_reducible refine w_or0 ?_
    | with_reducible refine w_and1 ?_
    | with_reducible refine w_or1 ?_
    | with_reducible refine w_ite ?_
    | with_reducible refine w_slc ?_
    | with_reducible refine w_part0 ?_
    | ((with_reducible apply w_part1); exact rfl)
    | with_reducible refine w_rev ?_
    | with_reducible refine w_isi ?_
    | with_reducible refine w_comp ?_
    | with_reducible refine w_cd0 ?_
    | with_reducible refine w_cd1 ?_
    | with_reducible refine w_itV ?_
    | with_reducible refine w_itE ?_
    | with_reducible refine w_itR ?_
    | with_reducible refine w_itZ ?_
    | with_reducible refine w_itI ?_
    | with_reducible refine w_ift ?_
    | with_reducible refine w_ifn ?_
    | with_reducible refine w_lp0 ?_
    | with_reducible refine w_lp1 ?_
    | with_reducible refine w_for ?_
    | with_reducible refine w_exp ?_
    | ((with_reducible apply w_mth); exact rfl; exact rfl)
    | ((with_reducible apply w_set); exact rfl)
    | ((with_reducible apply w_sets); exact rfl)
    | with_reducible refine w_retn ?_
    | with_reducible refine w_pass ?_
    | with_reducible refine w_raise ?_
    | with_reducible refine w_try ?_
    | with_reducible refine w_h0 ?_
    | with_reducible refine w_fld ?_
    | with_reducible refine w_dict ?_
    | ((with_reducible apply ex_own); exact rfl)
    | with_reducible refine ex_p ?_
    | with_reducible refine ex_pi ?_
    | with_reducible refine ex_vi ?_
    | with_reducible refine ex_vi2 ?_
    | with_reducible refine ex_pi2 ?_
    | with_reducible refine ex_pl ?_
    | ((with_reducible apply wO_some); exact cEq)
    | ((with_reducible apply wO_some); exact cNe)
    | ((with_reducible apply wO_some); exact pcop_eq _ _)
    | ((with_reducible apply wO_some); exact pcop_ne _ _)
    | ((with_reducible apply wO_some); exact tru_int _)
    | with_reducible refine wO_rngA ?_
    | with_reducible refine wO_rngS ?_
    | ((with_reducible apply wO_some); exact rfl)
    | ((with_reducible refine ⟨_, ?_, ?_, ?_⟩); exact rfl; exact rfl)
    | ((with_reducible refine ⟨_, ?_, ?_, ?_⟩); exact rfl; exact same_self _)
    | ((with_reducible refine ⟨_, ?_, ?_⟩); exact rfl)
    | ((with_reducible refine ⟨?_, ?_⟩); exact chk_var rfl rfl)
    | ((with_reducible refine ⟨?_, ?_⟩); ((repeat (first | refine chks_cons (chk_var rfl rfl) ?_ | refine chks_cons rfl ?_)); exact chks_nil))
    | ((with_reducible refine ⟨?_, ?_⟩); exact rfl)
    | ((with_reducible refine ⟨_, _, ?_, ?_⟩); exact rfl)
    | ((with_reducible apply w_varO); exact rfl)
    | ((with_reducible apply w_ifc); exact rfl)
    | ((with_reducible apply w_ifd); exact rfl)
    | exact ⟨.p, rfl⟩
    | exact ⟨.r, rfl⟩
    | exact ⟨.o, rfl⟩)))
variable {G : Prog}
/-- a pot: what it may still grow -/
def PotOk (n : Nat) (v : Val) : Prop := ∃ a b c : Int, v = .lst [.int a, .int b, .int c] ∧ 0 ≤ a ∧ 0 ≤ b ∧ b < 2147483399 ∧ 0 ≤ c ∧ c + n ≤ 1000000000
theorem PotOk.less {n m : Nat} {v : Val} (h : PotOk n v) (hm : m ≤ n) : PotOk m v := by
  obtain ⟨a, b, c, rfl, h1, h2, h3, h4, h5⟩ := h
  exact ⟨a, b, c, rfl, h1, h2, h3, h4, by omega⟩
theorem take1 {k n : Nat} {v : Val} {bd : Int} (hG : G.defs 2 = some D2_take) (hp : PotOk (n + 1) v) (h1 : 0 < bd) (h2 : bd ≤ 10000000) :
    ∃ r v', 0 ≤ r ∧ r < bd ∧ PotOk n v' ∧ callP G IO (k + 1) 2 [.o false v, .p (.int bd)] false = .ok (.p (.int r)) [.o false v', .p .non] := by
  obtain ⟨a, b, c, rfl, ha, hb, hb2, hc, hc2⟩ := hp
  by_cases h : 0 < a
  · refine ⟨a % bd, .lst [.int (a / bd), .int b, .int c], Int.emod_nonneg _ (by omega), Int.emod_lt_of_pos _ h1, ⟨_, _, _, rfl, Int.ediv_nonneg ha (by omega), hb, hb2, hc, by omega⟩, ?_⟩
    refine call_ok hG rfl ?_
    simp only [D2_take, List.map_cons, List.map_nil, Nat.reduceSub, List.replicate_succ, List.replicate_zero, List.cons_append, List.nil_append]
    array_get_dec
    rw [if_pos (decide_eq_true h)]
    array_get_dec
    refine wO_mod h1 ?_
    array_get_dec
    refine wO_div ⟨h1, by omega⟩ ?_
    array_get_dec
  · obtain ⟨r, hr⟩ : ∃ r : Int, r = ((b + 52774 * (c + 1)) ^ 3 % 2147483563 * ((b + 52774 * (c + 1)) ^ 3 % 2147483563 % 40013 + 11) + (c + 1) * 6089) % 2147483647 / 32 := ⟨_, rfl⟩
    refine ⟨r % bd, .lst [.int a, .int b, .int (c + 1)], Int.emod_nonneg _ (by omega), Int.emod_lt_of_pos _ h1, ⟨_, _, _, rfl, ha, hb, hb2, by omega, by omega⟩, ?_⟩
    refine call_ok hG rfl ?_
    simp only [D2_take, List.map_cons, List.map_nil, Nat.reduceSub, List.replicate_succ, List.replicate_zero, List.cons_append, List.nil_append]
    array_get_dec
    rw [if_neg (by simpa using h)]
    array_get_dec
    have h7 : (10 : Int) ^ Int.toNat 7 = 10000000 := by decide
    rw [if_neg (by rw [h7]; simp; omega)]
    array_get_dec
    refine wO_pow (i := b + 52774 * (c + 1)) (j := 3) ⟨by decide, by decide, by omega⟩ ?_
    array_get_dec
    have h3 : Int.toNat 3 = 3 := by decide
    obtain ⟨o, ho⟩ : ∃ o : Int, o = (b + 52774 * (c + 1)) ^ Int.toNat 3 % 2147483563 := ⟨_, rfl⟩
    rw [h3] at ho
    rw [← ho] at hr
    have o1 : 0 ≤ o := by omega
    have o2 : o < 2147483563 := by omega
    rw [h3, ← ho]
    refine wO_mul (i := o) (j := o % 40013 + 11) (by
      rw [Bool.or_eq_true]
      right
      unfold smallI
      exact decide_eq_true (by omega)) ?_
    array_get_dec
    refine wO_mul (i := c + 1) (j := 6089) (by rw [Bool.or_eq_true]; right; decide) ?_
    array_get_dec
    rw [← hr]
    refine wO_mod h1 ?_
    array_get_dec
theorem pick1 {k n : Nat} {v : Val} {xs : List Val} (h2 : G.defs 2 = some D2_take) (h26 : G.defs 26 = some D26_pick) (hp : PotOk (n + 1) v) (h0 : xs ≠ []) (hl : xs.length ≤ 10000000) :
    ∃ x v', x ∈ xs ∧ PotOk n v' ∧ callP G IO (k + 2) 26 [.o false v, .p (.lst xs)] false = .ok (.p x) [.o false v', .p .non] := by
  have hl0 : 0 < xs.length := List.length_pos_iff.mpr h0
  obtain ⟨r, v', r0, r1, hp', e⟩ := take1 (G := G) (k := k) (bd := xs.length) h2 hp (by omega) (by omega)
  have hr : r.toNat < xs.length := by omega
  refine ⟨xs[r.toNat], v', List.getElem_mem hr, hp', ?_⟩
  refine call_ok h26 rfl ?_
  simp only [D26_pick, List.map_cons, List.map_nil, Nat.reduceSub, List.replicate_succ, List.replicate_zero, List.cons_append, List.nil_append]
  array_get_dec
  refine w_pc (e) rfl rfl rfl ?_
  array_get_dec
  refine wO_atL (ixN_nat r0 (by omega)) (List.getElem?_eq_getElem hr) ?_
  array_get_dec
theorem tall1 {k n : Nat} {v : Val} {ct : Int} (h2 : G.defs 2 = some D2_take) (h26 : G.defs 26 = some D26_pick) (h27 : G.defs 27 = some D27_tall) (h0 : 0 ≤ ct ∧ ct ≤ 100) (hp : PotOk (n + ct.toNat + 2) v) :
    ∃ x outs, (∃ (xs : List Int) (v' : Val), x = .lst (xs.map .int) ∧ outs = [.o false v', .p .non] ∧ (xs.length : Int) = ct ∧ xs.Pairwise (· > ·) ∧ PotOk n v') ∧ callP G IO (k + 3) 27 [.o false v, .p (.int ct)] false = .ok (.p x) outs := by
  refine call_ex h27 rfl ?_
  simp only [D27_tall, List.map_cons, List.map_nil, Nat.reduceSub, List.replicate_succ, List.replicate_zero, List.cons_append, List.nil_append]
  array_get_dec
  obtain ⟨g, v1, hg, hp1, e1⟩ := pick1 (G := G) (k := k) (n := n + ct.toNat + 1) (v := v) (xs := [.int 1, .int 1, .int 9, .int 1000000]) h2 h26 (hp.less (by omega)) (by simp) (by simp)
  obtain ⟨gi, rfl, g0, g1⟩ : ∃ gi : Int, g = .int gi ∧ 0 < gi ∧ gi ≤ 1000000 := by
    simp only [List.mem_cons, List.not_mem_nil, or_false] at hg
    rcases hg with rfl | rfl | rfl | rfl <;> exact ⟨_, rfl, by omega, by omega⟩
  refine w_pc (e1) rfl rfl rfl ?_
  array_get_dec
  obtain ⟨l, v2, hl, hp2, e2⟩ := pick1 (G := G) (k := k) (n := n + ct.toNat) (v := v1) (xs := [.int ct, .int 100, .int (-5), .int (1000000000 - 40), .int (-100000000)]) h2 h26 hp1 (by simp) (by simp)
  obtain ⟨li, rfl⟩ : ∃ li : Int, l = .int li := by
    simp only [List.mem_cons, List.not_mem_nil, or_false] at hl
    rcases hl with rfl | rfl | rfl | rfl | rfl <;> exact ⟨_, rfl⟩
  refine w_pc (e2) rfl rfl rfl ?_
  array_get_dec
  refine wO_rng1 (by omega) ?_
  array_get_dec
  refine w_loop (fun (i : Nat) => Val.int (i : Int)) (xs := List.range' 0 ct.toNat) (fun done rest ρ => ∃ (pv : Val) (lv : Int) (xs : List Int) (y : Option Sl), ρ = [some (.o false pv), some (.p (.int ct)), some (.p (.int gi)), some (.p (.int lv)), some (.o true (.lst (xs.map .int))), y] ∧
      xs.length = done.length ∧ done.length + rest.length = ct.toNat ∧ xs.Pairwise (· > ·) ∧ (∀ a ∈ xs, a > lv) ∧ PotOk (n + rest.length) pv) ⟨v2, li, [], none, rfl, rfl, by simp, .nil, by simp, by simpa using hp2⟩ ?_ ?_
  · rintro d a r _ e ⟨pv, lv, xs, y, rfl, q1, q2, q3, q4, q5⟩
    refine w_body rfl ?_
    array_get_dec
    have q2' : d.length + (r.length + 1) = ct.toNat := q2
    refine wO_app (by simp only [List.length_map, LINE]; omega) ?_
    array_get_dec
    obtain ⟨t, pv', t0, t1, hp', et⟩ := take1 (G := G) (k := k + 1) (n := n + r.length) (v := pv) (bd := gi) h2 q5 g0 (by omega)
    refine w_pc (et) rfl rfl rfl ?_
    array_get_dec
    exact ⟨pv', lv - 1 - t, xs ++ [lv], some (.p (.int (a : Int))), by simp, by simp [q1], by simp; omega, List.pairwise_append.mpr ⟨q3, by simp, by simpa using q4⟩, fun a ha => by
      rcases List.mem_append.mp ha with h | h
      · have := q4 a h; omega
      · simp at h; omega, hp'⟩
  · rintro _ ⟨pv, lv, xs, y, rfl, q1, q2, q3, q4, q5⟩
    array_get_dec
    exact ⟨_, .r, xs, pv, rfl, rfl, by simp at q1; omega, q3, q5⟩
theorem strewn1 {k n : Nat} {v x : Val} {xs : List Int} (h2 : G.defs 2 = some D2_take) (h28 : G.defs 28 = some D28_strewn) (hx : seqOf x = some (xs.map .int)) (hl : xs.length ≤ 1000) (hp : PotOk (n + xs.length) v) :
    ∃ z outs, (∃ (ys : List Int) (v' : Val), z = .lst (ys.map .int) ∧ outs = [.o false v', .p .non] ∧ ys.Perm xs ∧ PotOk n v') ∧ callP G IO (k + 2) 28 [.o false v, .p x] false = .ok (.p z) outs := by
  refine call_ex h28 rfl ?_
  simp only [D28_strewn, List.map_cons, List.map_nil, Nat.reduceSub, List.replicate_succ, List.replicate_zero, List.cons_append, List.nil_append]
  array_get_dec
  refine wO_list hx ?_
  array_get_dec
  refine w_while (fun m ρ => ∃ (pv : Val) (rest found : List Int), ρ = [some (.o false pv), some (.p x), some (.o true (.lst (rest.map .int))), some (.o true (.lst (found.map .int)))] ∧ rest.length = m ∧ (rest ++ found).Perm xs ∧ PotOk (n + m) pv) xs.length (by simp only [WF]; omega) ⟨v, xs, [], rfl, rfl, by simp, hp⟩ ?_
  rintro m _ ⟨pv, rest, found, rfl, q1, q2, q3⟩
  array_get_dec
  refine wO_neL (cmp_ints rest) ?_
  cases rest with
  | nil =>
    array_get_dec
    exact ⟨_, .r, found, pv, rfl, rfl, by simpa using q2, q3.less (by omega)⟩
  | cons r0 rs =>
    array_get_dec
    have lm : m = rs.length + 1 := by simp at q1; omega
    have lx : rs.length + 1 + found.length = xs.length := by have := q2.length_eq; simp at this; omega
    obtain ⟨t, pv', t0, t1, hp', et⟩ := take1 (G := G) (k := k) (n := n + rs.length) (v := pv) (bd := ((r0 :: rs).map Val.int).length) h2 (by rw [lm] at q3; exact q3) (by simp only [List.length_map, List.length_cons]; omega) (by simp only [List.length_map, List.length_cons]; omega)
    refine w_pc (et) rfl rfl rfl ?_
    array_get_dec
    refine wO_popAt t0 t1 (by simp; omega) fun y hy => ?_
    obtain ⟨yi, hy1, rfl⟩ : ∃ yi, (r0 :: rs)[t.toNat]? = some yi ∧ y = .int yi := by
      rw [List.getElem?_map, Option.map_eq_some_iff] at hy
      obtain ⟨a, h1, h2⟩ := hy
      exact ⟨a, h1, h2.symm⟩
    array_get_dec
    refine wO_app (by simp only [List.length_map, LINE]; omega) ?_
    array_get_dec
    have ht : t.toNat < (r0 :: rs).length := (List.getElem?_eq_some_iff.mp hy1).1
    have el : ((r0 :: rs).eraseIdx t.toNat).length = rs.length := by rw [List.length_eraseIdx_of_lt ht]; rfl
    refine ⟨rs.length, by omega, pv', (r0 :: rs).eraseIdx t.toNat, found ++ [yi], by rw [← eraseIdx_mapV]; simp, el, ?_, hp'⟩
    refine List.Perm.trans ?_ q2
    have p1 := perm_erase (r0 :: rs) t.toNat yi hy1
    refine List.Perm.trans ?_ (p1.append_right found)
    rw [← List.append_assoc]
    exact List.perm_append_comm.trans (by simp)
theorem line1 {k n : Nat} {v : Val} {ct : Int} (h2 : G.defs 2 = some D2_take) (h26 : G.defs 26 = some D26_pick) (h27 : G.defs 27 = some D27_tall) (h28 : G.defs 28 = some D28_strewn) (h29 : G.defs 29 = some D29_line)
    (h0 : 0 ≤ ct ∧ ct ≤ 100) (hp : PotOk (n + 2 * ct.toNat + 2) v) :
    ∃ z outs, (∃ (ys : List Int) (v' : Val), z = .tup (ys.map .int) ∧ outs = [.o false v', .p .non] ∧ (ys.length : Int) = ct ∧ ys.Nodup ∧ PotOk n v') ∧ callP G IO (k + 4) 29 [.o false v, .p (.int ct)] false = .ok (.p z) outs := by
  refine call_ex h29 rfl ?_
  simp only [D29_line, List.map_cons, List.map_nil, Nat.reduceSub, List.replicate_succ, List.replicate_zero, List.cons_append, List.nil_append]
  array_get_dec
  obtain ⟨x, o1, ⟨xs, v1, rfl, rfl, l1, p1, hp1⟩, e1⟩ := tall1 (G := G) (k := k) (n := n + ct.toNat) (v := v) (ct := ct) h2 h26 h27 h0 (hp.less (by omega))
  refine w_pc (e1) rfl rfl rfl ?_
  array_get_dec
  obtain ⟨z, o2, ⟨ys, v2, rfl, rfl, p2, hp2⟩, e2⟩ := strewn1 (G := G) (k := k + 1) (n := n) (v := v1) (x := .lst (xs.map .int)) (xs := xs) h2 h28 rfl (by omega) (hp1.less (by omega))
  refine w_pc (e2) rfl rfl rfl ?_
  array_get_dec
  refine ⟨_, .p, ys, v2, rfl, rfl, by rw [p2.length_eq]; exact l1, ?_, hp2⟩
  refine p2.nodup_iff.mpr (p1.imp fun h e => by omega)
theorem floors1 {k n : Nat} {v : Val} {ms : Int} (h2 : G.defs 2 = some D2_take) (h5 : G.defs 5 = some D5_floors) (h0 : 1 ≤ ms ∧ ms ≤ 100) (hp : PotOk (n + ms.toNat + 1) v) :
    ∃ z outs, (∃ (ys : List Int) (v' : Val), z = .lst (ys.map .int) ∧ outs = [.o false v', .p .non] ∧ ys.Pairwise (· < ·) ∧ (∀ a ∈ ys, 1 ≤ a ∧ a ≤ ms) ∧ (ys.length : Int) ≤ ms ∧ PotOk n v') ∧ callP G IO (k + 2) 5 [.o false v, .p (.int ms)] false = .ok (.p z) outs := by
  refine call_ex h5 rfl ?_
  simp only [D5_floors, List.map_cons, List.map_nil, Nat.reduceSub, List.replicate_succ, List.replicate_zero, List.cons_append, List.nil_append]
  array_get_dec
  obtain ⟨t, v1, t0, t1, hp1, et⟩ := take1 (G := G) (k := k) (n := n + ms.toNat) (v := v) (bd := 5) h2 hp (by omega) (by omega)
  refine w_pc (et) rfl rfl rfl ?_
  array_get_dec
  split
  · array_get_dec
    obtain ⟨u, v2, u0, u1, hp2, eu⟩ := take1 (G := G) (k := k) (n := n) (v := v1) (bd := ms) h2 (hp1.less (by omega)) (by omega) (by omega)
    refine w_pc (eu) rfl rfl rfl ?_
    array_get_dec
    exact ⟨_, .p, [1 + u], v2, rfl, rfl, by simp, by simp; omega, by simp; omega, hp2⟩
  · array_get_dec
    refine wO_rng2 (i := 1) (j := ms + 1) (by omega) (by omega) ?_
    have em : (ms + 1 - 1).toNat = ms.toNat := by omega
    rw [em]
    refine w_loop (fun (i : Nat) => Val.int (1 + (i : Int))) (xs := List.range' 0 ms.toNat) (fun done rest ρ => ∃ (pv : Val) (xs : List Int) (y : Option Sl), ρ = [some (.o false pv), some (.p (.int ms)), some (.p (.int t)), some (.o true (.lst (xs.map .int))), y] ∧
      done.length + rest.length = ms.toNat ∧ xs.Pairwise (· < ·) ∧ (∀ a ∈ xs, 1 ≤ a ∧ a ≤ done.length) ∧ xs.length ≤ done.length ∧ PotOk (n + rest.length) pv) ⟨v1, [], none, rfl, by simp, .nil, by simp, by simp, by simpa using hp1⟩ ?_ ?_
    · rintro d a r _ e ⟨pv, xs, y, rfl, q1, q2, q3, q4, q5⟩
      obtain ⟨ea, el⟩ := range_at e
      have app : ∀ pv', PotOk (n + r.length) pv' → ∃ (pv : Val) (xs_1 : List Int) (y : Option Sl), [some (Sl.o false pv'), some (.p (.int ms)), some (.p (.int t)), some (.o true (.lst (xs.map .int ++ [.int (1 + (a : Int))]))), some (.p (.int (1 + (a : Int))))] = [some (.o false pv), some (.p (.int ms)), some (.p (.int t)), some (.o true (.lst (xs_1.map .int))), y] ∧
          (d ++ [a]).length + r.length = ms.toNat ∧ xs_1.Pairwise (· < ·) ∧ (∀ b ∈ xs_1, 1 ≤ b ∧ b ≤ (d ++ [a]).length) ∧ xs_1.length ≤ (d ++ [a]).length ∧ PotOk (n + r.length) pv := fun pv' hp' => by
        refine ⟨pv', xs ++ [1 + (a : Int)], some (.p (.int (1 + (a : Int)))), by simp, by simp; omega, List.pairwise_append.mpr ⟨q2, by simp, fun x hx y hy => ?_⟩, fun b hb => ?_, by simp; omega, hp'⟩
        · simp at hy
          have := q3 x hx
          omega
        · rcases List.mem_append.mp hb with h | h
          · have := q3 b h; simp; omega
          · simp at h; simp; omega
      have non : ∀ pv', PotOk (n + r.length) pv' → ∃ (pv : Val) (xs_1 : List Int) (y : Option Sl), [some (Sl.o false pv'), some (.p (.int ms)), some (.p (.int t)), some (.o true (.lst (xs.map .int))), some (.p (.int (1 + (a : Int))))] = [some (.o false pv), some (.p (.int ms)), some (.p (.int t)), some (.o true (.lst (xs_1.map .int))), y] ∧
          (d ++ [a]).length + r.length = ms.toNat ∧ xs_1.Pairwise (· < ·) ∧ (∀ b ∈ xs_1, 1 ≤ b ∧ b ≤ (d ++ [a]).length) ∧ xs_1.length ≤ (d ++ [a]).length ∧ PotOk (n + r.length) pv := fun pv' hp' =>
        ⟨pv', xs, _, rfl, by simp; omega, q2, fun b hb => by have := q3 b hb; simp; omega, by simp; omega, hp'⟩
      have hw : xs.length < 1000 := by omega
      refine w_body rfl ?_
      array_get_dec
      split
      · rename_i h4
        array_get_dec
        rw [if_pos h4]
        array_get_dec
        refine wO_app (xs := xs.map .int) (by simp only [List.length_map, LINE]; omega) ?_
        array_get_dec
        exact app pv (q5.less (by simp))
      · array_get_dec
        split
        · rename_i h4 h5
          have h5 : 1 < t := of_decide_eq_true h5
          array_get_dec
          obtain ⟨u, pv', u0, u1, hp', eu⟩ := take1 (G := G) (k := k) (n := n + r.length) (v := pv) (bd := t) h2 (q5.less (by simp only [List.length_cons]; omega)) (by omega) (by omega)
          refine w_pc (eu) rfl rfl rfl ?_
          array_get_dec
          split
          · array_get_dec
            refine wO_app (xs := xs.map .int) (by simp only [List.length_map, LINE]; omega) ?_
            array_get_dec
            exact app pv' hp'
          · array_get_dec
            exact non pv' hp'
        · rename_i h4 h5
          array_get_dec
          rw [if_neg h5]
          array_get_dec
          exact non pv (q5.less (by simp))
    · rintro _ ⟨pv, xs, y, rfl, q1, q2, q3, q4, q5⟩
      array_get_dec
      simp at q1 q3 q4
      exact ⟨_, .r, xs, pv, rfl, rfl, q2, fun a ha => by have := q3 a ha; omega, by omega, q5⟩
theorem homes1 {k n : Nat} {v : Val} {ms : Int} (h2 : G.defs 2 = some D2_take) (h5 : G.defs 5 = some D5_floors) (h6 : G.defs 6 = some D6_homes) (h0 : 1 ≤ ms ∧ ms ≤ 100) (hp : PotOk (n + 2 * ms.toNat + 2) v) :
    ∃ z outs, (∃ (xs ys : List Int) (v' : Val), z = .tup [.tup (xs.map .int), .tup (ys.map .int)] ∧ outs = [.o false v', .p .non] ∧ xs.Pairwise (· < ·) ∧ (∀ a ∈ xs, 1 ≤ a ∧ a ≤ ms) ∧ (xs.length : Int) ≤ ms ∧
      ys.Pairwise (· < ·) ∧ (∀ a ∈ ys, 1 ≤ a ∧ a ≤ ms) ∧ (ys.length : Int) ≤ ms ∧ PotOk n v') ∧ callP G IO (k + 3) 6 [.o false v, .p (.int ms)] false = .ok (.p z) outs := by
  refine call_ex h6 rfl ?_
  simp only [D6_homes, List.map_cons, List.map_nil, Nat.reduceSub, List.replicate_succ, List.replicate_zero, List.cons_append, List.nil_append]
  array_get_dec
  obtain ⟨x, o1, ⟨xs, v1, rfl, rfl, a1, a2, a3, hp1⟩, e1⟩ := floors1 (G := G) (k := k) (n := n + ms.toNat + 1) (v := v) (ms := ms) h2 h5 h0 (hp.less (by omega))
  refine w_pc (e1) rfl rfl rfl ?_
  array_get_dec
  obtain ⟨y, o2, ⟨ys, v2, rfl, rfl, b1, b2, b3, hp2⟩, e2⟩ := floors1 (G := G) (k := k) (n := n) (v := v1) (ms := ms) h2 h5 h0 hp1
  refine w_pc (e2) rfl rfl rfl ?_
  array_get_dec
  exact ⟨_, .p, xs, ys, v2, rfl, rfl, a1, a2, a3, b1, b2, b3, hp2⟩
end MP
set_option Elab.async false
set_option linter.all false
set_option maxRecDepth 100000
set_option maxHeartbeats 1000000
/-! MPB: rows, floors, views. -/
namespace MP
local macro_rules | `(tactic| array_get_dec) => `(tactic| (repeat (first
    | ((with_reducible apply w_env); · simp only [List.set_cons_succ, List.set_cons_zero]; exact rfl)
    | with_reducible refine w_cons ?_
    | with_reducible refine w_nil ?_
    | ((with_reducible apply w_varP); exact rfl)
    | ((with_reducible apply w_varT); exact rfl)
    | ((with_reducible apply w_varR); exact rfl)
    | with_reducible refine w_con ?_
    | with_reducible refine w_asgs ?_
    | with_reducible refine w_asg ?_
    | ((with_reducible apply w_asgt); exact rfl)
    | with_reducible refine w_asgx ?_
    | with_reducible refine w_ret ?_
    | with_reducible refine w_iff ?_
    | with_reducible refine w_bin ?_
    | with_reducible refine w_cmp ?_
    | with_reducible refine w_cmp1 ?_
    | with_reducible refine w_cmp2 ?_
    | with_reducible refine w_idx ?_
    | with_reducible refine w_call ?_
    | with_reducible refine w_callk ?_
    | with_reducible refine w_as0 ?_
    | with_reducible refine w_asV ?_
    | ((with_reducible apply w_asE); exact rfl)
    | ((with_reducible apply w_aio); exact rfl; exact rfl)
    | ((with_reducible apply w_aP); exact rfl; exact rfl)
    | ((with_reducible apply w_aR); exact rfl; exact rfl)
    | ((with_reducible apply w_aO); exact rfl; exact rfl)
    | with_reducible refine w_eP ?_
    | with_reducible refine w_eR ?_
    | ((with_reducible apply w_eO); exact rfl)
    | with_reducible refine w_blt ?_
    | with_reducible refine w_es0 ?_
    | with_reducible refine w_es1 ?_
    | with_reducible refine w_os0 ?_
    | with_reducible refine w_os1 ?_
    | with_reducible refine w_tup ?_
    | with_reducible refine w_lst ?_
    | with_reducible refine w_new ?_
    | with_reducible refine w_neg ?_
    | with_reducible refine w_nt ?_
    | with_reducible refine w_and ?_
    | with_reducible refine w_or ?_
    | with_reducible refine w_and0 ?_
    | with_reducible refine w_or0 ?_
    | with_reducible refine w_and1 ?_
    | with_reducible refine w_or1 ?_
    | with_reducible refine w_ite ?_
    | with_reducible refine w_slc ?_
    | with_reducible refine w_part0 ?_
    | ((with_reducible apply w_part1); exact rfl)
    | with_reducible refine w_rev ?_
    | with_reducible refine w_isi ?_
    | with_reducible refine w_comp ?_
    | with_reducible refine w_cd0 ?_
    | with_reducible refine w_cd1 ?_
    | with_reducible refine w_itV ?_
    | with_reducible refine w_itE ?_
    | with_reducible refine w_itR ?_
    | with_reducible refine w_itZ ?_
    | with_reducible refine w_itI ?_
    | with_reducible refine w_ift ?_
    | with_reducible refine w_ifn ?_
    | with_reducible refine w_lp0 ?_
    | with_reducible refine w_lp1 ?_
    | with_reducible refine w_for ?_
    | with_reducible refine w_exp ?_
    | ((with_reducible apply w_mth); exact rfl; exact rfl)
    | ((with_reducible apply w_set); exact rfl)
    | ((with_reducible apply w_sets); exact rfl)
    | with_reducible refine w_retn ?_
    | with_reducible refine w_pass ?_
    | with_reducible refine w_raise ?_
    | with_reducible refine w_try ?_
    | with_reducible refine w_h0 ?_
    | with_reducible refine w_fld ?_
    | with_reducible refine w_dict ?_
    | ((with_reducible apply ex_own); exact rfl)
    | with_reducible refine ex_p ?_
    | with_reducible refine ex_pi ?_
    | with_reducible refine ex_vi ?_
    | with_reducible refine ex_vi2 ?_
    | with_reducible refine ex_pi2 ?_
    | with_reducible refine ex_pl ?_
    | ((with_reducible apply wO_some); exact cEq)
    | ((with_reducible apply wO_some); exact cNe)
    | ((with_reducible apply wO_some); exact pcop_eq _ _)
    | ((with_reducible apply wO_some); exact pcop_ne _ _)
    | ((with_reducible apply wO_some); exact tru_int _)
    | with_reducible refine wO_rngA ?_
    | with_reducible refine wO_rngS ?_
    | ((with_reducible apply wO_some); exact rfl)
    | ((with_reducible refine ⟨_, ?_, ?_, ?_⟩); exact rfl; exact rfl)
    | ((with_reducible refine ⟨_, ?_, ?_, ?_⟩); exact rfl; exact same_self _)
    | ((with_reducible refine ⟨_, ?_, ?_⟩); exact rfl)
    | ((with_reducible refine ⟨?_, ?_⟩); exact chk_var rfl rfl)
    | ((with_reducible refine ⟨?_, ?_⟩); ((repeat (first | refine chks_cons (chk_var rfl rfl) ?_ | refine chks_cons rfl ?_)); exact chks_nil))
    | ((with_reducible refine ⟨?_, ?_⟩); exact rfl)
    | ((with_reducible refine ⟨_, _, ?_, ?_⟩); exact rfl)
    | ((with_reducible apply w_varO); exact rfl)
    | ((with_reducible apply w_ifc); exact rfl)
    | ((with_reducible apply w_ifd); exact rfl)
    | exact ⟨.p, rfl⟩
    | exact ⟨.r, rfl⟩
    | exact ⟨.o, rfl⟩)))
variable {G : Prog}
/-- how many taller ones ahead of the first place of who -/
def frontS (row : List Int) (who : Int) : Int := match row with
  | [] => 0
  | a :: r => if a = who then 0 else (if a > who then 1 else 0) + frontS r who
def cntG (row : List Int) (who : Int) : Int := match row with
  | [] => 0
  | a :: r => (if a > who then 1 else 0) + cntG r who
def behS (row : List Int) (who : Int) : Int := match row with
  | [] => 0
  | a :: r => if a = who then cntG r who else behS r who
def fstI (row : List Int) (who : Int) : Nat := match row with
  | [] => 0
  | a :: r => if a = who then 0 else fstI r who + 1
theorem fst_lt : ∀ {row : List Int} {who : Int}, who ∈ row → fstI row who < row.length
  | a :: r, who, h => by
    unfold fstI
    split
    · simp
    · rename_i e
      have := fst_lt (row := r) (who := who) (by simpa [Ne.symm e] using h)
      simp; omega
theorem found_eq : ∀ (row : List Int) (who : Int) (n : Nat), who ∈ row → ∃ js : List Int, (row.zipIdx n).filterMap (fun p => if p.1 = who then some (Val.int (p.2 : Int)) else none) = (((n + fstI row who : Nat) : Int) :: js).map Val.int
  | a :: r, who, n, h => by
    have rest : ∀ (l : List (Int × Nat)), ∃ js : List Int, l.filterMap (fun p => if p.1 = who then some (Val.int (p.2 : Int)) else none) = js.map Val.int := by
      intro l
      induction l with
      | nil => exact ⟨[], rfl⟩
      | cons p l ih =>
        obtain ⟨js, e⟩ := ih
        rw [List.filterMap_cons]
        split
        · exact ⟨js, e⟩
        · rename_i b hb
          split at hb
          · cases hb
            exact ⟨(p.2 : Int) :: js, by rw [e]; rfl⟩
          · cases hb
    rw [List.zipIdx_cons, List.filterMap_cons]
    by_cases e : a = who
    · obtain ⟨js, e1⟩ := rest (r.zipIdx (n + 1))
      refine ⟨js, ?_⟩
      simp only [e, if_true, fstI, Nat.add_zero, List.map_cons]
      rw [e1]
    · obtain ⟨js, e1⟩ := found_eq r who (n + 1) (by simpa [Ne.symm e] using h)
      refine ⟨js, ?_⟩
      simp only [e, if_false, fstI]
      rw [e1]
      congr 2
      omega
theorem place1 {k : Nat} {x : Val} {row : List Int} {who : Int} (h44 : G.defs 44 = some D44_place_of) (hx : seqOf x = some (row.map .int)) (hw : who ∈ row) (hl : row.length ≤ 1000) :
    callP G IO (k + 1) 44 [.p x, .p (.int who)] false = .ok (.p (.int (fstI row who))) [.p .non, .p .non] := by
  refine call_ok h44 rfl ?_
  simp only [D44_place_of, List.map_cons, List.map_nil, Nat.reduceSub, List.replicate_succ, List.replicate_zero, List.cons_append, List.nil_append]
  array_get_dec
  refine wO_enu hx ?_
  array_get_dec
  have en : enuL 0 (row.map .int) = (row.zipIdx 0).map fun p => Val.tup [.int (p.2 : Int), .int p.1] := enuL_zipIdx row 0
  obtain ⟨js, ej⟩ := found_eq row who 0 hw
  rw [en]
  refine ⟨by simp [LINE]; omega, w_map (fun p : Int × Nat => Val.tup [.int (p.2 : Int), .int p.1]) (fun p => if p.1 = who then some (Val.int (p.2 : Int)) else none) (views1 (chk_var rfl rfl)) (fun p hp => turn_ok rfl ?_) ?_⟩
  · array_get_dec
    split
    · rename_i e
      have e := of_decide_eq_true e
      array_get_dec
      exact ⟨by simp [e], rfl⟩
    · rename_i e
      simp at e
      exact ⟨by simp [e], rfl⟩
  · rw [ej]
    array_get_dec
    refine wO_eqNil (xs := ((0 + fstI row who : Nat) : Int) :: js) ?_
    array_get_dec
    refine wO_atL (j := 0) (v := .int (fstI row who)) ?_ ?_ ?_
    · exact ixN_nat (by omega) (by simp)
    · simp
    · array_get_dec
theorem ahead_len : ∀ (row : List Int) (who : Int), who ∈ row → ((((row.take (fstI row who)).filterMap fun a => if a > who then some (Val.int a) else none).length : Nat) : Int) = frontS row who
  | a :: r, who, h => by
    by_cases e : a = who
    · simp [fstI, frontS, e]
    · simp only [fstI, frontS, if_neg e, List.take_succ_cons, List.filterMap_cons]
      have ih := ahead_len r who (by simpa [Ne.symm e] using h)
      by_cases q : a > who
      · simp only [if_pos q, List.length_cons]; omega
      · simp only [if_neg q]; omega
theorem cnt_len : ∀ (row : List Int) (who : Int), (((row.filterMap fun a => if a > who then some (Val.int a) else none).length : Nat) : Int) = cntG row who
  | [], _ => rfl
  | a :: r, who => by
    have ih := cnt_len r who
    simp only [cntG, List.filterMap_cons]
    by_cases q : a > who
    · simp only [if_pos q, List.length_cons]; omega
    · simp only [if_neg q]; omega
theorem beh_len : ∀ (row : List Int) (who : Int), who ∈ row → ((((row.drop (fstI row who + 1)).filterMap fun a => if a > who then some (Val.int a) else none).length : Nat) : Int) = behS row who
  | a :: r, who, h => by
    by_cases e : a = who
    · simp only [fstI, behS, e, if_true, Nat.zero_add, List.drop_succ_cons, List.drop_zero]
      exact cnt_len r who
    · simp only [fstI, behS, if_neg e, List.drop_succ_cons]
      exact beh_len r who (by simpa [Ne.symm e] using h)
theorem frontS_append : ∀ (l m : List Int) (who : Int), frontS (l ++ m) who = if who ∈ l then frontS l who else cntG l who + frontS m who
  | [], m, who => by simp [cntG]
  | a :: l, m, who => by
    by_cases e : a = who
    · simp [frontS, e]
    · have ih := frontS_append l m who
      have e' : ¬ who = a := fun h => e h.symm
      simp only [List.cons_append, frontS, if_neg e, cntG, ih, List.mem_cons]
      by_cases hm : who ∈ l
      · rw [if_pos hm, if_pos (show who = a ∨ who ∈ l from Or.inr hm)]
      · rw [if_neg hm, if_neg (show ¬ (who = a ∨ who ∈ l) from fun h => h.elim e' hm)]
        omega
theorem cntG_append : ∀ (l m : List Int) (who : Int), cntG (l ++ m) who = cntG l who + cntG m who
  | [], m, who => by simp [cntG]
  | a :: l, m, who => by
    simp only [List.cons_append, cntG, cntG_append l m who]
    omega
theorem cntG_rev : ∀ (l : List Int) (who : Int), cntG l.reverse who = cntG l who
  | [], _ => rfl
  | a :: l, who => by
    rw [List.reverse_cons, cntG_append, cntG_rev l who]
    simp only [cntG]
    omega
theorem front_rev : ∀ (row : List Int) (who : Int), who ∈ row → row.Nodup → frontS row.reverse who = behS row who
  | a :: r, who, h, nd => by
    rw [List.nodup_cons] at nd
    rw [List.reverse_cons, frontS_append]
    by_cases e : a = who
    · subst e
      rw [if_neg (by simpa using nd.1)]
      simp [frontS, behS, cntG_rev]
    · have hr : who ∈ r := by simpa [Ne.symm e] using h
      rw [if_pos (by simpa using hr), front_rev r who hr nd.2]
      simp [behS, e]
theorem ahead1 {k : Nat} {x : Val} {row : List Int} {who : Int} (h44 : G.defs 44 = some D44_place_of) (h45 : G.defs 45 = some D45_taller_ahead) (hx : seqOf x = some (row.map .int)) (hw : who ∈ row) (hl : row.length ≤ 1000) :
    callP G IO (k + 2) 45 [.p x, .p (.int who)] false = .ok (.p (.int (frontS row who))) [.p .non, .p .non] := by
  have hf := fst_lt hw
  refine call_ok h45 rfl ?_
  simp only [D45_taller_ahead, List.map_cons, List.map_nil, Nat.reduceSub, List.replicate_succ, List.replicate_zero, List.cons_append, List.nil_append]
  array_get_dec
  refine w_pc (place1 (G := G) (k := k) h44 hx hw hl) rfl rfl rfl ?_
  array_get_dec
  refine wO_slcTo (p := (fstI row who : Int)) hx (by omega) (by simp; omega) fun y hy => ?_
  array_get_dec
  refine wO_iter hy ?_
  array_get_dec
  rw [Int.toNat_natCast, ← List.map_take]
  refine ⟨by simp [LINE]; omega, w_map .int (fun a => if a > who then some (Val.int a) else none) (views1 rfl) (fun p hp => turn_ok rfl ?_) ?_⟩
  · array_get_dec
    split
    · rename_i e
      have e := of_decide_eq_true e
      array_get_dec
      exact ⟨by simp; omega, rfl⟩
    · rename_i e
      simp at e
      exact ⟨by simp; omega, rfl⟩
  · array_get_dec
    rw [ahead_len row who hw]
    array_get_dec
theorem behind1 {k : Nat} {x : Val} {row : List Int} {who : Int} (h44 : G.defs 44 = some D44_place_of) (h46 : G.defs 46 = some D46_taller_behind) (hx : seqOf x = some (row.map .int)) (hw : who ∈ row) (hl : row.length ≤ 1000) :
    callP G IO (k + 2) 46 [.p x, .p (.int who)] false = .ok (.p (.int (behS row who))) [.p .non, .p .non] := by
  have hf := fst_lt hw
  refine call_ok h46 rfl ?_
  simp only [D46_taller_behind, List.map_cons, List.map_nil, Nat.reduceSub, List.replicate_succ, List.replicate_zero, List.cons_append, List.nil_append]
  array_get_dec
  refine w_pc (place1 (G := G) (k := k) h44 hx hw hl) rfl rfl rfl ?_
  array_get_dec
  refine wO_slcFrom (p := (fstI row who : Int) + 1) hx (by omega) (by simp; omega) fun y hy => ?_
  array_get_dec
  refine wO_iter hy ?_
  array_get_dec
  have e1 : ((fstI row who : Int) + 1).toNat = fstI row who + 1 := by omega
  rw [e1, ← List.map_drop]
  refine ⟨by simp [LINE]; omega, w_map .int (fun a => if a > who then some (Val.int a) else none) (views1 rfl) (fun p hp => turn_ok rfl ?_) ?_⟩
  · array_get_dec
    split
    · rename_i e
      have e := of_decide_eq_true e
      array_get_dec
      exact ⟨by simp; omega, rfl⟩
    · rename_i e
      simp at e
      exact ⟨by simp; omega, rfl⟩
  · array_get_dec
    rw [beh_len row who hw]
    array_get_dec
/-- the floors that see one with so many taller ones ahead, behind -/
def flrL (a : Int) (fl : List Int) : List Val := fl.filterMap fun f => if a < f then some (.tup [.str "left", .int f]) else none
def flrR (b : Int) (fr : List Int) : List Val := fr.filterMap fun f => if b < f then some (.tup [.str "right", .int f]) else none
theorem flrL_len (a : Int) (fl : List Int) : (flrL a fl).length ≤ fl.length := List.length_filterMap_le _ _
theorem flrR_len (a : Int) (fl : List Int) : (flrR a fl).length ≤ fl.length := List.length_filterMap_le _ _
/-- houses: two lists or tuples of numbers -/
structure Hs2 (h : Val) (fl fr : List Int) : Prop where
  ex : ∃ h1 h2, seqOf h = some [h1, h2] ∧ seqOf h1 = some (fl.map .int) ∧ seqOf h2 = some (fr.map .int)
  l1 : fl.length ≤ 1000
  l2 : fr.length ≤ 1000
theorem wO_addL {xs ys : List Val} {k : Val → Prop} (h0 : xs.length + ys.length ≤ LINE) (h : k (.lst (xs ++ ys))) : wO (bop .Add (.lst xs) (.lst ys)) k := by
  unfold wO
  simp only [bop, bAdd, if_pos h0]
  exact h
theorem floors_seeing1 {k : Nat} {h : Val} {fl fr : List Int} {a b : Int} (h47 : G.defs 47 = some D47_floors_seeing) (hh : Hs2 h fl fr) :
    callP G IO (k + 1) 47 [.p (.int a), .p (.int b), .p h] false = .ok (.p (.lst (flrL a fl ++ flrR b fr))) [.p .non, .p .non, .p .non] := by
  obtain ⟨⟨g1, g2, e0, e1, e2⟩, l1, l2⟩ := hh
  refine call_ok h47 rfl ?_
  simp only [D47_floors_seeing, List.map_cons, List.map_nil, Nat.reduceSub, List.replicate_succ, List.replicate_zero, List.cons_append, List.nil_append]
  array_get_dec
  refine wO_bind2 e0 rfl rfl ?_
  array_get_dec
  refine wO_iter e1 ?_
  array_get_dec
  refine ⟨by simp [LINE]; omega, w_map .int (fun f => if a < f then some (Val.tup [.str "left", .int f]) else none) (views1 (chk_var rfl rfl)) (fun p hp => turn_ok rfl ?_) ?_⟩
  · array_get_dec
    split
    · rename_i e
      have e := of_decide_eq_true e
      array_get_dec
      exact ⟨by simp [e]; rfl, rfl⟩
    · rename_i e
      simp at e
      exact ⟨by simp; omega, rfl⟩
  · array_get_dec
    refine wO_iter e2 ?_
    array_get_dec
    refine ⟨by simp [LINE]; omega, w_map .int (fun f => if b < f then some (Val.tup [.str "right", .int f]) else none) (views1 (chk_var rfl rfl)) (fun p hp => turn_ok rfl ?_) ?_⟩
    · array_get_dec
      split
      · rename_i e
        have e := of_decide_eq_true e
        array_get_dec
        exact ⟨by simp [e]; rfl, rfl⟩
      · rename_i e
        simp at e
        exact ⟨by simp; omega, rfl⟩
    · array_get_dec
      have q1 := flrL_len a fl
      have q2 := flrR_len b fr
      refine wO_addL (xs := flrL a fl) (ys := flrR b fr) (by simp only [LINE]; omega) ?_
      array_get_dec
theorem seeing1 {k : Nat} {x h : Val} {row fl fr : List Int} {who : Int} (h44 : G.defs 44 = some D44_place_of) (h45 : G.defs 45 = some D45_taller_ahead) (h46 : G.defs 46 = some D46_taller_behind) (h47 : G.defs 47 = some D47_floors_seeing) (h48 : G.defs 48 = some D48_seeing)
    (hx : seqOf x = some (row.map .int)) (hw : who ∈ row) (hl : row.length ≤ 1000) (hh : Hs2 h fl fr) :
    callP G IO (k + 3) 48 [.p x, .p h, .p (.int who)] false = .ok (.p (.lst (flrL (frontS row who) fl ++ flrR (behS row who) fr))) [.p .non, .p .non, .p .non] := by
  refine call_ok h48 rfl ?_
  simp only [D48_seeing, List.map_cons, List.map_nil, Nat.reduceSub, List.replicate_succ, List.replicate_zero, List.cons_append, List.nil_append]
  array_get_dec
  refine w_pc (ahead1 (G := G) (k := k) h44 h45 hx hw hl) rfl rfl rfl ?_
  array_get_dec
  refine w_pc (behind1 (G := G) (k := k) h44 h46 hx hw hl) rfl rfl rfl ?_
  array_get_dec
  refine w_pc (floors_seeing1 (G := G) (k := k + 1) h47 hh) rfl rfl rfl ?_
  array_get_dec
/-! ### data that is compared -/
def FLat (v : Val) (n : Nat) : Prop := v.data = true ∧ v.deep ≤ n
theorem flat_list {vs : List Val} {n : Nat} (h : ∀ v ∈ vs, FLat v n) : FLat (.lst vs) (n + 1) ∧ FLat (.tup vs) (n + 1) := by
  have h1 : dataL vs = true := by
    induction vs with
    | nil => rfl
    | cons v vs ih => simp only [dataL, (h v List.mem_cons_self).1, ih fun w hw => h w (List.mem_cons_of_mem _ hw), Bool.and_self]
  have h2 : deepL vs ≤ n := by
    clear h1
    induction vs with
    | nil => exact Nat.zero_le _
    | cons v vs ih =>
      have a := (h v List.mem_cons_self).2
      have b := ih fun w hw => h w (List.mem_cons_of_mem _ hw)
      simp only [deepL]
      omega
  exact ⟨⟨h1, by simp only [Val.deep]; omega⟩, ⟨h1, by simp only [Val.deep]; omega⟩⟩
theorem FLat.cmp {v : Val} {n : Nat} (h : FLat v n) (hn : n ≤ 60) : v.cmpOk = true := by
  unfold Val.cmpOk
  rw [h.1, Bool.true_and]
  exact decide_eq_true (Nat.le_trans h.2 hn)
theorem flat_int (i : Int) : FLat (.int i) 0 := ⟨rfl, Nat.le_refl _⟩
theorem flat_ints (xs : List Int) : FLat (.lst (xs.map .int)) 1 ∧ FLat (.tup (xs.map .int)) 1 := flat_list fun v hv => by
  obtain ⟨a, _, rfl⟩ := List.mem_map.mp hv
  exact flat_int a
theorem flat_flr (side : String) (hs : strV (side : PySem.Str) = true) (f : Int) : FLat (.tup [.str side, .int f]) 1 := (flat_list (n := 0) fun v hv => by
  simp only [List.mem_cons, List.not_mem_nil, or_false] at hv
  rcases hv with rfl | rfl
  · exact ⟨hs, Nat.le_refl _⟩
  · exact flat_int f).2
theorem left_ok : strV ("left" : PySem.Str) = true := by decide +kernel
theorem right_ok : strV ("right" : PySem.Str) = true := by decide +kernel
theorem flrL_at {a : Int} {fl : List Int} {v : Val} (h : v ∈ flrL a fl) : ∃ f, v = .tup [.str "left", .int f] := by
  obtain ⟨f, _, h2⟩ := List.mem_filterMap.mp h
  split at h2
  · cases h2; exact ⟨f, rfl⟩
  · cases h2
theorem flrR_at {a : Int} {fl : List Int} {v : Val} (h : v ∈ flrR a fl) : ∃ f, v = .tup [.str "right", .int f] := by
  obtain ⟨f, _, h2⟩ := List.mem_filterMap.mp h
  split at h2
  · cases h2; exact ⟨f, rfl⟩
  · cases h2
theorem keyIn_append {x : Val} : ∀ {xs ys : List Val}, keyIn x (xs ++ ys) = (keyIn x xs || keyIn x ys)
  | [], _ => rfl
  | a :: xs, ys => by simp only [List.cons_append, keyIn, keyIn_append (xs := xs), Bool.or_assoc]
theorem keyL {a f : Int} : ∀ {fl : List Int}, keyIn (.tup [.str "left", .int f]) (flrL a fl) = (decide (a < f) && fl.contains f)
  | [] => by simp [flrL, keyIn]
  | g :: fl => by
    have ih := keyL (a := a) (f := f) (fl := fl)
    unfold flrL at ih ⊢
    rw [List.filterMap_cons]
    by_cases h : a < g
    · simp only [if_pos h, keyIn, ih, Val.eqv, eqvL]
      by_cases e : g = f
      · subst e; simp [h]
      · have e' : ¬ f = g := fun h => e h.symm
        simp [e, e']
    · simp only [if_neg h, ih]
      by_cases e : g = f
      · subst e; simp [h]
      · have e' : ¬ f = g := fun h => e h.symm
        simp [e, e']
theorem keyR {a f : Int} : ∀ {fl : List Int}, keyIn (.tup [.str "right", .int f]) (flrR a fl) = (decide (a < f) && fl.contains f)
  | [] => by simp [flrR, keyIn]
  | g :: fl => by
    have ih := keyR (a := a) (f := f) (fl := fl)
    unfold flrR at ih ⊢
    rw [List.filterMap_cons]
    by_cases h : a < g
    · simp only [if_pos h, keyIn, ih, Val.eqv, eqvL]
      by_cases e : g = f
      · subst e; simp [h]
      · have e' : ¬ f = g := fun h => e h.symm
        simp [e, e']
    · simp only [if_neg h, ih]
      by_cases e : g = f
      · subst e; simp [h]
      · have e' : ¬ f = g := fun h => e h.symm
        simp [e, e']
theorem keyLR {a f : Int} : ∀ {fl : List Int}, keyIn (.tup [.str "left", .int f]) (flrR a fl) = false
  | [] => rfl
  | g :: fl => by
    have ih := keyLR (a := a) (f := f) (fl := fl)
    have e : (("right" : PySem.Str) == ("left" : PySem.Str)) = false := by decide +kernel
    unfold flrR at ih ⊢
    rw [List.filterMap_cons]
    by_cases h : a < g
    · simp [if_pos h, keyIn, ih, Val.eqv, eqvL, e]
    · simp only [if_neg h, ih]
theorem keyRL {a f : Int} : ∀ {fl : List Int}, keyIn (.tup [.str "right", .int f]) (flrL a fl) = false
  | [] => rfl
  | g :: fl => by
    have ih := keyRL (a := a) (f := f) (fl := fl)
    have e : (("left" : PySem.Str) == ("right" : PySem.Str)) = false := by decide +kernel
    unfold flrL at ih ⊢
    rw [List.filterMap_cons]
    by_cases h : a < g
    · simp [if_pos h, keyIn, ih, Val.eqv, eqvL, e]
    · simp only [if_neg h, ih]
/-! ### views -/
/-- whom a floor sees -/
def vwL (row : List Int) (f : Int) : List Int := (isort row).filter fun w => decide (frontS row w < f)
def vwR (row : List Int) (f : Int) : List Int := (isort row).filter fun w => decide (behS row w < f)
def enc2 (xss : List (List Int)) : Val := .tup (xss.map fun xs => .tup (xs.map .int))
def viewsV (row fl fr : List Int) : Val := .tup [enc2 (fl.map (vwL row)), enc2 (fr.map (vwR row))]
def seenV (row fl fr : List Int) (w : Int) : Val := .tup [.int w, .lst (flrL (frontS row w) fl ++ flrR (behS row w) fr)]
theorem wO_zip2 {a b : Val} {h h1 h2 : Val} {k : List Val → Prop} (e : seqOf h = some [h1, h2]) (hk : k [.tup [a, h1], .tup [b, h2]]) : wO (zipOf true (.tup [a, b]) h) k := by
  rw [show zipOf true (.tup [a, b]) h = some [.tup [a, h1], .tup [b, h2]] from by unfold zipOf; rw [e]; rfl]
  exact hk
theorem wO_cInL {x : Val} {vs : List Val} {k : Bool → Prop} (hx : x.cmpOk = true) (hv : ∀ v ∈ vs, v.cmpOk = true) (h : k (keyIn x vs)) : wO (cop .In x (.lst vs)) k := by
  unfold wO
  have e : (vs.all Val.cmpOk) = true := List.all_eq_true.mpr hv
  simp only [cop, cIn, hx, e, Bool.and_self, if_true]
  exact h
theorem filterMap_some_map {α β : Type} (f : α → β) : ∀ xs : List α, xs.filterMap (fun a => some (f a)) = xs.map f
  | [] => rfl
  | a :: xs => by rw [List.filterMap_cons, List.map_cons, filterMap_some_map f xs]
theorem filterMap_if_map {α β : Type} (p : α → Bool) (f : α → β) : ∀ xs : List α, xs.filterMap (fun a => if p a = true then some (f a) else none) = (xs.filter p).map f
  | [] => rfl
  | a :: xs => by
    rw [List.filterMap_cons]
    cases h : p a <;> simp [h, filterMap_if_map p f xs]
theorem flrs_cmp {a b : Int} {fl fr : List Int} : ∀ v ∈ flrL a fl ++ flrR b fr, v.cmpOk = true := fun v hv => by
  rcases List.mem_append.mp hv with h | h
  · obtain ⟨f, rfl⟩ := flrL_at h
    exact (flat_flr "left" left_ok f).cmp (by omega)
  · obtain ⟨f, rfl⟩ := flrR_at h
    exact (flat_flr "right" right_ok f).cmp (by omega)
theorem views_of1 {k : Nat} {x h : Val} {row fl fr : List Int} (h44 : G.defs 44 = some D44_place_of) (h45 : G.defs 45 = some D45_taller_ahead) (h46 : G.defs 46 = some D46_taller_behind) (h47 : G.defs 47 = some D47_floors_seeing) (h48 : G.defs 48 = some D48_seeing) (h49 : G.defs 49 = some D49_views_of)
    (hx : seqOf x = some (row.map .int)) (hl : row.length ≤ 1000) (hh : Hs2 h fl fr) :
    callP G IO (k + 4) 49 [.p x, .p h] false = .ok (.p (viewsV row fl fr)) [.p .non, .p .non] := by
  obtain ⟨⟨g1, g2, e0, e1, e2⟩, l1, l2⟩ := id hh
  have hpl : (isort row).length = row.length := (isort_perm row).length_eq
  refine call_ok h49 rfl ?_
  simp only [D49_views_of, List.map_cons, List.map_nil, Nat.reduceSub, List.replicate_succ, List.replicate_zero, List.cons_append, List.nil_append]
  array_get_dec
  refine wO_sorted hx ?_
  array_get_dec
  refine ⟨by simp [LINE]; omega, w_map .int (fun w => some (seenV row fl fr w)) (views1 rfl) (fun w hw => turn_ok rfl ?_) ?_⟩
  · array_get_dec
    refine w_pc (seeing1 (G := G) (k := k) h44 h45 h46 h47 h48 hx ((isort_perm row).mem_iff.mp hw) hl hh) rfl rfl rfl ?_
    array_get_dec
    rfl
  · rw [filterMap_some_map]
    array_get_dec
    refine wO_zip2 e0 ?_
    array_get_dec
    refine w_body rfl ?_
    array_get_dec
    refine wO_iter e1 ?_
    array_get_dec
    refine ⟨by simp [LINE]; omega, w_map .int (fun f => some (Val.tup ((vwL row f).map .int))) (views1 (chk_var rfl rfl)) (fun f hf => turn_ok rfl ?_) ?_⟩
    · array_get_dec
      refine ⟨by simp [LINE]; omega, w_map (seenV row fl fr) (fun w => if decide (frontS row w < f) = true then some (Val.int w) else none) (views1 (chk_var rfl rfl)) (fun w hw => turn_ok rfl ?_) ?_⟩
      · array_get_dec
        refine wO_cInL (x := .tup [.str "left", .int f]) (vs := flrL (frontS row w) fl ++ flrR (behS row w) fr) ((flat_flr "left" left_ok f).cmp (by omega)) flrs_cmp ?_
        rw [keyIn_append, keyL, keyLR, Bool.or_false, show fl.contains f = true from by simpa using hf, Bool.and_true]
        array_get_dec
        split
        · array_get_dec
          first | rfl | exact ⟨by simp_all, rfl⟩ | exact ⟨rfl, rfl⟩
        · first | rfl | exact ⟨by simp_all, rfl⟩ | exact ⟨rfl, rfl⟩
      · rw [filterMap_if_map]
        array_get_dec
        first | rfl | exact ⟨by simp_all, rfl⟩ | exact ⟨rfl, rfl⟩
    · rw [filterMap_some_map]
      array_get_dec
      refine w_body rfl ?_
      array_get_dec
      refine wO_iter e2 ?_
      array_get_dec
      refine ⟨by simp [LINE]; omega, w_map .int (fun f => some (Val.tup ((vwR row f).map .int))) (views1 (chk_var rfl rfl)) (fun f hf => turn_ok rfl ?_) ?_⟩
      · array_get_dec
        refine ⟨by simp [LINE]; omega, w_map (seenV row fl fr) (fun w => if decide (behS row w < f) = true then some (Val.int w) else none) (views1 (chk_var rfl rfl)) (fun w hw => turn_ok rfl ?_) ?_⟩
        · array_get_dec
          refine wO_cInL (x := .tup [.str "right", .int f]) (vs := flrL (frontS row w) fl ++ flrR (behS row w) fr) ((flat_flr "right" right_ok f).cmp (by omega)) flrs_cmp ?_
          rw [keyIn_append, keyR, keyRL, Bool.false_or, show fr.contains f = true from by simpa using hf, Bool.and_true]
          array_get_dec
          split
          · array_get_dec
            first | rfl | exact ⟨by simp_all, rfl⟩ | exact ⟨rfl, rfl⟩
          · first | rfl | exact ⟨by simp_all, rfl⟩ | exact ⟨rfl, rfl⟩
        · rw [filterMap_if_map]
          array_get_dec
          first | rfl | exact ⟨by simp_all, rfl⟩ | exact ⟨rfl, rfl⟩
      · rw [filterMap_some_map]
        array_get_dec
        have ev : viewsV row fl fr = .tup [.tup (fl.map fun f => .tup ((vwL row f).map .int)), .tup (fr.map fun f => .tup ((vwR row f).map .int))] := by
          unfold viewsV enc2
          rw [List.map_map, List.map_map]
          rfl
        rw [ev]
        exact ⟨.p, rfl⟩
end MP
set_option Elab.async false
set_option linter.all false
set_option maxRecDepth 100000
set_option maxHeartbeats 1000000
/-! MPC17: rows alike. -/
namespace MP
local macro_rules | `(tactic| array_get_dec) => `(tactic| (repeat (first
    | ((with_reducible apply w_env); · simp only [List.set_cons_succ, List.set_cons_zero]; exact rfl)
    | with_reducible refine w_cons ?_
    | with_reducible refine w_nil ?_
    | ((with_reducible apply w_varP); exact rfl)
    | ((with_reducible apply w_varT); exact rfl)
    | ((with_reducible apply w_varR); exact rfl)
    | with_reducible refine w_con ?_
    | with_reducible refine w_asgs ?_
    | with_reducible refine w_asg ?_
    | ((with_reducible apply w_asgt); exact rfl)
    | with_reducible refine w_asgx ?_
    | with_reducible refine w_ret ?_
    | with_reducible refine w_iff ?_
    | with_reducible refine w_bin ?_
    | with_reducible refine w_cmp ?_
    | with_reducible refine w_cmp1 ?_
    | with_reducible refine w_cmp2 ?_
    | with_reducible refine w_idx ?_
    | with_reducible refine w_call ?_
    | with_reducible refine w_callk ?_
    | with_reducible refine w_as0 ?_
    | with_reducible refine w_asV ?_
    | ((with_reducible apply w_asE); exact rfl)
    | ((with_reducible apply w_aio); exact rfl; exact rfl)
    | ((with_reducible apply w_aP); exact rfl; exact rfl)
    | ((with_reducible apply w_aR); exact rfl; exact rfl)
    | ((with_reducible apply w_aO); exact rfl; exact rfl)
    | with_reducible refine w_eP ?_
    | with_reducible refine w_eR ?_
    | ((with_reducible apply w_eO); exact rfl)
    | with_reducible refine w_blt ?_
    | with_reducible refine w_es0 ?_
    | with_reducible refine w_es1 ?_
    | with_reducible refine w_os0 ?_
    | with_reducible refine w_os1 ?_
    | with_reducible refine w_tup ?_
    | with_reducible refine w_lst ?_
    | with_reducible refine w_new ?_
    | with_reducible refine w_neg ?_
    | with_reducible refine w_nt ?_
    | with_reducible refine w_and ?_
    | with_reducible refine w_or ?_
    | with_reducible refine w_and0 ?_
    | with_reducible refine w_or0 ?_
    | with_reducible refine w_and1 ?_
    | with_reducible refine w_or1 ?_
    | with_reducible refine w_ite ?_
    | with_reducible refine w_slc ?_
    | with_reducible refine w_part0 ?_
    | ((with_reducible apply w_part1); exact rfl)
    | with_reducible refine w_rev ?_
    | with_reducible refine w_isi ?_
    | with_reducible refine w_comp ?_
    | with_reducible refine w_cd0 ?_
    | with_reducible refine w_cd1 ?_
    | with_reducible refine w_itV ?_
    | with_reducible refine w_itE ?_
    | with_reducible refine w_itR ?_
    | with_reducible refine w_itZ ?_
    | with_reducible refine w_itI ?_
    | with_reducible refine w_ift ?_
    | with_reducible refine w_ifn ?_
    | with_reducible refine w_lp0 ?_
    | with_reducible refine w_lp1 ?_
    | with_reducible refine w_for ?_
    | with_reducible refine w_exp ?_
    | ((with_reducible apply w_mth); exact rfl; exact rfl)
    | ((with_reducible apply w_set); exact rfl)
    | ((with_reducible apply w_sets); exact rfl)
    | with_reducible refine w_retn ?_
    | with_reducible refine w_pass ?_
    | with_reducible refine w_raise ?_
    | with_reducible refine w_try ?_
    | with_reducible refine w_h0 ?_
    | with_reducible refine w_fld ?_
    | with_reducible refine w_dict ?_
    | ((with_reducible apply ex_own); exact rfl)
    | with_reducible refine ex_p ?_
    | with_reducible refine ex_pi ?_
    | with_reducible refine ex_vi ?_
    | with_reducible refine ex_vi2 ?_
    | with_reducible refine ex_pi2 ?_
    | with_reducible refine ex_pl ?_
    | ((with_reducible apply wO_some); exact cEq)
    | ((with_reducible apply wO_some); exact cNe)
    | ((with_reducible apply wO_some); exact pcop_eq _ _)
    | ((with_reducible apply wO_some); exact pcop_ne _ _)
    | ((with_reducible apply wO_some); exact tru_int _)
    | with_reducible refine wO_rngA ?_
    | with_reducible refine wO_rngS ?_
    | ((with_reducible apply wO_some); exact rfl)
    | ((with_reducible refine ⟨_, ?_, ?_, ?_⟩); exact rfl; exact rfl)
    | ((with_reducible refine ⟨_, ?_, ?_, ?_⟩); exact rfl; exact same_self _)
    | ((with_reducible refine ⟨_, ?_, ?_⟩); exact rfl)
    | ((with_reducible refine ⟨?_, ?_⟩); exact chk_var rfl rfl)
    | ((with_reducible refine ⟨?_, ?_⟩); ((repeat (first | refine chks_cons (chk_var rfl rfl) ?_ | refine chks_cons rfl ?_)); exact chks_nil))
    | ((with_reducible refine ⟨?_, ?_⟩); exact rfl)
    | ((with_reducible refine ⟨_, _, ?_, ?_⟩); exact rfl)
    | ((with_reducible apply w_varO); exact rfl)
    | ((with_reducible apply w_ifc); exact rfl)
    | ((with_reducible apply w_ifd); exact rfl)
    | exact ⟨.p, rfl⟩
    | exact ⟨.r, rfl⟩
    | exact ⟨.o, rfl⟩)))
variable {G : Prog}
theorem flat_views (a fl fr : List Int) : FLat (viewsV a fl fr) 3 := by
  have h : ∀ xss : List (List Int), FLat (enc2 xss) 2 := fun xss => (flat_list (n := 1) fun v hv => by
    obtain ⟨xs, _, rfl⟩ := List.mem_map.mp hv
    exact (flat_ints xs).2).2
  refine (flat_list (n := 2) fun v hv => ?_).2
  simp only [List.mem_cons, List.not_mem_nil, or_false] at hv
  rcases hv with rfl | rfl
  · exact h _
  · exact h _
end MP
set_option Elab.async false
set_option linter.all false
set_option maxRecDepth 1000000
set_option maxHeartbeats 2000000
/-! MPS: the pot; greatest, least; two of the same. -/
namespace MP
local macro_rules | `(tactic| array_get_dec) => `(tactic| (repeat (first
    | ((with_reducible apply w_env); · simp only [List.set_cons_succ, List.set_cons_zero]; exact rfl)
    | with_reducible refine w_cons ?_
    | with_reducible refine w_nil ?_
    | ((with_reducible apply w_varP); exact rfl)
    | ((with_reducible apply w_varT); exact rfl)
    | ((with_reducible apply w_varR); exact rfl)
    | with_reducible refine w_con ?_
    | with_reducible refine w_asgs ?_
    | with_reducible refine w_asg ?_
    | ((with_reducible apply w_asgt); exact rfl)
    | with_reducible refine w_asgx ?_
    | with_reducible refine w_ret ?_
    | with_reducible refine w_iff ?_
    | with_reducible refine w_bin ?_
    | with_reducible refine w_cmp ?_
    | with_reducible refine w_cmp1 ?_
    | with_reducible refine w_cmp2 ?_
    | with_reducible refine w_idx ?_
    | with_reducible refine w_call ?_
    | with_reducible refine w_callk ?_
    | with_reducible refine w_as0 ?_
    | with_reducible refine w_asV ?_
    | ((with_reducible apply w_asE); exact rfl)
    | ((with_reducible apply w_aio); exact rfl; exact rfl)
    | ((with_reducible apply w_aP); exact rfl; exact rfl)
    | ((with_reducible apply w_aR); exact rfl; exact rfl)
    | ((with_reducible apply w_aO); exact rfl; exact rfl)
    | with_reducible refine w_eP ?_
    | with_reducible refine w_eR ?_
    | ((with_reducible apply w_eO); exact rfl)
    | with_reducible refine w_blt ?_
    | with_reducible refine w_es0 ?_
    | with_reducible refine w_es1 ?_
    | with_reducible refine w_os0 ?_
    | with_reducible refine w_os1 ?_
    | with_reducible refine w_tup ?_
    | with_reducible refine w_lst ?_
    | with_reducible refine w_new ?_
    | with_reducible refine w_neg ?_
    | with_reducible refine w_nt ?_
    | with_reducible refine w_and ?_
    | with_reducible refine w_or ?_
    | with_reducible refine w_and0 ?_
    | with_reducible refine w_or0 ?_
    | with_reducible refine w_and1 ?_
    | with_reducible refine w_or1 ?_
    | with_reducible refine w_ite ?_
    | with_reducible refine w_slc ?_
    | with_reducible refine w_part0 ?_
    | ((with_reducible apply w_part1); exact rfl)
    | with_reducible refine w_rev ?_
    | with_reducible refine w_isi ?_
    | with_reducible refine w_comp ?_
    | with_reducible refine w_cd0 ?_
    | with_reducible refine w_cd1 ?_
    | with_reducible refine w_itV ?_
    | with_reducible refine w_itE ?_
    | with_reducible refine w_itR ?_
    | with_reducible refine w_itZ ?_
    | with_reducible refine w_itI ?_
    | with_reducible refine w_ift ?_
    | with_reducible refine w_ifn ?_
    | with_reducible refine w_lp0 ?_
    | with_reducible refine w_lp1 ?_
    | with_reducible refine w_for ?_
    | with_reducible refine w_exp ?_
    | ((with_reducible apply w_mth); exact rfl; exact rfl)
    | ((with_reducible apply w_set); exact rfl)
    | ((with_reducible apply w_sets); exact rfl)
    | with_reducible refine w_retn ?_
    | with_reducible refine w_pass ?_
    | with_reducible refine w_raise ?_
    | with_reducible refine w_try ?_
    | with_reducible refine w_h0 ?_
    | with_reducible refine w_fld ?_
    | with_reducible refine w_dict ?_
    | ((with_reducible apply ex_own); exact rfl)
    | with_reducible refine ex_p ?_
    | with_reducible refine ex_pi ?_
    | with_reducible refine ex_vi ?_
    | with_reducible refine ex_vi2 ?_
    | with_reducible refine ex_pi2 ?_
    | with_reducible refine ex_pl ?_
    | ((with_reducible apply wO_some); exact cEq)
    | ((with_reducible apply wO_some); exact cNe)
    | ((with_reducible apply wO_some); exact pcop_eq _ _)
    | ((with_reducible apply wO_some); exact pcop_ne _ _)
    | ((with_reducible apply wO_some); exact tru_int _)
    | with_reducible refine wO_rngA ?_
    | with_reducible refine wO_rngS ?_
    | ((with_reducible apply wO_some); exact rfl)
    | ((with_reducible refine ⟨_, ?_, ?_, ?_⟩); exact rfl; exact rfl)
    | ((with_reducible refine ⟨_, ?_, ?_, ?_⟩); exact rfl; exact same_self _)
    | ((with_reducible refine ⟨_, ?_, ?_⟩); exact rfl)
    | ((with_reducible refine ⟨?_, ?_⟩); exact chk_var rfl rfl)
    | ((with_reducible refine ⟨?_, ?_⟩); ((repeat (first | refine chks_cons (chk_var rfl rfl) ?_ | refine chks_cons rfl ?_)); exact chks_nil))
    | ((with_reducible refine ⟨?_, ?_⟩); exact rfl)
    | ((with_reducible refine ⟨_, _, ?_, ?_⟩); exact rfl)
    | ((with_reducible apply w_varO); exact rfl)
    | ((with_reducible apply w_ifc); exact rfl)
    | ((with_reducible apply w_ifd); exact rfl)
    | exact ⟨.p, rfl⟩
    | exact ⟨.r, rfl⟩
    | exact ⟨.o, rfl⟩)))
variable {G : Prog}
theorem wO_scr {ns : List Int} {i : Int} {k : Val → Prop} (h0 : 0 ≤ i) (h1 : i < ns.length) (h : ∀ c, k (.int c)) : wO (idx (.scr ns) (.int i)) k := by
  unfold wO
  have hi : i.toNat < ns.length := by omega
  simp only [idx, atV, ixN_nat h0 h1, Option.bind_some, List.getElem?_eq_getElem hi, Option.map_some]
  exact h _
theorem w_con0 {C : PCx} {ρ : PEnv} {kx : KX} {k : Sl → PEnv → Prop} {x : Bool} (h : ∀ c : Int, k (.p (.int c)) ρ) : wR (pe C (.con (.int 0)) x ρ) k kx := by
  rw [pe]; exact h 0
theorem pot1 {k : Nat} (h1 : G.defs 1 = some D1_pot) (ns : List Int) (i : Nat) (h0 : i ≤ 1000) (N : Nat) (hN : N ≤ 1000000) :
    ∃ x outs, (PotOk N x ∧ outs = [.p .non, .p .non]) ∧ callP G IO (k + 1) 1 [.p (.scr ns), .p (.int (i : Int))] true = .ok (.o true x) outs := by
  refine call_exO h1 rfl ?_
  by_cases hi : (i : Int) < (ns.length : Int)
  · simp only [D1_pot, List.map_cons, List.map_nil, Nat.reduceSub, List.replicate_succ, List.replicate_zero, List.cons_append, List.nil_append]
    refine w_cons (w_asg (w_con0 fun c0 => ⟨rfl, ?_⟩))
    array_get_dec
    rw [if_pos (decide_eq_true hi)]
    array_get_dec
    refine wO_scr (by omega) hi fun c => ?_
    array_get_dec
    refine wO_mul (i := if c < 0 then -c else c) (j := b2i (decide (10 ^ Int.toNat 18 ≤ if c < 0 then -c else c))) (by
      rw [Bool.or_eq_true]
      right
      unfold smallI b2i
      split <;> exact decide_eq_true (by omega)) ?_
    array_get_dec
    refine wO_mul (i := c % 2147483587 + 104729 * (i : Int) + 29) (j := 40692) (by rw [Bool.or_eq_true]; right; decide) ?_
    array_get_dec
    refine ⟨_, .inr rfl, ⟨_, _, _, rfl, ?_, Int.emod_nonneg _ (by decide), Int.emod_lt_of_pos _ (by decide), by decide, by omega⟩, rfl⟩
    refine Int.mul_nonneg ?_ ?_
    · split <;> omega
    · have hb : ∀ b : Bool, 0 ≤ b2i b := by intro b; cases b <;> decide
      exact hb _
  · simp only [D1_pot, List.map_cons, List.map_nil, Nat.reduceSub, List.replicate_succ, List.replicate_zero, List.cons_append, List.nil_append]
    refine w_cons (w_asg (w_con0 fun c => ⟨rfl, ?_⟩))
    array_get_dec
    rw [if_neg (by simpa using hi)]
    array_get_dec
    refine wO_mul (i := if c < 0 then -c else c) (j := b2i (decide (10 ^ Int.toNat 18 ≤ if c < 0 then -c else c))) (by
      rw [Bool.or_eq_true]
      right
      unfold smallI b2i
      split <;> exact decide_eq_true (by omega)) ?_
    array_get_dec
    refine wO_mul (i := c % 2147483587 + 104729 * (i : Int) + 29) (j := 40692) (by rw [Bool.or_eq_true]; right; decide) ?_
    array_get_dec
    refine ⟨_, .inr rfl, ⟨_, _, _, rfl, ?_, Int.emod_nonneg _ (by decide), Int.emod_lt_of_pos _ (by decide), by decide, by omega⟩, rfl⟩
    refine Int.mul_nonneg ?_ ?_
    · split <;> omega
    · have hb : ∀ b : Bool, 0 ≤ b2i b := by intro b; cases b <;> decide
      exact hb _
/-! ### the same -/
def Sv (s : Sl) (v : Val) : Prop := s = .p v ∨ ((∃ xs, v = .lst xs) ∧ s = .r false v)
theorem Sv.only {s : Sl} {v : Val} (h : Sv s v) (hn : ∀ xs, v ≠ .lst xs) : s = .p v := by
  rcases h with h | ⟨⟨xs, e⟩, _⟩
  · exact h
  · exact absurd e (hn xs)
theorem blsOf_true1 {α : Type} : ∀ xs : List α, blsOf (xs.map fun _ => Val.bl true) = some (xs.map fun _ => true)
  | [] => rfl
  | x :: xs => by simp only [List.map_cons, blsOf, blsOf_true1 xs, Option.map_some]
theorem wO_allT1 {α : Type} {xs : List α} {k : Val → Prop} (h : k (.bl true)) : wO (blt .all [.lst (xs.map fun _ => Val.bl true)]) k := by
  have e : (xs.map fun _ => true).all id = true := by simp
  unfold wO
  simp only [blt, blsOf_true1, Option.map_some, e]
  exact h
theorem wO_eqSame {v : Val} {k : Bool → Prop} (h : v.cmpOk = true) (h2 : v.eqv v = true) (hk : k true) : wO (cop .Eq v v) k := by
  unfold wO
  simp only [cop, h, Bool.and_self, if_true, h2]
  exact hk
end MP
set_option Elab.async false
set_option linter.all false
set_option maxRecDepth 1000000
set_option maxHeartbeats 2000000
/-! MPT: what is told of an exchange. -/
namespace MP
local macro_rules | `(tactic| array_get_dec) => `(tactic| (repeat (first
    | ((with_reducible apply w_env); · simp only [List.set_cons_succ, List.set_cons_zero]; exact rfl)
    | with_reducible refine w_cons ?_
    | with_reducible refine w_nil ?_
    | ((with_reducible apply w_varP); exact rfl)
    | ((with_reducible apply w_varT); exact rfl)
    | ((with_reducible apply w_varR); exact rfl)
    | with_reducible refine w_con ?_
    | with_reducible refine w_asgs ?_
    | with_reducible refine w_asg ?_
    | ((with_reducible apply w_asgt); exact rfl)
    | with_reducible refine w_asgx ?_
    | with_reducible refine w_ret ?_
    | with_reducible refine w_iff ?_
    | with_reducible refine w_bin ?_
    | with_reducible refine w_cmp ?_
    | with_reducible refine w_cmp1 ?_
    | with_reducible refine w_cmp2 ?_
    | with_reducible refine w_idx ?_
    | with_reducible refine w_call ?_
    | with_reducible refine w_callk ?_
    | with_reducible refine w_as0 ?_
    | with_reducible refine w_asV ?_
    | ((with_reducible apply w_asE); exact rfl)
    | ((with_reducible apply w_aio); exact rfl; exact rfl)
    | ((with_reducible apply w_aP); exact rfl; exact rfl)
    | ((with_reducible apply w_aR); exact rfl; exact rfl)
    | ((with_reducible apply w_aO); exact rfl; exact rfl)
    | with_reducible refine w_eP ?_
    | with_reducible refine w_eR ?_
    | ((with_reducible apply w_eO); exact rfl)
    | with_reducible refine w_blt ?_
    | with_reducible refine w_es0 ?_
    | with_reducible refine w_es1 ?_
    | with_reducible refine w_os0 ?_
    | with_reducible refine w_os1 ?_
    | with_reducible refine w_tup ?_
    | with_reducible refine w_lst ?_
    | with_reducible refine w_new ?_
    | with_reducible refine w_neg ?_
    | with_reducible refine w_nt ?_
    | with_reducible refine w_and ?_
    | with_reducible refine w_or ?_
    | with_reducible refine w_and0 ?_
    | with_reducible refine w_or0 ?_
    | with_reducible refine w_and1 ?_
    | with_reducible refine w_or1 ?_
    | with_reducible refine w_ite ?_
    | with_reducible refine w_slc ?_
    | with_reducible refine w_part0 ?_
    | ((with_reducible apply w_part1); exact rfl)
    | with_reducible refine w_rev ?_
    | with_reducible refine w_isi ?_
    | with_reducible refine w_comp ?_
    | with_reducible refine w_cd0 ?_
    | with_reducible refine w_cd1 ?_
    | with_reducible refine w_itV ?_
    | with_reducible refine w_itE ?_
    | with_reducible refine w_itR ?_
    | with_reducible refine w_itZ ?_
    | with_reducible refine w_itI ?_
    | with_reducible refine w_ift ?_
    | with_reducible refine w_ifn ?_
    | with_reducible refine w_lp0 ?_
    | with_reducible refine w_lp1 ?_
    | with_reducible refine w_for ?_
    | with_reducible refine w_exp ?_
    | ((with_reducible apply w_mth); exact rfl; exact rfl)
    | ((with_reducible apply w_set); exact rfl)
    | ((with_reducible apply w_sets); exact rfl)
    | with_reducible refine w_retn ?_
    | with_reducible refine w_pass ?_
    | with_reducible refine w_raise ?_
    | with_reducible refine w_try ?_
    | with_reducible refine w_h0 ?_
    | with_reducible refine w_fld ?_
    | with_reducible refine w_dict ?_
    | ((with_reducible apply ex_own); exact rfl)
    | with_reducible refine ex_p ?_
    | with_reducible refine ex_pi ?_
    | with_reducible refine ex_vi ?_
    | with_reducible refine ex_vi2 ?_
    | with_reducible refine ex_pi2 ?_
    | with_reducible refine ex_pl ?_
    | ((with_reducible apply wO_some); exact cEq)
    | ((with_reducible apply wO_some); exact cNe)
    | ((with_reducible apply wO_some); exact pcop_eq _ _)
    | ((with_reducible apply wO_some); exact pcop_ne _ _)
    | ((with_reducible apply wO_some); exact tru_int _)
    | with_reducible refine wO_rngA ?_
    | with_reducible refine wO_rngS ?_
    | ((with_reducible apply wO_some); exact rfl)
    | ((with_reducible refine ⟨_, ?_, ?_, ?_⟩); exact rfl; exact rfl)
    | ((with_reducible refine ⟨_, ?_, ?_, ?_⟩); exact rfl; exact same_self _)
    | ((with_reducible refine ⟨_, ?_, ?_⟩); exact rfl)
    | ((with_reducible refine ⟨?_, ?_⟩); exact chk_var rfl rfl)
    | ((with_reducible refine ⟨?_, ?_⟩); ((repeat (first | refine chks_cons (chk_var rfl rfl) ?_ | refine chks_cons rfl ?_)); exact chks_nil))
    | ((with_reducible refine ⟨?_, ?_⟩); exact rfl)
    | ((with_reducible refine ⟨_, _, ?_, ?_⟩); exact rfl)
    | ((with_reducible apply w_varO); exact rfl)
    | ((with_reducible apply w_ifc); exact rfl)
    | ((with_reducible apply w_ifd); exact rfl)
    | exact ⟨.p, rfl⟩
    | exact ⟨.r, rfl⟩
    | exact ⟨.o, rfl⟩)))
variable {G : Prog}
/-- side and floor -/
def encF (p : Bool × Int) : Val := .tup [.str (if p.1 then "right" else "left"), .int p.2]
def fs (a b : Int) (fl fr : List Int) : List (Bool × Int) := ((fl.filter fun f => decide (a < f)).map fun f => (false, f)) ++ ((fr.filter fun f => decide (b < f)).map fun f => (true, f))
theorem flrs_enc (a b : Int) (fl fr : List Int) : flrL a fl ++ flrR b fr = (fs a b fl fr).map encF := by
  unfold fs flrL flrR
  rw [List.map_append, List.map_map, List.map_map]
  congr 1
  · rw [← filterMap_if_map]
    congr 1
    funext f
    by_cases h : a < f <;> simp [h, encF]
  · rw [← filterMap_if_map]
    congr 1
    funext f
    by_cases h : b < f <;> simp [h, encF]
theorem fs_len (a b : Int) (fl fr : List Int) : (fs a b fl fr).length ≤ fl.length + fr.length := by
  unfold fs
  rw [List.length_append, List.length_map, List.length_map]
  have := List.length_filter_le (fun f => decide (a < f)) fl
  have := List.length_filter_le (fun f => decide (b < f)) fr
  omega
theorem seen_by1 {k : Nat} {x h : Val} {row fl fr : List Int} {who : Int} (h44 : G.defs 44 = some D44_place_of) (h45 : G.defs 45 = some D45_taller_ahead) (h46 : G.defs 46 = some D46_taller_behind) (h47 : G.defs 47 = some D47_floors_seeing) (h48 : G.defs 48 = some D48_seeing) (h56 : G.defs 56 = some D56_seen_by)
    (hx : seqOf x = some (row.map .int)) (hw : who ∈ row) (hl : row.length ≤ 1000) (hh : Hs2 h fl fr) :
    callP G IO (k + 4) 56 [.p x, .p h, .p (.int who)] false = .ok (.p (.tup [.int (fl.filter fun f => decide (frontS row who < f)).length, .int (fr.filter fun f => decide (behS row who < f)).length])) [.p .non, .p .non, .p .non] := by
  refine call_ok h56 rfl ?_
  simp only [D56_seen_by, List.map_cons, List.map_nil, Nat.reduceSub, List.replicate_succ, List.replicate_zero, List.cons_append, List.nil_append]
  array_get_dec
  refine w_pc (seeing1 (G := G) (k := k) h44 h45 h46 h47 h48 hx hw hl hh) rfl rfl rfl ?_
  array_get_dec
  rw [flrs_enc]
  have L1 := fs_len (frontS row who) (behS row who) fl fr
  have l1 := hh.l1
  have l2 := hh.l2
  refine ⟨by simp [LINE]; omega, w_map encF (fun q => if (!q.1) = true then some (Val.str "left") else none) (views1 (chk_var rfl rfl)) (fun q hq => turn_ok rfl ?_) ?_⟩
  · obtain ⟨c, i⟩ := q
    cases c
    · array_get_dec
      refine wO_eqSame (v := .str "left") (by decide +kernel) (by decide +kernel) ?_
      array_get_dec
      first | rfl | exact ⟨by simp_all, rfl⟩ | exact ⟨rfl, rfl⟩
    · array_get_dec
      have e : cop .Eq (.str "right") (.str "left") = some false := by decide +kernel
      refine wO_some e ?_
      array_get_dec
      first | rfl | exact ⟨by simp_all, rfl⟩ | exact ⟨rfl, rfl⟩
  · rw [filterMap_if_map]
    array_get_dec
    have e1 : ((fs (frontS row who) (behS row who) fl fr).filter fun q => !q.1).length = (fl.filter fun f => decide (frontS row who < f)).length := by
      unfold fs
      rw [List.filter_append, List.length_append]
      have a1 : ∀ l : List Int, ((l.map fun f => (false, f)).filter fun q : Bool × Int => !q.1) = l.map fun f => (false, f) := fun l => by
        rw [List.filter_eq_self]
        intro q hq
        obtain ⟨_, _, rfl⟩ := List.mem_map.mp hq
        rfl
      have a2 : ∀ l : List Int, ((l.map fun f => (true, f)).filter fun q : Bool × Int => !q.1) = [] := fun l => by
        rw [List.filter_eq_nil_iff]
        intro q hq
        obtain ⟨_, _, rfl⟩ := List.mem_map.mp hq
        simp
      rw [a1, a2, List.length_map]
      simp
    have e2 : (fs (frontS row who) (behS row who) fl fr).length = (fl.filter fun f => decide (frontS row who < f)).length + (fr.filter fun f => decide (behS row who < f)).length := by
      unfold fs
      simp
    rw [List.length_map, List.length_map, e1, e2]
    have e3 : (((fl.filter fun f => decide (frontS row who < f)).length + (fr.filter fun f => decide (behS row who < f)).length : Nat) : Int) - ((fl.filter fun f => decide (frontS row who < f)).length : Nat) = ((fr.filter fun f => decide (behS row who < f)).length : Nat) := by omega
    rw [e3]
    array_get_dec
end MP
set_option Elab.async false
set_option linter.all false
set_option maxRecDepth 1000000
set_option maxHeartbeats 2000000
/-! MPN: numbers in rows; a row with one more. -/
namespace MP
local macro_rules | `(tactic| array_get_dec) => `(tactic| (repeat (first
    | ((with_reducible apply w_env); · simp only [List.set_cons_succ, List.set_cons_zero]; exact rfl)
    | with_reducible refine w_cons ?_
    | with_reducible refine w_nil ?_
    | ((with_reducible apply w_varP); exact rfl)
    | ((with_reducible apply w_varT); exact rfl)
    | ((with_reducible apply w_varR); exact rfl)
    | with_reducible refine w_con ?_
    | with_reducible refine w_asgs ?_
    | with_reducible refine w_asg ?_
    | ((with_reducible apply w_asgt); exact rfl)
    | with_reducible refine w_asgx ?_
    | with_reducible refine w_ret ?_
    | with_reducible refine w_iff ?_
    | with_reducible refine w_bin ?_
    | with_reducible refine w_cmp ?_
    | with_reducible refine w_cmp1 ?_
    | with_reducible refine w_cmp2 ?_
    | with_reducible refine w_idx ?_
    | with_reducible refine w_call ?_
    | with_reducible refine w_callk ?_
    | with_reducible refine w_as0 ?_
    | with_reducible refine w_asV ?_
    | ((with_reducible apply w_asE); exact rfl)
    | ((with_reducible apply w_aio); exact rfl; exact rfl)
    | ((with_reducible apply w_aP); exact rfl; exact rfl)
    | ((with_reducible apply w_aR); exact rfl; exact rfl)
    | ((with_reducible apply w_aO); exact rfl; exact rfl)
    | with_reducible refine w_eP ?_
    | with_reducible refine w_eR ?_
    | ((with_reducible apply w_eO); exact rfl)
    | with_reducible refine w_blt ?_
    | with_reducible refine w_es0 ?_
    | with_reducible refine w_es1 ?_
    | with_reducible refine w_os0 ?_
    | with_reducible refine w_os1 ?_
    | with_reducible refine w_tup ?_
    | with_reducible refine w_lst ?_
    | with_reducible refine w_new ?_
    | with_reducible refine w_neg ?_
    | with_reducible refine w_nt ?_
    | with_reducible refine w_and ?_
    | with_reducible refine w_or ?_
    | with_reducible refine w_and0 ?_
    | with_reducible refine w_or0 ?_
    | with_reducible refine w_and1 ?_
    | with_reducible refine w_or1 ?_
    | with_reducible refine w_ite ?_
    | with_reducible refine w_slc ?_
    | with_reducible refine w_part0 ?_
    | ((with_reducible apply w_part1); exact rfl)
    | with_reducible refine w_rev ?_
    | with_reducible refine w_isi ?_
    | with_reducible refine w_comp ?_
    | with_reducible refine w_cd0 ?_
    | with_reducible refine w_cd1 ?_
    | with_reducible refine w_itV ?_
    | with_reducible refine w_itE ?_
    | with_reducible refine w_itR ?_
    | with_reducible refine w_itZ ?_
    | with_reducible refine w_itI ?_
    | with_reducible refine w_ift ?_
    | with_reducible refine w_ifn ?_
    | with_reducible refine w_lp0 ?_
    | with_reducible refine w_lp1 ?_
    | with_reducible refine w_for ?_
    | with_reducible refine w_exp ?_
    | ((with_reducible apply w_mth); exact rfl; exact rfl)
    | ((with_reducible apply w_set); exact rfl)
    | ((with_reducible apply w_sets); exact rfl)
    | with_reducible refine w_retn ?_
    | with_reducible refine w_pass ?_
    | with_reducible refine w_raise ?_
    | with_reducible refine w_try ?_
    | with_reducible refine w_h0 ?_
    | with_reducible refine w_fld ?_
    | with_reducible refine w_dict ?_
    | ((with_reducible apply ex_own); exact rfl)
    | with_reducible refine ex_p ?_
    | with_reducible refine ex_pi ?_
    | with_reducible refine ex_vi ?_
    | with_reducible refine ex_vi2 ?_
    | with_reducible refine ex_pi2 ?_
    | with_reducible refine ex_pl ?_
    | ((with_reducible apply wO_some); exact cEq)
    | ((with_reducible apply wO_some); exact cNe)
    | ((with_reducible apply wO_some); exact pcop_eq _ _)
    | ((with_reducible apply wO_some); exact pcop_ne _ _)
    | ((with_reducible apply wO_some); exact tru_int _)
    | with_reducible refine wO_rngA ?_
    | with_reducible refine wO_rngS ?_
    | ((with_reducible apply wO_some); exact rfl)
    | ((with_reducible refine ⟨_, ?_, ?_, ?_⟩); exact rfl; exact rfl)
    | ((with_reducible refine ⟨_, ?_, ?_, ?_⟩); exact rfl; exact same_self _)
    | ((with_reducible refine ⟨_, ?_, ?_⟩); exact rfl)
    | ((with_reducible refine ⟨?_, ?_⟩); exact chk_var rfl rfl)
    | ((with_reducible refine ⟨?_, ?_⟩); ((repeat (first | refine chks_cons (chk_var rfl rfl) ?_ | refine chks_cons rfl ?_)); exact chks_nil))
    | ((with_reducible refine ⟨?_, ?_⟩); exact rfl)
    | ((with_reducible refine ⟨_, _, ?_, ?_⟩); exact rfl)
    | ((with_reducible apply w_varO); exact rfl)
    | ((with_reducible apply w_ifc); exact rfl)
    | ((with_reducible apply w_ifd); exact rfl)
    | exact ⟨.p, rfl⟩
    | exact ⟨.r, rfl⟩
    | exact ⟨.o, rfl⟩)))
variable {G : Prog}
theorem keyIn_ints (w : Int) : ∀ xs : List Int, keyIn (.int w) (xs.map .int) = decide (w ∈ xs)
  | [] => rfl
  | x :: xs => by
    simp only [List.map_cons, keyIn, Val.eqv, keyIn_ints w xs, List.mem_cons]
    by_cases h : x = w
    · subst h; simp
    · have h' : ¬ w = x := fun e => h e.symm
      simp [h, h']
theorem ints_cmp {xs : List Int} : ((xs.map Val.int).all Val.cmpOk) = true := List.all_eq_true.mpr fun v hv => by
  obtain ⟨i, _, rfl⟩ := List.mem_map.mp hv
  rfl
theorem wO_inS {v : Val} {w : Int} {xs : List Int} {k : Bool → Prop} (hv : seqOf v = some (xs.map .int)) (h : k (decide (w ∈ xs))) : wO (cop .In (.int w) v) k := by
  have c : (Val.int w).cmpOk = true := rfl
  unfold wO
  cases v <;> simp only [seqOf, Option.some.injEq, reduceCtorEq] at hv <;> subst hv <;> (simp only [cop, cIn, c, ints_cmp, Bool.and_self, if_true, keyIn_ints]; exact h)
theorem wO_neW {u v : Val} {z : Bool} {k : Bool → Prop} (hu : u.cmpOk = true) (hv : v.cmpOk = true) (e : u.eqv v = z) (h : k (!z)) : wO (cop .NotEq u v) k := by
  subst e
  unfold wO
  simp only [cop, hu, hv, Bool.and_self, if_true]
  exact h
/-! ### one more in a row -/
/-! ### the defs -/
end MP
set_option Elab.async false
set_option linter.all false
set_option maxRecDepth 100000
set_option maxHeartbeats 4000000
/-! MPX: boxes, exchanges. -/
namespace MP
local macro_rules | `(tactic| array_get_dec) => `(tactic| (repeat (first
    | ((with_reducible apply w_env); · simp only [List.set_cons_succ, List.set_cons_zero]; exact rfl)
    | with_reducible refine w_cons ?_
    | with_reducible refine w_nil ?_
    | ((with_reducible apply w_varP); exact rfl)
    | ((with_reducible apply w_varT); exact rfl)
    | ((with_reducible apply w_varR); exact rfl)
    | with_reducible refine w_con ?_
    | with_reducible refine w_asgs ?_
    | with_reducible refine w_asg ?_
    | ((with_reducible apply w_asgt); exact rfl)
    | with_reducible refine w_asgx ?_
    | with_reducible refine w_ret ?_
    | with_reducible refine w_iff ?_
    | with_reducible refine w_bin ?_
    | with_reducible refine w_cmp ?_
    | with_reducible refine w_cmp1 ?_
    | with_reducible refine w_cmp2 ?_
    | with_reducible refine w_idx ?_
    | with_reducible refine w_call ?_
    | with_reducible refine w_callk ?_
    | with_reducible refine w_as0 ?_
    | with_reducible refine w_asV ?_
    | ((with_reducible apply w_asE); exact rfl)
    | ((with_reducible apply w_aio); exact rfl; exact rfl)
    | ((with_reducible apply w_aP); exact rfl; exact rfl)
    | ((with_reducible apply w_aR); exact rfl; exact rfl)
    | ((with_reducible apply w_aO); exact rfl; exact rfl)
    | with_reducible refine w_eP ?_
    | with_reducible refine w_eR ?_
    | ((with_reducible apply w_eO); exact rfl)
    | with_reducible refine w_blt ?_
    | with_reducible refine w_es0 ?_
    | with_reducible refine w_es1 ?_
    | with_reducible refine w_os0 ?_
    | with_reducible refine w_os1 ?_
    | with_reducible refine w_tup ?_
    | with_reducible refine w_lst ?_
    | with_reducible refine w_new ?_
    | with_reducible refine w_neg ?_
    | with_reducible refine w_nt ?_
    | with_reducible refine w_and ?_
    | with_reducible refine w_or ?_
    | with_reducible refine w_and0 ?_
    | with_reducible refine w_or0 ?_
    | with_reducible refine w_and1 ?_
    | with_reducible refine w_or1 ?_
    | with_reducible refine w_ite ?_
    | with_reducible refine w_slc ?_
    | with_reducible refine w_part0 ?_
    | ((with_reducible apply w_part1); exact rfl)
    | with_reducible refine w_rev ?_
    | with_reducible refine w_isi ?_
    | with_reducible refine w_comp ?_
    | with_reducible refine w_cd0 ?_
    | with_reducible refine w_cd1 ?_
    | with_reducible refine w_itV ?_
    | with_reducible refine w_itE ?_
    | with_reducible refine w_itR ?_
    | with_reducible refine w_itZ ?_
    | with_reducible refine w_itI ?_
    | with_reducible refine w_ift ?_
    | with_reducible refine w_ifn ?_
    | with_reducible refine w_lp0 ?_
    | with_reducible refine w_lp1 ?_
    | with_reducible refine w_for ?_
    | with_reducible refine w_exp ?_
    | ((with_reducible apply w_mth); exact rfl; exact rfl)
    | ((with_reducible apply w_set); exact rfl)
    | ((with_reducible apply w_sets); exact rfl)
    | with_reducible refine w_retn ?_
    | with_reducible refine w_pass ?_
    | with_reducible refine w_raise ?_
    | with_reducible refine w_try ?_
    | with_reducible refine w_h0 ?_
    | with_reducible refine w_fld ?_
    | with_reducible refine w_dict ?_
    | ((with_reducible apply ex_own); exact rfl)
    | with_reducible refine ex_p ?_
    | with_reducible refine ex_pi ?_
    | with_reducible refine ex_vi ?_
    | with_reducible refine ex_vi2 ?_
    | with_reducible refine ex_pi2 ?_
    | with_reducible refine ex_pl ?_
    | ((with_reducible apply wO_some); exact cEq)
    | ((with_reducible apply wO_some); exact cNe)
    | ((with_reducible apply wO_some); exact pcop_eq _ _)
    | ((with_reducible apply wO_some); exact pcop_ne _ _)
    | ((with_reducible apply wO_some); exact tru_int _)
    | with_reducible refine wO_rngA ?_
    | with_reducible refine wO_rngS ?_
    | ((with_reducible apply wO_some); exact rfl)
    | ((with_reducible refine ⟨_, ?_, ?_, ?_⟩); exact rfl; exact rfl)
    | ((with_reducible refine ⟨_, ?_, ?_, ?_⟩); exact rfl; exact same_self _)
    | ((with_reducible refine ⟨_, ?_, ?_⟩); exact rfl)
    | ((with_reducible refine ⟨?_, ?_⟩); exact chk_var rfl rfl)
    | ((with_reducible refine ⟨?_, ?_⟩); ((repeat (first | refine chks_cons (chk_var rfl rfl) ?_ | refine chks_cons rfl ?_)); exact chks_nil))
    | ((with_reducible refine ⟨?_, ?_⟩); exact rfl)
    | ((with_reducible refine ⟨_, _, ?_, ?_⟩); exact rfl)
    | ((with_reducible apply w_varO); exact rfl)
    | ((with_reducible apply w_ifc); exact rfl)
    | ((with_reducible apply w_ifd); exact rfl)
    | exact ⟨.p, rfl⟩
    | exact ⟨.r, rfl⟩
    | exact ⟨.o, rfl⟩)))
variable {G : Prog}
/-! ### stretches -/
/-! ### taller ones, counted -/
theorem front_beh : ∀ {row : List Int} {w : Int}, w ∈ row → frontS row w + behS row w = cntG row w
  | a :: r, w, h => by
    by_cases e : a = w
    · subst e
      simp [frontS, behS, cntG]
    · have e' : ¬ w = a := fun q => e q.symm
      have ih := front_beh (row := r) (w := w) (by simpa [e'] using h)
      simp only [frontS, behS, cntG, if_neg e]
      omega
theorem cntG_perm {l m : List Int} (h : l.Perm m) (w : Int) : cntG l w = cntG m w := by
  induction h with
  | nil => rfl
  | cons a _ ih => simp only [cntG, ih]
  | swap a b l => simp only [cntG]; omega
  | trans _ _ ih1 ih2 => rw [ih1, ih2]
theorem cntG_nn : ∀ (l : List Int) (w : Int), 0 ≤ cntG l w
  | [], _ => by simp [cntG]
  | a :: l, w => by
    have := cntG_nn l w
    simp only [cntG]
    split <;> omega
theorem front_nn : ∀ (l : List Int) (w : Int), 0 ≤ frontS l w
  | [], _ => by simp [frontS]
  | a :: l, w => by
    have := front_nn l w
    simp only [frontS]
    split
    · omega
    · split <;> omega
theorem beh_nn : ∀ (l : List Int) (w : Int), 0 ≤ behS l w
  | [], _ => by simp [behS]
  | a :: l, w => by
    have := beh_nn l w
    have := cntG_nn l w
    simp only [behS]
    split <;> omega
/-- in a falling row so many are taller as stand ahead -/
theorem fall_cnt : ∀ {l : List Int} {i : Nat} {w : Int}, l.Pairwise (· > ·) → l[i]? = some w → cntG l w = (i : Int)
  | [], _, _, _, h => by simp at h
  | a :: l, 0, w, hp, h => by
    rw [List.pairwise_cons] at hp
    simp at h
    subst h
    have z : ∀ (m : List Int) (w : Int), (∀ x ∈ m, w > x) → cntG m w = 0 := by
      intro m
      induction m with
      | nil => intro w _; rfl
      | cons b m ih =>
        intro w hm
        have h1 := hm b List.mem_cons_self
        have h2 := ih w fun x hx => hm x (List.mem_cons_of_mem _ hx)
        simp only [cntG, h2]
        rw [if_neg (by omega)]
        rfl
    simp only [cntG, z l a hp.1]
    rw [if_neg (by omega)]
    rfl
  | a :: l, i + 1, w, hp, h => by
    rw [List.pairwise_cons] at hp
    rw [List.getElem?_cons_succ] at h
    have hw := hp.1 w (List.mem_of_getElem? h)
    have ih := fall_cnt hp.2 h
    simp only [cntG, ih]
    rw [if_pos hw]
    omega
theorem isort_fall {row : List Int} (nd : row.Nodup) : (isort row).reverse.Pairwise (· > ·) := by
  rw [List.pairwise_reverse]
  have h1 := isort_le row
  have h2 : (isort row).Nodup := (isort_perm row).nodup_iff.mpr nd
  exact (h1.and h2).imp fun h => by have := h.1; have := h.2; omega
theorem isort_cnt {row : List Int} (nd : row.Nodup) {i : Nat} {w : Int} (h : (isort row).reverse[i]? = some w) : cntG row w = (i : Int) := by
  rw [← fall_cnt (isort_fall nd) h]
  exact cntG_perm ((isort_perm row).symm.trans (List.reverse_perm _).symm) w
/-! ### neighbours exchanged -/
end MP
set_option Elab.async false
set_option linter.all false
set_option maxRecDepth 100000
set_option maxHeartbeats 4000000
/-! MPM: small things more. -/
namespace MP
local macro_rules | `(tactic| array_get_dec) => `(tactic| (repeat (first
    | ((with_reducible apply w_env); · simp only [List.set_cons_succ, List.set_cons_zero]; exact rfl)
    | with_reducible refine w_cons ?_
    | with_reducible refine w_nil ?_
    | ((with_reducible apply w_varP); exact rfl)
    | ((with_reducible apply w_varT); exact rfl)
    | ((with_reducible apply w_varR); exact rfl)
    | with_reducible refine w_con ?_
    | with_reducible refine w_asgs ?_
    | with_reducible refine w_asg ?_
    | ((with_reducible apply w_asgt); exact rfl)
    | with_reducible refine w_asgx ?_
    | with_reducible refine w_ret ?_
    | with_reducible refine w_iff ?_
    | with_reducible refine w_bin ?_
    | with_reducible refine w_cmp ?_
    | with_reducible refine w_cmp1 ?_
    | with_reducible refine w_cmp2 ?_
    | with_reducible refine w_idx ?_
    | with_reducible refine w_call ?_
    | with_reducible refine w_callk ?_
    | with_reducible refine w_as0 ?_
    | with_reducible refine w_asV ?_
    | ((with_reducible apply w_asE); exact rfl)
    | ((with_reducible apply w_aio); exact rfl; exact rfl)
    | ((with_reducible apply w_aP); exact rfl; exact rfl)
    | ((with_reducible apply w_aR); exact rfl; exact rfl)
    | ((with_reducible apply w_aO); exact rfl; exact rfl)
    | with_reducible refine w_eP ?_
    | with_reducible refine w_eR ?_
    | ((with_reducible apply w_eO); exact rfl)
    | with_reducible refine w_blt ?_
    | with_reducible refine w_es0 ?_
    | with_reducible refine w_es1 ?_
    | with_reducible refine w_os0 ?_
    | with_reducible refine w_os1 ?_
    | with_reducible refine w_tup ?_
    | with_reducible refine w_lst ?_
    | with_reducible refine w_new ?_
    | with_reducible refine w_neg ?_
    | with_reducible refine w_nt ?_
    | with_reducible refine w_and ?_
    | with_reducible refine w_or ?_
    | with_reducible refine w_and0 ?_
    | with_reducible refine w_or0 ?_
    | with_reducible refine w_and1 ?_
    | with_reducible refine w_or1 ?_
    | with_reducible refine w_ite ?_
    | with_reducible refine w_slc ?_
    | with_reducible refine w_part0 ?_
    | ((with_reducible apply w_part1); exact rfl)
    | with_reducible refine w_rev ?_
    | with_reducible refine w_isi ?_
    | with_reducible refine w_comp ?_
    | with_reducible refine w_cd0 ?_
    | with_reducible refine w_cd1 ?_
    | with_reducible refine w_itV ?_
    | with_reducible refine w_itE ?_
    | with_reducible refine w_itR ?_
    | with_reducible refine w_itZ ?_
    | with_reducible refine w_itI ?_
    | with_reducible refine w_ift ?_
    | with_reducible refine w_ifn ?_
    | with_reducible refine w_lp0 ?_
    | with_reducible refine w_lp1 ?_
    | with_reducible refine w_for ?_
    | with_reducible refine w_exp ?_
    | ((with_reducible apply w_mth); exact rfl; exact rfl)
    | ((with_reducible apply w_set); exact rfl)
    | ((with_reducible apply w_sets); exact rfl)
    | with_reducible refine w_retn ?_
    | with_reducible refine w_pass ?_
    | with_reducible refine w_raise ?_
    | with_reducible refine w_try ?_
    | with_reducible refine w_h0 ?_
    | with_reducible refine w_fld ?_
    | with_reducible refine w_dict ?_
    | ((with_reducible apply ex_own); exact rfl)
    | with_reducible refine ex_p ?_
    | with_reducible refine ex_pi ?_
    | with_reducible refine ex_vi ?_
    | with_reducible refine ex_vi2 ?_
    | with_reducible refine ex_pi2 ?_
    | with_reducible refine ex_pl ?_
    | ((with_reducible apply wO_some); exact cEq)
    | ((with_reducible apply wO_some); exact cNe)
    | ((with_reducible apply wO_some); exact pcop_eq _ _)
    | ((with_reducible apply wO_some); exact pcop_ne _ _)
    | ((with_reducible apply wO_some); exact tru_int _)
    | with_reducible refine wO_rngA ?_
    | with_reducible refine wO_rngS ?_
    | ((with_reducible apply wO_some); exact rfl)
    | ((with_reducible refine ⟨_, ?_, ?_, ?_⟩); exact rfl; exact rfl)
    | ((with_reducible refine ⟨_, ?_, ?_, ?_⟩); exact rfl; exact same_self _)
    | ((with_reducible refine ⟨_, ?_, ?_⟩); exact rfl)
    | ((with_reducible refine ⟨?_, ?_⟩); exact chk_var rfl rfl)
    | ((with_reducible refine ⟨?_, ?_⟩); ((repeat (first | refine chks_cons (chk_var rfl rfl) ?_ | refine chks_cons rfl ?_)); exact chks_nil))
    | ((with_reducible refine ⟨?_, ?_⟩); exact rfl)
    | ((with_reducible refine ⟨_, _, ?_, ?_⟩); exact rfl)
    | ((with_reducible apply w_varO); exact rfl)
    | ((with_reducible apply w_ifc); exact rfl)
    | ((with_reducible apply w_ifd); exact rfl)
    | exact ⟨.p, rfl⟩
    | exact ⟨.r, rfl⟩
    | exact ⟨.o, rfl⟩)))
variable {G : Prog}
mutual
theorem eqv_refl : ∀ v : Val, v.data = true → v.eqv v = true
  | .non, _ => rfl
  | .bl b, _ => by cases b <;> rfl
  | .int i, _ => by simp [Val.eqv]
  | .str x, _ => by simp [Val.eqv]
  | .tup xs, h => by simp only [Val.eqv]; exact eqvL_refl xs (by simpa [Val.data] using h)
  | .lst xs, h => by simp only [Val.eqv]; exact eqvL_refl xs (by simpa [Val.data] using h)
  | .ref _, h => by simp [Val.data] at h
  | .scr _, h => by simp [Val.data] at h
  | .set _, h => by simp [Val.data] at h
  | .dct _ _, h => by simp [Val.data] at h
  | .exc _ _, h => by simp [Val.data] at h
theorem eqvL_refl : ∀ vs : List Val, dataL vs = true → eqvL vs vs = true
  | [], _ => rfl
  | v :: vs, h => by
    simp only [dataL, Bool.and_eq_true] at h
    simp only [eqvL, eqv_refl v h.1, eqvL_refl vs h.2, Bool.and_self]
end
theorem cmp_data {v : Val} (h : v.cmpOk = true) : v.data = true := by
  simp only [Val.cmpOk, Bool.and_eq_true] at h
  exact h.1
theorem wO_eqS {v : Val} {k : Bool → Prop} (h : v.cmpOk = true) (hk : k true) : wO (cop .Eq v v) k := wO_eqSame h (eqv_refl v (cmp_data h)) hk
theorem wO_neS {v : Val} {k : Bool → Prop} (h : v.cmpOk = true) (hk : k false) : wO (cop .NotEq v v) k := wO_neW (z := true) h h (eqv_refl v (cmp_data h)) hk
theorem idx_fst (w : Int) : ∀ xs : List Int, xs.idxOf w = fstI xs w
  | [] => rfl
  | x :: xs => by
    rw [List.idxOf_cons, fstI, idx_fst w xs]
    by_cases e : x = w
    · simp [e]
    · rw [show (x == w) = false by simpa using e]
      simp [e]
theorem idxV_ints {xs : List Int} {w : Int} (hw : w ∈ xs) : idxV (xs.map .int) w = some (.int (fstI xs w : Nat)) := by
  unfold idxV
  rw [intsOf_of, Option.bind_some, if_pos (decide_eq_true hw), idx_fst]
theorem wO_index {x : Val} {xs : List Int} {w : Int} {k : Val → Prop} (hx : x = .tup (xs.map .int) ∨ x = .lst (xs.map .int)) (hw : w ∈ xs) (h : k (.int (fstI xs w : Nat))) : wO (blt .index [x, .int w]) k := by
  unfold wO
  rcases hx with rfl | rfl <;> (simp only [blt, idxV_ints hw]; exact h)
theorem cut_all {α : Type} {xs : List α} {p : Int} (h0 : 0 ≤ p) : cutL xs none (some p) = xs.take p.toNat := by
  unfold cutL
  rw [show sIx xs.length 0 none = 0 from rfl, List.drop_zero, Nat.sub_zero]
  rw [show sIx xs.length xs.length (some p) = min p.toNat xs.length from if_neg (by omega)]
  by_cases h : p.toNat ≤ xs.length
  · rw [Nat.min_eq_left h]
  · rw [Nat.min_eq_right (by omega), List.take_of_length_le (Nat.le_refl _), List.take_of_length_le (by omega)]
end MP
set_option Elab.async false
set_option linter.all false
set_option maxRecDepth 100000
set_option maxHeartbeats 4000000
/-! MPK08: seen from either end. -/
namespace MP
local macro_rules | `(tactic| array_get_dec) => `(tactic| (repeat (first
    | ((with_reducible apply w_env); · simp only [List.set_cons_succ, List.set_cons_zero]; exact rfl)
    | with_reducible refine w_cons ?_
    | with_reducible refine w_nil ?_
    | ((with_reducible apply w_varP); exact rfl)
    | ((with_reducible apply w_varT); exact rfl)
    | ((with_reducible apply w_varR); exact rfl)
    | with_reducible refine w_con ?_
    | with_reducible refine w_asgs ?_
    | with_reducible refine w_asg ?_
    | ((with_reducible apply w_asgt); exact rfl)
    | with_reducible refine w_asgx ?_
    | with_reducible refine w_ret ?_
    | with_reducible refine w_iff ?_
    | with_reducible refine w_bin ?_
    | with_reducible refine w_cmp ?_
    | with_reducible refine w_cmp1 ?_
    | with_reducible refine w_cmp2 ?_
    | with_reducible refine w_idx ?_
    | with_reducible refine w_call ?_
    | with_reducible refine w_callk ?_
    | with_reducible refine w_as0 ?_
    | with_reducible refine w_asV ?_
    | ((with_reducible apply w_asE); exact rfl)
    | ((with_reducible apply w_aio); exact rfl; exact rfl)
    | ((with_reducible apply w_aP); exact rfl; exact rfl)
    | ((with_reducible apply w_aR); exact rfl; exact rfl)
    | ((with_reducible apply w_aO); exact rfl; exact rfl)
    | with_reducible refine w_eP ?_
    | with_reducible refine w_eR ?_
    | ((with_reducible apply w_eO); exact rfl)
    | with_reducible refine w_blt ?_
    | with_reducible refine w_es0 ?_
    | with_reducible refine w_es1 ?_
    | with_reducible refine w_os0 ?_
    | with_reducible refine w_os1 ?_
    | with_reducible refine w_tup ?_
    | with_reducible refine w_lst ?_
    | with_reducible refine w_new ?_
    | with_reducible refine w_neg ?_
    | with_reducible refine w_nt ?_
    | with_reducible refine w_and ?_
    | with_reducible refine w_or ?_
    | with_reducible refine w_and0 ?_
    | with_reducible refine w_or0 ?_
    | with_reducible refine w_and1 ?_
    | with_reducible refine w_or1 ?_
    | with_reducible refine w_ite ?_
    | with_reducible refine w_slc ?_
    | with_reducible refine w_part0 ?_
    | ((with_reducible apply w_part1); exact rfl)
    | with_reducible refine w_rev ?_
    | with_reducible refine w_isi ?_
    | with_reducible refine w_comp ?_
    | with_reducible refine w_cd0 ?_
    | with_reducible refine w_cd1 ?_
    | with_reducible refine w_itV ?_
    | with_reducible refine w_itE ?_
    | with_reducible refine w_itR ?_
    | with_reducible refine w_itZ ?_
    | with_reducible refine w_itI ?_
    | with_reducible refine w_ift ?_
    | with_reducible refine w_ifn ?_
    | with_reducible refine w_lp0 ?_
    | with_reducible refine w_lp1 ?_
    | with_reducible refine w_for ?_
    | with_reducible refine w_exp ?_
    | ((with_reducible apply w_mth); exact rfl; exact rfl)
    | ((with_reducible apply w_set); exact rfl)
    | ((with_reducible apply w_sets); exact rfl)
    | with_reducible refine w_retn ?_
    | with_reducible refine w_pass ?_
    | with_reducible refine w_raise ?_
    | with_reducible refine w_try ?_
    | with_reducible refine w_h0 ?_
    | with_reducible refine w_fld ?_
    | with_reducible refine w_dict ?_
    | ((with_reducible apply ex_own); exact rfl)
    | with_reducible refine ex_p ?_
    | with_reducible refine ex_pi ?_
    | with_reducible refine ex_vi ?_
    | with_reducible refine ex_vi2 ?_
    | with_reducible refine ex_pi2 ?_
    | with_reducible refine ex_pl ?_
    | ((with_reducible apply wO_some); exact cEq)
    | ((with_reducible apply wO_some); exact cNe)
    | ((with_reducible apply wO_some); exact pcop_eq _ _)
    | ((with_reducible apply wO_some); exact pcop_ne _ _)
    | ((with_reducible apply wO_some); exact tru_int _)
    | with_reducible refine wO_rngA ?_
    | with_reducible refine wO_rngS ?_
    | ((with_reducible apply wO_some); exact rfl)
    | ((with_reducible refine ⟨_, ?_, ?_, ?_⟩); exact rfl; exact rfl)
    | ((with_reducible refine ⟨_, ?_, ?_, ?_⟩); exact rfl; exact same_self _)
    | ((with_reducible refine ⟨_, ?_, ?_⟩); exact rfl)
    | ((with_reducible refine ⟨?_, ?_⟩); exact chk_var rfl rfl)
    | ((with_reducible refine ⟨?_, ?_⟩); ((repeat (first | refine chks_cons (chk_var rfl rfl) ?_ | refine chks_cons rfl ?_)); exact chks_nil))
    | ((with_reducible refine ⟨?_, ?_⟩); exact rfl)
    | ((with_reducible refine ⟨_, _, ?_, ?_⟩); exact rfl)
    | ((with_reducible apply w_varO); exact rfl)
    | ((with_reducible apply w_ifc); exact rfl)
    | ((with_reducible apply w_ifd); exact rfl)
    | exact ⟨.p, rfl⟩
    | exact ⟨.r, rfl⟩
    | exact ⟨.o, rfl⟩)))
variable {G : Prog}
/-! ### heights otherwise in the same order -/
theorem front_map {g : Int → Int} {w : Int} : ∀ {row : List Int}, (∀ a ∈ row, (a = w ↔ g a = g w) ∧ (w < a ↔ g w < g a)) → frontS (row.map g) (g w) = frontS row w
  | [], _ => rfl
  | a :: row, h => by
    have h1 := h a List.mem_cons_self
    simp only [List.map_cons, frontS]
    rw [front_map fun b hb => h b (List.mem_cons_of_mem _ hb)]
    by_cases e : a = w
    · rw [if_pos e, if_pos (h1.1.mp e)]
    · rw [if_neg e, if_neg fun q => e (h1.1.mpr q)]
      by_cases c : a > w
      · rw [if_pos c, if_pos (h1.2.mp c)]
      · rw [if_neg c, if_neg fun q => c (h1.2.mpr q)]
theorem cnt_map {g : Int → Int} {w : Int} : ∀ {row : List Int}, (∀ a ∈ row, (a = w ↔ g a = g w) ∧ (w < a ↔ g w < g a)) → cntG (row.map g) (g w) = cntG row w
  | [], _ => rfl
  | a :: row, h => by
    have h1 := h a List.mem_cons_self
    simp only [List.map_cons, cntG]
    rw [cnt_map fun b hb => h b (List.mem_cons_of_mem _ hb)]
    by_cases c : a > w
    · rw [if_pos c, if_pos (h1.2.mp c)]
    · rw [if_neg c, if_neg fun q => c (h1.2.mpr q)]
theorem beh_map {g : Int → Int} {w : Int} : ∀ {row : List Int}, (∀ a ∈ row, (a = w ↔ g a = g w) ∧ (w < a ↔ g w < g a)) → behS (row.map g) (g w) = behS row w
  | [], _ => rfl
  | a :: row, h => by
    have h1 := h a List.mem_cons_self
    have h2 : ∀ b ∈ row, (b = w ↔ g b = g w) ∧ (w < b ↔ g w < g b) := fun b hb => h b (List.mem_cons_of_mem _ hb)
    simp only [List.map_cons, behS]
    by_cases e : a = w
    · rw [if_pos e, if_pos (h1.1.mp e), cnt_map h2]
    · rw [if_neg e, if_neg fun q => e (h1.1.mpr q), beh_map h2]
theorem fst_map {g : Int → Int} {w : Int} : ∀ {row : List Int}, (∀ a ∈ row, (a = w ↔ g a = g w)) → fstI (row.map g) (g w) = fstI row w
  | [], _ => rfl
  | a :: row, h => by
    have h1 := h a List.mem_cons_self
    simp only [List.map_cons, fstI]
    rw [fst_map fun b hb => h b (List.mem_cons_of_mem _ hb)]
    by_cases e : a = w
    · rw [if_pos e, if_pos (h1.mp e)]
    · rw [if_neg e, if_neg fun q => e (h1.mpr q)]
theorem isort_mono {g : Int → Int} {row : List Int} (h : ∀ a ∈ row, ∀ b ∈ row, a ≤ b → g a ≤ g b) : isort (row.map g) = (isort row).map g := by
  refine sorted_one ((isort_perm _).trans ((isort_perm row).symm.map g)) (isort_le _) ?_
  rw [List.pairwise_map]
  exact (isort_le row).imp_of_mem fun ha hb hab => h _ ((isort_perm row).mem_iff.mp ha) _ ((isort_perm row).mem_iff.mp hb) hab
/-- heights otherwise, in the same order -/
def Mono (g : Int → Int) (row : List Int) : Prop := ∀ w ∈ row, ∀ a ∈ row, (a = w ↔ g a = g w) ∧ (w < a ↔ g w < g a)
theorem Mono.le {g : Int → Int} {row : List Int} (h : Mono g row) : ∀ a ∈ row, ∀ b ∈ row, a ≤ b → g a ≤ g b := fun a ha b hb hab => by
  rcases Int.lt_or_eq_of_le hab with c | rfl
  · exact Int.le_of_lt ((h a ha b hb).2.mp c)
  · exact Int.le_refl _
theorem vwL_map {g : Int → Int} {row : List Int} (h : Mono g row) (f : Int) : vwL (row.map g) f = (vwL row f).map g := by
  unfold vwL
  rw [isort_mono h.le, List.filter_map]
  congr 1
  refine List.filter_congr fun w hw => ?_
  rw [Function.comp_apply, front_map (h w ((isort_perm row).mem_iff.mp hw))]
theorem vwR_map {g : Int → Int} {row : List Int} (h : Mono g row) (f : Int) : vwR (row.map g) f = (vwR row f).map g := by
  unfold vwR
  rw [isort_mono h.le, List.filter_map]
  congr 1
  refine List.filter_congr fun w hw => ?_
  rw [Function.comp_apply, beh_map (h w ((isort_perm row).mem_iff.mp hw))]
theorem fst_lt_iff {a b : Int} : ∀ {l : List Int}, l.Pairwise (· < ·) → a ∈ l → b ∈ l → (a < b ↔ fstI l a < fstI l b)
  | x :: l, hp, ha, hb => by
    rw [List.pairwise_cons] at hp
    simp only [fstI]
    rcases List.mem_cons.mp ha with rfl | ha
    · rw [if_pos rfl]
      rcases List.mem_cons.mp hb with rfl | hb
      · rw [if_pos rfl]; omega
      · have := hp.1 b hb
        rw [if_neg (by omega)]
        omega
    · have h1 := hp.1 a ha
      rw [if_neg (show ¬ x = a by omega)]
      rcases List.mem_cons.mp hb with rfl | hb
      · rw [if_pos rfl]; omega
      · have h2 := hp.1 b hb
        rw [if_neg (show ¬ x = b by omega), fst_lt_iff hp.2 ha hb]
        omega
theorem isort_lt {row : List Int} (nd : row.Nodup) : (isort row).Pairwise (· < ·) := by
  have h1 := isort_le row
  have h2 : (isort row).Nodup := (isort_perm row).nodup_iff.mpr nd
  exact (h1.and h2).imp fun h => by have := h.1; have := h.2; omega
theorem mono_wide {line : List Int} (nd : line.Nodup) : Mono (fun w => 3 * (fstI (isort line) w : Int) - 7) line := by
  intro w hw a ha
  have hw' := (isort_perm line).mem_iff.mpr hw
  have ha' := (isort_perm line).mem_iff.mpr ha
  have h1 := fst_lt_iff (isort_lt nd) hw' ha'
  have h2 := fst_lt_iff (isort_lt nd) ha' hw'
  constructor
  · constructor
    · rintro rfl; rfl
    · intro e
      have e : 3 * (fstI (isort line) a : Int) - 7 = 3 * (fstI (isort line) w : Int) - 7 := e
      omega
  · rw [h1]
    show _ ↔ 3 * (fstI (isort line) w : Int) - 7 < 3 * (fstI (isort line) a : Int) - 7
    omega
/-! ### turned -/
theorem isort_rev (row : List Int) : isort row.reverse = isort row := sorted_one ((isort_perm _).trans ((List.reverse_perm row).trans (isort_perm row).symm)) (isort_le _) (isort_le _)
theorem beh_rev {row : List Int} {w : Int} (hw : w ∈ row) (nd : row.Nodup) : behS row.reverse w = frontS row w := by
  have := front_rev row.reverse w (List.mem_reverse.mpr hw) ((List.reverse_perm row).nodup_iff.mpr nd)
  rw [List.reverse_reverse] at this
  exact this.symm
theorem vwL_rev {row : List Int} (nd : row.Nodup) (f : Int) : vwL row.reverse f = vwR row f := by
  unfold vwL vwR
  rw [isort_rev]
  refine List.filter_congr fun w hw => ?_
  rw [front_rev row w ((isort_perm row).mem_iff.mp hw) nd]
theorem vwR_rev {row : List Int} (nd : row.Nodup) (f : Int) : vwR row.reverse f = vwL row f := by
  unfold vwL vwR
  rw [isort_rev]
  refine List.filter_congr fun w hw => ?_
  rw [beh_rev ((isort_perm row).mem_iff.mp hw) nd]
theorem views_rev {row fl fr : List Int} (nd : row.Nodup) : viewsV row.reverse fr fl = .tup [enc2 (fr.map (vwR row)), enc2 (fl.map (vwL row))] := by
  unfold viewsV
  rw [show vwL row.reverse = vwR row from funext fun f => vwL_rev nd f, show vwR row.reverse = vwL row from funext fun f => vwR_rev nd f]
theorem views1_55 {k : Nat} {x h : Val} {row fl fr : List Int} (h44 : G.defs 44 = some D44_place_of) (h45 : G.defs 45 = some D45_taller_ahead) (h46 : G.defs 46 = some D46_taller_behind) (h47 : G.defs 47 = some D47_floors_seeing) (h48 : G.defs 48 = some D48_seeing) (h49 : G.defs 49 = some D49_views_of) (h55 : G.defs 55 = some D55_views)
    (hx : seqOf x = some (row.map .int)) (hl : row.length ≤ 1000) (hh : Hs2 h fl fr) :
    callP G IO (k + 5) 55 [.p x, .p h] false = .ok (.p (viewsV row fl fr)) [.p .non, .p .non] := by
  refine call_ok h55 rfl ?_
  simp only [D55_views, List.map_cons, List.map_nil, Nat.reduceSub, List.replicate_succ, List.replicate_zero, List.cons_append, List.nil_append]
  array_get_dec
  refine w_pc (views_of1 (G := G) (k := k) h44 h45 h46 h47 h48 h49 hx hl hh) rfl rfl rfl ?_
  array_get_dec
theorem turned1 {k : Nat} {row : List Int} (h54 : G.defs 54 = some D54_turned) : callP G IO (k + 1) 54 [.p (.tup (row.map .int))] false = .ok (.p (.tup (row.reverse.map .int))) [.p .non] := by
  refine call_ok h54 rfl ?_
  simp only [D54_turned, List.map_cons, List.map_nil, Nat.reduceSub, List.replicate_succ, List.replicate_zero, List.cons_append, List.nil_append]
  array_get_dec
  rw [← List.map_reverse]
  exact ⟨.p, rfl⟩
/-! ### where those stand whom floors see -/
def spotsOf (line : List Int) (xss : List (List Int)) : Val := .lst (xss.map fun xs => .lst (xs.map fun w => .int (fstI line w : Nat)))
theorem spots1 {k : Nat} {line fl fr : List Int} (h57 : G.defs 57 = some D57_spots) (hl : line.length ≤ 1000) (l1 : fl.length ≤ 1000) (l2 : fr.length ≤ 1000) :
    callP G IO (k + 1) 57 [.p (.tup (line.map .int)), .p (viewsV line fl fr)] false = .ok (.p (.lst [spotsOf line (fl.map (vwL line)), spotsOf line (fr.map (vwR line))])) [.p .non, .p .non] := by
  have hpl : (isort line).length = line.length := (isort_perm line).length_eq
  refine call_ok h57 rfl ?_
  simp only [D57_spots, List.map_cons, List.map_nil, Nat.reduceSub, List.replicate_succ, List.replicate_zero, List.cons_append, List.nil_append]
  obtain ⟨T, hT⟩ : ∃ T, T = viewsV line fl fr := ⟨_, rfl⟩
  have hi : iterOf T = some ([fl.map (vwL line), fr.map (vwR line)].map enc2) := by rw [hT]; rfl
  rw [← hT]
  array_get_dec
  refine wO_some hi ?_
  refine w_loop enc2 (xs := [fl.map (vwL line), fr.map (vwR line)]) (fun d _ ρ => ∃ y3 y4 y5, ρ = [some (.p (.tup (line.map .int))), some (.p T), some (.o true (.lst (d.map (spotsOf line)))), y3, y4, y5]) ⟨_, _, _, rfl⟩ ?_ ?_
  · rintro d xss r _ e ⟨y3, y4, y5, rfl⟩
    have hm : xss ∈ [fl.map (vwL line), fr.map (vwR line)] := by rw [e]; simp
    have hd : d.length ≤ 2 := by have := congrArg List.length e; simp at this; omega
    have hxl : xss.length ≤ 1000 ∧ ∀ xs ∈ xss, xs.length ≤ 1000 ∧ ∀ w ∈ xs, w ∈ line := by
      simp only [List.mem_cons, List.not_mem_nil, or_false] at hm
      rcases hm with rfl | rfl
      · refine ⟨by rw [List.length_map]; exact l1, fun xs hxs => ?_⟩
        obtain ⟨f, _, rfl⟩ := List.mem_map.mp hxs
        have := List.length_filter_le (fun w => decide (frontS line w < f)) (isort line)
        exact ⟨by unfold vwL; omega, fun w hw => (isort_perm line).mem_iff.mp (List.mem_filter.mp hw).1⟩
      · refine ⟨by rw [List.length_map]; exact l2, fun xs hxs => ?_⟩
        obtain ⟨f, _, rfl⟩ := List.mem_map.mp hxs
        have := List.length_filter_le (fun w => decide (behS line w < f)) (isort line)
        exact ⟨by unfold vwR; omega, fun w hw => (isort_perm line).mem_iff.mp (List.mem_filter.mp hw).1⟩
    refine w_body rfl ?_
    array_get_dec
    refine ⟨by simp [LINE]; omega, w_map (xs := xss) (fun xs : List Int => Val.tup (xs.map .int)) (fun xs => some (Val.lst (xs.map fun w => .int (fstI line w : Nat)))) (views1 (chk_var rfl rfl)) (fun xs hxs => turn_ok rfl ?_) ?_⟩
    · have h2 := hxl.2 xs hxs
      array_get_dec
      refine ⟨by simp [LINE]; omega, w_map (xs := xs) .int (fun w => some (Val.int (fstI line w : Nat))) (views1 (chk_var rfl rfl)) (fun w hw => turn_ok rfl ?_) ?_⟩
      · array_get_dec
        refine wO_index (xs := line) (.inl rfl) (h2.2 w hw) ?_
        array_get_dec
        first | rfl | exact ⟨by simp_all, rfl⟩ | exact ⟨rfl, rfl⟩
      · rw [filterMap_some_map]
        array_get_dec
        first | rfl | exact ⟨by simp_all, rfl⟩ | exact ⟨rfl, rfl⟩
    · rw [filterMap_some_map]
      array_get_dec
      refine wO_app (by simp [LINE]; omega) ?_
      array_get_dec
      exact ⟨_, _, _, by rw [List.map_append]; rfl⟩
  · rintro _ ⟨y3, y4, y5, rfl⟩
    array_get_dec
theorem spots_map {g : Int → Int} {row : List Int} (h : Mono g row) (xss : List (List Int)) (hs : ∀ xs ∈ xss, ∀ w ∈ xs, w ∈ row) : spotsOf (row.map g) (xss.map fun xs => xs.map g) = spotsOf row xss := by
  unfold spotsOf
  rw [List.map_map]
  congr 1
  refine List.map_congr_left fun xs hxs => ?_
  rw [Function.comp_apply, List.map_map]
  congr 1
  refine List.map_congr_left fun w hw => ?_
  rw [Function.comp_apply, fst_map fun a ha => (h w (hs xs hxs w hw) a ha).1]
theorem spots_flat (line : List Int) (xss : List (List Int)) : FLat (spotsOf line xss) 2 := (flat_list (n := 1) fun v hv => by
  obtain ⟨xs, _, rfl⟩ := List.mem_map.mp hv
  exact (flat_list (n := 0) fun v hv => by
    obtain ⟨i, _, rfl⟩ := List.mem_map.mp hv
    exact flat_int _).1).1
def body08 : Ss := match D58_right.body with
  | .cons _ (.cons _ (.cons _ (.cons _ (.cons _ (.cons (.for _ _ b) _))))) => b
  | _ => .nil
theorem wing08 {K : Nat} {i : Int} {pv z H T : Val} {tl fs : List Int} {vw : Int → List Int} {y5 y6 y7 y8 y9 y10 : Option Sl} {kn : PEnv → Prop} {kr : Sl → PEnv → Prop} {kx : KX}
    (h1 : idx H (.int i) = some (.tup (fs.map .int))) (h2 : idx T (.int i) = some (enc2 (fs.map vw))) (hr : fs.Pairwise (· < ·)) (h0 : ∀ f ∈ fs, 1 ≤ f) (hlf : fs.length ≤ 100) (hlt : tl.length ≤ 100) (hv : ∀ f ∈ fs, (vw f).length ≤ 100)
    (top : ∀ f ∈ fs, ∀ w ∈ tl.take f.toNat, w ∈ vw f) (mono : ∀ f f', f ≤ f' → ∀ w ∈ vw f, w ∈ vw f')
    (hk : ∀ y5 y6 y7 y8 y9 y10, kn [some (.o false pv), some (.p z), some (.p H), some (.p T), some (.p (.lst (tl.map .int))), y5, y6, y7, y8, y9, y10]) :
    wS (bodyP (pctx G IO (callP G IO K)) (.nm 5) body08 (.int i) [some (.o false pv), some (.p z), some (.p H), some (.p T), some (.p (.lst (tl.map .int))), y5, y6, y7, y8, y9, y10]) kn kr kx := by
  refine w_body rfl ?_
  unfold body08 D58_right
  dsimp only
  array_get_dec
  refine wO_some h1 ?_
  array_get_dec
  rw [show enuL 0 (fs.map .int) = (fs.zipIdx 0).map fun p => Val.tup [.int (p.2 : Int), .int p.1] from enuL_zipIdx _ 0]
  refine w_loop (fun p : Int × Nat => Val.tup [.int (p.2 : Int), .int p.1]) (xs := fs.zipIdx 0) (fun _ _ ρ => ∃ y6 y7 y8 y9, ρ = [some (.o false pv), some (.p z), some (.p H), some (.p T), some (.p (.lst (tl.map .int))), some (.p (.int i)), y6, y7, y8, y9, y10]) ⟨_, _, _, _, rfl⟩ ?_ ?_
  · rintro d ⟨f, j⟩ r _ e ⟨y6, y7, y8, y9, rfl⟩
    have hm : (f, j) ∈ fs.zipIdx 0 := by rw [e]; simp
    have hj : fs[j]? = some f := List.mem_zipIdx_iff_getElem?.mp hm
    have hf := List.mem_of_getElem? hj
    have hjl := (List.getElem?_eq_some_iff.mp hj).1
    have hf0 := h0 f hf
    have at2 : ∀ {k : Val → Prop} {j : Nat} {f : Int}, fs[j]? = some f → k (.tup ((vw f).map .int)) → wO (idx (enc2 (fs.map vw)) (.int (j : Int))) k := by
      intro k j f hj h
      have hjl := (List.getElem?_eq_some_iff.mp hj).1
      unfold enc2
      exact wO_atT (j := j) (by rw [ixN_nat (by omega) (by rw [List.length_map, List.length_map]; omega), Int.toNat_natCast]) (by rw [List.getElem?_map, List.getElem?_map, hj]; rfl) h
    refine w_body rfl ?_
    array_get_dec
    rw [cut_all (by omega), ← List.map_take]
    refine ⟨by simp only [List.length_map, List.length_take, LINE]; omega, w_map (xs := tl.take f.toNat) .int (fun _ => some (Val.bl true)) (views1 rfl) (fun w hw => turn_ok rfl ?_) ?_⟩
    · array_get_dec
      refine wO_some h2 ?_
      array_get_dec
      refine at2 hj ?_
      array_get_dec
      refine wO_inS (w := w) (xs := vw f) rfl ?_
      rw [decide_eq_true (top f hf w hw)]
      array_get_dec
      first | rfl | exact ⟨by simp_all, rfl⟩ | exact ⟨rfl, rfl⟩
    · rw [filterMap_some_map]
      array_get_dec
      refine wO_allT1 ?_
      array_get_dec
      by_cases c : (0 : Int) < (j : Int)
      · rw [if_pos (decide_eq_true c)]
        array_get_dec
        refine wO_some h2 ?_
        array_get_dec
        obtain ⟨f0, hf0', hlt0⟩ : ∃ f0, fs[j - 1]? = some f0 ∧ f0 ≤ f := by
          refine ⟨fs[j - 1]'(by omega), List.getElem?_eq_getElem (by omega), ?_⟩
          have := List.pairwise_iff_getElem.mp hr (j - 1) j (by omega) hjl (by omega)
          rw [show fs[j] = f from (List.getElem?_eq_some_iff.mp hj).2] at this
          omega
        rw [show (j : Int) - 1 = ((j - 1 : Nat) : Int) by omega]
        refine at2 hf0' ?_
        array_get_dec
        refine ⟨by have := hv f0 (List.mem_of_getElem? hf0'); simp only [List.length_map, LINE]; omega, w_map (xs := vw f0) .int (fun _ => some (Val.bl true)) (views1 (chk_var rfl rfl)) (fun w hw => turn_ok rfl ?_) ?_⟩
        · array_get_dec
          refine wO_some h2 ?_
          array_get_dec
          refine at2 hj ?_
          array_get_dec
          refine wO_inS (w := w) (xs := vw f) rfl ?_
          rw [decide_eq_true (mono f0 f hlt0 w hw)]
          array_get_dec
          first | rfl | exact ⟨by simp_all, rfl⟩ | exact ⟨rfl, rfl⟩
        · rw [filterMap_some_map]
          array_get_dec
          refine wO_allT1 ?_
          array_get_dec
          exact ⟨_, _, _, _, rfl⟩
      · rw [if_neg (fun q => c (of_decide_eq_true q))]
        array_get_dec
        refine ⟨by simp [LINE], w_map (xs := ([] : List Int)) .int (fun _ => some (Val.bl true)) (views1 (chk_var rfl rfl)) (fun w hw => by cases hw) ?_⟩
        rw [filterMap_some_map]
        array_get_dec
        exact ⟨_, _, _, _, rfl⟩
  · rintro _ ⟨y6, y7, y8, y9, rfl⟩
    array_get_dec
    exact hk _ _ _ _ _ _
-- RIGHT08
structure Df08 (G : Prog) : Prop where
  h1 : G.defs 1 = some D1_pot
  h2 : G.defs 2 = some D2_take
  h5 : G.defs 5 = some D5_floors
  h6 : G.defs 6 = some D6_homes
  h26 : G.defs 26 = some D26_pick
  h27 : G.defs 27 = some D27_tall
  h28 : G.defs 28 = some D28_strewn
  h29 : G.defs 29 = some D29_line
  h44 : G.defs 44 = some D44_place_of
  h45 : G.defs 45 = some D45_taller_ahead
  h46 : G.defs 46 = some D46_taller_behind
  h47 : G.defs 47 = some D47_floors_seeing
  h48 : G.defs 48 = some D48_seeing
  h49 : G.defs 49 = some D49_views_of
  h54 : G.defs 54 = some D54_turned
  h55 : G.defs 55 = some D55_views
  h56 : G.defs 56 = some D56_seen_by
  h57 : G.defs 57 = some D57_spots
  h58 : G.defs 58 = some D58_right
  h59 : G.defs 59 = some D59_law
theorem right08 {k n : Nat} {v : Val} (D : Df08 G) (hp : PotOk (n + 250) v) :
    ∃ z outs, (∃ v', z = .bl true ∧ outs = [.o false v'] ∧ PotOk n v') ∧ callP G IO (k + 7) 58 [.o false v] false = .ok (.p z) outs := by
  refine call_ex D.h58 rfl ?_
  simp only [D58_right, List.map_cons, List.map_nil, Nat.reduceSub, List.replicate_succ, List.replicate_zero, List.cons_append, List.nil_append]
  array_get_dec
  obtain ⟨r, v1, r0, r1, hp1, e1⟩ := take1 (G := G) (k := k + 5) (n := n + 249) (v := v) (bd := 24) D.h2 hp (by omega) (by omega)
  refine w_pc (e1) rfl rfl rfl ?_
  array_get_dec
  obtain ⟨_, _, ⟨line, v2, rfl, rfl, ll, nd, hp2⟩, e2⟩ := line1 (G := G) (k := k + 2) (n := n + 190) (v := v1) (ct := 1 + r) D.h2 D.h26 D.h27 D.h28 D.h29 (by omega) (hp1.less (by omega))
  refine w_pc (e2) rfl rfl rfl ?_
  array_get_dec
  obtain ⟨_, _, ⟨fl, fr, v4, rfl, rfl, a1, a2, a3, b1, b2, b3, hp4⟩, e4⟩ := homes1 (G := G) (k := k + 3) (n := n) (v := v2) (ms := 12) D.h2 D.h5 D.h6 (by omega) (hp2.less (by omega))
  refine w_pc (e4) rfl rfl rfl ?_
  array_get_dec
  have hh : Hs2 (.tup [.tup (fl.map .int), .tup (fr.map .int)]) fl fr := ⟨⟨_, _, rfl, rfl, rfl⟩, by omega, by omega⟩
  have hh' : Hs2 (.tup [.tup (fr.map .int), .tup (fl.map .int)]) fr fl := ⟨⟨_, _, rfl, rfl, rfl⟩, by omega, by omega⟩
  have hl : line.length ≤ 24 := by omega
  refine w_pc (views1_55 (G := G) (k := k + 1) D.h44 D.h45 D.h46 D.h47 D.h48 D.h49 D.h55 (row := line) rfl (by omega) hh) rfl rfl rfl ?_
  array_get_dec
  refine w_pc (turned1 (G := G) (k := k + 5) (row := line) D.h54) rfl rfl rfl ?_
  array_get_dec
  refine w_pc (views1_55 (G := G) (k := k + 1) D.h44 D.h45 D.h46 D.h47 D.h48 D.h49 D.h55 (row := line.reverse) rfl (by rw [List.length_reverse]; omega) hh') rfl rfl rfl ?_
  array_get_dec
  rw [views_rev nd]
  refine wO_neS (v := .tup [enc2 (fr.map (vwR line)), enc2 (fl.map (vwL line))]) (by have := flat_views line.reverse fr fl; rw [views_rev nd] at this; exact this.cmp (by omega)) ?_
  array_get_dec
  refine wO_sorted (xs := line) rfl ?_
  array_get_dec
  rw [← List.map_reverse]
  have hpl : (isort line).length = line.length := (isort_perm line).length_eq
  have htl : (isort line).reverse.length = line.length := by rw [List.length_reverse, hpl]
  have top : ∀ (f : Int), 1 ≤ f → ∀ w ∈ (isort line).reverse.take f.toNat, w ∈ line ∧ cntG line w < f := by
    intro f h1 w hw
    obtain ⟨i, hi⟩ := List.mem_iff_getElem?.mp hw
    have hi2 := (List.getElem?_eq_some_iff.mp hi).1
    rw [List.length_take] at hi2
    rw [List.getElem?_take_of_lt (by omega)] at hi
    have := isort_cnt nd hi
    exact ⟨(isort_perm line).mem_iff.mp (List.mem_reverse.mp (List.mem_of_getElem? hi)), by omega⟩
  have fb : ∀ w ∈ line, frontS line w ≤ cntG line w ∧ behS line w ≤ cntG line w := by
    intro w hw
    have := front_beh hw
    have := front_nn line w
    have := beh_nn line w
    omega
  have lv : ∀ p : Int → Bool, ((isort line).filter p).length ≤ 100 := fun p => by
    have := List.length_filter_le p (isort line)
    omega
  refine wing08 (vw := vwL line) (fs := fl) (tl := (isort line).reverse) rfl rfl a1 (fun f hf => (a2 f hf).1) (by omega) (by omega) (fun f _ => lv _) (fun f hf w hw => ?_) (fun f f' h w hw => ?_) fun y5 y6 y7 y8 y9 y10 => ?_
  · have h := top f (a2 f hf).1 w hw
    have := fb w h.1
    exact List.mem_filter.mpr ⟨(isort_perm line).mem_iff.mpr h.1, decide_eq_true (by omega)⟩
  · have h1 := List.mem_filter.mp hw
    have := of_decide_eq_true h1.2
    exact List.mem_filter.mpr ⟨h1.1, decide_eq_true (by omega)⟩
  array_get_dec
  refine wing08 (vw := vwR line) (fs := fr) (tl := (isort line).reverse) rfl rfl b1 (fun f hf => (b2 f hf).1) (by omega) (by omega) (fun f _ => lv _) (fun f hf w hw => ?_) (fun f f' h w hw => ?_) fun y5 y6 y7 y8 y9 y10 => ?_
  · have h := top f (b2 f hf).1 w hw
    have := fb w h.1
    exact List.mem_filter.mpr ⟨(isort_perm line).mem_iff.mpr h.1, decide_eq_true (by omega)⟩
  · have h1 := List.mem_filter.mp hw
    have := of_decide_eq_true h1.2
    exact List.mem_filter.mpr ⟨h1.1, decide_eq_true (by omega)⟩
  array_get_dec
  obtain ⟨w0, hw0⟩ : ∃ w0, (isort line).reverse[0]? = some w0 := ⟨_, List.getElem?_eq_getElem (by omega)⟩
  have hw0m : w0 ∈ line := (isort_perm line).mem_iff.mp (List.mem_reverse.mp (List.mem_of_getElem? hw0))
  have hw0c := isort_cnt nd hw0
  have hfb := fb w0 hw0m
  refine wO_atL (j := 0) (v := .int w0) (by rw [ixN_nat (by omega) (by rw [List.length_map]; omega)]; rfl) (by rw [List.getElem?_map, hw0]; rfl) ?_
  array_get_dec
  refine w_pc (seen_by1 (G := G) (k := k + 2) D.h44 D.h45 D.h46 D.h47 D.h48 D.h56 (x := .tup (line.map .int)) (row := line) (who := w0) rfl hw0m (by omega) hh) rfl rfl rfl ?_
  array_get_dec
  rw [show (fl.filter fun f => decide (frontS line w0 < f)) = fl from List.filter_eq_self.mpr fun f hf => decide_eq_true (by have := a2 f hf; omega), show (fr.filter fun f => decide (behS line w0 < f)) = fr from List.filter_eq_self.mpr fun f hf => decide_eq_true (by have := b2 f hf; omega), List.length_map, List.length_map]
  refine w_ifd (show (!(Val.tup [.int (fl.length : Nat), .int (fr.length : Nat)]).eqv (Val.tup [.int (fl.length : Nat), .int (fr.length : Nat)])) = false by simp [Val.eqv, eqvL]) ?_
  array_get_dec
  refine ⟨by simp [LINE]; omega, w_map .int (fun w => some (Val.int (3 * (fstI (isort line) w : Int) - 7))) (views1 (chk_var rfl rfl)) (fun w hw => turn_ok rfl ?_) ?_⟩
  · array_get_dec
    refine wO_sorted (xs := line) rfl ?_
    array_get_dec
    refine wO_index (xs := isort line) (.inr rfl) ((isort_perm line).mem_iff.mpr hw) ?_
    array_get_dec
    first | rfl | exact ⟨by simp_all, rfl⟩ | exact ⟨rfl, rfl⟩
  rw [filterMap_some_map]
  array_get_dec
  obtain ⟨g, hg⟩ : ∃ g : Int → Int, g = fun w => 3 * (fstI (isort line) w : Int) - 7 := ⟨_, rfl⟩
  have hm : Mono g line := hg ▸ mono_wide nd
  rw [show (line.map fun w => Val.int (3 * (fstI (isort line) w : Int) - 7)) = (line.map g).map .int by rw [List.map_map, hg]; rfl]
  refine w_pc (spots1 (G := G) (k := k + 5) (line := line) (fl := fl) (fr := fr) D.h57 (by omega) (by omega) (by omega)) rfl rfl rfl ?_
  array_get_dec
  refine w_pc (views1_55 (G := G) (k := k + 1) D.h44 D.h45 D.h46 D.h47 D.h48 D.h49 D.h55 (row := line.map g) rfl (by rw [List.length_map]; omega) hh) rfl rfl rfl ?_
  array_get_dec
  refine w_pc (spots1 (G := G) (k := k + 5) (line := line.map g) (fl := fl) (fr := fr) D.h57 (by rw [List.length_map]; omega) (by omega) (by omega)) rfl rfl rfl ?_
  array_get_dec
  have q1 : spotsOf (line.map g) (fl.map (vwL (line.map g))) = spotsOf line (fl.map (vwL line)) := by
    rw [← spots_map hm (fl.map (vwL line)), List.map_map]
    · congr 1
      exact List.map_congr_left fun f _ => vwL_map hm f
    · intro xs hxs w hw
      obtain ⟨f, _, rfl⟩ := List.mem_map.mp hxs
      exact (isort_perm line).mem_iff.mp (List.mem_filter.mp hw).1
  have q2 : spotsOf (line.map g) (fr.map (vwR (line.map g))) = spotsOf line (fr.map (vwR line)) := by
    rw [← spots_map hm (fr.map (vwR line)), List.map_map]
    · congr 1
      exact List.map_congr_left fun f _ => vwR_map hm f
    · intro xs hxs w hw
      obtain ⟨f, _, rfl⟩ := List.mem_map.mp hxs
      exact (isort_perm line).mem_iff.mp (List.mem_filter.mp hw).1
  rw [q1, q2]
  refine wO_eqS (v := .lst [spotsOf line (fl.map (vwL line)), spotsOf line (fr.map (vwR line))]) ((flat_list (n := 2) fun v hv => ?_).1.cmp (by omega)) ?_
  · simp only [List.mem_cons, List.not_mem_nil, or_false] at hv
    rcases hv with rfl | rfl <;> exact spots_flat _ _
  array_get_dec
  exact ⟨_, .p, v4, rfl, rfl, hp4⟩
theorem law08 {k : Nat} (D : Df08 G) (ns : List Int) (hn : ns.length ≤ 1000) : callP G IO (k + 8) 59 [.p (.scr ns)] false = .ok (.p (.bl true)) [.p .non] := by
  refine call_ok D.h59 rfl ?_
  simp only [D59_law, List.map_cons, List.map_nil, Nat.reduceSub, List.replicate_succ, List.replicate_zero, List.cons_append, List.nil_append]
  array_get_dec
  obtain ⟨m, em, m0, m1⟩ : ∃ m : Int, (if (if (ns.length : Int) < 3 then (ns.length : Int) else 3) > 1 then (if (ns.length : Int) < 3 then (ns.length : Int) else 3) else 1) = m ∧ 0 ≤ m ∧ m ≤ 3 := ⟨_, rfl, by split <;> (try split) <;> omega, by split <;> (try split) <;> omega⟩
  rw [em]
  refine wO_rng1 (j := m) (by omega) ?_
  refine w_loop (fun (i : Nat) => Val.int (i : Int)) (xs := List.range' 0 m.toNat) (fun done rest ρ => ∃ y1 y2 y3, ρ = [some (.p (.scr ns)), y1, y2, y3]) ⟨_, _, _, rfl⟩ ?_ ?_
  · rintro dn a r _ e ⟨y1, y2, y3, rfl⟩
    obtain ⟨ea, el⟩ := range_at e
    refine w_body rfl ?_
    array_get_dec
    obtain ⟨x, _, ⟨hp, rfl⟩, ep⟩ := pot1 (G := G) (k := k + 6) D.h1 ns a (by omega) 750 (by omega)
    refine w_pcO (ep) rfl rfl rfl ?_
    array_get_dec
    rw [show rngL 0 (Int.toNat 3) = (List.range' 0 3).map (fun i : Nat => Val.int (i : Int)) from rfl]
    refine ⟨by simp [LINE], w_inv (fun i : Nat => Val.int (i : Int)) (fun n ρ => ∃ x, ρ = [some (.p (.scr ns)), some (.p (.int (a : Int))), some (.o true x), y3] ∧ PotOk (n * 250) x) ⟨x, rfl, hp.less (by simp)⟩ ?_ ?_⟩
    · rintro b hb n _ ⟨x, rfl, hp⟩
      obtain ⟨z, _, ⟨v', rfl, rfl, hp'⟩, er⟩ := right08 (G := G) (k := k) (n := n * 250) (v := x) D (hp.less (by omega))
      refine ⟨[some (.p (.scr ns)), some (.p (.int (a : Int))), some (.o true v'), y3], turn_ok rfl ?_, rfl, v', rfl, hp'⟩
      array_get_dec
      refine w_pc (er) rfl rfl rfl ?_
      array_get_dec
      first | rfl | exact ⟨by simp_all, rfl⟩ | exact ⟨rfl, rfl⟩
    · rintro _ ⟨x, rfl, hp⟩
      array_get_dec
      exact ⟨_, _, _, rfl⟩
  · rintro _ ⟨y1, y2, y3, rfl⟩
    array_get_dec
end MP
set_option Elab.async false
set_option linter.all false
set_option maxRecDepth 100000
set_option maxHeartbeats 0
namespace K08
open MP PySem PySem.Spec PyProof.Rows L2
def top (i : Nat) : Stmt := PySem.Challenge.pw_balconyrow_k08_whole_seen_from_either_en.main.body.getD i (.Pass ⟨0, 0, 0, 0⟩)
def i_place_of : FI where
  fid := 44
  x := "place_of"
  st := top 3
  N := ["row", "who", "found", "place", "one"]
  ps := ["row", "who"]
  d := D44_place_of
def i_taller_ahead : FI where
  fid := 45
  x := "taller_ahead"
  st := top 4
  N := ["row", "who", "one"]
  ps := ["row", "who"]
  d := D45_taller_ahead
def i_taller_behind : FI where
  fid := 46
  x := "taller_behind"
  st := top 5
  N := ["row", "who", "one"]
  ps := ["row", "who"]
  d := D46_taller_behind
def i_turned : FI where
  fid := 54
  x := "turned"
  st := top 6
  N := ["row"]
  ps := ["row"]
  d := D54_turned
def i_floors_seeing : FI where
  fid := 47
  x := "floors_seeing"
  st := top 10
  N := ["ahead", "behind", "houses", "left", "right", "found", "floor"]
  ps := ["ahead", "behind", "houses"]
  d := D47_floors_seeing
def i_seeing : FI where
  fid := 48
  x := "seeing"
  st := top 11
  N := ["row", "houses", "who"]
  ps := ["row", "houses", "who"]
  d := D48_seeing
def i_views_of : FI where
  fid := 49
  x := "views_of"
  st := top 12
  N := ["row", "houses", "seen", "who", "found", "side", "floors", "some", "floor"]
  ps := ["row", "houses"]
  d := D49_views_of
def i_views : FI where
  fid := 55
  x := "views"
  st := top 13
  N := ["row", "houses"]
  ps := ["row", "houses"]
  d := D55_views
def i_seen_by : FI where
  fid := 56
  x := "seen_by"
  st := top 14
  N := ["row", "houses", "who", "found", "left", "side", "floor"]
  ps := ["row", "houses", "who"]
  d := D56_seen_by
def i__law_pot : FI where
  fid := 1
  x := "_law_pot"
  st := top 16
  N := ["_law_script", "_law_k", "_law_cell"]
  ps := ["_law_script", "_law_k"]
  d := D1_pot
def i__law_take : FI where
  fid := 2
  x := "_law_take"
  st := top 17
  N := ["_law_pot_here", "_law_bound", "_law_found", "_law_once"]
  ps := ["_law_pot_here", "_law_bound"]
  d := D2_take
def i__law_pick : FI where
  fid := 26
  x := "_law_pick"
  st := top 18
  N := ["_law_pot_here", "_law_some"]
  ps := ["_law_pot_here", "_law_some"]
  d := D26_pick
def i__law_tall : FI where
  fid := 27
  x := "_law_tall"
  st := top 19
  N := ["_law_pot_here", "_law_count", "_law_gap", "_law_level", "_law_found", "_law_k"]
  ps := ["_law_pot_here", "_law_count"]
  d := D27_tall
def i__law_strewn : FI where
  fid := 28
  x := "_law_strewn"
  st := top 20
  N := ["_law_pot_here", "_law_some", "_law_rest", "_law_found"]
  ps := ["_law_pot_here", "_law_some"]
  d := D28_strewn
def i__law_line : FI where
  fid := 29
  x := "_law_line"
  st := top 21
  N := ["_law_pot_here", "_law_count"]
  ps := ["_law_pot_here", "_law_count"]
  d := D29_line
def i__law_floors : FI where
  fid := 5
  x := "_law_floors"
  st := top 22
  N := ["_law_pot_here", "_law_most", "_law_way", "_law_found", "_law_storey"]
  ps := ["_law_pot_here", "_law_most"]
  d := D5_floors
def i__law_homes : FI where
  fid := 6
  x := "_law_homes"
  st := top 23
  N := ["_law_pot_here", "_law_most"]
  ps := ["_law_pot_here", "_law_most"]
  d := D6_homes
def i__law_spots : FI where
  fid := 57
  x := "_law_spots"
  st := top 24
  N := ["_law_line_here", "_law_told", "_law_found", "_law_part", "_law_soul", "_law_some"]
  ps := ["_law_line_here", "_law_told"]
  d := D57_spots
def i__law_right : FI where
  fid := 58
  x := "_law_right"
  st := top 25
  N := ["_law_pot_here", "_law_line_here", "_law_homes_here", "_law_told", "_law_tall_here", "_law_wing", "_law_k", "_law_storey", "_law_soul", "_law_lower", "_law_wide"]
  ps := ["_law_pot_here"]
  d := D58_right
def i_law : FI where
  fid := 59
  x := "law"
  st := top 26
  N := ["_law_script", "_law_k", "_law_pot_here", "_law_turn"]
  ps := ["_law_script"]
  d := D59_law
def fis : List FI := [i_place_of, i_taller_ahead, i_taller_behind, i_turned, i_floors_seeing, i_seeing, i_views_of, i_views, i_seen_by, i__law_pot, i__law_take, i__law_pick, i__law_tall, i__law_strewn, i__law_line, i__law_floors, i__law_homes, i__law_spots, i__law_right, i_law]
def bl : List Str := ["LookupError", "abs", "all", "enumerate", "int", "len", "list", "max", "min", "range", "sorted", "tuple", "zip"]
def kws : List (Nat × Nat × List Str × List Nat) := []
def nums : List (Str × Int) := []
def txs : List (Str × Str) := [("LEFT", "left"), ("RIGHT", "right")]
def G : Prog where
  defs := fun
    | 44 => some D44_place_of
    | 45 => some D45_taller_ahead
    | 46 => some D46_taller_behind
    | 54 => some D54_turned
    | 47 => some D47_floors_seeing
    | 48 => some D48_seeing
    | 49 => some D49_views_of
    | 55 => some D55_views
    | 56 => some D56_seen_by
    | 1 => some D1_pot
    | 2 => some D2_take
    | 26 => some D26_pick
    | 27 => some D27_tall
    | 28 => some D28_strewn
    | 29 => some D29_line
    | 5 => some D5_floors
    | 6 => some D6_homes
    | 57 => some D57_spots
    | 58 => some D58_right
    | 59 => some D59_law
    | _ => none
  glob := fun _ => none
  sup := excSup
def x_NoOne : XI where
  c := 7
  qual := "NoOne.__init__"
  st := clsAt (top 1) 0
  p := "who"
def xis : List XI := [x_NoOne]
abbrev W : Wd := wd G fis bl kws nums txs (xis.map (·.c))
theorem chkx_ok : ∀ xi ∈ xis, chkXI xi = true ∧ bl.contains (PySem.Str.ofString (baseName (excBase xi.c))) = true := by decide +kernel
theorem bindx_ok {K : PySem.W.Frag} : ∀ xi ∈ xis, ∀ f fd, FunD K "__init__" xi.qual (defArgs xi.st) (defBody xi.st) (defScope xi.st) [] [] f fd → Binds K fd (xps xi) [] := by
  intro xi h f fd F
  simp only [xis, List.mem_cons, List.not_mem_nil, or_false] at h
  rcases h with rfl
  · exact F.bindsN fun _ _ _ _ _ _ us hl => match us, hl with | [_, _], _ => rfl
theorem chk_ok : ∀ fi ∈ fis, chkF W fi = true := by decide +kernel
theorem defs_ok : ∀ fi ∈ fis, G.defs fi.fid = some fi.d := by
  intro fi h
  simp only [fis, List.mem_cons, List.not_mem_nil, or_false] at h
  rcases h with rfl | rfl | rfl | rfl | rfl | rfl | rfl | rfl | rfl | rfl | rfl | rfl | rfl | rfl | rfl | rfl | rfl | rfl | rfl | rfl <;> rfl
theorem binds_ok {K : PySem.W.Frag} : ∀ fi ∈ fis, fi.kwo = false → ∀ f fd, FunD K fi.x fi.x (defArgs fi.st) (defBody fi.st) (defScope fi.st) [] [] f fd → Binds K fd fi.ps [] := by
  intro fi h hk f fd F
  simp only [fis, List.mem_cons, List.not_mem_nil, or_false] at h
  rcases h with rfl | rfl | rfl | rfl | rfl | rfl | rfl | rfl | rfl | rfl | rfl | rfl | rfl | rfl | rfl | rfl | rfl | rfl | rfl | rfl
  · exact F.bindsN fun _ _ _ _ _ _ us hl => match us, hl with | [_, _], _ => rfl
  · exact F.bindsN fun _ _ _ _ _ _ us hl => match us, hl with | [_, _], _ => rfl
  · exact F.bindsN fun _ _ _ _ _ _ us hl => match us, hl with | [_, _], _ => rfl
  · exact F.bindsN fun _ _ _ _ _ _ us hl => match us, hl with | [_], _ => rfl
  · exact F.bindsN fun _ _ _ _ _ _ us hl => match us, hl with | [_, _, _], _ => rfl
  · exact F.bindsN fun _ _ _ _ _ _ us hl => match us, hl with | [_, _, _], _ => rfl
  · exact F.bindsN fun _ _ _ _ _ _ us hl => match us, hl with | [_, _], _ => rfl
  · exact F.bindsN fun _ _ _ _ _ _ us hl => match us, hl with | [_, _], _ => rfl
  · exact F.bindsN fun _ _ _ _ _ _ us hl => match us, hl with | [_, _, _], _ => rfl
  · exact F.bindsN fun _ _ _ _ _ _ us hl => match us, hl with | [_, _], _ => rfl
  · exact F.bindsN fun _ _ _ _ _ _ us hl => match us, hl with | [_, _], _ => rfl
  · exact F.bindsN fun _ _ _ _ _ _ us hl => match us, hl with | [_, _], _ => rfl
  · exact F.bindsN fun _ _ _ _ _ _ us hl => match us, hl with | [_, _], _ => rfl
  · exact F.bindsN fun _ _ _ _ _ _ us hl => match us, hl with | [_, _], _ => rfl
  · exact F.bindsN fun _ _ _ _ _ _ us hl => match us, hl with | [_, _], _ => rfl
  · exact F.bindsN fun _ _ _ _ _ _ us hl => match us, hl with | [_, _], _ => rfl
  · exact F.bindsN fun _ _ _ _ _ _ us hl => match us, hl with | [_, _], _ => rfl
  · exact F.bindsN fun _ _ _ _ _ _ us hl => match us, hl with | [_, _], _ => rfl
  · exact F.bindsN fun _ _ _ _ _ _ us hl => match us, hl with | [_], _ => rfl
  · exact F.bindsN fun _ _ _ _ _ _ us hl => match us, hl with | [_], _ => rfl
theorem kw_ok {K : PySem.W.Frag} : ∀ fi ∈ fis, ∀ f fd, FunD K fi.x fi.x (defArgs fi.st) (defBody fi.st) (defScope fi.st) [] [] f fd → ∀ n ks perm, kws.contains (fi.fid, n, ks, perm) = true → KwB K fd fi.ps n ks perm := by
  intro fi h f fd F n ks perm hk
  simp [kws] at hk
abbrev R : PySem.W.OpenRow := PySem.W.OpenLaw.row PySem.Challenge.rw_balconyrow_k08_whole_seen_from_either_en
abbrev hk : PySem.W.Hook := hookX 5 (faOf fis bl nums txs) (fis.map dOf ++ xis.map xOf) (xis.map (·.c))
def ob (s : PySem.W.SharedT) : He.AlD × Bool := obsXG 5 (faOf fis bl nums txs) (fis.map dOf ++ xis.map xOf) (xis.map (·.c)) (HandSHeadRun.getT s)
theorem ob_eq (s : PySem.W.SharedT) : ob s = hk.obs s.abs := obsXG_eq (HandSHeadRun.getT_eq s)
def names : List PySem.Str := (["place_of", "taller_ahead", "taller_behind", "turned", "floors_seeing", "seeing", "views_of", "views", "seen_by", "_law_pot", "_law_take", "_law_pick", "_law_tall", "_law_strewn", "_law_line", "_law_floors"] : List PySem.Str) ++ (["_law_homes", "_law_spots", "_law_right", "NoOne", "LEFT", "RIGHT"] : List PySem.Str)
theorem run (w : World) : HandSHeadRun.RunEq R (PySem.W.view R.prog [26]) hk ob 4000 names w := by
  intro os
  kernel_rfl
theorem holds_of (h0 : ∀ ns : List Int, ns.length ≤ 63 → ∃ m, callN G LV 59 [.scr ns] false [] = .ok (.bl true) m) : PySem.Challenge.rw_balconyrow_k08_whole_seen_from_either_en.Holds := by
  w_on; o_law
  refine HandSHeadRun.head_any (r := PySem.W.OpenLaw.row PySem.Challenge.rw_balconyrow_k08_whole_seen_from_either_en) (q := PySem.W.view (PySem.W.OpenLaw.row PySem.Challenge.rw_balconyrow_k08_whole_seen_from_either_en).prog [26]) (H := hk) (ob := ob) (M := 4000) (loose := names) (d := HandSHeadRun.topDef (PySem.W.OpenLaw.row PySem.Challenge.rw_balconyrow_k08_whole_seen_from_either_en).prog 26) (kwd := []) ob_eq
    (by kernel_rfl) (fun s => by kernel_rfl) run (by kernel_rfl) (by kernel_rfl) (by kernel_rfl) (by rfl) (by first | assumption | decide +kernel) (by decide +kernel) ⟨rfl, rfl, rfl, rfl, rfl, by decide +kernel⟩ ?hw ?hc
  case hw => w_witness2
  case hc =>
    refine walk_ofG (l := PySem.Challenge.rw_balconyrow_k08_whole_seen_from_either_en) (n := 63) (k := LV + 2) (x := "_law_script") rfl (by decide) (by kernel_rfl) ⟨rfl, by decide, by decide⟩ ?F
    intro w mg fa h Y Gm hmg0
    obtain ⟨K, KX, c⟩ := Y
    have hmg : mg ("law" : PySem.Str) = some (.ref fa) := by
      have e : (HandSHeadRun.topDef (PySem.W.OpenLaw.row PySem.Challenge.rw_balconyrow_k08_whole_seen_from_either_en).prog 26).name = ("law" : PySem.Str) := by kernel_rfl
      rw [← e]
      exact hmg0
    exact law_top (G := G) (fis := fis) (blt := bl) (kws := kws) (nums := nums) (txs := txs) (il := i_law) (xis := xis) KX Gm hmg c defs_ok chk_ok binds_ok kw_ok rfl chkx_ok bindx_ok (by simp [fis]) rfl rfl (fun f fd F s u => F.bindsA (ps := ["_law_script"]) (fun _ _ _ _ _ _ us hl => match us, hl with | [_], _ => rfl) s [u] rfl) h0
end K08
open PySem PySem.W PyProof.Rows
theorem K08.wf_ok : ∀ f d, K08.G.defs f = some d → MP.wfSs d.body = true := by
  intro f d h
  unfold K08.G at h
  dsimp only at h
  split at h <;> first | (cases h; decide +kernel) | cases h
theorem PySem.Challenge.cw_balconyrow_k08_whole_seen_from_either_en_holds : PySem.Challenge.rw_balconyrow_k08_whole_seen_from_either_en.Holds := by
  have d : MP.Df08 K08.G := by constructor <;> rfl
  exact K08.holds_of fun ns hn => MP.law_P (io := MP.IO) (outs := [.p .non]) K08.wf_ok (k := 40) (MP.law08 (k := 32) d ns (by omega))
