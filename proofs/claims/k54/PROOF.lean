import PyProof.Rows.All
import Wide.All
import OpenK.AllK
import Wide.FinOn
import KE.KStateDown
import Lean
import HandS.Base
import HandS.Call
import HandS.Ends
import HandS.More
import HandS.Words
import HandS.WordsExc
import HandS.Defaults
import HandS.Head0
import HandS.Head1
import HandS.Head2
import HandS.HeadEnd
import HandS.HeadHook1
import HandS.HeadHook2
import PyProof.ReprReads
import HandS.ForMost
import HandS.TupAny
import HandS.TupMul
import HandS.Style
import HandS.Flow
import HandS.SortInts
import HandS.SortKw
import HandS.Deep
import HandS.ForExc
import HandS.Codes
import HandS.Zip
import HandS.Walk
import HandS.Comp
import HandS.IsInst
import PyProof.ReprRoads
import PyProof.Rows.RegStrFacts
import PySem.Challenge.RW_balconyrow_k54_needs_that_are_not_met
set_option Elab.async false
set_option linter.all false
/-! MPLang: a small language of clean values (tuples and lists by value, cells for what is changed), as total functions. -/
namespace MP
open PySem (Str Operator CmpOp PyData)

inductive Val where
  | non | bl (b : Bool) | int (i : Int) | str (x : Str) | tup (xs : List Val) | lst (xs : List Val) | ref (n : Nat) | scr (ns : List Int)
  | set (xs : List Val) | dct (ks vs : List Val) | exc (c : Nat) (fs : List Val)
  deriving Inhabited

inductive Cell where
  | lst (xs : List Val) | dct (ks vs : List Val) | ins (c : Nat) (fs : List Val)
  deriving Inhabited

abbrev M := List Cell
abbrev Env := List (Option Val)

-- no reference within
mutual
def Val.pure : Val → Bool
  | .ref _ => false
  | .tup xs => pureL xs
  | .lst xs => pureL xs
  | .set xs => pureL xs
  | .dct ks vs => pureL ks && pureL vs
  | .exc _ fs => pureL fs
  | _ => true
def pureL : List Val → Bool
  | [] => true
  | x :: r => x.pure && pureL r
end

mutual
def Val.same : Val → Val → Bool
  | .non, .non => true
  | .bl a, .bl b => a == b
  | .int a, .int b => a == b
  | .str a, .str b => a == b
  | .tup xs, .tup ys => sameL xs ys
  | .lst xs, .lst ys => sameL xs ys
  | .ref a, .ref b => a == b
  | .scr a, .scr b => a == b
  | .set xs, .set ys => sameL xs ys
  | .dct a b, .dct c d => sameL a c && sameL b d
  | .exc a b, .exc c d => a == c && sameL b d
  | _, _ => false
def sameL : List Val → List Val → Bool
  | [], [] => true
  | x :: xs, y :: ys => x.same y && sameL xs ys
  | _, _ => false
end
def Cell.same : Cell → Cell → Bool
  | .lst xs, .lst ys => sameL xs ys
  | .dct a b, .dct c d => sameL a c && sameL b d
  | .ins a b, .ins c d => a == c && sameL b d
  | _, _ => false

-- Python's == of clean values
mutual
def Val.eqv : Val → Val → Bool
  | .non, .non => true
  | .bl a, .bl b => a == b
  | .bl a, .int b => (if a then 1 else 0) == b
  | .int a, .bl b => a == (if b then 1 else 0)
  | .int a, .int b => a == b
  | .str a, .str b => a == b
  | .tup xs, .tup ys => eqvL xs ys
  | .lst xs, .lst ys => eqvL xs ys
  | _, _ => false
def eqvL : List Val → List Val → Bool
  | [], [] => true
  | x :: xs, y :: ys => x.eqv y && eqvL xs ys
  | _, _ => false
end

inductive R (α : Type) where
  | ok (a : α) (m : M) | exc (c : Nat) (fs : List Val) (m : M) | stuck

@[reducible] def R.bind {α β : Type} : R α → (α → M → R β) → R β
  | .ok a m, k => k a m
  | .exc c fs m, _ => .exc c fs m
  | .stuck, _ => .stuck
/-- an exception is not served here -/
def R.nox {α : Type} : R α → R α
  | .exc _ _ _ => .stuck
  | r => r
def opt {α : Type} (o : Option α) (m : M) : R α := match o with
  | some a => .ok a m
  | none => .stuck

/-- what a reference to a list or a dict shows -/
def dr (m : M) : Val → Val
  | .ref n => match m[n]? with
    | some (.lst xs) => .lst xs
    | some (.dct ks vs) => .dct ks vs
    | _ => .ref n
  | v => v

-- references from n on told by value
mutual
def frz (n : Nat) (m : M) : Nat → Val → Option Val
  | 0, _ => none
  | f + 1, .ref k => if k < n then some (.ref k) else match m[k]? with
    | some (.lst xs) => (frzL n m f xs).map .lst
    | some (.dct ks vs) => (frzL n m f ks).bind fun ks => (frzL n m f vs).map (.dct ks)
    | _ => none
  | f + 1, .tup xs => (frzL n m f xs).map .tup
  | f + 1, .lst xs => (frzL n m f xs).map .lst
  | f + 1, v => if v.pure then some v else none
def frzL (n : Nat) (m : M) : Nat → List Val → Option (List Val)
  | _, [] => some []
  | 0, _ => none
  | f + 1, x :: r => (frz n m f x).bind fun x => (frzL n m f r).map (x :: ·)
end
def FUEL : Nat := 4096
/-- a value with nothing of the cells from n on -/
def below (n : Nat) (m : M) (v : Val) : Option Val := if v.pure then some v else frz n m FUEL v

/-! ### operators -/
def LINE : Nat := 16777216
def smallI (i : Int) : Bool := decide (-(2 ^ 64) < i ∧ i < 2 ^ 64)
def small63 (i : Int) : Bool := decide (-(2 ^ 63) ≤ i ∧ i < 2 ^ 63)
def repL (xs : List Val) (k : Nat) : List Val := (List.replicate k xs).flatten

def bAdd : Val → Val → Option Val
  | .int i, .int j => some (.int (i + j))
  | .str a, .str b => if a.length + b.length ≤ LINE then some (.str (a ++ b)) else none
  | .lst xs, .lst ys => if xs.length + ys.length ≤ LINE then some (.lst (xs ++ ys)) else none
  | .tup xs, .tup ys => if xs.length + ys.length ≤ LINE then some (.tup (xs ++ ys)) else none
  | _, _ => none
def bSub : Val → Val → Option Val
  | .int i, .int j => some (.int (i - j))
  | _, _ => none
def bMul : Val → Val → Option Val
  | .int i, .int j => if smallI i || smallI j then some (.int (i * j)) else none
  | .lst xs, .int k => if small63 k && decide (xs.length * k.toNat ≤ LINE) then some (.lst (repL xs k.toNat)) else none
  | .tup xs, .int k => if !xs.isEmpty && decide (2 ≤ k) && decide (k ≤ 1000) && decide (xs.length ≤ 1000) then some (.tup (repL xs k.toNat)) else none
  | _, _ => none
def bDiv : Val → Val → Option Val
  | .int i, .int j => if decide (0 < j ∧ j < 1073741824) then some (.int (i / j)) else none
  | _, _ => none
def bMod : Val → Val → Option Val
  | .int i, .int j => if decide (0 < j) then some (.int (i % j)) else none
  | _, _ => none
def bPow : Val → Val → Option Val
  | .int i, .int j => if decide (0 ≤ j ∧ j ≤ 1000000 ∧ i.natAbs < 2 ^ 64) then some (.int (i ^ j.toNat)) else none
  | _, _ => none
def bop : Operator → Val → Val → Option Val
  | .Add => bAdd
  | .Sub => bSub
  | .Mult => bMul
  | .FloorDiv => bDiv
  | .Mod => bMod
  | .Pow => bPow
  | _ => fun _ _ => none

def keyIn (k : Val) : List Val → Bool
  | [] => false
  | x :: r => x.eqv k || keyIn k r
def valOf (k : Val) : List Val → List Val → Option Val
  | x :: r, v :: w => if x.eqv k then some v else valOf k r w
  | _, _ => none
def putK (k v : Val) : List Val → List Val → List Val × List Val
  | x :: r, y :: w => if x.eqv k then (x :: r, v :: w) else let p := putK k v r w; (x :: p.1, y :: p.2)
  | _, _ => ([k], [v])
def isKey : Val → Bool
  | .int _ => true
  | .str _ => true
  | _ => false
def isKeyT : Val → Bool
  | .tup ks => !ks.isEmpty && ks.all isKey
  | _ => false
/-- the keys of a dict are all numbers and texts, or all tuples of such -/
def keysOk (k : Val) (ks : List Val) : Bool := (isKey k && ks.all isKey) || (isKeyT k && ks.all isKeyT)

/-- a text of signs -/
def strV (x : Str) : Bool := x.cps.all (· < 0x110000)
-- data that is compared: None, truths, numbers, texts, tuples, lists
mutual
def Val.data : Val → Bool
  | .non => true
  | .bl _ => true
  | .int _ => true
  | .str x => strV x
  | .tup xs => dataL xs
  | .lst xs => dataL xs
  | _ => false
def dataL : List Val → Bool
  | [] => true
  | x :: r => x.data && dataL r
end
mutual
def Val.deep : Val → Nat
  | .tup xs => deepL xs + 1
  | .lst xs => deepL xs + 1
  | _ => 0
def deepL : List Val → Nat
  | [] => 0
  | x :: r => max x.deep (deepL r)
end
/-- may be compared by == (at most 60 deep) -/
def Val.cmpOk (v : Val) : Bool := v.data && decide (v.deep ≤ 60)

mutual
def toD : Val → PyData
  | .non => .none
  | .bl b => .bool b
  | .int i => .int i
  | .str x => .str x
  | .tup xs => .tuple (toDs xs)
  | .lst xs => .list (toDs xs)
  | _ => .none
def toDs : List Val → List PyData
  | [] => []
  | x :: r => toD x :: toDs r
end
/-- what repr tells of a list or a tuple -/
def reprV (v : Val) : Str := (toD v).shown
def isSeq : Val → Bool
  | .lst _ => true
  | .tup _ => true
  | _ => false
def reprOk (v : Val) : Bool := isSeq v && v.cmpOk && (toD v).showable && decide ((reprV v).length ≤ LINE)

def strIn (a b : Str) : Bool := b.cps.toList.any (fun c => decide (a.cps.toList = [c]))

def cIn : Val → Val → Option Bool
  | x, .lst ys => if x.cmpOk && ys.all Val.cmpOk then some (keyIn x ys) else none
  | x, .tup ys => if x.cmpOk && ys.all Val.cmpOk then some (keyIn x ys) else none
  | x, .dct ks _ => if keysOk x ks then some (keyIn x ks) else none
  | .str a, .str b => if decide (a.length = 1) then some (strIn a b) else none
  | _, _ => none
def cLt : Val → Val → Option Bool
  | .int i, .int j => some (decide (i < j))
  | _, _ => none
def cLe : Val → Val → Option Bool
  | .int i, .int j => some (decide (i ≤ j))
  | _, _ => none
def cGt : Val → Val → Option Bool
  | .int i, .int j => some (decide (j < i))
  | _, _ => none
def cGe : Val → Val → Option Bool
  | .int i, .int j => some (decide (j ≤ i))
  | _, _ => none
def isNon : Val → Bool
  | .non => true
  | _ => false
def cop : CmpOp → Val → Val → Option Bool
  | .Eq => fun x y => if x.cmpOk && y.cmpOk then some (x.eqv y) else none
  | .NotEq => fun x y => if x.cmpOk && y.cmpOk then some (!x.eqv y) else none
  | .Lt => cLt
  | .LtE => cLe
  | .Gt => cGt
  | .GtE => cGe
  | .In => cIn
  | .NotIn => fun x y => (cIn x y).map (!·)
  | .Is => fun x y => if isNon y then some (isNon x) else none
  | .IsNot => fun x y => if isNon y then some (!isNon x) else none

def tru : Val → Option Bool
  | .non => some false
  | .bl b => some b
  | .int i => some (i != 0)
  | .str x => if x.length ≤ LINE then some ((x.length : Int) != 0) else none
  | .tup xs => some (!xs.isEmpty)
  | .lst xs => some (!xs.isEmpty)
  | _ => none

/-- a place from either end -/
def ixN (n : Nat) (i : Int) : Option Nat := if 0 ≤ i then (if i < n then some i.toNat else none) else if -(n : Int) ≤ i then some (i + n).toNat else none
def atV {α : Type} (xs : List α) (i : Int) : Option α := (ixN xs.length i).bind fun j => xs[j]?
def idx : Val → Val → Option Val
  | .lst xs, .int i => atV xs i
  | .tup xs, .int i => atV xs i
  | .str z, .int i => if z.length ≤ LINE then (atV z.cps.toList i).map fun c => .str ⟨#[c]⟩ else none
  | .scr ns, .int i => (atV ns i).map .int
  | .dct ks vs, k => if keysOk k ks then valOf k ks vs else none
  | _, _ => none
def sIx (n d : Nat) : Option Int → Nat
  | none => d
  | some v => if v < 0 then (v + (n : Int)).toNat else min v.toNat n
def cutL {α : Type} (xs : List α) (lo hi : Option Int) : List α := (xs.drop (sIx xs.length 0 lo)).take (sIx xs.length xs.length hi - sIx xs.length 0 lo)
def slc (v : Val) (lo hi : Option Int) : Option Val := match v with
  | .lst xs => some (.lst (cutL xs lo hi))
  | .tup xs => some (.tup (cutL xs lo hi))
  | .str z => if z.length ≤ LINE then some (.str ⟨(cutL z.cps.toList lo hi).toArray⟩) else none
  | _ => none
def rev : Val → Option Val
  | .lst xs => some (.lst xs.reverse)
  | .tup xs => some (.tup xs.reverse)
  | .str z => some (.str ⟨z.cps.toList.reverse.toArray⟩)
  | _ => none

/-! ### built-in functions -/
inductive B where
  | len | abs | int | str | list | tuple | sorted | sortedR | min1 | max1 | min2 | max2 | sum | all | any | divmod | set | repr | dict
  | lrng | trng | index | count | get | join | split | strip
  deriving DecidableEq

def intsOf : List Val → Option (List Int)
  | [] => some []
  | .int i :: r => (intsOf r).map (i :: ·)
  | _ => none
def blsOf : List Val → Option (List Bool)
  | [] => some []
  | .bl b :: r => (blsOf r).map (b :: ·)
  | _ => none
def strsOf : List Val → Option (List Str)
  | [] => some []
  | .str b :: r => (strsOf r).map (b :: ·)
  | _ => none
def seqOf : Val → Option (List Val)
  | .lst xs => some xs
  | .tup xs => some xs
  | _ => none
def minI (x : Int) (r : List Int) : Int := r.foldl (fun a b => if b < a then b else a) x
def maxI (x : Int) (r : List Int) : Int := r.foldl (fun a b => if b > a then b else a) x
def insI (x : Int) : List Int → List Int
  | [] => [x]
  | y :: r => if x ≤ y then x :: y :: r else y :: insI x r
def isort : List Int → List Int
  | [] => []
  | x :: r => insI x (isort r)
/-- the first of each, as they are met -/
def dedup : List Val → List Val → List Val
  | acc, [] => acc
  | acc, x :: r => if keyIn x acc then dedup acc r else dedup (acc ++ [x]) r
-- the order of tuples and numbers
mutual
def Val.lt : Val → Val → Bool
  | .int a, .int b => decide (a < b)
  | .str a, .str b => decide (a.cps.toList < b.cps.toList)
  | .tup xs, .tup ys => ltL xs ys
  | .lst xs, .lst ys => ltL xs ys
  | _, _ => false
def ltL : List Val → List Val → Bool
  | [], _ :: _ => true
  | x :: xs, y :: ys => if x.eqv y then ltL xs ys else x.lt y
  | _, _ => false
end
def insV (x : Val) : List Val → List Val
  | [] => [x]
  | y :: r => if y.lt x then y :: insV x r else x :: y :: r
def sortV : List Val → List Val
  | [] => []
  | x :: r => insV x (sortV r)
-- pairs and triples .. of numbers, texts and tuples of these, all alike in kind: the kinds of the places
mutual
def Val.kind : Val → List Nat
  | .int _ => [1]
  | .str _ => [2]
  | .tup xs => 3 :: (kindL xs ++ [4])
  | _ => [0]
def kindL : List Val → List Nat
  | [] => []
  | x :: r => x.kind ++ kindL r
end
def sortOk : List Val → Bool
  | [] => true
  | x :: r => !(x.kind.contains 0) && r.all fun y => y.kind == x.kind
def rngL (lo : Int) : Nat → List Val
  | 0 => []
  | n + 1 => .int lo :: rngL (lo + 1) n
def rng62 (i : Int) : Bool := decide (-(2 ^ 62) ≤ i ∧ i < 2 ^ 62)
/-- range's numbers: by one, two, or three ends -/
def rngN (lo c : Int) : Nat → List Val
  | 0 => []
  | n + 1 => .int lo :: rngN (lo + c) c n
def rng : List Val → Option (List Val)
  | [.int j] => if rng62 j then some (rngL 0 j.toNat) else none
  | [.int i, .int j] => if rng62 i && rng62 j then some (rngL i (j - i).toNat) else none
  | [.int i, .int j, .int c] => if rng62 i && rng62 j && decide (c = -1) then some (rngN i (-1) (i - j).toNat) else none
  | _ => none
def findV (y : Val) : Nat → List Val → Option Nat
  | _, [] => none
  | n, x :: r => if x.eqv y then some n else findV y (n + 1) r
def countV (y : Val) : List Val → Nat
  | [] => 0
  | x :: r => countV y r + if x.eqv y then 1 else 0
def b2i (b : Bool) : Int := if b then 1 else 0

def blt : B → List Val → Option Val
  | .len, [.lst xs] => some (.int xs.length)
  | .len, [.tup xs] => some (.int xs.length)
  | .len, [.str z] => if z.length ≤ LINE then some (.int z.length) else none
  | .len, [.scr ns] => some (.int ns.length)
  | .len, [.set xs] => some (.int xs.length)
  | .len, [.dct ks _] => some (.int ks.length)
  | .abs, [.int i] => some (.int (if i < 0 then -i else i))
  | .int, [.int i] => some (.int i)
  | .int, [.bl b] => some (.int (b2i b))
  | .str, [.int i] => if i.natAbs.log2 < 1920 then some (.str (toString i : String)) else none
  | .list, [v] => (seqOf v).map .lst
  | .tuple, [v] => (seqOf v).map .tup
  | .sorted, [.lst xs] => match intsOf xs with
    | some ns => some (.lst ((isort ns).map .int))
    | none => if sortOk xs then some (.lst (sortV xs)) else none
  | .sorted, [.tup xs] => match intsOf xs with
    | some ns => some (.lst ((isort ns).map .int))
    | none => if sortOk xs then some (.lst (sortV xs)) else none
  | .sorted, [.set xs] => match intsOf xs with
    | some ns => some (.lst ((isort ns).map .int))
    | none => if sortOk xs then some (.lst (sortV xs)) else none
  | .sortedR, [.lst xs, .bl true] => match intsOf xs with
    | some ns => some (.lst ((isort ns).reverse.map .int))
    | none => if sortOk xs then some (.lst (sortV xs).reverse) else none
  | .sortedR, [.tup xs, .bl true] => match intsOf xs with
    | some ns => some (.lst ((isort ns).reverse.map .int))
    | none => if sortOk xs then some (.lst (sortV xs).reverse) else none
  | .min2, [.int i, .int j] => some (.int (if j < i then j else i))
  | .max2, [.int i, .int j] => some (.int (if j > i then j else i))
  | .min1, [v] => (seqOf v).bind fun xs => (intsOf xs).bind fun ns => match ns with
    | x :: r => some (.int (minI x r))
    | [] => none
  | .max1, [v] => (seqOf v).bind fun xs => (intsOf xs).bind fun ns => match ns with
    | x :: r => some (.int (maxI x r))
    | [] => none
  | .sum, [.lst xs] => (intsOf xs).map fun ns => .int ns.sum
  | .all, [.lst xs] => (blsOf xs).map fun bs => .bl (bs.all id)
  | .any, [.lst xs] => (blsOf xs).map fun bs => .bl (bs.any id)
  | .divmod, [.int i, .int j] => if decide (0 < j ∧ j < 1073741824) then some (.tup [.int (i / j), .int (i % j)]) else none
  | .set, [v] => (seqOf v).bind fun xs => (intsOf xs).map fun _ => .set (dedup [] xs)
  | .lrng, vs => (rng vs).map .lst
  | .trng, vs => (rng vs).map .tup
  | .index, [v, y] => (seqOf v).bind fun xs => if y.cmpOk && xs.all Val.cmpOk then (findV y 0 xs).map fun n => .int n else none
  | .count, [.lst xs, y] => (intsOf xs).bind fun _ => (intsOf [y]).map fun _ => .int (countV y xs)
  | .repr, [v] => if reprOk v then some (.str (reprV v)) else none
  | .get, [.dct ks vs, k, d] => if keysOk k ks then some ((valOf k ks vs).getD d) else none
  | _, _ => none

/-! ### kinds asked by isinstance -/
inductive Ty where
  | int | bool | str | list | tuple | exc (c : Nat) | base (x : Nat)
  deriving DecidableEq
/-- sup c b: the exception class c stands under the built-in one b -/
def isTy (sup : Nat → Nat → Bool) : Val → Ty → Option Bool
  | .non, _ => some false
  | .bl _, t => some (t == .bool || t == .int)
  | .int _, t => some (t == .int)
  | .str _, t => some (t == .str)
  | .tup _, t => some (t == .tuple)
  | .lst _, t => some (t == .list)
  | .exc c _, .exc d => some (c == d)
  | .exc c _, .base b => some (sup c b)
  | _, _ => none

/-! ### the text -/
inductive Cst where
  | non | bl (b : Bool) | int (i : Int) | str (x : Str)
  deriving DecidableEq
def Cst.val : Cst → Val
  | .non => .non
  | .bl b => .bl b
  | .int i => .int i
  | .str x => .str x

inductive Tg where
  | nm (i : Nat) | tup (ts : List Tg) | star (a : List Tg) (i : Nat) (b : List Tg)

inductive Mth where
  | append | pop | popAt | insert | extend | clear | setdefault
  deriving DecidableEq

mutual
inductive E where
  | var (i : Nat)
  | con (c : Cst)
  | glob (x : Nat)
  | bin (op : Operator) (a b : E)
  | neg (a : E)
  | nt (a : E)
  | and (a : E) (r : Es)
  | or (a : E) (r : Es)
  | ite (c a b : E)
  | cmp (a : E) (ops : List CmpOp) (es : Es)
  | idx (a i : E)
  | slc (a lo hi : E)
  | rev (a : E)
  | tup (es : Es)
  | lst (es : Es)
  | comp (st : Bool) (elt : E) (own : List Nat) (tg : Tg) (it : It) (cd : Es)
  | call (f : Nat) (es : Es) (al : Bool)
  | callk (f : Nat) (es kes : Es) (perm : List Nat) (al : Bool)
  | blt (b : B) (es : Es)
  | isi (a : E) (tys : List Ty)
  | mth (k : Mth) (o : E) (es : Es)
  | new (a : E)
  | dict (ks vs : Es)
  | fld (a : E) (j : Nat)
  | emp
inductive Es where
  | nil
  | cons (a : E) (r : Es)
inductive It where
  | val (a : E)
  | rng (es : Es)
  | enu (a : E)
  | zip (a b : E) (st : Bool)
  | items (a : E)
end

mutual
inductive S where
  | asg (tg : Tg) (e : E)
  | set (o i e : E)
  | sets (o lo hi e : E)
  | aug (i : Nat) (op : Operator) (e : E)
  | exp (e : E)
  | ret (e : E)
  | retn
  | iff (c : E) (a b : Ss)
  | for (tg : Tg) (it : It) (body : Ss)
  | whl (c : E) (body : Ss)
  | raise (c : Nat) (es : Es)
  | try (body : Ss) (hs : Hs)
  | pass
inductive Ss where
  | nil
  | cons (s : S) (r : Ss)
inductive Hs where
  | nil
  | cons (cls : List Nat) (slot : Option Nat) (body : Ss) (r : Hs)
end

def Es.of : List E → Es
  | [] => .nil
  | a :: r => .cons a (Es.of r)
def Ss.of : List S → Ss
  | [] => .nil
  | a :: r => .cons a (Ss.of r)

/-! ### targets -/
mutual
def bindT : Tg → Val → Env → Option Env
  | .nm i, v, ρ => if i < ρ.length then some (ρ.set i (some v)) else none
  | .tup ts, .tup vs, ρ => bindTs ts vs ρ
  | .tup ts, .lst vs, ρ => bindTs ts vs ρ
  | .star a i b, v, ρ => match seqOf v with
    | some vs => if decide (a.length + b.length ≤ vs.length) && decide (i < ρ.length) then
        (bindTs a (vs.take a.length) ρ).bind fun ρ => bindTs b (vs.drop (vs.length - b.length)) (ρ.set i (some (.lst ((vs.drop a.length).take (vs.length - b.length - a.length))))) else none
    | none => none
  | _, _, _ => none
def bindTs : List Tg → List Val → Env → Option Env
  | [], [], ρ => some ρ
  | t :: ts, v :: vs, ρ => (bindT t v ρ).bind fun ρ => bindTs ts vs ρ
  | _, _, _ => none
end
/-- what a target sees: a list that is told apart is looked through -/
def Tg.see (m : M) : Tg → Val → Val
  | .nm _, v => v
  | _, v => dr m v
def wipeE (ρ : Env) : List Nat → Env
  | [] => ρ
  | v :: vs => (wipeE ρ vs).set v none

/-! ### what runs -/
abbrev CallT := Nat → List Val → Bool → M → R Val
structure Cx where
  call : CallT
  base : Nat
  al : Bool
  glob : Nat → Option Val
  sup : Nat → Nat → Bool

/-- cells that are walked must stand -/
def stands (m m' : M) : List Nat → Bool
  | [] => true
  | n :: r => (match m[n]?, m'[n]? with
    | some a, some b => a.same b
    | _, _ => false) && stands m m' r
def watch : Val → List Nat
  | .ref n => [n]
  | _ => []

def compL (f : Val → M → R (Option Val)) (w : M → Bool) : List Val → List Val → M → R (List Val)
  | acc, [], m => .ok acc m
  | acc, v :: vs, m => (f v m).bind fun o m => if w m then (match o with
    | some y => if acc.length < LINE then compL f w (acc ++ [y]) vs m else .stuck
    | none => compL f w acc vs m) else .stuck

def enuL : Int → List Val → List Val
  | _, [] => []
  | n, x :: r => .tup [.int n, x] :: enuL (n + 1) r
def zipL : List Val → List Val → List Val
  | x :: xs, y :: ys => .tup [x, y] :: zipL xs ys
  | _, _ => []
/-- what zip walks: two lists or two tuples -/
def zipOf (st : Bool) : Val → Val → Option (List Val)
  | .lst xs, .lst ys => if !st then some (zipL xs ys) else none
  | .tup xs, .tup ys => if !st then some (zipL xs ys) else none
  | _, _ => none
def iterOf : Val → Option (List Val)
  | .lst xs => some xs
  | .tup xs => some xs
  | .str z => some (z.cps.toList.map fun c => .str ⟨#[c]⟩)
  | _ => none

/-- a store of v into cell n is let: v has no reference, or the cell is of this frame -/
def storable (base n : Nat) (v : Val) : Bool := v.pure || decide (base ≤ n)

/-- the object of a method is a list or a dict of its own -/
def mutOk (k : Mth) (m : M) : Val → Bool
  | .ref n => match m[n]? with
    | some (.lst _) => k != .setdefault
    | some (.dct _ _) => k == .setdefault
    | _ => false
  | _ => false
def mthd (base : Nat) (m : M) : Mth → Val → List Val → R Val
  | .append, .ref n, [v] => match m[n]? with
    | some (.lst xs) => if storable base n v && decide (xs.length < LINE) then .ok .non (m.set n (.lst (xs ++ [v]))) else .stuck
    | _ => .stuck
  | .pop, .ref n, [] => match m[n]? with
    | some (.lst xs) => match xs[xs.length - 1]? with
      | some y => .ok y (m.set n (.lst xs.dropLast))
      | none => .stuck
    | _ => .stuck
  | .popAt, .ref n, [.int i] => match m[n]? with
    | some (.lst xs) => match ixN xs.length i with
      | some k => match xs[k]? with
        | some y => if small63 i then .ok y (m.set n (.lst (xs.eraseIdx k))) else .stuck
        | none => .stuck
      | none => .stuck
    | _ => .stuck
  | .insert, .ref n, [.int i, v] => match m[n]? with
    | some (.lst xs) => if storable base n v && decide (xs.length < LINE) && small63 i && decide (0 ≤ i) then
        .ok .non (m.set n (.lst (xs.take (min i.toNat xs.length) ++ v :: xs.drop (min i.toNat xs.length)))) else .stuck
    | _ => .stuck
  | .extend, .ref n, [v] => match m[n]?, dr m v with
    | some (.lst xs), .lst ys => if (pureL ys || decide (base ≤ n)) && decide (xs.length + ys.length ≤ LINE) then .ok .non (m.set n (.lst (xs ++ ys))) else .stuck
    | _, _ => .stuck
  | .setdefault, .ref n, [k, v] => match m[n]? with
    | some (.dct ks vs) => if keysOk k ks && storable base n v then match valOf k ks vs with
        | some y => .ok y m
        | none => if ks.length < LINE then .ok v (m.set n (.dct (ks ++ [k]) (vs ++ [v]))) else .stuck
      else .stuck
    | _ => .stuck
  | _, _, _ => .stuck

def isEmp : E → Bool
  | .emp => true
  | _ => false
def partOf : Val → Option (Option Int)
  | .int i => some (some i)
  | _ => none

/-- a list that nothing else holds -/
def fresh : E → Bool
  | .lst _ => true
  | .comp false _ _ _ _ _ => true
  | .blt .list _ => true
  | .blt .sorted _ => true
  | .blt .sortedR _ => true
  | .blt .lrng _ => true
  | .bin _ _ _ => true
  | _ => false

mutual
def ev (C : Cx) : E → Env → M → R Val
  | .var i, ρ, m => match ρ[i]? with
    | some (some v) => .ok v m
    | _ => .stuck
  | .con c, _, m => .ok c.val m
  | .glob x, _, m => opt (C.glob x) m
  | .bin op a b, ρ, m => (ev C a ρ m).bind fun x m => (ev C b ρ m).bind fun y m => opt (bop op (dr m x) (dr m y)) m
  | .neg a, ρ, m => (ev C a ρ m).bind fun x m => match x with
    | .int i => .ok (.int (-i)) m
    | _ => .stuck
  | .nt a, ρ, m => (ev C a ρ m).bind fun x m => (opt (tru (dr m x)) m).bind fun b m => .ok (.bl (!b)) m
  | .and a r, ρ, m => (ev C a ρ m).bind fun x m => evAnd C r x ρ m
  | .or a r, ρ, m => (ev C a ρ m).bind fun x m => evOr C r x ρ m
  | .ite c a b, ρ, m => (ev C c ρ m).bind fun x m => (opt (tru (dr m x)) m).bind fun k m => if k then ev C a ρ m else ev C b ρ m
  | .cmp a ops es, ρ, m => (ev C a ρ m).bind fun x m => evCmp C es ops x ρ m
  | .idx a i, ρ, m => (ev C a ρ m).bind fun x m => (ev C i ρ m).bind fun y m => opt (idx (dr m x) y) m
  | .slc a lo hi, ρ, m => (ev C a ρ m).bind fun x m =>
      (if isEmp lo then .ok none m else (ev C lo ρ m).bind fun y m => opt (partOf y) m).bind fun l m =>
      (if isEmp hi then .ok none m else (ev C hi ρ m).bind fun y m => opt (partOf y) m).bind fun h m => opt (slc (dr m x) l h) m
  | .rev a, ρ, m => (ev C a ρ m).bind fun x m => opt (rev (dr m x)) m
  | .tup es, ρ, m => (evs C es ρ m).bind fun vs m => if vs.length ≤ LINE then .ok (.tup vs) m else .stuck
  | .lst es, ρ, m => (evs C es ρ m).bind fun vs m => if vs.length ≤ LINE then .ok (.lst vs) m else .stuck
  | .comp st elt own tg it cd, ρ, m => (evIt C it ρ m).bind fun p m0 =>
      (compL (fun v m => match bindT tg v (wipeE ρ own) with
        | none => .stuck
        | some ρ1 => (evCd C cd ρ1 m).nox.bind fun k m => if k then (ev C elt ρ1 m).nox.bind fun y m => .ok (some y) m else .ok none m) (fun m => stands m0 m p.2) [] p.1 m0).bind
      fun vs m => if st then .ok (.set (dedup [] vs)) m else .ok (.lst vs) m
  | .call f es al, ρ, m => (evs C es ρ m).bind fun vs m => C.call f vs al m
  | .callk f es kes perm al, ρ, m => (evs C es ρ m).bind fun vs m => (evs C kes ρ m).bind fun zs m => C.call f (perm.map fun i => (vs ++ zs).getD i .non) al m
  | .blt b es, ρ, m => (evs C es ρ m).bind fun vs m => opt (blt b (vs.map (dr m))) m
  | .isi a tys, ρ, m => (ev C a ρ m).bind fun x m => (opt (tys.mapM fun t => isTy C.sup (dr m x) t) m).bind fun bs m => .ok (.bl (bs.any id)) m
  | .mth k o es, ρ, m => (ev C o ρ m).bind fun x m => if mutOk k m x then (evs C es ρ m).bind fun vs m => mthd C.base m k x vs else .stuck
  | .new a, ρ, m => (ev C a ρ m).bind fun x m => match x with
    | .lst xs => .ok (.ref m.length) (m ++ [.lst xs])
    | _ => .stuck
  | .dict ks vs, ρ, m => (evs C ks ρ m).bind fun ks m => (evs C vs ρ m).bind fun vs m => if ks.length == vs.length && ks.all fun k => keysOk k ks then
      (let p := (ks.zip vs).foldl (fun (p : List Val × List Val) kv => putK kv.1 kv.2 p.1 p.2) ([], []); .ok (.ref m.length) (m ++ [.dct p.1 p.2])) else .stuck
  | .fld a j, ρ, m => (ev C a ρ m).bind fun x m => match x with
    | .exc _ fs => opt fs[j]? m
    | _ => .stuck
  | .emp, _, _ => .stuck
def evs (C : Cx) : Es → Env → M → R (List Val)
  | .nil, _, m => .ok [] m
  | .cons a r, ρ, m => (ev C a ρ m).bind fun x m => (evs C r ρ m).bind fun xs m => .ok (x :: xs) m
def evAnd (C : Cx) : Es → Val → Env → M → R Val
  | .nil, x, _, m => .ok x m
  | .cons b r, x, ρ, m => (opt (tru (dr m x)) m).bind fun k m => if k then (ev C b ρ m).bind fun y m => evAnd C r y ρ m else .ok x m
def evOr (C : Cx) : Es → Val → Env → M → R Val
  | .nil, x, _, m => .ok x m
  | .cons b r, x, ρ, m => (opt (tru (dr m x)) m).bind fun k m => if k then .ok x m else (ev C b ρ m).bind fun y m => evOr C r y ρ m
def evCmp (C : Cx) : Es → List CmpOp → Val → Env → M → R Val
  | .cons b .nil, [op], x, ρ, m => (ev C b ρ m).bind fun y m => (opt (cop op (dr m x) (dr m y)) m).bind fun k m => .ok (.bl k) m
  | .cons b r, op :: ops, x, ρ, m => (ev C b ρ m).bind fun y m => (opt (cop op (dr m x) (dr m y)) m).bind fun k m => if k then evCmp C r ops y ρ m else .ok (.bl false) m
  | _, _, _, _, _ => .stuck
def evCd (C : Cx) : Es → Env → M → R Bool
  | .nil, _, m => .ok true m
  | .cons c .nil, ρ, m => (ev C c ρ m).bind fun x m => opt (tru (dr m x)) m
  | _, _, _ => .stuck
def evIt (C : Cx) : It → Env → M → R (List Val × List Nat)
  | .val a, ρ, m => (ev C a ρ m).bind fun x m => (opt (iterOf (dr m x)) m).bind fun xs m => .ok (xs, watch x) m
  | .rng es, ρ, m => (evs C es ρ m).bind fun vs m => (opt (rng vs) m).bind fun xs m => .ok (xs, []) m
  | .enu a, ρ, m => (ev C a ρ m).bind fun x m => (opt (seqOf (dr m x)) m).bind fun xs m => .ok (enuL 0 xs, watch x) m
  | .zip a b st, ρ, m => (ev C a ρ m).bind fun x m => (ev C b ρ m).bind fun y m => (opt (zipOf st (dr m x) (dr m y)) m).bind fun zs m => .ok (zs, watch x ++ watch y) m
  | .items a, ρ, m => (ev C a ρ m).bind fun x m => match dr m x with
    | .dct ks vs => .ok (zipL ks vs, watch x) m
    | _ => .stuck
end

inductive Rs where
  | nxt (ρ : Env) (m : M) | ret (v : Val) (m : M) | exc (c : Nat) (fs : List Val) (ρ : Env) (m : M) | stuck
@[reducible] def Rs.bind : Rs → (Env → M → Rs) → Rs
  | .nxt ρ m, k => k ρ m
  | .ret v m, _ => .ret v m
  | .exc c fs ρ m, _ => .exc c fs ρ m
  | .stuck, _ => .stuck
@[reducible] def R.thn {α : Type} : R α → Env → (α → M → Rs) → Rs
  | .ok a m, _, k => k a m
  | .exc c fs m, ρ, _ => .exc c fs ρ m
  | .stuck, _, _ => .stuck

def loopL (f : Val → Env → M → Rs) (w : M → Bool) : List Val → Env → M → Rs
  | [], ρ, m => .nxt ρ m
  | v :: vs, ρ, m => (f v ρ m).bind fun ρ m => if w m then loopL f w vs ρ m else .stuck
def loopW (c : Env → M → R Bool) (f : Env → M → Rs) : Nat → Env → M → Rs
  | 0, _, _ => .stuck
  | n + 1, ρ, m => (c ρ m).thn ρ fun k m => if k then (f ρ m).bind fun ρ m => loopW c f n ρ m else .nxt ρ m
def WF : Nat := 1000000

def setAt (base : Nat) (m : M) (o i v : Val) : Option M := match o, i with
  | .ref n, i => match m[n]? with
    | some (.lst xs) => match i with
      | .int k => (ixN xs.length k).bind fun j => if storable base n v then some (m.set n (.lst (xs.set j v))) else none
      | _ => none
    | some (.dct ks vs) => if keysOk i ks && storable base n v && decide (ks.length < LINE) then (let p := putK i v ks vs; some (m.set n (.dct p.1 p.2))) else none
    | _ => none
  | _, _ => none
def setSl (base : Nat) (m : M) (o lo hi v : Val) : Option M := match o, lo, hi, v with
  | .ref n, .int a, .int b, .lst ys => match m[n]? with
    | some (.lst xs) => if decide (0 ≤ a ∧ a ≤ b ∧ xs.length + ys.length ≤ LINE) && (pureL ys || decide (base ≤ n)) then
        some (m.set n (.lst (xs.take (min a.toNat xs.length) ++ ys ++ xs.drop (min b.toNat xs.length)))) else none
    | _ => none
  | _, _, _, _ => none

mutual
def ex (C : Cx) : S → Env → M → Rs
  | .asg tg e, ρ, m => (ev C e ρ m).thn ρ fun v m => match bindT tg (tg.see m v) ρ with
    | some ρ => .nxt ρ m
    | none => .stuck
  | .set o i e, ρ, m => (ev C e ρ m).thn ρ fun v m => (ev C o ρ m).thn ρ fun ov m => (ev C i ρ m).thn ρ fun iv m => match setAt C.base m ov iv v with
    | some m => .nxt ρ m
    | none => .stuck
  | .sets o lo hi e, ρ, m => (ev C e ρ m).thn ρ fun v m => (ev C o ρ m).thn ρ fun ov m => (ev C lo ρ m).thn ρ fun l m => (ev C hi ρ m).thn ρ fun h m => match setSl C.base m ov l h v with
    | some m => .nxt ρ m
    | none => .stuck
  | .aug i op e, ρ, m => match ρ[i]? with
    | some (some x) => (ev C e ρ m).thn ρ fun y m => match x, y, op with
      | .int a, .int b, .Add => .nxt (ρ.set i (some (.int (a + b)))) m
      | .int a, .int b, .Sub => .nxt (ρ.set i (some (.int (a - b)))) m
      | .int a, .int b, .Mult => if smallI a || smallI b then .nxt (ρ.set i (some (.int (a * b)))) m else .stuck
      | _, _, _ => .stuck
    | _ => .stuck
  | .exp e, ρ, m => (ev C e ρ m).thn ρ fun _ m => .nxt ρ m
  | .ret e, ρ, m => (ev C e ρ m).thn ρ fun v m => .ret v m
  | .retn, _, m => .ret .non m
  | .iff c a b, ρ, m => (ev C c ρ m).thn ρ fun x m => (opt (tru (dr m x)) m).thn ρ fun k m => if k then exs C a ρ m else exs C b ρ m
  | .for tg it body, ρ, m => (evIt C it ρ m).thn ρ fun p m0 => loopL (fun v ρ m => match bindT tg v ρ with
    | some ρ => exs C body ρ m
    | none => .stuck) (fun m => stands m0 m p.2) p.1 ρ m0
  | .whl c body, ρ, m => loopW (fun ρ m => (ev C c ρ m).bind fun x m => opt (tru (dr m x)) m) (exs C body) WF ρ m
  | .raise c es, ρ, m => (evs C es ρ m).thn ρ fun vs m => .exc c vs ρ m
  | .try body hs, ρ, m => match exs C body ρ m with
    | .exc c fs ρ m => exH C hs c fs ρ m
    | r => r
  | .pass, ρ, m => .nxt ρ m
def exs (C : Cx) : Ss → Env → M → Rs
  | .nil, ρ, m => .nxt ρ m
  | .cons s r, ρ, m => (ex C s ρ m).bind fun ρ m => exs C r ρ m
def exH (C : Cx) : Hs → Nat → List Val → Env → M → Rs
  | .nil, c, fs, ρ, m => .exc c fs ρ m
  | .cons cls slot body r, c, fs, ρ, m => if cls.contains c then (match slot with
    | some i => (exs C body (ρ.set i (some (.exc c fs))) m).bind fun ρ m => .nxt (ρ.set i none) m
    | none => exs C body ρ m) else exH C r c fs ρ m
end

structure Def where
  np : Nat
  ns : Nat
  body : Ss

/-- behind a call: the callee's cells are gone -/
def exitR (al : Bool) (n : Nat) (v : Val) (m : M) : R Val :=
  if v.pure then .ok v (m.take n) else match al, v with
    | true, .ref k => if k < n then .ok v (m.take n) else match m[k]? with
      | some (.lst xs) => if pureL xs then .ok (.ref n) (m.take n ++ [.lst xs]) else .stuck
      | some (.dct ks vs) => if pureL ks && pureL vs then .ok (.ref n) (m.take n ++ [.dct ks vs]) else .stuck
      | _ => .stuck
    | _, _ => match frz n m FUEL v with
      | some v => .ok v (m.take n)
      | none => .stuck

structure Prog where
  defs : Nat → Option Def
  glob : Nat → Option Val
  sup : Nat → Nat → Bool

def ctx (G : Prog) (c : CallT) (base : Nat) (al : Bool) : Cx := ⟨c, base, al, G.glob, G.sup⟩
def runD (G : Prog) (c : CallT) (d : Def) (args : List Val) (al : Bool) (m : M) : R Val :=
  match exs (ctx G c m.length al) d.body (args.map some ++ List.replicate (d.ns - d.np) none) m with
  | .nxt _ m' => .ok .non (m'.take m.length)
  | .ret v m' => exitR al m.length v m'
  | .exc c fs _ m' => if pureL fs then .exc c fs (m'.take m.length) else .stuck
  | .stuck => .stuck
def callN (G : Prog) : Nat → CallT
  | 0 => fun _ _ _ _ => .stuck
  | k + 1 => fun f args al m => match G.defs f with
    | some d => if args.length = d.np then runD G (callN G k) d args al m else .stuck
    | none => .stuck
end MP
set_option Elab.async false
set_option linter.all false
set_option maxRecDepth 100000
set_option maxHeartbeats 1000000
/-! MPRel: what the heap shows of clean values; growth of heaps; what holds behind a clean result. -/
namespace MP
open PySem PySem.Spec PyProof.Rows L2

/-! ### references below a number -/
mutual
def Val.lt_ (n : Nat) : Val → Bool
  | .ref k => decide (k < n)
  | .tup xs => ltAll n xs
  | .lst xs => ltAll n xs
  | .set xs => ltAll n xs
  | .dct ks vs => ltAll n ks && ltAll n vs
  | .exc _ fs => ltAll n fs
  | _ => true
def ltAll (n : Nat) : List Val → Bool
  | [] => true
  | x :: r => x.lt_ n && ltAll n r
end
mutual
theorem lt_of_pure (n : Nat) : ∀ v : Val, v.pure = true → v.lt_ n = true
  | .ref k, h => by simp [Val.pure] at h
  | .tup xs, h => by simp only [Val.pure] at h; simp only [Val.lt_]; exact ltAll_of_pure n xs h
  | .lst xs, h => by simp only [Val.pure] at h; simp only [Val.lt_]; exact ltAll_of_pure n xs h
  | .set xs, h => by simp only [Val.pure] at h; simp only [Val.lt_]; exact ltAll_of_pure n xs h
  | .dct ks vs, h => by
    simp only [Val.pure, Bool.and_eq_true] at h
    simp only [Val.lt_, Bool.and_eq_true]
    exact ⟨ltAll_of_pure n ks h.1, ltAll_of_pure n vs h.2⟩
  | .exc _ fs, h => by simp only [Val.pure] at h; simp only [Val.lt_]; exact ltAll_of_pure n fs h
  | .non, _ => rfl
  | .bl _, _ => rfl
  | .int _, _ => rfl
  | .str _, _ => rfl
  | .scr _, _ => rfl
theorem ltAll_of_pure (n : Nat) : ∀ xs : List Val, pureL xs = true → ltAll n xs = true
  | [], _ => rfl
  | x :: r, h => by
    simp only [pureL, Bool.and_eq_true] at h
    simp only [ltAll, Bool.and_eq_true]
    exact ⟨lt_of_pure n x h.1, ltAll_of_pure n r h.2⟩
end
def Cell.lt_ (n : Nat) : Cell → Bool
  | .lst xs => ltAll n xs
  | .dct ks vs => ltAll n ks && ltAll n vs
  | .ins _ fs => ltAll n fs

/-- the cells' places; places that are hidden -/
structure Al where
  c : List Addr
  h : List Addr
def Al.off (al : Al) (a : Addr) : Prop := a ∉ al.c ∧ a ∉ al.h
def Al.add (al : Al) (be : List Addr) : Al := ⟨al.c ++ be, al.h⟩
def Al.cut (al : Al) (n : Nat) : Al := ⟨al.c.take n, al.h⟩
def Al.hide (al : Al) (a : Addr) : Al := ⟨al.c, a :: al.h⟩
/-! ### what the heap shows -/
/-- a list that is no cell -/
def SqN (K : PySem.W.Frag) (al : Al) (H : Hp) (a : Addr) (xs : List V) : Prop :=
  (Rd H a (.lst xs) ∧ al.off a) ∨ ∃ (o : Obj) (its : Array Value) (n : Nat), K.lookup a = some o ∧ o.cls = .type "list" ∧ o.dict = none ∧ o.data = .seq its n ∧ its.size ≤ sizeLine ∧ Vals xs its.toList
theorem SqN.sq {K : PySem.W.Frag} {al : Al} {H : Hp} {a : Addr} {xs : List V} (h : SqN K al H a xs) : SqL K H a xs := by
  rcases h with h | h
  · exact .inl h.1
  · exact .inr h
mutual
inductive Rep (K : PySem.W.Frag) (al : Al) (H : Hp) : V → Val → Prop
  | non : Rep K al H .non .non
  | bl (b : Bool) : Rep K al H (.bl b) (.bl b)
  | int (i : Int) : Rep K al H (.int i) (.int i)
  | str (x : Str) : Rep K al H (.str x) (.str x)
  | tup {a : Addr} {us : List V} {xs : List Val} : SqT K H a us → RepL K al H us xs → Rep K al H (.ref a) (.tup xs)
  | lst {a : Addr} {us : List V} {xs : List Val} : H a = some (.lst us) → al.off a → RepL K al H us xs → Rep K al H (.ref a) (.lst xs)
  | ref {n : Nat} {a : Addr} : al.c[n]? = some a → Rep K al H (.ref a) (.ref n)
  | scr {a : Addr} {ns : List Int} : SqN K al H a (ns.map V.int) → Rep K al H (.ref a) (.scr ns)
inductive RepL (K : PySem.W.Frag) (al : Al) (H : Hp) : List V → List Val → Prop
  | nil : RepL K al H [] []
  | cons {u : V} {us : List V} {x : Val} {xs : List Val} : Rep K al H u x → RepL K al H us xs → RepL K al H (u :: us) (x :: xs)
end

/-- what never changes -/
def Imm : HO → Prop
  | .tup _ => True
  | .frz _ _ => True
  | _ => False
/-- growth: cells at al and what's hidden may change, all else stands; cells are added, hidden ones too -/
structure Ex0 (al al' : Al) (H H' : Hp) : Prop where
  more : ∃ be hs, al' = ⟨al.c ++ be, hs ++ al.h⟩ ∧ (∀ p ∈ be, H p = none) ∧ ∀ p ∈ hs, H p = none
  keep : ∀ a o, H a = some o → (al.off a ∨ Imm o) → H' a = some o
/-- .. the hidden stand, too -/
structure Ext (al al' : Al) (H H' : Hp) : Prop where
  more : ∃ be hs, al' = ⟨al.c ++ be, hs ++ al.h⟩ ∧ (∀ p ∈ be, H p = none) ∧ ∀ p ∈ hs, H p = none
  keep : ∀ a o, H a = some o → (a ∉ al.c ∨ Imm o) → H' a = some o
  dom : ∀ a, H' a = none → H a = none
theorem Ext.to0 {al al' : Al} {H H' : Hp} (x : Ext al al' H H') : Ex0 al al' H H' := ⟨x.more, fun a o e h => x.keep a o e (h.imp (·.1) id)⟩
theorem Ext.refl (al : Al) (H : Hp) : Ext al al H H := ⟨⟨[], [], by simp, by simp, by simp⟩, fun _ _ e _ => e, fun _ e => e⟩
theorem Ext.trans {a b c : Al} {H H1 H2 : Hp} (x : Ext a b H H1) (y : Ext b c H1 H2) : Ext a c H H2 := by
  obtain ⟨be, hs, rfl, h1, g1⟩ := x.more
  obtain ⟨be2, hs2, rfl, h2, g2⟩ := y.more
  refine ⟨⟨be ++ be2, hs2 ++ hs, by simp, fun p hp => ?_, fun p hp => ?_⟩, fun p o e h => ?_, fun p e => x.dom p (y.dom p e)⟩
  · rcases List.mem_append.mp hp with hp | hp
    · exact h1 p hp
    · exact x.dom p (h2 p hp)
  · rcases List.mem_append.mp hp with hp | hp
    · exact x.dom p (g2 p hp)
    · exact g1 p hp
  · have e1 := x.keep p o e h
    refine y.keep p o e1 ?_
    rcases h with h | h
    · refine .inl fun hm => ?_
      rcases List.mem_append.mp hm with hm | hm
      · exact h hm
      · rw [h1 p hm] at e; cases e
    · exact .inr h
theorem Ext.of_same {al : Al} {H H' : Hp} (h : Same H H') : Ext al al H H' :=
  ⟨⟨[], [], by simp, by simp, by simp⟩, fun a o e _ => h a o e, fun a e => by
    cases q : H a with
    | none => rfl
    | some o => rw [h a o q] at e; cases e⟩
theorem same_upd {H : Hp} {p : Addr} {o : HO} (h : H p = none) : Same H (upd H p o) := fun b x e => by
  rw [upd_ne (ne_of_none e h)]
  exact e

theorem SqT.ext0 {K : PySem.W.Frag} {al al' : Al} {H H' : Hp} {a : Addr} {us : List V} (h : SqT K H a us) (x : Ex0 al al' H H') : SqT K H' a us := by
  rcases h with (h | ⟨o, h⟩) | h
  · exact .inl (.inl (x.keep _ _ h (.inr trivial)))
  · exact .inl (.inr ⟨o, x.keep _ _ h (.inr trivial)⟩)
  · exact .inr h
theorem SqT.ext {K : PySem.W.Frag} {al al' : Al} {H H' : Hp} {a : Addr} {us : List V} (h : SqT K H a us) (x : Ext al al' H H') : SqT K H' a us := SqT.ext0 h x.to0
theorem Ex0.sub {al al' : Al} {H H' : Hp} (x : Ex0 al al' H H') {a : Addr} (n : al.off a) (h : H a ≠ none) : al'.off a := by
  obtain ⟨be, hs, rfl, h1, g1⟩ := x.more
  refine ⟨fun hm => ?_, fun hm => ?_⟩
  · rcases List.mem_append.mp hm with hm | hm
    · exact n.1 hm
    · exact h (h1 a hm)
  · rcases List.mem_append.mp hm with hm | hm
    · exact h (g1 a hm)
    · exact n.2 hm
theorem Ext.sub {al al' : Al} {H H' : Hp} (x : Ext al al' H H') {a : Addr} (n : al.off a) (h : H a ≠ none) : al'.off a := x.to0.sub n h
theorem SqN.ext0 {K : PySem.W.Frag} {al al' : Al} {H H' : Hp} {a : Addr} {us : List V} (h : SqN K al H a us) (x : Ex0 al al' H H') : SqN K al' H' a us := by
  rcases h with ⟨h | ⟨o, h⟩, n⟩ | h
  · exact .inl ⟨.inl (x.keep _ _ h (.inl n)), x.sub n (by rw [h]; simp)⟩
  · exact .inl ⟨.inr ⟨o, x.keep _ _ h (.inl n)⟩, x.sub n (by rw [h]; simp)⟩
  · exact .inr h
theorem SqN.ext {K : PySem.W.Frag} {al al' : Al} {H H' : Hp} {a : Addr} {us : List V} (h : SqN K al H a us) (x : Ext al al' H H') : SqN K al' H' a us := SqN.ext0 h x.to0
mutual
theorem Rep.ext0 {K : PySem.W.Frag} {al al' : Al} {H H' : Hp} (x : Ex0 al al' H H') : ∀ (v : Val) (u : V), Rep K al H u v → Rep K al' H' u v
  | .non, _, h => by cases h; exact .non
  | .bl b, _, h => by cases h; exact .bl b
  | .int i, _, h => by cases h; exact .int i
  | .str z, _, h => by cases h; exact .str z
  | .tup xs, _, h => by
    cases h with
    | tup h1 h2 => exact .tup (SqT.ext0 h1 x) (RepL.ext0 x xs _ h2)
  | .lst xs, _, h => by
    cases h with
    | lst h1 h2 h3 => exact .lst (x.keep _ _ h1 (.inl h2)) (x.sub h2 (by rw [h1]; simp)) (RepL.ext0 x xs _ h3)
  | .ref n, _, h => by
    cases h with
    | ref h1 =>
      obtain ⟨be, hs, rfl, _, _⟩ := x.more
      refine .ref ?_
      show (al.c ++ be)[n]? = _
      rw [List.getElem?_append_left (List.getElem?_eq_some_iff.mp h1).1]
      exact h1
  | .scr ns, _, h => by
    cases h with
    | scr h1 => exact .scr (h1.ext0 x)
  | .set _, _, h => by cases h
  | .dct _ _, _, h => by cases h
  | .exc _ _, _, h => by cases h
theorem RepL.ext0 {K : PySem.W.Frag} {al al' : Al} {H H' : Hp} (x : Ex0 al al' H H') : ∀ (vs : List Val) (us : List V), RepL K al H us vs → RepL K al' H' us vs
  | [], _, h => by cases h; exact .nil
  | v :: vs, _, h => by
    cases h with
    | cons h1 h2 => exact .cons (Rep.ext0 x v _ h1) (RepL.ext0 x vs _ h2)
end
theorem Rep.ext {K : PySem.W.Frag} {al al' : Al} {H H' : Hp} (x : Ext al al' H H') (v : Val) (u : V) (h : Rep K al H u v) : Rep K al' H' u v := h.ext0 x.to0 v u
theorem RepL.ext {K : PySem.W.Frag} {al al' : Al} {H H' : Hp} (x : Ext al al' H H') (vs : List Val) (us : List V) (h : RepL K al H us vs) : RepL K al' H' us vs := h.ext0 x.to0 vs us
theorem RepL.length {K : PySem.W.Frag} {al : Al} {H : Hp} : ∀ {vs : List Val} {us : List V}, RepL K al H us vs → us.length = vs.length
  | [], _, h => by cases h; rfl
  | v :: vs, _, h => by
    cases h with
    | cons h1 h2 => simp [h2.length]
theorem RepL.get {K : PySem.W.Frag} {al : Al} {H : Hp} : ∀ {vs : List Val} {us : List V} {i : Nat} {v : Val}, RepL K al H us vs → vs[i]? = some v → ∃ u, us[i]? = some u ∧ Rep K al H u v
  | [], _, _, _, h, e => by simp at e
  | v :: vs, _, 0, _, h, e => by
    cases h with
    | cons h1 h2 => simp at e; subst e; exact ⟨_, rfl, h1⟩
  | v :: vs, _, i + 1, _, h, e => by
    cases h with
    | cons h1 h2 =>
      obtain ⟨u, e1, r⟩ := RepL.get (i := i) h2 (by simpa using e)
      exact ⟨u, by simpa using e1, r⟩
theorem RepL.append {K : PySem.W.Frag} {al : Al} {H : Hp} : ∀ {vs ws : List Val} {us ts : List V}, RepL K al H us vs → RepL K al H ts ws → RepL K al H (us ++ ts) (vs ++ ws)
  | [], _, _, _, h, h' => by cases h; exact h'
  | v :: vs, _, _, _, h, h' => by
    cases h with
    | cons h1 h2 => exact .cons h1 (h2.append h')
theorem RepL.take {K : PySem.W.Frag} {al : Al} {H : Hp} : ∀ {vs : List Val} {us : List V} (n : Nat), RepL K al H us vs → RepL K al H (us.take n) (vs.take n)
  | _, _, 0, _ => .nil
  | [], _, _ + 1, h => by cases h; exact .nil
  | v :: vs, _, n + 1, h => by
    cases h with
    | cons h1 h2 => exact .cons h1 (h2.take n)
theorem RepL.drop {K : PySem.W.Frag} {al : Al} {H : Hp} : ∀ {vs : List Val} {us : List V} (n : Nat), RepL K al H us vs → RepL K al H (us.drop n) (vs.drop n)
  | _, _, 0, h => h
  | [], _, _ + 1, h => by cases h; exact .nil
  | v :: vs, _, n + 1, h => by
    cases h with
    | cons h1 h2 => exact h2.drop n
theorem RepL.set {K : PySem.W.Frag} {al : Al} {H : Hp} {x : Val} {u : V} (r : Rep K al H u x) : ∀ {vs : List Val} {us : List V} (n : Nat), RepL K al H us vs → RepL K al H (us.set n u) (vs.set n x)
  | [], _, _, h => by cases h; exact .nil
  | v :: vs, _, 0, h => by
    cases h with
    | cons h1 h2 => exact .cons r h2
  | v :: vs, _, n + 1, h => by
    cases h with
    | cons h1 h2 => exact .cons h1 (h2.set r n)
theorem RepL.eraseIdx {K : PySem.W.Frag} {al : Al} {H : Hp} : ∀ {vs : List Val} {us : List V} (n : Nat), RepL K al H us vs → RepL K al H (us.eraseIdx n) (vs.eraseIdx n)
  | [], _, _, h => by cases h; exact .nil
  | v :: vs, _, 0, h => by
    cases h with
    | cons h1 h2 => exact h2
  | v :: vs, _, n + 1, h => by
    cases h with
    | cons h1 h2 => exact .cons h1 (h2.eraseIdx n)
theorem RepL.dropLast {K : PySem.W.Frag} {al : Al} {H : Hp} {vs : List Val} {us : List V} (h : RepL K al H us vs) : RepL K al H us.dropLast vs.dropLast := by
  rw [List.dropLast_eq_take, List.dropLast_eq_take, h.length]
  exact h.take _
theorem RepL.reverse {K : PySem.W.Frag} {al : Al} {H : Hp} : ∀ {vs : List Val} {us : List V}, RepL K al H us vs → RepL K al H us.reverse vs.reverse
  | [], _, h => by cases h; exact .nil
  | v :: vs, _, h => by
    cases h with
    | cons h1 h2 =>
      rw [List.reverse_cons, List.reverse_cons]
      exact h2.reverse.append (.cons h1 .nil)
theorem RepL.rep {K : PySem.W.Frag} {al : Al} {H : Hp} {vs : List Val} {us : List V} (h : RepL K al H us vs) : ∀ k : Nat, RepL K al H (List.replicate k us).flatten (List.replicate k vs).flatten
  | 0 => .nil
  | k + 1 => by
    rw [List.replicate_succ, List.replicate_succ, List.flatten_cons, List.flatten_cons]
    exact h.append (h.rep k)
theorem RepL.ints {K : PySem.W.Frag} {al : Al} {H : Hp} : ∀ (ns : List Int), RepL K al H (ns.map V.int) (ns.map Val.int)
  | [] => .nil
  | n :: ns => .cons (.int n) (RepL.ints ns)
theorem RepL.of_ints {K : PySem.W.Frag} {al : Al} {H : Hp} : ∀ {vs : List Val} {us : List V} {ns : List Int}, RepL K al H us vs → intsOf vs = some ns → us = ns.map V.int
  | [], _, ns, h, e => by cases h; simp [intsOf] at e; subst e; rfl
  | .int i :: vs, _, ns, h, e => by
    cases h with
    | cons h1 h2 =>
      cases h1
      simp only [intsOf, Option.map_eq_some_iff] at e
      obtain ⟨ms, e1, rfl⟩ := e
      rw [RepL.of_ints h2 e1]
      rfl
  | .non :: _, _, _, _, e => by simp [intsOf] at e
  | .bl _ :: _, _, _, _, e => by simp [intsOf] at e
  | .str _ :: _, _, _, _, e => by simp [intsOf] at e
  | .tup _ :: _, _, _, _, e => by simp [intsOf] at e
  | .lst _ :: _, _, _, _, e => by simp [intsOf] at e
  | .ref _ :: _, _, _, _, e => by simp [intsOf] at e
  | .scr _ :: _, _, _, _, e => by simp [intsOf] at e
  | .set _ :: _, _, _, _, e => by simp [intsOf] at e
  | .dct _ _ :: _, _, _, _, e => by simp [intsOf] at e
  | .exc _ _ :: _, _, _, _, e => by simp [intsOf] at e
theorem RepL.of_bls {K : PySem.W.Frag} {al : Al} {H : Hp} : ∀ {vs : List Val} {us : List V} {ns : List Bool}, RepL K al H us vs → blsOf vs = some ns → us = ns.map V.bl
  | [], _, ns, h, e => by cases h; simp [blsOf] at e; subst e; rfl
  | .bl i :: vs, _, ns, h, e => by
    cases h with
    | cons h1 h2 =>
      cases h1
      simp only [blsOf, Option.map_eq_some_iff] at e
      obtain ⟨ms, e1, rfl⟩ := e
      rw [RepL.of_bls h2 e1]
      rfl
  | .non :: _, _, _, _, e => by simp [blsOf] at e
  | .int _ :: _, _, _, _, e => by simp [blsOf] at e
  | .str _ :: _, _, _, _, e => by simp [blsOf] at e
  | .tup _ :: _, _, _, _, e => by simp [blsOf] at e
  | .lst _ :: _, _, _, _, e => by simp [blsOf] at e
  | .ref _ :: _, _, _, _, e => by simp [blsOf] at e
  | .scr _ :: _, _, _, _, e => by simp [blsOf] at e
  | .set _ :: _, _, _, _, e => by simp [blsOf] at e
  | .dct _ _ :: _, _, _, _, e => by simp [blsOf] at e
  | .exc _ _ :: _, _, _, _, e => by simp [blsOf] at e

/-! ### cells -/
def CellR (K : PySem.W.Frag) (al : Al) (H : Hp) (a : Addr) : Cell → Prop
  | .lst xs => ∃ us, H a = some (.lst us) ∧ RepL K al H us xs
  | _ => False
structure Rl (K : PySem.W.Frag) (bs : List Nat) (al : Al) (m : M) (H : Hp) : Prop where
  nd : al.c.Nodup
  len : al.c.length = m.length
  cell : ∀ (i : Nat) a c, al.c[i]? = some a → m[i]? = some c → CellR K al H a c
  low : ∀ b ∈ bs, ∀ (i : Nat) c, i < b → m[i]? = some c → c.lt_ b = true
  ble : ∀ b ∈ bs, b ≤ m.length
  top : bs.Pairwise fun a b => b ≤ a
  hid : ∀ a ∈ al.h, H a ≠ none
  dis : ∀ a ∈ al.c, a ∉ al.h
theorem Rl.at {K : PySem.W.Frag} {bs : List Nat} {al : Al} {m : M} {H : Hp} (r : Rl K bs al m H) {n : Nat} {a : Addr} (h : al.c[n]? = some a) : ∃ c, m[n]? = some c ∧ CellR K al H a c := by
  have hl : n < m.length := by rw [← r.len]; exact (List.getElem?_eq_some_iff.mp h).1
  exact ⟨m[n], List.getElem?_eq_getElem hl, r.cell n a _ h (List.getElem?_eq_getElem hl)⟩
theorem Rl.dom {K : PySem.W.Frag} {bs : List Nat} {al : Al} {m : M} {H : Hp} (r : Rl K bs al m H) {a : Addr} (h : a ∈ al.c) : ∃ us, H a = some (.lst us) := by
  obtain ⟨n, hn⟩ := List.getElem?_of_mem h
  obtain ⟨c, _, q⟩ := r.at hn
  cases c with
  | lst xs => obtain ⟨us, e, _⟩ := q; exact ⟨us, e⟩
  | dct _ _ => exact q.elim
  | ins _ _ => exact q.elim
theorem Rl.new {K : PySem.W.Frag} {bs : List Nat} {al : Al} {m : M} {H : Hp} (r : Rl K bs al m H) {p : Addr} (h : H p = none) : p ∉ al.c := fun hm => by
  obtain ⟨us, e⟩ := r.dom hm
  rw [h] at e; cases e
theorem CellR.ext {K : PySem.W.Frag} {al al' : Al} {H H' : Hp} {a : Addr} {c : Cell} (h : CellR K al H a c) (x : Ext al al' H H') (e : H' a = H a) : CellR K al' H' a c := by
  cases c with
  | lst xs => obtain ⟨us, e1, q⟩ := h; exact ⟨us, e.trans e1, q.ext x xs us⟩
  | dct _ _ => exact h.elim
  | ins _ _ => exact h.elim
/-- a growth that leaves the cells -/
theorem Rl.ext {K : PySem.W.Frag} {bs : List Nat} {al : Al} {m : M} {H H' : Hp} (r : Rl K bs al m H) (s : Same H H') : Rl K bs al m H' := by
  refine ⟨r.nd, r.len, fun i a c h1 h2 => ?_, r.low, r.ble, r.top, fun a ha e => r.hid a ha ((Ext.of_same (al := al) s).dom a e), r.dis⟩
  obtain ⟨us, e⟩ := r.dom (List.mem_of_getElem? h1)
  exact (r.cell i a c h1 h2).ext (.of_same s) ((s a _ e).trans e.symm)
/-- a cell is stored -/
theorem Ext.store {al : Al} {H : Hp} {a : Addr} {us ws : List V} (ha : a ∈ al.c) (e : H a = some (.lst us)) : Ext al al H (upd H a (.lst ws)) := by
  refine ⟨⟨[], [], by simp, by simp, by simp⟩, fun b o eb h => ?_, fun b eb => ?_⟩
  · by_cases hb : b = a
    · subst hb
      rcases h with h | h
      · exact absurd ha h
      · rw [e] at eb; cases eb; exact h.elim
    · rw [upd_ne hb]; exact eb
  · by_cases hb : b = a
    · subst hb; rw [upd_same] at eb; cases eb
    · rw [upd_ne hb] at eb; exact eb
theorem Rl.store {K : PySem.W.Frag} {bs : List Nat} {al : Al} {m : M} {H : Hp} (r : Rl K bs al m H) {n : Nat} {a : Addr} {us ws : List V} {ys : List Val} (h : al.c[n]? = some a) (e : H a = some (.lst us)) (q : RepL K al H ws ys)
    (hs : ∀ b ∈ bs, n < b → ltAll b ys = true) : Rl K bs al (m.set n (.lst ys)) (upd H a (.lst ws)) := by
  have x : Ext al al H (upd H a (.lst ws)) := .store (List.mem_of_getElem? h) e
  refine ⟨r.nd, by rw [List.length_set]; exact r.len, fun i b c h1 h2 => ?_, fun b hb i c hi h2 => ?_, by rw [List.length_set]; exact r.ble, r.top, fun a ha e => r.hid a ha (x.dom a e), r.dis⟩
  · by_cases hi : i = n
    · subst hi
      rw [h] at h1; cases h1
      rw [List.getElem?_set_self (by rw [← r.len]; exact (List.getElem?_eq_some_iff.mp h).1)] at h2
      cases h2
      exact ⟨ws, upd_same, q.ext x ys ws⟩
    · rw [List.getElem?_set_ne (Ne.symm hi)] at h2
      have hb : b ≠ a := by
        rintro rfl
        obtain ⟨l1, e1⟩ := List.getElem?_eq_some_iff.mp h1
        obtain ⟨l2, e2⟩ := List.getElem?_eq_some_iff.mp h
        exact hi ((List.getElem_inj r.nd).mp (e1.trans e2.symm))
      exact (r.cell i b c h1 h2).ext x (upd_ne hb)
  · by_cases hi' : i = n
    · subst hi'
      rw [List.getElem?_set_self (Nat.lt_of_lt_of_le hi (r.ble b hb))] at h2
      cases h2
      exact hs b hb hi
    · rw [List.getElem?_set_ne (Ne.symm hi')] at h2
      exact r.low b hb i c hi h2
/-- a new list becomes a cell -/
theorem Rl.alloc {K : PySem.W.Frag} {bs : List Nat} {al : Al} {m : M} {H : Hp} (r : Rl K bs al m H) {p : Addr} {us : List V} {xs : List Val} (h : H p = none) (q : RepL K al H us xs) :
    Rl K bs (al.add [p]) (m ++ [.lst xs]) (upd H p (.lst us)) ∧ Ext al (al.add [p]) H (upd H p (.lst us)) := by
  have x : Ext al (al.add [p]) H (upd H p (.lst us)) := by
    refine ⟨⟨[p], [], rfl, fun b hb => ?_, by simp⟩, fun b o e _ => same_upd h b o e, fun b e => ?_⟩
    · rw [List.mem_singleton] at hb; subst hb; exact h
    · by_cases hb : b = p
      · subst hb; exact h
      · rw [upd_ne hb] at e; exact e
  refine ⟨⟨?_, by simp [Al.add, r.len], fun i b c h1 h2 => ?_, fun b hb i c hi h2 => ?_, fun b hb => by rw [List.length_append]; exact Nat.le_trans (r.ble b hb) (Nat.le_add_right _ _), r.top, fun a ha e => r.hid a ha (x.dom a e), fun a ha hm => by
      rcases List.mem_append.mp ha with ha | ha
      · exact r.dis a ha hm
      · rw [List.mem_singleton] at ha
        subst ha
        exact r.hid a hm h⟩, x⟩
  · show (al.c ++ [p]).Nodup
    rw [List.nodup_append]
    refine ⟨r.nd, by simp, fun a ha b hb => ?_⟩
    rw [List.mem_singleton] at hb
    subst hb
    rintro rfl
    exact r.new h ha
  · have h1 : (al.c ++ [p])[i]? = some b := h1
    by_cases hi : i < al.c.length
    · rw [List.getElem?_append_left hi] at h1
      rw [List.getElem?_append_left (by rw [← r.len]; exact hi)] at h2
      have hb : b ≠ p := fun z => r.new h (z ▸ List.mem_of_getElem? h1)
      exact (r.cell i b c h1 h2).ext x (upd_ne hb)
    · have hi' : i = al.c.length := by
        obtain ⟨l1, _⟩ := List.getElem?_eq_some_iff.mp h1
        simp at l1
        omega
      subst hi'
      rw [List.getElem?_append_right (Nat.le_refl _)] at h1
      rw [r.len, List.getElem?_append_right (Nat.le_refl _)] at h2
      simp at h1 h2
      subst h1; subst h2
      exact ⟨us, upd_same, q.ext x xs us⟩
  · have hi' : i < m.length := Nat.lt_of_lt_of_le hi (r.ble b hb)
    rw [List.getElem?_append_left hi'] at h2
    exact r.low b hb i c hi h2

/-! ### the slots -/
structure RE (K : PySem.W.Frag) (al : Al) (H : Hp) (s : L2.St) (r : Env) : Prop where
  len : s.length = r.length
  get : ∀ (i : Nat) v, r[i]? = some (some v) → ∃ u, s[i]? = some (some u) ∧ Rep K al H u v
theorem RE.ext {K : PySem.W.Frag} {al al' : Al} {H H' : Hp} {s : L2.St} {r : Env} (h : RE K al H s r) (x : Ext al al' H H') : RE K al' H' s r :=
  ⟨h.len, fun i v e => let ⟨u, e1, q⟩ := h.get i v e; ⟨u, e1, q.ext x v u⟩⟩
theorem RE.set {K : PySem.W.Frag} {al : Al} {H : Hp} {s : L2.St} {r : Env} {v : Val} {u : V} (h : RE K al H s r) (q : Rep K al H u v) (i : Nat) : RE K al H (s.set i (some u)) (r.set i (some v)) := by
  refine ⟨by simp [h.len], fun j w e => ?_⟩
  by_cases hj : i = j
  · subst hj
    have hl : i < r.length := by
      obtain ⟨l, _⟩ := List.getElem?_eq_some_iff.mp e
      simpa using l
    rw [List.getElem?_set_self hl] at e
    cases e
    exact ⟨u, by rw [List.getElem?_set_self (by rw [h.len]; exact hl)], q⟩
  · rw [List.getElem?_set_ne hj] at e
    rw [List.getElem?_set_ne hj]
    exact h.get j w e
theorem RE.unset {K : PySem.W.Frag} {al : Al} {H : Hp} {s : L2.St} {r : Env} (h : RE K al H s r) (i : Nat) (o : Option V) : RE K al H (s.set i o) (r.set i none) := by
  refine ⟨by simp [h.len], fun j w e => ?_⟩
  by_cases hj : i = j
  · subst hj
    by_cases hl : i < r.length
    · rw [List.getElem?_set_self hl] at e; cases e
    · rw [List.getElem?_eq_none (by simpa using hl)] at e; cases e
  · rw [List.getElem?_set_ne hj] at e
    rw [List.getElem?_set_ne hj]
    exact h.get j w e
theorem RE.wipe {K : PySem.W.Frag} {al : Al} {H : Hp} {s : L2.St} {r : Env} (h : RE K al H s r) : ∀ vs : List Nat, RE K al H (L2.wipe s vs) (wipeE r vs)
  | [] => h
  | v :: vs => (h.wipe vs).unset v none

/-! ### what a reference shows -/
inductive RepD (K : PySem.W.Frag) (al : Al) (H : Hp) : V → Val → Prop
  | of {u : V} {v : Val} : Rep K al H u v → RepD K al H u v
  | lst {a : Addr} {us : List V} {xs : List Val} : H a = some (.lst us) → RepL K al H us xs → RepD K al H (.ref a) (.lst xs)
theorem RepD.dr {K : PySem.W.Frag} {bs : List Nat} {al : Al} {m : M} {H : Hp} {u : V} {v : Val} (h : Rep K al H u v) (r : Rl K bs al m H) : RepD K al H u (dr m v) := by
  cases v with
  | ref n =>
    cases h with
    | ref h1 =>
      obtain ⟨c, e, q⟩ := r.at h1
      cases c with
      | lst xs =>
        have ed : MP.dr m (.ref n) = .lst xs := by simp only [MP.dr, e]
        rw [ed]
        obtain ⟨us, e1, q1⟩ := q
        exact .lst e1 q1
      | dct _ _ => exact q.elim
      | ins _ _ => exact q.elim
  | _ => exact .of h
theorem RepD.int {K : PySem.W.Frag} {al : Al} {H : Hp} {u : V} {i : Int} (h : RepD K al H u (.int i)) : u = .int i := by
  cases h with
  | of h => cases h; rfl
theorem RepD.bl {K : PySem.W.Frag} {al : Al} {H : Hp} {u : V} {i : Bool} (h : RepD K al H u (.bl i)) : u = .bl i := by
  cases h with
  | of h => cases h; rfl
theorem RepD.str {K : PySem.W.Frag} {al : Al} {H : Hp} {u : V} {i : Str} (h : RepD K al H u (.str i)) : u = .str i := by
  cases h with
  | of h => cases h; rfl
theorem RepD.non {K : PySem.W.Frag} {al : Al} {H : Hp} {u : V} (h : RepD K al H u .non) : u = .non := by
  cases h with
  | of h => cases h; rfl
theorem RepD.list {K : PySem.W.Frag} {al : Al} {H : Hp} {u : V} {xs : List Val} (h : RepD K al H u (.lst xs)) : ∃ a us, u = .ref a ∧ H a = some (.lst us) ∧ RepL K al H us xs := by
  cases h with
  | of h => cases h with
    | lst h1 h2 h3 => exact ⟨_, _, rfl, h1, h3⟩
  | lst h1 h3 => exact ⟨_, _, rfl, h1, h3⟩
theorem RepD.tuple {K : PySem.W.Frag} {al : Al} {H : Hp} {u : V} {xs : List Val} (h : RepD K al H u (.tup xs)) : ∃ a us, u = .ref a ∧ SqT K H a us ∧ RepL K al H us xs := by
  cases h with
  | of h => cases h with
    | tup h1 h3 => exact ⟨_, _, rfl, h1, h3⟩
theorem RepD.script {K : PySem.W.Frag} {al : Al} {H : Hp} {u : V} {ns : List Int} (h : RepD K al H u (.scr ns)) : ∃ a, u = .ref a ∧ SqL K H a (ns.map V.int) := by
  cases h with
  | of h => cases h with
    | scr h1 => exact ⟨_, rfl, h1.sq⟩
theorem RepD.ext {K : PySem.W.Frag} {al al' : Al} {H H' : Hp} {u : V} {v : Val} (h : RepD K al H u v) (x : Same H H') : RepD K al H' u v := by
  cases h with
  | of h => exact .of (h.ext (.of_same x) v u)
  | lst h1 h3 => exact .lst (x _ _ h1) (h3.ext (.of_same x) _ _)

/-! ### a frame's cells are gone -/
mutual
theorem Rep.lt {K : PySem.W.Frag} {al : Al} {H : Hp} : ∀ (v : Val) (u : V), Rep K al H u v → v.lt_ al.c.length = true
  | .non, _, _ => rfl
  | .bl _, _, _ => rfl
  | .int _, _, _ => rfl
  | .str _, _, _ => rfl
  | .scr _, _, _ => rfl
  | .tup xs, _, h => by
    cases h with
    | tup h1 h2 => exact RepL.lt xs _ h2
  | .lst xs, _, h => by
    cases h with
    | lst h1 h2 h3 => exact RepL.lt xs _ h3
  | .ref n, _, h => by
    cases h with
    | ref h1 => exact decide_eq_true (List.getElem?_eq_some_iff.mp h1).1
  | .set _, _, h => by cases h
  | .dct _ _, _, h => by cases h
  | .exc _ _, _, h => by cases h
theorem RepL.lt {K : PySem.W.Frag} {al : Al} {H : Hp} : ∀ (vs : List Val) (us : List V), RepL K al H us vs → ltAll al.c.length vs = true
  | [], _, _ => rfl
  | v :: vs, _, h => by
    cases h with
    | cons h1 h2 =>
      simp only [ltAll, Bool.and_eq_true]
      exact ⟨Rep.lt v _ h1, RepL.lt vs _ h2⟩
end
/-- a callee begins -/
theorem Rl.enter {K : PySem.W.Frag} {bs : List Nat} {al : Al} {m : M} {H : Hp} (r : Rl K bs al m H) : Rl K (m.length :: bs) al m H := by
  refine ⟨r.nd, r.len, r.cell, fun b hb i c hi h => ?_, fun b hb => ?_, List.pairwise_cons.mpr ⟨r.ble, r.top⟩, r.hid, r.dis⟩
  · rcases List.mem_cons.mp hb with rfl | hb
    · have ha : al.c[i]? = some (al.c[i]'(by rw [r.len]; exact hi)) := List.getElem?_eq_getElem _
      have q := r.cell i _ c ha h
      cases c with
      | lst xs =>
        obtain ⟨us, _, q⟩ := q
        have := q.lt xs us
        rw [r.len] at this
        exact this
      | dct _ _ => exact q.elim
      | ins _ _ => exact q.elim
    · exact r.low b hb i c hi h
  · rcases List.mem_cons.mp hb with rfl | hb
    · exact Nat.le_refl _
    · exact r.ble b hb
theorem take_some {α : Type} {l : List α} {n i : Nat} {x : α} (h : (l.take n)[i]? = some x) : i < n ∧ l[i]? = some x := by
  rw [List.getElem?_take] at h
  split at h
  · exact ⟨by assumption, h⟩
  · cases h
/-- the cells below n as they were, none from elsewhere -/
structure Sub (n : Nat) (al al' : Al) : Prop where
  same : ∀ i, i < n → al'.c[i]? = al.c[i]?
  offA : ∀ a, al.off a → al'.off a
theorem Sub.off {n : Nat} {al al' : Al} (sb : Sub n al al') {a : Addr} (h : al.off a) : al'.off a := sb.offA a h
theorem Sub.by {n : Nat} {al al' : Al} (same : ∀ i, i < n → al'.c[i]? = al.c[i]?) (mem : ∀ a ∈ al'.c, a ∈ al.c) (hid : ∀ a ∈ al'.h, a ∈ al.h) : Sub n al al' := ⟨same, fun a h => ⟨fun hm => h.1 (mem a hm), fun hm => h.2 (hid a hm)⟩⟩
mutual
theorem Rep.low {K : PySem.W.Frag} {al al' : Al} {H : Hp} {n : Nat} (sb : Sub n al al') : ∀ (v : Val) (u : V), Rep K al H u v → v.lt_ n = true → Rep K al' H u v
  | .non, _, h, _ => by cases h; exact .non
  | .bl b, _, h, _ => by cases h; exact .bl b
  | .int i, _, h, _ => by cases h; exact .int i
  | .str z, _, h, _ => by cases h; exact .str z
  | .scr ns, _, h, _ => by
    cases h with
    | scr h =>
      refine .scr ?_
      rcases h with ⟨h1, h2⟩ | h
      · exact .inl ⟨h1, sb.off h2⟩
      · exact .inr h
  | .tup xs, _, h, hn => by
    cases h with
    | tup h1 h2 => exact .tup h1 (RepL.low sb xs _ h2 hn)
  | .lst xs, _, h, hn => by
    cases h with
    | lst h1 h2 h3 => exact .lst h1 (sb.off h2) (RepL.low sb xs _ h3 hn)
  | .ref k, _, h, hn => by
    cases h with
    | ref h1 => exact .ref ((sb.same k (of_decide_eq_true hn)).trans h1)
  | .set _, _, h, _ => by cases h
  | .dct _ _, _, h, _ => by cases h
  | .exc _ _, _, h, _ => by cases h
theorem RepL.low {K : PySem.W.Frag} {al al' : Al} {H : Hp} {n : Nat} (sb : Sub n al al') : ∀ (vs : List Val) (us : List V), RepL K al H us vs → ltAll n vs = true → RepL K al' H us vs
  | [], _, h, _ => by cases h; exact .nil
  | v :: vs, _, h, hn => by
    simp only [ltAll, Bool.and_eq_true] at hn
    cases h with
    | cons h1 h2 => exact .cons (Rep.low sb v _ h1 hn.1) (RepL.low sb vs _ h2 hn.2)
end
theorem Sub.take (n : Nat) (al : Al) : Sub n al (al.cut n) :=
  .by (fun i hi => by show (al.c.take n)[i]? = _; rw [List.getElem?_take, if_pos hi]) (fun _ h => List.mem_of_mem_take h) fun _ h => h
/-- a callee ends: its cells are forgotten -/
theorem Rl.leave {K : PySem.W.Frag} {n : Nat} {bs : List Nat} {al : Al} {m : M} {H : Hp} (r : Rl K (n :: bs) al m H) : Rl K bs (al.cut n) (m.take n) H := by
  have hn := r.ble n List.mem_cons_self
  have hle : ∀ b ∈ bs, b ≤ n := fun b hb => (List.pairwise_cons.mp r.top).1 b hb
  refine ⟨r.nd.sublist (List.take_sublist _ _), by show (al.c.take n).length = _; rw [List.length_take, List.length_take, r.len], fun i a c h1 h2 => ?_, fun b hb i c hi h => r.low b (List.mem_cons_of_mem _ hb) i c hi (take_some h).2, fun b hb => by rw [List.length_take]; have := hle b hb; omega, (List.pairwise_cons.mp r.top).2, r.hid, fun a ha => r.dis a (List.mem_of_mem_take ha)⟩
  · obtain ⟨hi, h1⟩ := take_some h1
    obtain ⟨_, h2⟩ := take_some h2
    have q := r.cell i a c h1 h2
    have l := r.low n List.mem_cons_self i c hi h2
    cases c with
    | lst xs =>
      obtain ⟨us, e, q⟩ := q
      exact ⟨us, e, q.low (.take n al) xs us l⟩
    | dct _ _ => exact q.elim
    | ins _ _ => exact q.elim
theorem Rl.head {K : PySem.W.Frag} {bs : List Nat} {al : Al} {m : M} {H : Hp} (r : Rl K bs al m H) : ∀ b ∈ bs, b ≤ bs.headD 0 := fun b hb => by
  cases bs with
  | nil => cases hb
  | cons c bs =>
    rcases List.mem_cons.mp hb with rfl | hb
    · exact Nat.le_refl _
    · exact (List.pairwise_cons.mp r.top).1 b hb
/-- a new list is hidden -/
theorem Ext.hide {al : Al} {H : Hp} {p : Addr} {us : List V} (h : H p = none) : Ext al al H (upd H p (.lst us)) := .of_same (same_upd h)
mutual
theorem Rep.hide {K : PySem.W.Frag} {al : Al} {H : Hp} {p : Addr} (hp : H p = none) : ∀ (v : Val) (u : V), Rep K al H u v → Rep K (al.hide p) H u v
  | .non, _, h => by cases h; exact .non
  | .bl b, _, h => by cases h; exact .bl b
  | .int i, _, h => by cases h; exact .int i
  | .str z, _, h => by cases h; exact .str z
  | .scr ns, _, h => by
    cases h with
    | scr h =>
      refine .scr ?_
      rcases h with ⟨h1, h2⟩ | h
      · refine .inl ⟨h1, h2.1, fun hm => ?_⟩
        rcases List.mem_cons.mp hm with e | hm
        · subst e
          rcases h1 with h1 | ⟨o, h1⟩ <;> rw [hp] at h1 <;> cases h1
        · exact h2.2 hm
      · exact .inr h
  | .tup xs, _, h => by
    cases h with
    | tup h1 h2 => exact .tup h1 (RepL.hide hp xs _ h2)
  | .lst xs, _, h => by
    cases h with
    | lst h1 h2 h3 =>
      refine .lst h1 ⟨h2.1, fun hm => ?_⟩ (RepL.hide hp xs _ h3)
      rcases List.mem_cons.mp hm with e | hm
      · subst e
        rw [hp] at h1
        cases h1
      · exact h2.2 hm
  | .ref k, _, h => by
    cases h with
    | ref h1 => exact .ref h1
  | .set _, _, h => by cases h
  | .dct _ _, _, h => by cases h
  | .exc _ _, _, h => by cases h
theorem RepL.hide {K : PySem.W.Frag} {al : Al} {H : Hp} {p : Addr} (hp : H p = none) : ∀ (vs : List Val) (us : List V), RepL K al H us vs → RepL K (al.hide p) H us vs
  | [], _, h => by cases h; exact .nil
  | v :: vs, _, h => by
    cases h with
    | cons h1 h2 => exact .cons (Rep.hide hp v _ h1) (RepL.hide hp vs _ h2)
end
theorem Rl.hide {K : PySem.W.Frag} {bs : List Nat} {al : Al} {m : M} {H : Hp} (r : Rl K bs al m H) {p : Addr} (hp : H p = none) (us : List V) : Rl K bs (al.hide p) m (upd H p (.lst us)) := by
  have r1 := r.ext (same_upd (o := .lst us) hp)
  refine ⟨r.nd, r.len, fun i a c h1 h2 => ?_, r.low, r.ble, r.top, fun a ha e => ?_, fun a ha hm => ?_⟩
  · have q := r.cell i a c h1 h2
    cases c with
    | lst xs =>
      obtain ⟨ws, e, q⟩ := q
      have x : Ext (al.hide p) (al.hide p) H (upd H p (.lst us)) := .of_same (same_upd hp)
      exact ⟨ws, same_upd hp _ _ e, (q.hide hp xs ws).ext x xs ws⟩
    | dct _ _ => exact q.elim
    | ins _ _ => exact q.elim
  · rcases List.mem_cons.mp ha with h | h
    · subst h
      rw [upd_same] at e
      cases e
    · exact r1.hid a h e
  · rcases List.mem_cons.mp hm with h | h
    · subst h
      exact r.new hp ha
    · exact r.dis a ha h
theorem Rl.unhide {K : PySem.W.Frag} {bs : List Nat} {al : Al} {m : M} {H : Hp} {p : Addr} (r : Rl K bs (al.hide p) m H) : Rl K bs al m H := by
  refine ⟨r.nd, r.len, fun i a c h1 h2 => ?_, r.low, r.ble, r.top, fun a ha => r.hid a (List.mem_cons_of_mem _ ha), fun a ha hm => r.dis a ha (List.mem_cons_of_mem _ hm)⟩
  have q := r.cell i a c h1 h2
  cases c with
  | lst xs =>
    obtain ⟨ws, e, q⟩ := q
    have sb : Sub al.c.length (al.hide p) al := .by (fun _ _ => rfl) (fun _ h => h) fun _ h => List.mem_cons_of_mem _ h
    exact ⟨ws, e, q.low sb xs ws (RepL.lt (al := al.hide p) xs ws q)⟩
  | dct _ _ => exact q.elim
  | ins _ _ => exact q.elim
theorem RE.hide {K : PySem.W.Frag} {al : Al} {H : Hp} {s : L2.St} {r : Env} (h : RE K al H s r) {p : Addr} (hp : H p = none) : RE K (al.hide p) H s r :=
  ⟨h.len, fun i v e => let ⟨u, e1, q⟩ := h.get i v e; ⟨u, e1, q.hide hp v u⟩⟩
/-- .. and seen again -/
theorem Sub.show_ (n : Nat) (al : Al) (p : Addr) : Sub n (al.hide p) al := .by (fun _ _ => rfl) (fun _ h => h) fun _ h => List.mem_cons_of_mem _ h
/-- a fresh address is hidden: growth -/
theorem Ext.hideX {al : Al} {H : Hp} {p : Addr} {o : HO} (h : H p = none) : Ext al (al.hide p) H (upd H p o) :=
  ⟨⟨[], [p], by simp [Al.hide], by simp, by simp [h]⟩, fun a x e _ => same_upd h a x e, fun a e => (Ext.of_same (al := al) (same_upd (o := o) h)).dom a e⟩
/-- a hidden list changes -/
theorem Ex0.hid {al : Al} {H : Hp} {p : Addr} {us ws : List V} (hp : p ∈ al.h) (e : H p = some (.lst us)) : Ex0 al al H (upd H p (.lst ws)) :=
  ⟨⟨[], [], by simp, by simp, by simp⟩, fun a o e1 h => by
    rw [upd_ne]
    · exact e1
    · rintro rfl
      rcases h with h | h
      · exact h.2 hp
      · rw [e] at e1; cases e1; exact h.elim⟩
theorem Rl.updHid {K : PySem.W.Frag} {bs : List Nat} {al : Al} {m : M} {H : Hp} (r : Rl K bs al m H) {p : Addr} {us ws : List V} (hp : p ∈ al.h) (e : H p = some (.lst us)) : Rl K bs al m (upd H p (.lst ws)) := by
  have x := Ex0.hid (ws := ws) hp e
  refine ⟨r.nd, r.len, fun i a c h1 h2 => ?_, r.low, r.ble, r.top, fun a ha e => ?_, r.dis⟩
  · have q := r.cell i a c h1 h2
    have hn : a ≠ p := by
      rintro rfl
      exact r.dis a (List.mem_of_getElem? h1) hp
    cases c with
    | lst xs =>
      obtain ⟨vs, e1, q⟩ := q
      exact ⟨vs, (upd_ne hn).trans e1, q.ext0 x xs vs⟩
    | dct _ _ => exact q.elim
    | ins _ _ => exact q.elim
  · by_cases hn : a = p
    · subst hn
      rw [upd_same] at e
      cases e
    · rw [upd_ne hn] at e
      exact r.hid a ha e
/-- what's hidden at p is seen again -/
theorem Rl.unhid {K : PySem.W.Frag} {bs : List Nat} {al al' : Al} {m : M} {H : Hp} (r : Rl K bs al m H) (hc : al'.c = al.c) (hh : ∀ a ∈ al'.h, a ∈ al.h) : Rl K bs al' m H := by
  have sb : Sub al.c.length al al' := .by (fun _ _ => by rw [hc]) (fun _ h => hc ▸ h) hh
  refine ⟨hc ▸ r.nd, hc ▸ r.len, fun i a c h1 h2 => ?_, r.low, r.ble, r.top, fun a ha => r.hid a (hh a ha), fun a ha hm => r.dis a (hc ▸ ha) (hh a hm)⟩
  have q := r.cell i a c (hc ▸ h1) h2
  cases c with
  | lst xs =>
    obtain ⟨ws, e, q⟩ := q
    exact ⟨ws, e, q.low sb xs ws (RepL.lt xs ws q)⟩
  | dct _ _ => exact q.elim
  | ins _ _ => exact q.elim
/-- .. as a cell -/
theorem Rl.adopt {K : PySem.W.Frag} {bs : List Nat} {al : Al} {hs ho : List Addr} {p : Addr} {m : M} {H : Hp} {us : List V} {xs : List Val} (r : Rl K bs al m H) (eh : al.h = hs ++ p :: ho) (hn : p ∉ hs) (hn2 : p ∉ ho) (e : H p = some (.lst us)) (q : RepL K al H us xs) :
    Rl K bs (Al.add ⟨al.c, hs ++ ho⟩ [p]) (m ++ [.lst xs]) H := by
  have hp : p ∈ al.h := by rw [eh]; simp
  have sb : Sub al.c.length al (Al.add ⟨al.c, hs ++ ho⟩ [p]) := by
    refine ⟨fun i hi => ?_, fun a h => ⟨fun hm => ?_, fun hm => ?_⟩⟩
    · show (al.c ++ [p])[i]? = _
      rw [List.getElem?_append_left hi]
    · rcases List.mem_append.mp hm with hm | hm
      · exact h.1 hm
      · rw [List.mem_singleton] at hm
        subst hm
        exact h.2 hp
    · refine h.2 ?_
      rw [eh]
      have hm : a ∈ hs ++ ho := hm
      simp only [List.mem_append, List.mem_cons] at hm ⊢
      exact hm.imp id .inr
  have hpc : p ∉ al.c := fun h => r.dis p h hp
  refine ⟨?_, by simp [Al.add, r.len], fun i a c h1 h2 => ?_, fun b hb i c hi h2 => ?_, fun b hb => by
    rw [List.length_append]
    exact Nat.le_trans (r.ble b hb) (Nat.le_add_right _ _), r.top, fun a ha => r.hid a ?_, fun a ha hm => ?_⟩
  · show (al.c ++ [p]).Nodup
    rw [List.nodup_append]
    refine ⟨r.nd, by simp, fun x hx y hy => ?_⟩
    rw [List.mem_singleton] at hy
    subst hy
    rintro rfl
    exact hpc hx
  · have h1 : (al.c ++ [p])[i]? = some a := h1
    by_cases hi : i < m.length
    · rw [List.getElem?_append_left (by rw [r.len]; exact hi)] at h1
      rw [List.getElem?_append_left hi] at h2
      have q2 := r.cell i a c h1 h2
      cases c with
      | lst ys =>
        obtain ⟨ws, e2, q2⟩ := q2
        exact ⟨ws, e2, q2.low sb ys ws (RepL.lt ys ws q2)⟩
      | dct _ _ => exact q2.elim
      | ins _ _ => exact q2.elim
    · rw [List.getElem?_append_right (by rw [r.len]; omega), r.len] at h1
      rw [List.getElem?_append_right (by omega)] at h2
      have hi0 : i - m.length = 0 := by
        obtain ⟨l, _⟩ := List.getElem?_eq_some_iff.mp h1
        simp at l
        omega
      rw [hi0] at h1 h2
      simp at h1 h2
      subst h1
      subst h2
      exact ⟨us, e, q.low sb xs us (RepL.lt xs us q)⟩
  · rw [List.getElem?_append_left (Nat.lt_of_lt_of_le hi (r.ble b hb))] at h2
    exact r.low b hb i c hi h2
  · rw [eh]
    have ha : a ∈ hs ++ ho := ha
    simp only [List.mem_append, List.mem_cons] at ha ⊢
    exact ha.imp id .inr
  · have hm : a ∈ hs ++ ho := hm
    rcases List.mem_append.mp ha with ha | ha
    · refine r.dis a ha ?_
      rw [eh]
      simp only [List.mem_append, List.mem_cons] at hm ⊢
      exact hm.imp id .inr
    · rw [List.mem_singleton] at ha
      subst ha
      rcases List.mem_append.mp hm with hm | hm
      · exact hn hm
      · exact hn2 hm
end MP
set_option Elab.async false
set_option linter.all false
set_option maxRecDepth 100000
set_option maxHeartbeats 1000000
/-! MPOps: the operators by values, over what the heap shows. -/
namespace MP
open PySem PySem.Spec PyProof.Rows L2

theorem LINE_eq : LINE = sizeLine := by rw [sizeLine_eq]; rfl
def Dm (al : Al) (H : Hp) : Prop := (∀ a ∈ al.c, H a ≠ none) ∧ ∀ a ∈ al.h, H a ≠ none
theorem Dm.off {al : Al} {H : Hp} (d : Dm al H) {p : Addr} (h : H p = none) : al.off p := ⟨fun hm => d.1 p hm h, fun hm => d.2 p hm h⟩
theorem Rl.dm {K : PySem.W.Frag} {bs : List Nat} {al : Al} {m : M} {H : Hp} (r : Rl K bs al m H) : Dm al H := by
  refine ⟨fun a ha e => ?_, r.hid⟩
  obtain ⟨us, q⟩ := r.dom ha
  rw [q] at e
  cases e
/-- behind a pure operation: its result, the heap grown -/
def Done (K : PySem.W.Frag) (al : Al) (H : Hp) (fr : Bool) (z : Val) (Q : VK) : Prop :=
  ∀ u H', Same H H' → Rep K al H' u z → (fr = true → ∀ xs, z = .lst xs → ∃ a us, u = .ref a ∧ H a = none ∧ H' = upd H a (.lst us) ∧ RepL K al H us xs) → Q u H'
section
variable {K : PySem.W.Frag} {al : Al} {H : Hp} {fr : Bool} {Q : VK}
theorem Done.int {i : Int} (d : Done K al H fr (.int i) Q) : Q (.int i) H := d _ _ (Same.refl H) (.int i) fun _ _ e => by cases e
theorem Done.bl {i : Bool} (d : Done K al H fr (.bl i) Q) : Q (.bl i) H := d _ _ (Same.refl H) (.bl i) fun _ _ e => by cases e
theorem Done.str {i : Str} (d : Done K al H fr (.str i) Q) : Q (.str i) H := d _ _ (Same.refl H) (.str i) fun _ _ e => by cases e
theorem Done.non (d : Done K al H fr .non Q) : Q .non H := d _ _ (Same.refl H) .non fun _ _ e => by cases e
theorem Done.val {z : Val} {u : V} (d : Done K al H false z Q) (r : Rep K al H u z) : Q u H := d _ _ (Same.refl H) r fun e => by cases e
theorem Done.lst {xs : List Val} {us : List V} (d : Done K al H fr (.lst xs) Q) (dm : Dm al H) (r : RepL K al H us xs) : ∀ p, H p = none → Q (.ref p) (upd H p (.lst us)) := fun p hp =>
  d _ _ (same_upd hp) (.lst upd_same (dm.off hp) (r.ext (.of_same (same_upd hp)) xs us)) fun _ ys e => by
    cases e
    exact ⟨p, us, rfl, hp, rfl, r⟩
theorem Done.tup {xs : List Val} {us : List V} (d : Done K al H fr (.tup xs) Q) (r : RepL K al H us xs) : ∀ p, H p = none → Q (.ref p) (upd H p (.tup us)) := fun p hp =>
  d _ _ (same_upd hp) (.tup (.inl (.inl upd_same)) (r.ext (.of_same (same_upd hp)) xs us)) fun _ ys e => by cases e
theorem Done.tupAt {xs : List Val} {us : List V} {a : Addr} (d : Done K al H fr (.tup xs) Q) (h : SqT K H a us) (r : RepL K al H us xs) : Q (.ref a) H :=
  d _ _ (Same.refl H) (.tup h r) fun _ ys e => by cases e
end
theorem RepL.nil_iff {K : PySem.W.Frag} {al : Al} {H : Hp} {us : List V} {xs : List Val} (r : RepL K al H us xs) : us = [] ↔ xs = [] := by
  cases r <;> simp

/-! ### a op b -/
def rBop (K : PySem.W.Frag) (op : Operator) (fr : Bool) : R2 := fun u w H Q => ∃ al x y z, Dm al H ∧ RepD K al H u x ∧ RepD K al H w y ∧ bop op x y = some z ∧ Done K al H fr z Q
theorem smallI_iff {i : Int} : smallI i = true ↔ (-(2 ^ 64) < i ∧ i < 2 ^ 64) := by unfold smallI; simp
theorem small63_iff {i : Int} : small63 i = true ↔ (-(2 ^ 63) ≤ i ∧ i < 2 ^ 63) := by unfold small63; simp
theorem op_bop_add {X : L2.Cx} {fr : Bool} : OpR X (binaryOp .Add) (rBop X.K .Add fr) := fun pins s σ H u w v v' Q I r1 r2 ⟨al, x, y, z, dm, h1, h2, e, q⟩ => by
  have e : bAdd x y = some z := e
  unfold bAdd at e
  split at e <;> first | (cases e; done) | skip
  · have e1 := h1.int; have e2 := h2.int; subst e1; subst e2
    cases e
    exact op_add pins s σ H _ _ _ _ Q I r1 r2 ⟨_, _, rfl, rfl, q.int⟩
  · have e1 := h1.str; have e2 := h2.str; subst e1; subst e2
    split at e
    · rename_i hz
      cases e
      exact op_add_str pins s σ H _ _ _ _ Q I r1 r2 ⟨_, _, rfl, rfl, LINE_eq ▸ hz, q.str⟩
    · cases e
  · split at e
    · rename_i hz
      cases e
      obtain ⟨a, us, rfl, ha, ra⟩ := h1.list
      obtain ⟨b, ws, rfl, hb, rb⟩ := h2.list
      exact op_cat pins s σ H _ _ _ _ Q I r1 r2 ⟨a, b, us, ws, rfl, rfl, ha, hb, by rw [ra.length, rb.length]; exact LINE_eq ▸ hz, q.lst dm (ra.append rb)⟩
    · cases e
  · split at e
    · rename_i hz
      cases e
      obtain ⟨a, us, rfl, ha, ra⟩ := h1.tuple
      obtain ⟨b, ws, rfl, hb, rb⟩ := h2.tuple
      refine op_catA pins s σ H _ _ _ _ Q I r1 r2 ⟨a, b, us, ws, rfl, rfl, ha, hb, by rw [ra.length, rb.length]; exact LINE_eq ▸ hz, fun e => ?_, fun _ e => ?_, fun _ _ => q.tup (ra.append rb)⟩
      · have z1 := ra.nil_iff.mp e
        subst z1
        exact Done.tupAt (xs := _) q hb rb
      · have z1 := rb.nil_iff.mp e
        subst z1
        rw [List.append_nil] at q
        exact q.tupAt ha ra
    · cases e
theorem op_bop_sub {X : L2.Cx} {fr : Bool} : OpR X (binaryOp .Sub) (rBop X.K .Sub fr) := fun pins s σ H u w v v' Q I r1 r2 ⟨al, x, y, z, dm, h1, h2, e, q⟩ => by
  have e : bSub x y = some z := e
  unfold bSub at e
  split at e <;> first | (cases e; done) | skip
  have e1 := h1.int; have e2 := h2.int; subst e1; subst e2
  cases e
  exact op_sub pins s σ H _ _ _ _ Q I r1 r2 ⟨_, _, rfl, rfl, q.int⟩
theorem op_bop_mul {X : L2.Cx} : OpR X (binaryOp .Mult) (rBop X.K .Mult true) := fun pins s σ H u w v v' Q I r1 r2 ⟨al, x, y, z, dm, h1, h2, e, q⟩ => by
  have e : bMul x y = some z := e
  unfold bMul at e
  split at e <;> first | (cases e; done) | skip
  · have e1 := h1.int; have e2 := h2.int; subst e1; subst e2
    split at e
    · rename_i hz
      cases e
      rw [Bool.or_eq_true, smallI_iff, smallI_iff] at hz
      exact op_mul pins s σ H _ _ _ _ Q I r1 r2 ⟨_, _, rfl, rfl, hz, q.int⟩
    · cases e
  · have e2 := h2.int; subst e2
    split at e
    · rename_i hz
      cases e
      rw [Bool.and_eq_true, small63_iff, decide_eq_true_eq, LINE_eq] at hz
      obtain ⟨a, us, rfl, ha, ra⟩ := h1.list
      exact op_rep pins s σ H _ _ _ _ Q I r1 r2 ⟨a, _, us, rfl, rfl, ha, hz.1.1, hz.1.2, by rw [ra.length]; exact hz.2, q.lst dm (ra.rep _)⟩
    · cases e
  · have e2 := h2.int; subst e2
    split at e
    · rename_i hz
      cases e
      obtain ⟨a, us, rfl, ha, ra⟩ := h1.tuple
      simp only [Bool.and_eq_true, decide_eq_true_eq] at hz
      refine op_repT pins s σ H _ _ _ _ Q I r1 r2 ⟨a, _, us, rfl, rfl, ha, ?_, hz.1.1.2, hz.1.2, by rw [ra.length]; exact hz.2, q.tup (ra.rep _)⟩
      intro z0
      have := ra.nil_iff.mp z0
      subst this
      simp at hz
    · cases e
theorem op_bop_div {X : L2.Cx} {fr : Bool} : OpR X (binaryOp .FloorDiv) (rBop X.K .FloorDiv fr) := fun pins s σ H u w v v' Q I r1 r2 ⟨al, x, y, z, dm, h1, h2, e, q⟩ => by
  have e : bDiv x y = some z := e
  unfold bDiv at e
  split at e <;> first | (cases e; done) | skip
  have e1 := h1.int; have e2 := h2.int; subst e1; subst e2
  split at e
  · rename_i hz
    cases e
    exact op_fdiv pins s σ H _ _ _ _ Q I r1 r2 ⟨_, _, rfl, rfl, by have h := of_decide_eq_true hz; exact h, q.int⟩
  · cases e
theorem op_bop_mod {X : L2.Cx} {fr : Bool} : OpR X (binaryOp .Mod) (rBop X.K .Mod fr) := fun pins s σ H u w v v' Q I r1 r2 ⟨al, x, y, z, dm, h1, h2, e, q⟩ => by
  have e : bMod x y = some z := e
  unfold bMod at e
  split at e <;> first | (cases e; done) | skip
  have e1 := h1.int; have e2 := h2.int; subst e1; subst e2
  split at e
  · rename_i hz
    cases e
    exact op_mod pins s σ H _ _ _ _ Q I r1 r2 ⟨_, _, rfl, rfl, by have h := of_decide_eq_true hz; exact h, q.int⟩
  · cases e
theorem op_bop_pow {X : L2.Cx} {fr : Bool} : OpR X (binaryOp .Pow) (rBop X.K .Pow fr) := fun pins s σ H u w v v' Q I r1 r2 ⟨al, x, y, z, dm, h1, h2, e, q⟩ => by
  have e : bPow x y = some z := e
  unfold bPow at e
  split at e <;> first | (cases e; done) | skip
  have e1 := h1.int; have e2 := h2.int; subst e1; subst e2
  split at e
  · rename_i hz
    cases e
    exact op_pow pins s σ H _ _ _ _ Q I r1 r2 ⟨_, _, rfl, rfl, by have h := of_decide_eq_true hz; exact h, q.int⟩
  · cases e
theorem op_bop {X : L2.Cx} (op : Operator) : OpR X (binaryOp op) (rBop X.K op true) := by
  cases op
  case Add => exact op_bop_add
  case Sub => exact op_bop_sub
  case Mult => exact op_bop_mul
  case FloorDiv => exact op_bop_div
  case Mod => exact op_bop_mod
  case Pow => exact op_bop_pow
  all_goals
    intro pins s σ H u w v v' Q I r1 r2 ⟨al, x, y, z, dm, h1, h2, e, q⟩
    simp [bop] at e

/-! ### == of data -/
mutual
theorem eqv_toD : ∀ x y : Val, x.data = true → y.data = true → PyData.eqv (toD x) (toD y) = x.eqv y
  | .non, y, _, hy => by cases y <;> first | rfl | simp [Val.data] at hy
  | .bl _, y, _, hy => by cases y <;> first | rfl | simp [Val.data] at hy
  | .int _, y, _, hy => by cases y <;> first | rfl | simp [Val.data] at hy
  | .str _, y, _, hy => by cases y <;> first | rfl | simp [Val.data] at hy
  | .tup xs, .tup ys, hx, hy => by
    simp only [toD, PyData.eqv, Val.eqv]
    exact eqvL_toD xs ys hx hy
  | .tup _, .non, _, hy => rfl
  | .tup _, .bl _, _, hy => rfl
  | .tup _, .int _, _, hy => rfl
  | .tup _, .str _, _, hy => rfl
  | .tup _, .lst _, _, hy => rfl
  | .tup _, .ref _, _, hy => by simp [Val.data] at hy
  | .tup _, .scr _, _, hy => by simp [Val.data] at hy
  | .tup _, .set _, _, hy => by simp [Val.data] at hy
  | .tup _, .dct _ _, _, hy => by simp [Val.data] at hy
  | .tup _, .exc _ _, _, hy => by simp [Val.data] at hy
  | .lst xs, .lst ys, hx, hy => by
    simp only [toD, PyData.eqv, Val.eqv]
    exact eqvL_toD xs ys hx hy
  | .lst _, .non, _, hy => rfl
  | .lst _, .bl _, _, hy => rfl
  | .lst _, .int _, _, hy => rfl
  | .lst _, .str _, _, hy => rfl
  | .lst _, .tup _, _, hy => rfl
  | .lst _, .ref _, _, hy => by simp [Val.data] at hy
  | .lst _, .scr _, _, hy => by simp [Val.data] at hy
  | .lst _, .set _, _, hy => by simp [Val.data] at hy
  | .lst _, .dct _ _, _, hy => by simp [Val.data] at hy
  | .lst _, .exc _ _, _, hy => by simp [Val.data] at hy
  | .ref _, _, hx, _ => by simp [Val.data] at hx
  | .scr _, _, hx, _ => by simp [Val.data] at hx
  | .set _, _, hx, _ => by simp [Val.data] at hx
  | .dct _ _, _, hx, _ => by simp [Val.data] at hx
  | .exc _ _, _, hx, _ => by simp [Val.data] at hx
theorem eqvL_toD : ∀ xs ys : List Val, dataL xs = true → dataL ys = true → PyData.eqvAll (toDs xs) (toDs ys) = eqvL xs ys
  | [], [], _, _ => by simp [toDs, PyData.eqvAll, eqvL]
  | [], _ :: _, _, _ => by simp [toDs, PyData.eqvAll, eqvL]
  | _ :: _, [], _, _ => by simp [toDs, PyData.eqvAll, eqvL]
  | x :: xs, y :: ys, hx, hy => by
    simp only [dataL, Bool.and_eq_true] at hx hy
    simp only [toDs, PyData.eqvAll, eqvL, eqv_toD x y hx.1 hy.1, eqvL_toD xs ys hx.2 hy.2]
end
mutual
theorem depth_toD : ∀ x : Val, (toD x).depth = x.deep
  | .non => rfl
  | .bl _ => rfl
  | .int _ => rfl
  | .str _ => rfl
  | .tup xs => by simp only [toD, PyData.depth, Val.deep, depthL_toD xs]
  | .lst xs => by simp only [toD, PyData.depth, Val.deep, depthL_toD xs]
  | .ref _ => rfl
  | .scr _ => rfl
  | .set _ => rfl
  | .dct _ _ => rfl
  | .exc _ _ => rfl
theorem depthL_toD : ∀ xs : List Val, PyData.depthAll (toDs xs) = deepL xs
  | [] => rfl
  | x :: xs => by simp only [toDs, PyData.depthAll, deepL, depth_toD x, depthL_toD xs]
end
mutual
theorem canLay_toD : ∀ x : Val, x.data = true → (toD x).canLay0 = true
  | .non, _ => rfl
  | .bl _, _ => rfl
  | .int _, _ => rfl
  | .str _, h => h
  | .tup xs, h => by
    simp only [toD, PyData.canLay0]
    exact canLayL_toD xs h
  | .lst xs, h => by
    simp only [toD, PyData.canLay0]
    exact canLayL_toD xs h
  | .ref _, h => by simp [Val.data] at h
  | .scr _, h => by simp [Val.data] at h
  | .set _, h => by simp [Val.data] at h
  | .dct _ _, h => by simp [Val.data] at h
  | .exc _ _, h => by simp [Val.data] at h
theorem canLayL_toD : ∀ xs : List Val, dataL xs = true → PyData.canLayAll0 (toDs xs) = true
  | [], _ => rfl
  | x :: xs, h => by
    simp only [dataL, Bool.and_eq_true] at h
    simp only [toDs, PyData.canLayAll0, canLay_toD x h.1, canLayL_toD xs h.2, Bool.and_self]
end
theorem data_of {x : Val} (h : x.cmpOk = true) : x.data = true := by
  unfold Val.cmpOk at h
  rw [Bool.and_eq_true] at h
  exact h.1
theorem shaped_toD {x : Val} (h : x.cmpOk = true) : SeqAt.shaped (toD x) = true := by
  unfold Val.cmpOk at h
  rw [Bool.and_eq_true, decide_eq_true_eq] at h
  unfold SeqAt.shaped
  rw [canLay_toD x h.1, depth_toD, Bool.true_and, decide_eq_true_eq]
  omega
mutual
theorem Rep.dp {K : PySem.W.Frag} {al : Al} {H : Hp} : ∀ (x : Val) (u : V), x.data = true → Rep K al H u x → Dp K H u (toD x)
  | .non, _, _, h => by cases h; exact .non
  | .bl b, _, _, h => by cases h; exact .bl b
  | .int i, _, _, h => by cases h; exact .int i
  | .str z, _, _, h => by cases h; exact .str z
  | .tup xs, _, hd, h => by
    cases h with
    | tup h1 h2 => exact .tup h1 (RepL.dp xs _ hd h2)
  | .lst xs, _, hd, h => by
    cases h with
    | lst h1 h2 h3 => exact .lst (.of h1) (RepL.dp xs _ hd h3)
  | .ref _, _, hd, _ => by simp [Val.data] at hd
  | .scr _, _, hd, _ => by simp [Val.data] at hd
  | .set _, _, hd, _ => by simp [Val.data] at hd
  | .dct _ _, _, hd, _ => by simp [Val.data] at hd
  | .exc _ _, _, hd, _ => by simp [Val.data] at hd
theorem RepL.dp {K : PySem.W.Frag} {al : Al} {H : Hp} : ∀ (xs : List Val) (us : List V), dataL xs = true → RepL K al H us xs → DpAll K H us (toDs xs)
  | [], _, _, h => by cases h; exact .nil
  | x :: xs, _, hd, h => by
    simp only [dataL, Bool.and_eq_true] at hd
    cases h with
    | cons h1 h2 => exact .cons (Rep.dp x _ hd.1 h1) (RepL.dp xs _ hd.2 h2)
end
theorem RepD.dp {K : PySem.W.Frag} {al : Al} {H : Hp} {x : Val} {u : V} (hd : x.data = true) (h : RepD K al H u x) : Dp K H u (toD x) := by
  cases h with
  | of h => exact h.dp x u hd
  | lst h1 h3 => exact .lst (.of h1) (h3.dp _ _ hd)
theorem keyIn_toD {x : Val} (hx : x.data = true) : ∀ {ys : List Val}, ys.all Val.cmpOk = true → ((toDs ys).any fun z => PyData.eqv z (toD x)) = keyIn x ys
  | [], _ => rfl
  | y :: ys, h => by
    simp only [List.all_cons, Bool.and_eq_true] at h
    simp only [toDs, List.any_cons, keyIn, eqv_toD y x (data_of h.1) hx, keyIn_toD hx h.2]
theorem shapedL_toD {ys : List Val} (h : ys.all Val.cmpOk = true) : SeqAt.shaped (.list (toDs ys)) = true ∧ dataL ys = true := by
  have : deepL ys ≤ 60 ∧ dataL ys = true := by
    induction ys with
    | nil => exact ⟨Nat.zero_le _, rfl⟩
    | cons y ys ih =>
      simp only [List.all_cons, Bool.and_eq_true] at h
      have h1 := h.1
      unfold Val.cmpOk at h1
      rw [Bool.and_eq_true, decide_eq_true_eq] at h1
      have h2 := ih h.2
      simp only [deepL, dataL, Bool.and_eq_true]
      exact ⟨by omega, h1.1, h2.2⟩
  refine ⟨?_, this.2⟩
  unfold SeqAt.shaped
  simp only [PyData.canLay0, canLayL_toD ys this.2, PyData.depth, depthL_toD, Bool.true_and, decide_eq_true_eq]
  omega

/-! ### comparisons -/
def rCop (K : PySem.W.Frag) (op : CmpOp) : R2 := fun u w H Q => ∃ al x y k, RepD K al H u x ∧ RepD K al H w y ∧ cop op x y = some k ∧ Q (.bl k) H
theorem isNon_iff {K : PySem.W.Frag} {al : Al} {H : Hp} {u : V} {x : Val} (h : RepD K al H u x) : decide (u = .non) = isNon x := by
  cases h with
  | of h => cases h <;> simp [isNon]
  | lst _ _ => simp [isNon]
section
variable {X : L2.Cx}
theorem cop_eq (hu : X.A.units + 65 < cLine) : OpR X (compareOp .Eq) (rCop X.K .Eq) := fun pins s σ H u w v v' Q I r1 r2 ⟨al, x, y, k, h1, h2, e, q⟩ => by
  simp only [cop] at e
  split at e
  · rename_i hz
    rw [Bool.and_eq_true] at hz
    cases e
    exact op_eqD (by omega) pins s σ H _ _ _ _ Q I r1 r2 ⟨_, _, h1.dp (data_of hz.1), h2.dp (data_of hz.2), shaped_toD hz.1, shaped_toD hz.2, by rw [eqv_toD x y (data_of hz.1) (data_of hz.2)]; exact q⟩
  · cases e
theorem cop_ne (hu : X.A.units + 65 < cLine) : OpR X (compareOp .NotEq) (rCop X.K .NotEq) := fun pins s σ H u w v v' Q I r1 r2 ⟨al, x, y, k, h1, h2, e, q⟩ => by
  simp only [cop] at e
  split at e
  · rename_i hz
    rw [Bool.and_eq_true] at hz
    cases e
    exact op_neD (by omega) pins s σ H _ _ _ _ Q I r1 r2 ⟨_, _, h1.dp (data_of hz.1), h2.dp (data_of hz.2), shaped_toD hz.1, shaped_toD hz.2, by rw [eqv_toD x y (data_of hz.1) (data_of hz.2)]; exact q⟩
  · cases e
theorem cop_lt : OpR X (compareOp .Lt) (rCop X.K .Lt) := fun pins s σ H u w v v' Q I r1 r2 ⟨al, x, y, k, h1, h2, e, q⟩ => by
  have e : cLt x y = some k := e
  unfold cLt at e
  split at e <;> first | (cases e; done) | skip
  have e1 := h1.int; have e2 := h2.int; subst e1; subst e2; cases e
  exact op_lt pins s σ H _ _ _ _ Q I r1 r2 ⟨_, _, rfl, rfl, q⟩
theorem cop_le : OpR X (compareOp .LtE) (rCop X.K .LtE) := fun pins s σ H u w v v' Q I r1 r2 ⟨al, x, y, k, h1, h2, e, q⟩ => by
  have e : cLe x y = some k := e
  unfold cLe at e
  split at e <;> first | (cases e; done) | skip
  have e1 := h1.int; have e2 := h2.int; subst e1; subst e2; cases e
  exact op_le pins s σ H _ _ _ _ Q I r1 r2 ⟨_, _, rfl, rfl, q⟩
theorem cop_gt : OpR X (compareOp .Gt) (rCop X.K .Gt) := fun pins s σ H u w v v' Q I r1 r2 ⟨al, x, y, k, h1, h2, e, q⟩ => by
  have e : cGt x y = some k := e
  unfold cGt at e
  split at e <;> first | (cases e; done) | skip
  have e1 := h1.int; have e2 := h2.int; subst e1; subst e2; cases e
  exact op_gt pins s σ H _ _ _ _ Q I r1 r2 ⟨_, _, rfl, rfl, q⟩
theorem cop_ge : OpR X (compareOp .GtE) (rCop X.K .GtE) := fun pins s σ H u w v v' Q I r1 r2 ⟨al, x, y, k, h1, h2, e, q⟩ => by
  have e : cGe x y = some k := e
  unfold cGe at e
  split at e <;> first | (cases e; done) | skip
  have e1 := h1.int; have e2 := h2.int; subst e1; subst e2; cases e
  exact op_ge pins s σ H _ _ _ _ Q I r1 r2 ⟨_, _, rfl, rfl, q⟩
theorem cop_is : OpR X (compareOp .Is) (rCop X.K .Is) := fun pins s σ H u w v v' Q I r1 r2 ⟨al, x, y, k, h1, h2, e, q⟩ => by
  simp only [cop] at e
  split at e
  · rename_i hz
    cases e
    rw [← isNon_iff h2, decide_eq_true_eq] at hz
    subst hz
    exact op_isN pins s σ H _ _ _ _ Q I r1 r2 ⟨rfl, by rw [isNon_iff h1]; exact q⟩
  · cases e
theorem cop_isnot : OpR X (compareOp .IsNot) (rCop X.K .IsNot) := fun pins s σ H u w v v' Q I r1 r2 ⟨al, x, y, k, h1, h2, e, q⟩ => by
  simp only [cop] at e
  split at e
  · rename_i hz
    cases e
    rw [← isNon_iff h2, decide_eq_true_eq] at hz
    subst hz
    exact op_notN pins s σ H _ _ _ _ Q I r1 r2 ⟨rfl, by rw [isNon_iff h1]; exact q⟩
  · cases e
theorem str_one {a : Str} (h : a.length = 1) : ∃ c, a = ⟨#[c]⟩ := by
  obtain ⟨cs⟩ := a
  have h : cs.size = 1 := h
  refine ⟨cs[0]'(by omega), ?_⟩
  congr
  apply Array.ext
  · simp [h]
  · intro i h1 h2
    have : i = 0 := by omega
    subst this
    rfl
theorem strIn_one (c : Nat) (z : Str) : strIn ⟨#[c]⟩ z = decide (c ∈ z.cps.toList) := by
  unfold strIn
  rw [Bool.eq_iff_iff, List.any_eq_true, decide_eq_true_eq]
  constructor
  · rintro ⟨d, h, e⟩
    rw [decide_eq_true_eq] at e
    have : c = d := by simpa using e
    subst this
    exact h
  · intro h
    exact ⟨c, h, by simp⟩
theorem cop_in (hu : X.A.units + 65 < cLine) : OpR X (compareOp .In) (rCop X.K .In) := fun pins s σ H u w v v' Q I r1 r2 ⟨al, x, y, k, h1, h2, e, q⟩ => by
  have e : cIn x y = some k := e
  unfold cIn at e
  split at e <;> first | (cases e; done) | skip
  · split at e
    · rename_i hz
      rw [Bool.and_eq_true] at hz
      cases e
      obtain ⟨as, q1⟩ := Dp.reads I _ _ _ (h1.dp (data_of hz.1)) r1
      obtain ⟨bs, q2⟩ := Dp.reads I _ _ _ (h2.dp (x := .lst _) (shapedL_toD hz.2).2) r2
      exact SeqAt.in_list_reads q2 q1 (canLayL_toD _ (shapedL_toD hz.2).2) (canLay_toD _ (data_of hz.1)) (room_in_shaped (shaped_toD hz.1) hu) ⟨.bl _, H, I, rfl, by rw [keyIn_toD (data_of hz.1) hz.2]; exact q⟩
    · cases e
  · split at e
    · rename_i hz
      rw [Bool.and_eq_true] at hz
      cases e
      obtain ⟨as, q1⟩ := Dp.reads I _ _ _ (h1.dp (data_of hz.1)) r1
      obtain ⟨bs, q2⟩ := Dp.reads I _ _ _ (h2.dp (x := .tup _) (shapedL_toD hz.2).2) r2
      exact SeqAt.in_tuple_reads q2 q1 (canLayL_toD _ (shapedL_toD hz.2).2) (canLay_toD _ (data_of hz.1)) (room_in_shaped (shaped_toD hz.1) hu) ⟨.bl _, H, I, rfl, by rw [keyIn_toD (data_of hz.1) hz.2]; exact q⟩
    · cases e
  · cases h2 with
    | of h2 => cases h2
  · split at e
    · rename_i hz
      cases e
      rw [decide_eq_true_eq] at hz
      obtain ⟨c, rfl⟩ := str_one hz
      have e1 := h1.str; have e2 := h2.str; subst e1; subst e2
      exact op_in_sign pins s σ H _ _ _ _ Q I r1 r2 ⟨_, _, rfl, rfl, by rw [← strIn_one]; exact q⟩
    · cases e
theorem cop_notin (hu : X.A.units + 65 < cLine) : OpR X (compareOp .NotIn) (rCop X.K .NotIn) := fun pins s σ H u w v v' Q I r1 r2 ⟨al, x, y, k, h1, h2, e, q⟩ => by
  have e : (cIn x y).map (!·) = some k := e
  unfold cIn at e
  split at e <;> first | (cases e; done) | skip
  · split at e
    · rename_i hz
      rw [Bool.and_eq_true] at hz
      cases e
      obtain ⟨as, q1⟩ := Dp.reads I _ _ _ (h1.dp (data_of hz.1)) r1
      obtain ⟨bs, q2⟩ := Dp.reads I _ _ _ (h2.dp (x := .lst _) (shapedL_toD hz.2).2) r2
      exact SeqAt.notIn_list_reads q2 q1 (canLayL_toD _ (shapedL_toD hz.2).2) (canLay_toD _ (data_of hz.1)) (room_in_shaped (shaped_toD hz.1) hu) ⟨.bl _, H, I, rfl, by rw [keyIn_toD (data_of hz.1) hz.2]; exact q⟩
    · cases e
  · split at e
    · rename_i hz
      rw [Bool.and_eq_true] at hz
      cases e
      obtain ⟨as, q1⟩ := Dp.reads I _ _ _ (h1.dp (data_of hz.1)) r1
      obtain ⟨bs, q2⟩ := Dp.reads I _ _ _ (h2.dp (x := .tup _) (shapedL_toD hz.2).2) r2
      exact SeqAt.notIn_tuple_reads q2 q1 (canLayL_toD _ (shapedL_toD hz.2).2) (canLay_toD _ (data_of hz.1)) (room_in_shaped (shaped_toD hz.1) hu) ⟨.bl _, H, I, rfl, by rw [keyIn_toD (data_of hz.1) hz.2]; exact q⟩
    · cases e
  · cases h2 with
    | of h2 => cases h2
  · split at e
    · rename_i hz
      cases e
      rw [decide_eq_true_eq] at hz
      obtain ⟨c, rfl⟩ := str_one hz
      have e1 := h1.str; have e2 := h2.str; subst e1; subst e2
      exact op_notIn_sign pins s σ H _ _ _ _ Q I r1 r2 ⟨_, _, rfl, rfl, by rw [← strIn_one]; exact q⟩
    · cases e
theorem op_cop (hu : X.A.units + 65 < cLine) (op : CmpOp) : OpR X (compareOp op) (rCop X.K op) := by
  cases op
  case Eq => exact cop_eq hu
  case NotEq => exact cop_ne hu
  case Lt => exact cop_lt
  case LtE => exact cop_le
  case Gt => exact cop_gt
  case GtE => exact cop_ge
  case Is => exact cop_is
  case IsNot => exact cop_isnot
  case In => exact cop_in hu
  case NotIn => exact cop_notin hu

/-! ### truth, subscripts, slices -/
theorem RepL.isEmpty {K : PySem.W.Frag} {al : Al} {H : Hp} {us : List V} {xs : List Val} (r : RepL K al H us xs) : us.isEmpty = xs.isEmpty := by
  cases r <;> rfl
theorem tru_of {K : PySem.W.Frag} {al : Al} {H : Hp} {u : V} {x : Val} {k : Bool} (h : RepD K al H u x) (e : tru x = some k) : TruV K u H k := by
  unfold tru at e
  split at e <;> first | (cases e; done) | skip
  · have := h.non; subst this; cases e; rfl
  · have := h.bl; subst this; cases e; rfl
  · have := h.int; subst this; cases e; rfl
  · have := h.str; subst this
    split at e
    · rename_i hz
      cases e
      exact ⟨LINE_eq ▸ hz, rfl⟩
    · cases e
  · obtain ⟨a, us, rfl, ha, ra⟩ := h.tuple
    cases e
    exact .inr (.inl ⟨us, ha, by rw [ra.isEmpty]⟩)
  · obtain ⟨a, us, rfl, ha, ra⟩ := h.list
    cases e
    exact .inl ⟨us, .of ha, by rw [ra.isEmpty]⟩
theorem RepL.atV {K : PySem.W.Frag} {al : Al} {H : Hp} {us : List V} {xs : List Val} {i : Int} {v : Val} (r : RepL K al H us xs) (e : MP.atV xs i = some v) : ∃ u, atI us i = some u ∧ Rep K al H u v := by
  unfold MP.atV at e
  unfold atI
  rw [r.length]
  cases q : MP.ixN xs.length i with
  | none => rw [q] at e; cases e
  | some j =>
    rw [q] at e
    have q' : L2.ixN xs.length i = some j := q
    rw [q']
    obtain ⟨u, e1, r1⟩ := r.get (show xs[j]? = some v from e)
    exact ⟨u, e1, r1⟩
def rIdx (K : PySem.W.Frag) : R2 := fun u w H Q => ∃ al x y z, RepD K al H u x ∧ Rep K al H w y ∧ idx x y = some z ∧ ∀ u', Rep K al H u' z → Q u' H
theorem ix_idx : IxR X (rIdx X.K) := by
  intro value slice pins s σ H u w v v' Q I r1 r2 ⟨al, x, y, z, h1, h2, e, q⟩ hs
  unfold idx at e
  split at e <;> first | (cases e; done) | skip
  · obtain ⟨a, us, rfl, ha, ra⟩ := h1.list
    cases h2
    obtain ⟨u', e1, r3⟩ := ra.atV e
    exact ix_list value slice pins s σ H _ _ _ _ Q I r1 r2 ⟨a, us, _, u', rfl, rfl, .of ha, e1, q u' r3⟩ hs
  · obtain ⟨a, us, rfl, ha, ra⟩ := h1.tuple
    cases h2
    obtain ⟨u', e1, r3⟩ := ra.atV e
    exact ix_tup value slice pins s σ H _ _ _ _ Q I r1 r2 ⟨a, us, _, u', rfl, rfl, ha, e1, q u' r3⟩ hs
  · have := h1.str; subst this
    cases h2
    split at e
    · rename_i hz
      rw [Option.map_eq_some_iff] at e
      obtain ⟨c, e, rfl⟩ := e
      exact ix_str value slice pins s σ H _ _ _ _ Q I r1 r2 ⟨_, _, c, rfl, rfl, LINE_eq ▸ hz, e, q _ (.str _)⟩ hs
    · cases e
  · obtain ⟨a, rfl, ha⟩ := h1.script
    cases h2
    rw [Option.map_eq_some_iff] at e
    obtain ⟨c, e, rfl⟩ := e
    refine ix_list value slice pins s σ H _ _ _ _ Q I r1 r2 ⟨a, _, _, .int c, rfl, rfl, ha, ?_, q _ (.int _)⟩ hs
    unfold MP.atV at e
    unfold atI
    rw [List.length_map]
    cases q : MP.ixN _ _ with
    | none => rw [q] at e; cases e
    | some j =>
      rw [q] at e
      have q' : L2.ixN _ _ = some j := q
      rw [q']
      show (List.map V.int _)[j]? = _
      rw [List.getElem?_map]
      exact congrArg (Option.map V.int) e
  · cases h1 with
    | of h1 => cases h1
theorem RepL.cut {K : PySem.W.Frag} {al : Al} {H : Hp} {us : List V} {xs : List Val} (r : RepL K al H us xs) (lo hi : Option Int) : RepL K al H (cutV us lo hi) (cutL xs lo hi) := by
  unfold cutV cutL
  rw [r.length]
  exact (r.drop _).take _
def rSlc (K : PySem.W.Frag) (fr : Bool) : V → Option Int → Option Int → Hp → VK → Prop := fun u lo hi H Q => ∃ al x z, Dm al H ∧ RepD K al H u x ∧ slc x lo hi = some z ∧ Done K al H fr z Q
theorem cut_whole {α : Type} (xs : List α) (lo hi : Option Int) (h : HT.sIx xs.length 0 lo = 0 ∧ HT.sIx xs.length xs.length hi = xs.length) : cutL xs lo hi = xs := by
  unfold cutL
  have h1 : sIx xs.length 0 lo = 0 := h.1
  have h2 : sIx xs.length xs.length hi = xs.length := h.2
  rw [h1, h2]
  simp
theorem sl_slc {fr : Bool} : SlR X (rSlc X.K fr) := by
  intro pins s σ H u v vl vu lo hi sl Q I rx hs pl pu ⟨al, x, z, dm, h1, e, q⟩
  unfold slc at e
  split at e <;> first | (cases e; done) | skip
  · cases e
    obtain ⟨a, us, rfl, ha, ra⟩ := h1.list
    exact sl_list pins s σ H _ v vl vu lo hi sl Q I rx hs pl pu ⟨a, us, rfl, .of ha, q.lst dm (ra.cut lo hi)⟩
  · cases e
    obtain ⟨a, us, rfl, ha, ra⟩ := h1.tuple
    refine sl_tupA pins s σ H _ v vl vu lo hi sl Q I rx hs pl pu ⟨a, us, rfl, ha, fun hw => ?_, fun _ => q.tup (ra.cut lo hi)⟩
    rw [ra.length] at hw
    rw [cut_whole _ lo hi hw] at q
    exact q.tupAt ha ra
  · have := h1.str; subst this
    split at e
    · rename_i hz
      cases e
      exact sl_str pins s σ H _ v vl vu lo hi sl Q I rx hs pl pu ⟨_, rfl, LINE_eq ▸ hz, (show cutS _ lo hi = _ from rfl) ▸ q.str⟩
    · cases e
end
end MP
set_option Elab.async false
set_option linter.all false
set_option maxRecDepth 100000
set_option maxHeartbeats 1000000
/-! MPExp: expressions: what a clean evaluation says of the machine's. -/
namespace MP
open PySem PySem.Spec PyProof.Rows L2

/-- the setting: the written part, the frame's first cell, what is wished of an exception, how an exception is told -/
structure Sg where
  K : PySem.W.Frag
  bs : List Nat
  W : WX
  xr : Al → Hp → Value → Option Addr → Nat → List Val → Prop

/-- behind a clean result -/
def Post {g b : Type} (S : Sg) (rel : Al → Hp → g → b → M → Prop) (al : Al) (H : Hp) (s : L2.St) (Q : g → Hp → Prop) : R b → Prop
  | .ok v m' => ∀ u H' al', Ext al al' H H' → Rl S.K S.bs al' m' H' → rel al' H' u v m' → Q u H'
  | .exc c fs m' => ∀ cls d H' al', Ext al al' H H' → Rl S.K S.bs al' m' H' → S.xr al' H' cls d c fs → S.W cls d s H'
  | .stuck => False
section
variable {S : Sg} {g b g2 b2 : Type} {rel : Al → Hp → g → b → M → Prop} {rel2 : Al → Hp → g2 → b2 → M → Prop} {al al1 : Al} {H H1 : Hp} {s : L2.St} {Q : g → Hp → Prop} {Q2 : g2 → Hp → Prop}
theorem Post.shift {r : R b} (x : Ext al al1 H H1) (h : Post S rel al H s Q r) : Post S rel al1 H1 s Q r := by
  cases r with
  | ok v m' => exact fun u H' al' y r q => h u H' al' (x.trans y) r q
  | exc c fs m' => exact fun cls d H' al' y r q => h cls d H' al' (x.trans y) r q
  | stuck => exact h
theorem Post.mono {Q' : g → Hp → Prop} {r : R b} (h : Post S rel al H s Q r) (f : ∀ u H', Q u H' → Q' u H') : Post S rel al H s Q' r := by
  cases r with
  | ok v m' => exact fun u H' al' y r q => f u H' (h u H' al' y r q)
  | exc c fs m' => exact h
  | stuck => exact h
/-- first r, then k -/
theorem Post.seq {r : R b} {k : b → M → R b2} (h : Post S rel2 al H s Q2 (r.bind k)) :
    Post S rel al H s (fun u H1 => ∃ v m1 al1, Ext al al1 H H1 ∧ Rl S.K S.bs al1 m1 H1 ∧ rel al1 H1 u v m1 ∧ Post S rel2 al1 H1 s Q2 (k v m1)) r := by
  cases r with
  | ok v m' => exact fun u H' al' x rl q => ⟨v, m', al', x, rl, q, h.shift x⟩
  | exc c fs m' => exact h
  | stuck => exact h
theorem Post.done {v : b} {m' : M} (h : Post S rel al H s Q (.ok v m')) {u : g} (rl : Rl S.K S.bs al m' H) (q : rel al H u v m') : Q u H := h u H al (.refl _ _) rl q
theorem Post.opt {o : Option b} {m' : M} (h : Post S rel al H s Q (MP.opt o m')) : ∃ v, o = some v ∧ Post S rel al H s Q (.ok v m') := by
  cases o with
  | none => exact h.elim
  | some v => exact ⟨v, rfl, h⟩
end

/-- a value; a fresh list (H0: the heap ahead) may be made a cell -/
def relV (S : Sg) (fr : Bool) (H0 : Hp) (al : Al) (H : Hp) (u : V) (v : Val) (m : M) : Prop :=
  Rep S.K al H u v ∧ (fr = true → ∀ xs, v = .lst xs → ∃ a, u = .ref a ∧ H0 a = none ∧ Rl S.K S.bs (al.add [a]) (m ++ [.lst xs]) H)
def tE (S : Sg) (fr : Bool) (f : Env → M → R Val) : TE := fun s H Q => ∃ r m al, RE S.K al H s r ∧ Rl S.K S.bs al m H ∧ Post S (relV S fr H) al H s Q (f r m)
def tEs (S : Sg) (f : Env → M → R (List Val)) : TA := fun s H Q => ∃ r m al, RE S.K al H s r ∧ Rl S.K S.bs al m H ∧ Post S (fun al H us vs _ => RepL S.K al H us vs) al H s Q (f r m)
def tBl (S : Sg) (f : Env → M → R Bool) : TT := fun s H Q => ∃ r m al, RE S.K al H s r ∧ Rl S.K S.bs al m H ∧ Post S (fun _ _ u v _ => u = v) al H s Q (f r m)
def tPt (S : Sg) (f : Env → M → R (Option Int)) : TO := fun s H Q => ∃ r m al, RE S.K al H s r ∧ Rl S.K S.bs al m H ∧ Post S (fun _ _ u v _ => u = v) al H s Q (f r m)

theorem pe_imp {X : L2.Cx} {e : Expr} {t t' : TE} (h : PE X e t) (f : ∀ s H Q, t' s H Q → t s H Q) : PE X e t' := ⟨fun pins s σ H Q I q => h.run pins s σ H Q I (f _ _ _ q)⟩
theorem pt_imp {X : L2.Cx} {e : Expr} {t t' : TT} (h : PT X e t) (f : ∀ s H Q, t' s H Q → t s H Q) : PT X e t' := ⟨fun pins s σ H Q I q => h.run pins s σ H Q I (f _ _ _ q)⟩
theorem pw_imp {X : L2.Cx} {e : Expr} {t t' : TT} (h : PW X e t) (f : ∀ s H Q, t' s H Q → t s H Q) : PW X e t' := ⟨fun wh pins s σ H Q I q => h.run wh pins s σ H Q I (f _ _ _ q)⟩
theorem pa_imp {X : L2.Cx} {e : List Expr} {t t' : TA} (h : PA X e t) (f : ∀ s H Q, t' s H Q → t s H Q) : PA X e t' := ⟨fun pos pins s σ H Q I q => h.run pos pins s σ H Q I (f _ _ _ q)⟩

section
variable {S : Sg} {fr : Bool} {H0 : Hp} {al : Al} {m : M} {H : Hp} {s : L2.St} {Q : VK}
/-- a pure operation's end -/
theorem Done.of {z : Val} (p : Post S (relV S fr H0) al H s Q (.ok z m)) (rl : Rl S.K S.bs al m H) (d : ∀ a, H a = none → H0 a = none) : Done S.K al H fr z Q := fun u H' sm rp f =>
  p u H' al (.of_same sm) (rl.ext sm) ⟨rp, fun h xs ez => by
    obtain ⟨a, us, e1, e2, e3, e4⟩ := f h xs ez
    subst e3
    exact ⟨a, e1, d a e2, (rl.alloc e2 e4).1⟩⟩
theorem Post.val {z : Val} {u : V} (p : Post S (relV S false H0) al H s Q (.ok z m)) (rl : Rl S.K S.bs al m H) (r : Rep S.K al H u z) : Q u H :=
  p.done rl ⟨r, fun h => by cases h⟩
end

def tru_ (f : Env → M → R Val) : Env → M → R Bool := fun r m => (f r m).bind fun x m => opt (tru (dr m x)) m
section
variable {X : L2.Cx} {S : Sg} {a b c : Expr} {f1 f2 f3 : Bool} {fa fb fc : Env → M → R Val} {pos : Pos} {rest : List Expr}
/-! ### names, constants -/
theorem me_var {i : Nat} {x : Str} (hN : X.N[i]? = some x) (hv : Vis X.env.scope x) (hd : (x == ("__debug__" : Str)) = false) (hcd : (x == ("__classdict__" : Str)) = false) :
    PE X (.Name x pos) (tE S false (fun r m => match r[i]? with
      | some (some v) => .ok v m
      | _ => .stuck)) := by
  refine pe_imp (pe_var hN hv hd hcd) fun s H Q ⟨r, m, al, re, rl, p⟩ => ?_
  cases e : r[i]? with
  | none => simp only [e] at p; exact p.elim
  | some o =>
    cases o with
    | none => simp only [e] at p; exact p.elim
    | some v =>
      simp only [e] at p
      obtain ⟨u, e1, q⟩ := re.get i v e
      exact ⟨u, e1, p.val rl q⟩
theorem me_int {i : Int} {j : Nat} : PE X (.Constant (.int i) j pos) (tE S false fun _ m => .ok (.int i) m) := pe_imp pe_int fun s H Q ⟨r, m, al, re, rl, p⟩ => p.val rl (.int i)
theorem me_bl {i : Bool} {j : Nat} : PE X (.Constant (.bool i) j pos) (tE S false fun _ m => .ok (.bl i) m) := pe_imp pe_bl fun s H Q ⟨r, m, al, re, rl, p⟩ => p.val rl (.bl i)
theorem me_non {j : Nat} : PE X (.Constant .none j pos) (tE S false fun _ m => .ok .non m) := pe_imp pe_non fun s H Q ⟨r, m, al, re, rl, p⟩ => p.val rl .non
theorem me_str {i : Str} {j : Nat} : PE X (.Constant (.str i) j pos) (tE S false fun _ m => .ok (.str i) m) := pe_imp pe_str fun s H Q ⟨r, m, al, re, rl, p⟩ => p.val rl (.str i)

/-! ### operators -/
theorem me_bin (hK : X.K = S.K) {op : Operator} (ha : PE X a (tE S f1 fa)) (hb : PE X b (tE S f2 fb)) :
    PE X (.BinOp a op b pos) (tE S true fun r m => (fa r m).bind fun x m => (fb r m).bind fun y m => opt (bop op (dr m x) (dr m y)) m) := by
  have ho : OpR X (binaryOp op) (rBop S.K op true) := hK ▸ op_bop op
  refine pe_imp (pe_op ho ha hb) fun s H Q ⟨r, m, al, re, rl, p⟩ => ?_
  refine ⟨r, m, al, re, rl, p.seq.mono ?_⟩
  rintro u H1 ⟨v, m1, al1, x1, rl1, q1, p1⟩
  refine ⟨r, m1, al1, re.ext x1, rl1, p1.seq.mono ?_⟩
  rintro w H2 ⟨v2, m2, al2, x2, rl2, q2, p2⟩
  obtain ⟨z, e, p3⟩ := p2.opt
  exact ⟨al2, _, _, z, rl2.dm, .dr (q1.1.ext x2 _ _) rl2, .dr q2.1 rl2, e, .of p3 rl2 fun a h => x1.dom a (x2.dom a h)⟩
theorem me_neg (ha : PE X a (tE S f1 fa)) : PE X (.UnaryOp .USub a pos) (tE S false fun r m => (fa r m).bind fun x m => match x with
    | .int i => .ok (.int (-i)) m
    | _ => .stuck) := by
  refine pe_imp (pe_un un_neg ha) fun s H Q ⟨r, m, al, re, rl, p⟩ => ?_
  refine ⟨r, m, al, re, rl, p.seq.mono ?_⟩
  rintro u H1 ⟨v, m1, al1, x1, rl1, q1, p1⟩
  cases v with
  | int i =>
    cases q1.1
    exact ⟨i, rfl, p1.val rl1 (.int _)⟩
  | _ => exact p1.elim
theorem me_not (hK : X.K = S.K) (ha : PE X a (tE S f1 fa)) : PE X (.UnaryOp .Not a pos) (tE S false fun r m => (fa r m).bind fun x m => (opt (tru (dr m x)) m).bind fun b m => .ok (.bl (!b)) m) := by
  refine pe_imp (pe_notT ha) fun s H Q ⟨r, m, al, re, rl, p⟩ => ?_
  refine ⟨r, m, al, re, rl, p.seq.mono ?_⟩
  rintro u H1 ⟨v, m1, al1, x1, rl1, q1, p1⟩
  cases e : tru (dr m1 v) with
  | none => rw [e] at p1; exact p1.elim
  | some k =>
    rw [e] at p1
    exact ⟨k, hK ▸ tru_of (.dr q1.1 rl1) e, Post.val (z := .bl (!k)) p1 rl1 (.bl _)⟩
theorem me_one {op : BoolOp} (ha : PE X a (tE S f1 fa)) : PE X (.BoolOp op [a] pos) (tE S false fa) := by
  refine pe_imp (pe_one ha) fun s H Q ⟨r, m, al, re, rl, p⟩ => ⟨r, m, al, re, rl, ?_⟩
  cases e : fa r m with
  | ok v m' => rw [e] at p; exact fun u H' al' x rl' q => p u H' al' x rl' ⟨q.1, fun h => by cases h⟩
  | exc _ _ _ => rw [e] at p; exact p
  | stuck => rw [e] at p; exact p
theorem me_and (hK : X.K = S.K) (ha : PE X a (tE S f1 fa)) (hb : PE X (.BoolOp .And (b :: rest) pos) (tE S false fb)) :
    PE X (.BoolOp .And (a :: b :: rest) pos) (tE S false fun r m => (fa r m).bind fun x m => (opt (tru (dr m x)) m).bind fun k m => if k then fb r m else .ok x m) := by
  refine pe_imp (pe_andT ha hb) fun s H Q ⟨r, m, al, re, rl, p⟩ => ?_
  refine ⟨r, m, al, re, rl, p.seq.mono ?_⟩
  rintro u H1 ⟨v, m1, al1, x1, rl1, q1, p1⟩
  cases e : tru (dr m1 v) with
  | none => rw [e] at p1; exact p1.elim
  | some k =>
    rw [e] at p1
    refine ⟨k, hK ▸ tru_of (.dr q1.1 rl1) e, ?_⟩
    cases k with
    | true =>
      refine ⟨r, m1, al1, re.ext x1, rl1, ?_⟩
      have p1 : Post S (relV S false H) al1 H1 s Q (fb r m1) := p1
      cases e2 : fb r m1 with
      | ok v m' => rw [e2] at p1; exact fun u H' al' x rl' q => p1 u H' al' x rl' ⟨q.1, fun h => by cases h⟩
      | exc _ _ _ => rw [e2] at p1; exact p1
      | stuck => rw [e2] at p1; exact p1
    | false => exact Post.val (z := v) p1 rl1 q1.1
theorem me_or (hK : X.K = S.K) (ha : PE X a (tE S f1 fa)) (hb : PE X (.BoolOp .Or (b :: rest) pos) (tE S false fb)) :
    PE X (.BoolOp .Or (a :: b :: rest) pos) (tE S false fun r m => (fa r m).bind fun x m => (opt (tru (dr m x)) m).bind fun k m => if k then .ok x m else fb r m) := by
  refine pe_imp (pe_orT ha hb) fun s H Q ⟨r, m, al, re, rl, p⟩ => ?_
  refine ⟨r, m, al, re, rl, p.seq.mono ?_⟩
  rintro u H1 ⟨v, m1, al1, x1, rl1, q1, p1⟩
  cases e : tru (dr m1 v) with
  | none => rw [e] at p1; exact p1.elim
  | some k =>
    rw [e] at p1
    refine ⟨k, hK ▸ tru_of (.dr q1.1 rl1) e, ?_⟩
    cases k with
    | false =>
      refine ⟨r, m1, al1, re.ext x1, rl1, ?_⟩
      have p1 : Post S (relV S false H) al1 H1 s Q (fb r m1) := p1
      cases e2 : fb r m1 with
      | ok v m' => rw [e2] at p1; exact fun u H' al' x rl' q => p1 u H' al' x rl' ⟨q.1, fun h => by cases h⟩
      | exc _ _ _ => rw [e2] at p1; exact p1
      | stuck => rw [e2] at p1; exact p1
    | true => exact Post.val (z := v) p1 rl1 q1.1

/-! ### tests -/
theorem mt_val (hK : X.K = S.K) (ha : PE X a (tE S f1 fa)) (he : ∀ whole, isTrue a X.env whole = (do let v ← whole; standAt a.pos; holding [v] (truthy v))) : PT X a (tBl S (tru_ fa)) := by
  refine pt_imp (pt_truth ha he) fun s H Q ⟨r, m, al, re, rl, p⟩ => ?_
  refine ⟨r, m, al, re, rl, p.seq.mono ?_⟩
  rintro u H1 ⟨v, m1, al1, x1, rl1, q1, p1⟩
  obtain ⟨k, e, p2⟩ := p1.opt
  exact ⟨k, hK ▸ tru_of (.dr q1.1 rl1) e, p2.done rl1 rfl⟩
variable {ga gb gc : Env → M → R Bool}
theorem mt_not (ha : PT X a (tBl S ga)) : PT X (.UnaryOp .Not a pos) (tBl S fun r m => (ga r m).bind fun k m => .ok (!k) m) := by
  refine pt_imp (pt_not ha) fun s H Q ⟨r, m, al, re, rl, p⟩ => ?_
  refine ⟨r, m, al, re, rl, p.seq.mono ?_⟩
  rintro u H1 ⟨v, m1, al1, x1, rl1, q1, p1⟩
  cases q1
  exact p1.done rl1 rfl
theorem mw_and (ha : PT X a (tBl S ga)) (hb : PW X (.BoolOp .And (b :: rest) pos) (tBl S gb)) : PW X (.BoolOp .And (a :: b :: rest) pos) (tBl S fun r m => (ga r m).bind fun k m => if k then gb r m else .ok false m) := by
  refine pw_imp (pw_and ha hb) fun s H Q ⟨r, m, al, re, rl, p⟩ => ?_
  refine ⟨r, m, al, re, rl, p.seq.mono ?_⟩
  rintro u H1 ⟨v, m1, al1, x1, rl1, q1, p1⟩
  cases q1
  cases u with
  | true => exact ⟨r, m1, al1, re.ext x1, rl1, p1⟩
  | false => exact Post.done (v := false) p1 rl1 rfl
theorem mw_or (ha : PT X a (tBl S ga)) (hb : PW X (.BoolOp .Or (b :: rest) pos) (tBl S gb)) : PW X (.BoolOp .Or (a :: b :: rest) pos) (tBl S fun r m => (ga r m).bind fun k m => if k then .ok true m else gb r m) := by
  refine pw_imp (pw_or ha hb) fun s H Q ⟨r, m, al, re, rl, p⟩ => ?_
  refine ⟨r, m, al, re, rl, p.seq.mono ?_⟩
  rintro u H1 ⟨v, m1, al1, x1, rl1, q1, p1⟩
  cases q1
  cases u with
  | false => exact ⟨r, m1, al1, re.ext x1, rl1, p1⟩
  | true => exact Post.done (v := true) p1 rl1 rfl
theorem mt_ite (hc : PT X c (tBl S gc)) (ha : PT X a (tBl S ga)) (hb : PT X b (tBl S gb)) : PT X (.IfExp c a b pos) (tBl S fun r m => (gc r m).bind fun k m => if k then ga r m else gb r m) := by
  refine ⟨fun pins s σ H Q I ⟨r, m, al, re, rl, p⟩ => ?_⟩
  refine isTrue_IfExp (thn (hc.run pins s σ H _ I ⟨r, m, al, re, rl, p.seq⟩) fun d s1 ⟨H1, I1, v, m1, al1, x1, rl1, q1, p1⟩ => ?_)
  cases q1
  cases d with
  | true => exact ha.run pins s1 σ H1 Q I1 ⟨r, m1, al1, re.ext x1, rl1, p1⟩
  | false => exact hb.run pins s1 σ H1 Q I1 ⟨r, m1, al1, re.ext x1, rl1, p1⟩
theorem me_ite (hc : PT X c (tBl S gc)) (ha : PE X a (tE S f1 fa)) (hb : PE X b (tE S f2 fb)) : PE X (.IfExp c a b pos) (tE S false fun r m => (gc r m).bind fun k m => if k then fa r m else fb r m) := by
  refine pe_imp (pe_ifExp hc ha hb) fun s H Q ⟨r, m, al, re, rl, p⟩ => ?_
  refine ⟨r, m, al, re, rl, p.seq.mono ?_⟩
  rintro u H1 ⟨v, m1, al1, x1, rl1, q1, p1⟩
  cases q1
  have weak : ∀ {rr : R Val} {f : Bool}, Post S (relV S false H) al1 H1 s Q rr → Post S (relV S f H1) al1 H1 s Q rr := fun {rr f} p => by
    cases rr with
    | ok v m' => exact fun u H' al' x rl' q => p u H' al' x rl' ⟨q.1, fun h => by cases h⟩
    | exc _ _ _ => exact p
    | stuck => exact p
  cases u with
  | true => exact ⟨r, m1, al1, re.ext x1, rl1, weak p1⟩
  | false => exact ⟨r, m1, al1, re.ext x1, rl1, weak p1⟩

/-! ### comparisons -/
/-- what follows a left side -/
def tCh (S : Sg) (g : Val → Env → M → R Val) : V → TE := fun u s H Q => ∃ r m al x, RE S.K al H s r ∧ Rl S.K S.bs al m H ∧ Rep S.K al H u x ∧ Post S (relV S false H) al H s Q (g x r m)
structure PCh (X : L2.Cx) (S : Sg) (pos : Pos) (ops : List CmpOp) (es : List Expr) (g : Val → Env → M → R Val) : Prop where
  run : ∀ (pins : List (Addr × Obj)) (s : Shared) (σ : L2.St) (H : Hp) (x : V) (v : Value) (Q : VK), Inv X pins σ H s → RelV x v → tCh S g x σ H Q → wpAny (model X.prog X.w) X.A (compareChain pos v ops (evalEach es X.env)) (EP X pins σ Q) X.xe s
  test : ∀ (pins : List (Addr × Obj)) (s : Shared) (σ : L2.St) (H : Hp) (x : V) (v : Value) (Q : Bool → Hp → Prop), Inv X pins σ H s → RelV x v → tCh S g x σ H (fun u H => ∃ k, u = .bl k ∧ Q k H) → wpAny (model X.prog X.w) X.A (testChain pos v ops (evalEach es X.env)) (TP X pins σ Q) X.xe s
def cmpG (op : CmpOp) (fb : Env → M → R Val) : Val → Env → M → R Val := fun x r m => (fb r m).bind fun y m => (opt (cop op (dr m x) (dr m y)) m).bind fun k m => .ok (.bl k) m
def cmpN (op : CmpOp) (fb : Env → M → R Val) (g : Val → Env → M → R Val) : Val → Env → M → R Val := fun x r m => (fb r m).bind fun y m => (opt (cop op (dr m x) (dr m y)) m).bind fun k m => if k then g y r m else .ok (.bl false) m
theorem mc_last (hK : X.K = S.K) (hu : X.A.units + 65 < cLine) {op : CmpOp} (hb : PE X b (tE S f2 fb)) : PCh X S pos [op] [b] (cmpG op fb) := by
  have key : ∀ (pins : List (Addr × Obj)) (s : Shared) (σ : L2.St) (H : Hp) (x : V) (v : Value) (Q : VK), Inv X pins σ H s → RelV x v → tCh S (cmpG op fb) x σ H Q →
      wpAny (model X.prog X.w) X.A (eval b X.env) (fun w s1 => wpAny (model X.prog X.w) X.A (compareOp op v w) (EP X pins σ Q) X.xe s1) X.xe s := fun pins s σ H x v Q I rx ⟨r, m, al, y, re, rl, q, p⟩ => by
    refine thn (hb.run pins s σ H _ I ⟨r, m, al, re, rl, p.seq⟩) fun w s1 ⟨u1, H1, I1, r1, v1, m1, al1, x1, rl1, q1, p1⟩ => ?_
    have ho : OpR X (compareOp op) (rCop S.K op) := hK ▸ op_cop hu op
    cases e : cop op (dr m1 y) (dr m1 v1) with
    | none => rw [e] at p1; exact p1.elim
    | some k =>
      rw [e] at p1
      exact ho pins s1 σ H1 x u1 v w Q I1 rx r1 ⟨al1, _, _, k, .dr (q.ext x1 _ _) rl1, .dr q1.1 rl1, e, Post.val (z := .bl k) p1 rl1 (.bl k)⟩
  refine ⟨fun pins s σ H x v Q I rx t => chain_last (key pins s σ H x v Q I rx t), fun pins s σ H x v Q I rx t => test_last (thn (key pins s σ H x v _ I rx t) fun w s1 h1 => thn h1 fun c s2 ⟨z, H2, I2, r2, k, e, q⟩ => ?_)⟩
  subst e
  cases r2
  exact wpAny_truthy_bool ⟨H2, I2, q⟩
theorem mc_cons (hK : X.K = S.K) (hu : X.A.units + 65 < cLine) {op op' : CmpOp} {ops : List CmpOp} {g : Val → Env → M → R Val} (hb : PE X b (tE S f2 fb)) (hr : PCh X S pos (op' :: ops) (c :: rest) g) : PCh X S pos (op :: op' :: ops) (b :: c :: rest) (cmpN op fb g) := by
  have key : ∀ (pins : List (Addr × Obj)) (s : Shared) (σ : L2.St) (H : Hp) (x : V) (v : Value) (Q : VK), Inv X pins σ H s → RelV x v → tCh S (cmpN op fb g) x σ H Q →
      wpAny (model X.prog X.w) X.A (eval b X.env) (fun w s1 => wpAny (model X.prog X.w) X.A (compareOp op v w) (fun z s2 => ∃ (k : Bool) (y : V) (H2 : Hp), z = .bool k ∧ Inv X pins σ H2 s2 ∧ RelV y w ∧ if k then tCh S g y σ H2 Q else Q (.bl false) H2) X.xe s1) X.xe s := fun pins s σ H x v Q I rx ⟨r, m, al, y, re, rl, q, p⟩ => by
    refine thn (hb.run pins s σ H _ I ⟨r, m, al, re, rl, p.seq⟩) fun w s1 ⟨u1, H1, I1, r1, v1, m1, al1, x1, rl1, q1, p1⟩ => ?_
    have ho : OpR X (compareOp op) (rCop S.K op) := hK ▸ op_cop hu op
    cases e : cop op (dr m1 y) (dr m1 v1) with
    | none => rw [e] at p1; exact p1.elim
    | some k =>
      rw [e] at p1
      refine thn (ho pins s1 σ H1 x u1 v w (fun z H2 => z = .bl k ∧ H2 = H1) I1 rx r1 ⟨al1, _, _, k, .dr (q.ext x1 _ _) rl1, .dr q1.1 rl1, e, rfl, rfl⟩) fun z s2 ⟨z', H2, I2, r2, e1, e2⟩ => ?_
      subst e1 e2
      cases r2
      refine ⟨k, u1, H2, rfl, I2, r1, ?_⟩
      cases k with
      | true => exact ⟨r, m1, al1, v1, re.ext x1, rl1, q1.1, by
          have p1 : Post S (relV S false H) al1 H2 σ Q (g v1 r m1) := p1
          cases e3 : g v1 r m1 with
          | ok v m' => rw [e3] at p1; exact fun u H' al' x rl' q => p1 u H' al' x rl' ⟨q.1, fun h => by cases h⟩
          | exc _ _ _ => rw [e3] at p1; exact p1
          | stuck => rw [e3] at p1; exact p1⟩
      | false => exact Post.val (z := .bl false) p1 rl1 (.bl false)
  refine ⟨fun pins s σ H x v Q I rx t => chain_link (thn (key pins s σ H x v Q I rx t) fun w s1 h1 => thn h1 fun z s2 ⟨k, y, H2, e, I2, r2, q⟩ => ?_),
    fun pins s σ H x v Q I rx t => test_link (thn (key pins s σ H x v _ I rx t) fun w s1 h1 => thn h1 fun z s2 ⟨k, y, H2, e, I2, r2, q⟩ => ?_)⟩
  · subst e
    refine wpAny_truthy_bool ?_
    cases k with
    | true => exact hr.run pins s2 σ H2 y w Q I2 r2 q
    | false => exact ⟨.bl false, H2, I2, rfl, q⟩
  · subst e
    refine wpAny_truthy_bool ?_
    cases k with
    | true => exact hr.test pins s2 σ H2 y w Q I2 r2 q
    | false =>
      obtain ⟨k', e, q⟩ := q
      cases e
      exact ⟨H2, I2, q⟩
end
end MP
set_option Elab.async false
set_option linter.all false
set_option maxRecDepth 100000
set_option maxHeartbeats 1000000
/-! MPExp2: comparisons, subscripts, displays, built-in functions, targets. -/
namespace MP
open PySem PySem.Spec PyProof.Rows L2
section
variable {S : Sg} {fr : Bool} {H0 H1 : Hp} {al : Al} {m : M} {H : Hp} {s : L2.St} {Q : VK}
theorem Post.weak {r : R Val} (h : Post S (relV S false H0) al H s Q r) : Post S (relV S fr H1) al H s Q r := by
  cases r with
  | ok v m' => exact fun u H' al' x rl' q => h u H' al' x rl' ⟨q.1, fun h => by cases h⟩
  | exc _ _ _ => exact h
  | stuck => exact h
end
section
variable {X : L2.Cx} {S : Sg} {a b c : Expr} {es : List Expr} {f1 f2 f3 : Bool} {fa fb fc : Env → M → R Val} {pos : Pos} {rest : List Expr}
theorem me_cmp {ops : List CmpOp} {g : Val → Env → M → R Val} (ha : PE X a (tE S f1 fa)) (hc : PCh X S pos ops es g) (hm : lastMarks ops es = false) :
    PE X (.Compare a ops es pos) (tE S false fun r m => (fa r m).bind fun x m => g x r m) := by
  refine ⟨fun pins s σ H Q I ⟨r, m, al, re, rl, p⟩ => ?_⟩
  show wpAny _ _ (do compareChain pos (← eval a X.env) ops (markedEach ops es (evalEach es X.env))) _ _ s
  rw [markedEach_of_false _ _ _ hm]
  refine wpAny_bind (thn (ha.run pins s σ H _ I ⟨r, m, al, re, rl, p.seq⟩) fun v s1 ⟨u, H1, I1, r1, v1, m1, al1, x1, rl1, q1, p1⟩ => ?_)
  exact hc.run pins s1 σ H1 u v Q I1 r1 ⟨r, m1, al1, v1, re.ext x1, rl1, q1.1, p1.weak⟩
theorem mt_cmp {ops : List CmpOp} {g : Val → Env → M → R Val} (ha : PE X a (tE S f1 fa)) (hc : PCh X S pos ops es g) (hm : lastMarks ops es = false) (hg : ∀ x r m v m', g x r m = .ok v m' → ∃ k, v = .bl k) :
    PT X (.Compare a ops es pos) (tBl S (tru_ fun r m => (fa r m).bind fun x m => g x r m)) := by
  refine ⟨fun pins s σ H Q I ⟨r, m, al, re, rl, p⟩ => ?_⟩
  show wpAny _ _ (do testChain pos (← eval a X.env) ops (markedEach ops es (evalEach es X.env))) _ _ s
  rw [markedEach_of_false _ _ _ hm]
  have p : Post S (fun _ _ u v _ => u = v) al H σ Q ((fa r m).bind fun x m => (g x r m).bind fun x m => opt (tru (dr m x)) m) := by
    have e : tru_ (fun r m => (fa r m).bind fun x m => g x r m) r m = (fa r m).bind fun x m => (g x r m).bind fun x m => opt (tru (dr m x)) m := by
      show R.bind (R.bind (fa r m) _) _ = _
      cases fa r m <;> rfl
    rw [← e]
    exact p
  refine wpAny_bind (thn (ha.run pins s σ H _ I ⟨r, m, al, re, rl, p.seq⟩) fun v s1 ⟨u, H1, I1, r1, v1, m1, al1, x1, rl1, q1, p1⟩ => ?_)
  refine hc.test pins s1 σ H1 u v Q I1 r1 ⟨r, m1, al1, v1, re.ext x1, rl1, q1.1, ?_⟩
  cases e : g v1 r m1 with
  | ok w m' =>
    rw [e] at p1
    obtain ⟨k, rfl⟩ := hg _ _ _ _ _ e
    intro u' H' al' x rl' q
    cases q.1
    exact ⟨k, rfl, p1 k H' al' x rl' rfl⟩
  | exc _ _ _ => rw [e] at p1; exact p1
  | stuck => rw [e] at p1; exact p1.elim

/-! ### subscripts -/
def plainIx : Expr → Bool
  | .Slice _ _ none _ => false
  | _ => true
theorem plainIx_of {b : Expr} (h : plainIx b = true) : PlainIx b := by
  intro o i
  unfold subscripted
  split
  · rename_i h1
    simp [plainIx] at h
  · rename_i h1
    cases h1
  · rfl
theorem me_idx (hK : X.K = S.K) (ha : PE X a (tE S f1 fa)) (hb : PE X b (tE S f2 fb)) (hs : plainIx b = true) :
    PE X (.Subscript a b pos) (tE S false fun r m => (fa r m).bind fun x m => (fb r m).bind fun y m => opt (idx (dr m x) y) m) := by
  have ho : IxR X (rIdx S.K) := hK ▸ ix_idx
  refine pe_imp (pe_ix ho ha hb (plainIx_of hs)) fun s H Q ⟨r, m, al, re, rl, p⟩ => ?_
  refine ⟨r, m, al, re, rl, p.seq.mono ?_⟩
  rintro u H1 ⟨v, m1, al1, x1, rl1, q1, p1⟩
  refine ⟨r, m1, al1, re.ext x1, rl1, p1.seq.mono ?_⟩
  rintro w H2 ⟨v2, m2, al2, x2, rl2, q2, p2⟩
  obtain ⟨z, e, p3⟩ := p2.opt
  exact ⟨al2, _, _, z, .dr (q1.1.ext x2 _ _) rl2, q2.1, e, fun u' r' => p3.val rl2 r'⟩
def partO (o : Option (Env → M → R Val)) : Env → M → R (Option Int) := match o with
  | none => fun _ m => .ok none m
  | some f => fun r m => (f r m).bind fun y m => opt (partOf y) m
inductive PartOk (X : L2.Cx) (S : Sg) : Option Expr → Option (Env → M → R Val) → Prop
  | none : PartOk X S none none
  | some {e : Expr} {f : Bool} {g : Env → M → R Val} : PE X e (tE S f g) → PartOk X S (some e) (some g)
theorem mo_part {o : Option Expr} {g : Option (Env → M → R Val)} (h : PartOk X S o g) : ∃ t, PO X o t ∧ ∀ s H Q, tPt S (partO g) s H Q → t s H Q := by
  cases h with
  | none => exact ⟨_, po_none, fun s H Q ⟨r, m, al, re, rl, p⟩ => Post.done (v := (none : Option Int)) p rl rfl⟩
  | some h =>
    refine ⟨_, po_some h, fun s H Q ⟨r, m, al, re, rl, p⟩ => ?_⟩
    refine ⟨r, m, al, re, rl, Post.mono (Post.seq p) ?_⟩
    rintro u H1 ⟨v, m1, al1, x1, rl1, q1, p1⟩
    obtain ⟨z, e, p3⟩ := p1.opt
    cases v <;> simp only [partOf, Option.some.injEq, reduceCtorEq] at e
    subst e
    cases q1.1
    exact ⟨_, rfl, p3.done rl1 rfl⟩
theorem me_slc (hK : X.K = S.K) {lo hi : Option Expr} {gl gh : Option (Env → M → R Val)} {p2 : Pos} (ha : PE X a (tE S f1 fa)) (hl : PartOk X S lo gl) (hh : PartOk X S hi gh) :
    PE X (.Subscript a (.Slice lo hi none p2) pos) (tE S true fun r m => (fa r m).bind fun x m => (partO gl r m).bind fun l m => (partO gh r m).bind fun h m => opt (slc (dr m x) l h) m) := by
  obtain ⟨tl, pl, el⟩ := mo_part hl
  obtain ⟨th, ph, eh⟩ := mo_part hh
  have ho : SlR X (rSlc S.K true) := hK ▸ sl_slc
  refine pe_imp (pe_slice ho ha pl ph) fun s H Q ⟨r, m, al, re, rl, p⟩ => ?_
  refine ⟨r, m, al, re, rl, p.seq.mono ?_⟩
  rintro u H1 ⟨v, m1, al1, x1, rl1, q1, p1⟩
  refine el _ _ _ ⟨r, m1, al1, re.ext x1, rl1, p1.seq.mono ?_⟩
  rintro w H2 ⟨v2, m2, al2, x2, rl2, q2, p2⟩
  refine eh _ _ _ ⟨r, m2, al2, (re.ext x1).ext x2, rl2, p2.seq.mono ?_⟩
  rintro w3 H3 ⟨v3, m3, al3, x3, rl3, q3, p3⟩
  obtain ⟨z, e, p4⟩ := p3.opt
  subst q2 q3
  exact ⟨al3, _, z, rl3.dm, .dr ((q1.1.ext x2 _ _).ext x3 _ _) rl3, e, .of p4 rl3 fun a h => (x1.dom a (x2.dom a (x3.dom a h)))⟩

/-! ### displays -/
variable {fs : Env → M → R (List Val)}
theorem ms_nil : PA X [] (tEs S fun _ m => .ok [] m) := pa_imp pa_nil fun s H Q ⟨r, m, al, re, rl, p⟩ => Post.done (v := ([] : List Val)) p rl .nil
theorem ms_cons (ha : PE X a (tE S f1 fa)) (hr : PA X es (tEs S fs)) (hs : starEach (a :: es) X.env = (false, eval a X.env) :: starEach es X.env) :
    PA X (a :: es) (tEs S fun r m => (fa r m).bind fun x m => (fs r m).bind fun xs m => .ok (x :: xs) m) := by
  refine pa_imp (pa_cons ha hr hs) fun s H Q ⟨r, m, al, re, rl, p⟩ => ?_
  refine ⟨r, m, al, re, rl, p.seq.mono ?_⟩
  rintro u H1 ⟨v, m1, al1, x1, rl1, q1, p1⟩
  refine ⟨r, m1, al1, re.ext x1, rl1, p1.seq.mono ?_⟩
  rintro w H2 ⟨v2, m2, al2, x2, rl2, q2, p2⟩
  exact p2.done rl2 (.cons (q1.1.ext x2 _ _) q2)
theorem me_tup {k : Nat} (h : PA X es (tEs S fs)) : PE X (.Tuple es k pos) (tE S false fun r m => (fs r m).bind fun vs m => if vs.length ≤ LINE then .ok (.tup vs) m else .stuck) := by
  refine pe_imp (pe_tup h) fun s H Q ⟨r, m, al, re, rl, p⟩ => ?_
  refine ⟨r, m, al, re, rl, p.seq.mono ?_⟩
  rintro u H1 ⟨v, m1, al1, x1, rl1, q1, p1⟩
  split at p1
  · rename_i hz
    exact ⟨by rw [q1.length]; exact LINE_eq ▸ hz, (Done.of p1 rl1 fun a h => x1.dom a h).tup q1⟩
  · exact p1.elim
theorem me_lst (h : PA X es (tEs S fs)) : PE X (.List es pos) (tE S true fun r m => (fs r m).bind fun vs m => if vs.length ≤ LINE then .ok (.lst vs) m else .stuck) := by
  refine pe_imp (pe_lst h) fun s H Q ⟨r, m, al, re, rl, p⟩ => ?_
  refine ⟨r, m, al, re, rl, p.seq.mono ?_⟩
  rintro u H1 ⟨v, m1, al1, x1, rl1, q1, p1⟩
  split at p1
  · rename_i hz
    exact ⟨by rw [q1.length]; exact LINE_eq ▸ hz, (Done.of p1 rl1 fun a h => x1.dom a h).lst rl1.dm q1⟩
  · exact p1.elim
/-- a fresh list becomes a cell -/
theorem me_new (ha : PE X a (tE S true fa)) : PE X a (tE S false fun r m => (fa r m).bind fun x m => match x with
    | .lst xs => .ok (.ref m.length) (m ++ [.lst xs])
    | _ => .stuck) := by
  refine pe_imp ha fun s H Q ⟨r, m, al, re, rl, p⟩ => ?_
  refine ⟨r, m, al, re, rl, ?_⟩
  dsimp only at p
  cases e : fa r m with
  | stuck => rw [e] at p; exact p
  | exc _ _ _ => rw [e] at p; exact p
  | ok v m1 =>
    rw [e] at p
    intro u H1 al1 x1 rl1 q1
    cases v with
    | lst xs =>
      obtain ⟨a', rfl, h0, rl2⟩ := q1.2 rfl xs rfl
      have p : Post S (relV S false H) al H s Q (.ok (.ref m1.length) (m1 ++ [.lst xs])) := p
      refine p (.ref a') H1 (al1.add [a']) ⟨?_, x1.keep, x1.dom⟩ rl2 ⟨.ref ?_, fun h => by cases h⟩
      · obtain ⟨be, hs, rfl, hb, hh⟩ := x1.more
        refine ⟨be ++ [a'], hs, by simp [Al.add], fun p hp => ?_, hh⟩
        rcases List.mem_append.mp hp with hp | hp
        · exact hb p hp
        · rw [List.mem_singleton] at hp; subst hp; exact h0
      · rw [← rl1.len]
        show (al1.c ++ [a'])[al1.c.length]? = _
        rw [List.getElem?_append_right (Nat.le_refl _)]
        simp
    | _ => exact p.elim
end
end MP
set_option Elab.async false
set_option linter.all false
set_option maxRecDepth 100000
set_option maxHeartbeats 1000000
/-! MPCall: the call of a def of the text's own, its end. -/
namespace MP
open PySem PySem.Spec PyProof.Rows L2

/-! ### what is handed back -/
mutual
theorem frz_rep {K : PySem.W.Frag} {n : Nat} {bs : List Nat} {al : Al} {m : M} {H : Hp} (rl : Rl K (n :: bs) al m H) : ∀ (f : Nat) (v v' : Val) (u : V), Rep K al H u v → frz n m f v = some v' → Rep K (al.cut n) H u v'
  | 0, _, _, _, _, e => by simp [frz] at e
  | f + 1, .ref k, v', _, h, e => by
    rw [frz] at e
    cases h with
    | ref h1 =>
      split at e
      · rename_i hk
        cases e
        exact Rep.low (.take n al) (.ref k) _ (.ref h1) (decide_eq_true hk)
      · rename_i hk
        obtain ⟨c, ec, q⟩ := rl.at h1
        cases c with
        | lst xs =>
          rw [ec] at e
          simp only [Option.map_eq_some_iff] at e
          obtain ⟨ys, e, rfl⟩ := e
          obtain ⟨us, e1, q1⟩ := q
          refine .lst e1 ⟨fun hm => ?_, fun hm => ?_⟩ (frzL_rep rl f xs ys us q1 e)
          obtain ⟨j, hj⟩ := List.getElem?_of_mem hm
          obtain ⟨h2, h3⟩ := take_some hj
          obtain ⟨l1, z1⟩ := List.getElem?_eq_some_iff.mp h1
          obtain ⟨l2, z2⟩ := List.getElem?_eq_some_iff.mp h3
          have := (List.getElem_inj rl.nd).mp (z1.trans z2.symm)
          omega
          exact rl.dis _ (List.mem_of_getElem? h1) hm
        | dct _ _ => exact q.elim
        | ins _ _ => exact q.elim
  | f + 1, .tup xs, v', _, h, e => by
    simp only [frz, Option.map_eq_some_iff] at e
    obtain ⟨ys, e, rfl⟩ := e
    cases h with
    | tup h1 h2 => exact .tup h1 (frzL_rep rl f xs ys _ h2 e)
  | f + 1, .lst xs, v', _, h, e => by
    simp only [frz, Option.map_eq_some_iff] at e
    obtain ⟨ys, e, rfl⟩ := e
    cases h with
    | lst h1 h2 h3 => exact .lst h1 ((Sub.take n al).off h2) (frzL_rep rl f xs ys _ h3 e)
  | f + 1, .non, v', _, h, e => by
    simp only [frz, Val.pure, if_true, Option.some.injEq] at e
    subst e
    exact h.low (.take n al) _ _ rfl
  | f + 1, .bl _, v', _, h, e => by
    simp only [frz, Val.pure, if_true, Option.some.injEq] at e
    subst e
    exact h.low (.take n al) _ _ rfl
  | f + 1, .int _, v', _, h, e => by
    simp only [frz, Val.pure, if_true, Option.some.injEq] at e
    subst e
    exact h.low (.take n al) _ _ rfl
  | f + 1, .str _, v', _, h, e => by
    simp only [frz, Val.pure, if_true, Option.some.injEq] at e
    subst e
    exact h.low (.take n al) _ _ rfl
  | f + 1, .scr _, v', _, h, e => by
    simp only [frz, Val.pure, if_true, Option.some.injEq] at e
    subst e
    exact h.low (.take n al) _ _ rfl
  | f + 1, .set _, _, _, h, _ => by cases h
  | f + 1, .dct _ _, _, _, h, _ => by cases h
  | f + 1, .exc _ _, _, _, h, _ => by cases h
theorem frzL_rep {K : PySem.W.Frag} {n : Nat} {bs : List Nat} {al : Al} {m : M} {H : Hp} (rl : Rl K (n :: bs) al m H) : ∀ (f : Nat) (vs vs' : List Val) (us : List V), RepL K al H us vs → frzL n m f vs = some vs' → RepL K (al.cut n) H us vs'
  | _, [], vs', _, h, e => by
    cases h
    simp only [frzL, Option.some.injEq] at e
    subst e
    exact .nil
  | 0, _ :: _, _, _, _, e => by simp [frzL] at e
  | f + 1, x :: r, vs', _, h, e => by
    simp only [frzL, Option.bind_eq_some_iff, Option.map_eq_some_iff] at e
    obtain ⟨y, e1, ys, e2, rfl⟩ := e
    cases h with
    | cons h1 h2 => exact .cons (frz_rep rl f x y _ h1 e1) (frzL_rep rl f r ys _ h2 e2)
end
/-- the frame's end: what it hands back, the cells below -/
theorem exit_rep {K : PySem.W.Frag} {n : Nat} {bs : List Nat} {al : Al} {m m' : M} {H : Hp} {fl : Bool} {v z : Val} {u : V} (rl : Rl K (n :: bs) al m H) (h : Rep K al H u v) (e : exitR fl n v m = .ok z m') :
    ∃ al', (al' = al.cut n ∨ ∃ a ∈ al.c.drop n, al' = (al.cut n).add [a]) ∧ Rl K bs al' m' H ∧ Rep K al' H u z := by
  unfold exitR at e
  split at e
  · rename_i hp
    cases e
    exact ⟨_, .inl rfl, rl.leave, h.low (.take n al) _ _ (lt_of_pure n _ hp)⟩
  · split at e
    · rename_i k _
      cases h with
      | ref h1 =>
        rename_i a
        split at e
        · rename_i hk
          cases e
          exact ⟨_, .inl rfl, rl.leave, Rep.low (.take n al) _ _ (.ref h1) (decide_eq_true hk)⟩
        · rename_i hk
          obtain ⟨c, ec, q⟩ := rl.at h1
          cases c with
          | lst xs =>
            rw [ec] at e
            dsimp only at e
            split at e
            · rename_i hp
              cases e
              obtain ⟨us, e1, q1⟩ := q
              have hn := rl.ble n List.mem_cons_self
              have hlen : (al.c.take n).length = n := by
                rw [List.length_take, rl.len]
                omega
              have hmlen : (m.take n).length = n := by
                rw [List.length_take]
                omega
              have ha : a ∉ al.c.take n := fun hm => by
                obtain ⟨j, hj⟩ := List.getElem?_of_mem hm
                obtain ⟨h2, h3⟩ := take_some hj
                obtain ⟨l1, z1⟩ := List.getElem?_eq_some_iff.mp h1
                obtain ⟨l2, z2⟩ := List.getElem?_eq_some_iff.mp h3
                have := (List.getElem_inj rl.nd).mp (z1.trans z2.symm)
                omega
              have hd : a ∈ al.c.drop n := by
                refine List.mem_of_getElem? (i := k - n) ?_
                rw [List.getElem?_drop, show n + (k - n) = k by omega]
                exact h1
              have sb : Sub n al ((al.cut n).add [a]) := by
                refine .by (fun i hi => ?_) (fun b hb => ?_) fun _ h => h
                · show (al.c.take n ++ [a])[i]? = _
                  rw [List.getElem?_append_left (by omega), List.getElem?_take, if_pos hi]
                · rcases List.mem_append.mp hb with hb | hb
                  · exact List.mem_of_mem_take hb
                  · rw [List.mem_singleton] at hb
                    subst hb
                    exact List.mem_of_getElem? h1
              have r1 := rl.leave
              refine ⟨_, .inr ⟨a, hd, rfl⟩, ⟨?_, by simp [Al.add, r1.len], fun i b c h2 h3 => ?_, fun b hb i c hi h3 => ?_, fun b hb => by
                rw [List.length_append]
                exact Nat.le_trans (r1.ble b hb) (Nat.le_add_right _ _), r1.top, r1.hid, fun x hx hm => ?_⟩, ?_⟩
              · show (al.c.take n ++ [a]).Nodup
                rw [List.nodup_append]
                refine ⟨r1.nd, by simp, fun x hx y hy => ?_⟩
                rw [List.mem_singleton] at hy
                subst hy
                rintro rfl
                exact ha hx
              · have h2 : (al.c.take n ++ [a])[i]? = some b := h2
                by_cases hi : i < n
                · rw [List.getElem?_append_left (by omega)] at h2
                  rw [List.getElem?_append_left (by omega)] at h3
                  have h2 := (take_some h2).2
                  have h3 := (take_some h3).2
                  have q2 := rl.cell i b c h2 h3
                  have l := rl.low n List.mem_cons_self i c hi h3
                  cases c with
                  | lst ys =>
                    obtain ⟨ws, e2, q2⟩ := q2
                    exact ⟨ws, e2, q2.low sb ys ws l⟩
                  | dct _ _ => exact q2.elim
                  | ins _ _ => exact q2.elim
                · rw [List.getElem?_append_right (by omega), hlen] at h2
                  rw [List.getElem?_append_right (by omega), hmlen] at h3
                  have hi0 : i - n = 0 := by
                    obtain ⟨l, _⟩ := List.getElem?_eq_some_iff.mp h2
                    simp at l
                    omega
                  rw [hi0] at h2 h3
                  simp at h2 h3
                  subst h2
                  subst h3
                  exact ⟨us, e1, q1.low sb xs us (ltAll_of_pure n xs hp)⟩
              · have hb' := r1.ble b hb
                rw [List.getElem?_append_left (by omega)] at h3
                exact r1.low b hb i c hi h3
              · rcases List.mem_append.mp hx with hx | hx
                · exact r1.dis x hx hm
                · rw [List.mem_singleton] at hx
                  subst hx
                  exact rl.dis _ (List.mem_of_getElem? h1) hm
              · refine .ref ?_
                show (al.c.take n ++ [a])[n]? = _
                rw [List.getElem?_append_right (by omega), hlen]
                simp
            · cases e
          | dct _ _ => exact q.elim
          | ins _ _ => exact q.elim
    · split at e
      · rename_i v' ef
        cases e
        exact ⟨_, .inl rfl, rl.leave, frz_rep rl _ _ _ _ h ef⟩
      · cases e
end MP
set_option Elab.async false
set_option linter.all false
set_option maxRecDepth 100000
set_option maxHeartbeats 1000000
/-! MPFn: defs that keep a promise where no repr runs around; their calls. -/
namespace MP
open PySem PySem.Spec PyProof.Rows L2

structure FnG (P : Program) (w : World) (K : PySem.W.Frag) (mg : Str → Option Value) (base : Heap) (k : Nat) (f : Addr) (fd : FuncData) (ps : List Str) (sp : Sp) : Prop where
  len : ∀ vs H Q E, sp vs H Q E → vs.length = ps.length
  run : ∀ (A : Around) (outer : List PySem.Env) (s : Shared) (H : Hp) (args : Args) (us : List Value) (vs : List V) (Q : VK) (E : XK), A.guards = some [] → Room k A →
    Env0 P w K mg base A outer s H → BindsTo s fd args (ps.zip us) → Vals vs us → sp vs H Q E → codeAny (model P w) A (.call (.ref f) args) (CR (L2.CX P w) outer P w H s Q E) s
theorem FnG.mono {P : Program} {w : World} {K : PySem.W.Frag} {mg : Str → Option Value} {base : Heap} {j k : Nat} {f : Addr} {fd : FuncData} {ps : List Str} {sp : Sp} (F : FnG P w K mg base j f fd ps sp) (h : j ≤ k) : FnG P w K mg base k f fd ps sp :=
  ⟨F.len, fun A o s H a us vs Q E g r => F.run A o s H a us vs Q E g (r.mono h)⟩
/-- a def's body keeps it -/
theorem fnG_of {P : Program} {w : World} {K : PySem.W.Frag} {mg : Str → Option Value} {base : Heap} {k : Nat} {f : Addr} {x qual : Str} {st : Stmt} {fd : FuncData} {N ps : List Str} {sp : Sp}
    (F : FunD K x qual (defArgs st) (defBody st) (defScope st) [] [] f fd) (S : FnScope N ps (defScope st)) (len : ∀ vs H Q E, sp vs H Q E → vs.length = ps.length)
    (hb : ∀ (cdv : Value) (A : Around) (outer : List PySem.Env) (s : Shared) (H : Hp) (vs : List V) (Q : VK) (E : XK), A.guards = some [] → Room k (A.deeper (envOfC qual (defScope st) s.heap.objs.size f cdv)) → sp vs H Q E →
      ∃ t, PSs (cxOf (L2.CX P w) P w K mg base N qual (defScope st) f cdv A outer s H E) (defBody st) t ∧ t { nx := fun _ H' => Q .non H', rt := Q } (start N vs) H) : FnG P w K mg base (k + 1) f fd ps sp := by
  obtain ⟨oc, od, dV, kV, doc, pm, an, cdv, ct, osl, rfl, lk, hcd, _, _⟩ := F.ex
  refine ⟨len, fun A outer s H args us vs Q E hg hr e0 hbi rv hsp => ?_⟩
  have ln := len _ _ _ _ hsp
  have kx : K.In s.heap := e0.mod.kin.keeps fun b o e => (e0.bs b o e).1
  have nl : s.heap.NoLimit := e0.mod.nolimit.keeps fun b o e => (e0.bs b o e).1
  have hkinds : ∀ y ∈ ps.zip us, (defScope st).names.lookup y.1 = some .local ∨ ((defScope st).names.lookup y.1 = some .cell ∧ ((cellsFrom (s.heap.objs.size + 1) (defScope st).names []).lookup y.1).isSome = true) := by
    rintro ⟨n, v⟩ hy
    rcases S.par n (List.of_mem_zip hy).1 with q | q
    · exact .inl q
    · exact .inr ⟨q, PySem.W.cellsFrom_some _ _ _ (.inl q)⟩
  refine codeAny_call_function hr.depth (kx _ _ lk) rfl S.co S.gen rfl (PySem.W.codeRec_of kx hcd) (hbi _ _ _ _ ?_)
  refine wpAny_newFunctionEnv_cells S.kind hkinds fun env he s1 x => ?_
  subst he
  refine ⟨nl.keeps x.toInCall.keep, codeAny_func ?_⟩
  obtain ⟨t, ht, hq⟩ := hb cdv A outer s H vs Q E hg (hr.deeper _) hsp
  have J0 := inv_start (CX := L2.CX P w) (E := E) S hr.hd e0 ln rv x
  refine wpAny_mono (ht.run [] s1 (start N vs) H _ J0 hq) ?_ fun e s' hs => hs
  rintro fl s' hs
  cases fl with
  | ret u =>
    obtain ⟨v, σ', H', J, r, q⟩ := hs
    exact ⟨v, H', J.os, J.bare, J.base, J.hok, r, q⟩
  | next =>
    obtain ⟨σ', H', J, q⟩ := hs
    exact ⟨V.non, H', J.os, J.bare, J.base, J.hok, rfl, q⟩
  | brk =>
    obtain ⟨_, _, _, q⟩ := hs
    exact q.elim
  | cont =>
    obtain ⟨_, _, _, q⟩ := hs
    exact q.elim

/-- a call: positional and by keywords; g tells the parameters' order -/
structure KwB (K : PySem.W.Frag) (fd : FuncData) (ps : List Str) (n : Nat) (ks : List Str) (perm : List Nat) : Prop where
  to : ∀ (s : Shared) (us ws : List Value), K.In s.heap → us.length = n → ws.length = ks.length → BindsTo s fd ⟨us, ks.zip ws⟩ (ps.zip (perm.map fun i => (us ++ ws).getD i .none))
  len : perm.length = ps.length
  lt : ∀ i ∈ perm, i < n + ks.length
section
variable {X : L2.Cx} {k : Nat} {f : Addr} {fd : FuncData} {ps : List Str} {sp : Sp} {W : WX} {x : Str} {p pos : Pos} {e : Expr} {es : List Expr} {ta : TA}
theorem runG {pins : List (Addr × Obj)} {σ : L2.St} {H : Hp} {s : Shared} {Q : VK} {args : Args} {us : List Value} {vs : List V} (F : FnG X.prog X.w X.K X.mg X.base k f fd ps sp) (hr : Room k X.A) (hg : X.A.guards = some []) (tk : Takes X W)
    (I : Inv X pins σ H s) (hb : BindsTo s fd args (ps.zip us)) (r : Vals vs us) (h : sp vs H Q (WE W σ)) : wpAny (model X.prog X.w) X.A (PySem.call (.ref f) args.pos args.kw) (EP X pins σ Q) X.xe s := by
  refine wpAny_call (codeAny_mono (F.run X.A X.stack s H args us vs Q (WE W σ) hg hr I.env0 hb r h) ?_)
  intro res s' hq
  cases res with
  | error u => exact tk u s' (XE.of_call I (fun _ _ _ z => z) hq)
  | ok fl =>
    cases fl with
    | ret u => exact I.after hq
    | next => exact hq.elim
    | brk => exact hq.elim
    | cont => exact hq.elim
theorem pe_callG (F : FnG X.prog X.w X.K X.mg X.base k f fd ps sp) (hr : Room k X.A) (hg : X.A.guards = some []) (tk : Takes X W) (hgl : Gl X x) (hm : X.mg x = some (.ref f)) (hk : PySem.W.keepIn X.K (.ref f) = true) (hb : Binds X.K fd ps [])
    (ha : PA X (e :: es) ta) (hdb : (x == ("__debug__" : Str)) = false) (he : starEach (e :: es) X.env = (false, eval e X.env) :: starEach es X.env) (hpl : (backTo pos (starEach es X.env)).any (·.1) = false) :
    PE X (.Call (.Name x p) (e :: es) [] pos) (fun σ H Q => ta σ H fun vs H1 => sp vs H1 Q (WE W σ)) := by
  refine ⟨fun pins s σ H Q I h => wpAny_Call_Name_kw (ld_glob I hgl hm ?_ hdb)⟩
  refine PySem.W.callWith_K (h₀ := X.base) I.ok.mod.kin hk (thn (ha.run pos pins s σ H _ I h) ?_) he hpl
  rintro us s1 ⟨vs, H1, I1, r, q⟩
  refine ⟨I1.kIn, ?_⟩
  have b := hb s1 us I1.kIn (by rw [List.append_nil, ← r.length]; exact F.len _ _ _ _ q)
  rw [List.append_nil] at b
  exact runG (args := ⟨us, []⟩) F hr hg tk I1 b r q
theorem pe_callG0 (F : FnG X.prog X.w X.K X.mg X.base k f fd ps sp) (hr : Room k X.A) (hg : X.A.guards = some []) (tk : Takes X W) (hgl : Gl X x) (hm : X.mg x = some (.ref f)) (hk : PySem.W.keepIn X.K (.ref f) = true) (hb : Binds X.K fd ps [])
    (hdb : (x == ("__debug__" : Str)) = false) : PE X (.Call (.Name x p) [] [] pos) (fun σ H Q => sp [] H Q (WE W σ)) := by
  refine ⟨fun pins s σ H Q I h => wpAny_Call_Name_kw (ld_glob I hgl hm ?_ hdb)⟩
  have b := hb s [] I.kIn (F.len _ _ _ _ h)
  exact PySem.W.callWith_K0 I.kIn hk (runG (args := ⟨[], []⟩) F hr hg tk I b .nil h)
theorem Vals.getD {xs : List V} {us : List Value} (r : Vals xs us) (i : Nat) (hi : i < xs.length) : RelV (xs.getD i .non) (us.getD i .none) := by
  obtain ⟨u, e, q⟩ := r.get (i := i) (x := xs[i]) (List.getElem?_eq_getElem hi)
  rw [List.getD_eq_getElem?_getD, List.getD_eq_getElem?_getD, List.getElem?_eq_getElem hi, e]
  exact q
theorem Vals.pick {xs : List V} {us : List Value} (r : Vals xs us) : ∀ (perm : List Nat), (∀ i ∈ perm, i < xs.length) → Vals (perm.map fun i => xs.getD i .non) (perm.map fun i => us.getD i .none)
  | [], _ => .nil
  | i :: l, h => .cons (Vals.getD r i (h i List.mem_cons_self)) (Vals.pick r l fun j hj => h j (List.mem_cons_of_mem _ hj))
variable {n : Nat} {ks : List Str} {perm : List Nat} {kws : List Keyword} {tk' : TA}
theorem pe_callKG (F : FnG X.prog X.w X.K X.mg X.base k f fd ps sp) (hr : Room k X.A) (hg : X.A.guards = some []) (tk : Takes X W) (hgl : Gl X x) (hm : X.mg x = some (.ref f)) (hk : PySem.W.keepIn X.K (.ref f) = true) (hb : KwB X.K fd ps n ks perm)
    (ha : PA X (e :: es) ta) (hkw : PK X kws tk') (hdb : (x == ("__debug__" : Str)) = false) (he : starEach (e :: es) X.env = (false, eval e X.env) :: starEach es X.env)
    (hall : (backToKw pos (keywordEach kws X.env)).all (·.1.isSome) = true) (hks : (backToKw pos (keywordEach kws X.env)).filterMap (·.1) = ks)
    (hpl : ((backTo pos (starEach (e :: es) X.env)).any (·.1) || (backToKw pos (keywordEach kws X.env)).any (·.1.isNone)) = false) :
    PE X (.Call (.Name x p) (e :: es) kws pos) (fun σ H Q => ta σ H fun vs H1 => tk' σ H1 fun zs H2 => vs.length = n ∧ zs.length = ks.length ∧ sp (perm.map fun i => (vs ++ zs).getD i .non) H2 Q (WE W σ)) := by
  refine ⟨fun pins s σ H Q I h => wpAny_Call_Name_kw (ld_glob I hgl hm ?_ hdb)⟩
  refine PySem.W.callWith_KW (h₀ := X.base) I.ok.mod.kin hk hall (thn (ha.run pos pins s σ H _ I h) ?_) hpl he
  rintro us s1 ⟨vs, H1, I1, r, q⟩
  refine thn (hkw.run pos pins s1 σ H1 _ I1 q) ?_
  rintro ws s2 ⟨zs, H2, I2, rz, l1, l2, q2⟩
  refine ⟨I2.kIn, ?_⟩
  rw [hks]
  have rr := Vals.append r rz
  have b := hb.to s2 us ws I2.kIn (r.length.symm.trans l1) (rz.length.symm.trans l2)
  exact runG (args := ⟨us, ks.zip ws⟩) F hr hg tk I2 b (Vals.pick rr perm fun i hi => by
    have := hb.lt i hi
    rw [List.length_append]
    omega) q2
theorem pe_callKG0 (F : FnG X.prog X.w X.K X.mg X.base k f fd ps sp) (hr : Room k X.A) (hg : X.A.guards = some []) (tk : Takes X W) (hgl : Gl X x) (hm : X.mg x = some (.ref f)) (hk : PySem.W.keepIn X.K (.ref f) = true) (hb : KwB X.K fd ps 0 ks perm)
    (hkw : PK X kws tk') (hdb : (x == ("__debug__" : Str)) = false)
    (hall : (backToKw pos (keywordEach kws X.env)).all (·.1.isSome) = true) (hks : (backToKw pos (keywordEach kws X.env)).filterMap (·.1) = ks)
    (hpl : ((backTo pos (starEach [] X.env)).any (·.1) || (backToKw pos (keywordEach kws X.env)).any (·.1.isNone)) = false) :
    PE X (.Call (.Name x p) [] kws pos) (fun σ H Q => tk' σ H fun zs H2 => zs.length = ks.length ∧ sp (perm.map fun i => zs.getD i .non) H2 Q (WE W σ)) := by
  refine ⟨fun pins s σ H Q I h => wpAny_Call_Name_kw (ld_glob I hgl hm ?_ hdb)⟩
  refine PySem.W.callWith_KW0 (h₀ := X.base) I.ok.mod.kin hk hall (thn (hkw.run pos pins s σ H _ I h) ?_) hpl
  rintro ws s2 ⟨zs, H2, I2, rz, l2, q2⟩
  refine ⟨I2.kIn, ?_⟩
  rw [hks]
  have b := hb.to s2 [] ws I2.kIn rfl (rz.length.symm.trans l2)
  exact runG (args := ⟨[], ks.zip ws⟩) F hr hg tk I2 b (Vals.pick rz perm fun i hi => by
    have := hb.lt i hi
    omega) q2
end
end MP
set_option Elab.async false
set_option linter.all false
set_option maxRecDepth 100000
set_option maxHeartbeats 1000000
/-! MPSt: targets, statements, loops, comprehensions. -/
namespace MP
open PySem PySem.Spec PyProof.Rows L2

def PostS (S : Sg) (al : Al) (H : Hp) (D : Ends) : Rs → Prop
  | .nxt r' m' => ∀ s' H' al', Ext al al' H H' → Rl S.K S.bs al' m' H' → RE S.K al' H' s' r' → D.nx s' H'
  | .ret v m' => ∀ u H' al', Ext al al' H H' → Rl S.K S.bs al' m' H' → Rep S.K al' H' u v → D.rt u H'
  | .exc c fs r' m' => ∀ cls d s' H' al', Ext al al' H H' → Rl S.K S.bs al' m' H' → RE S.K al' H' s' r' → S.xr al' H' cls d c fs → S.W cls d s' H'
  | .stuck => False
def tS (S : Sg) (f : Env → M → Rs) : TS := fun D s H => ∃ r m al, RE S.K al H s r ∧ Rl S.K S.bs al m H ∧ PostS S al H D (f r m)
section
variable {S : Sg} {al al1 : Al} {H H1 : Hp} {s : L2.St} {D : Ends}
theorem PostS.shift {r : Rs} (x : Ext al al1 H H1) (h : PostS S al H D r) : PostS S al1 H1 D r := by
  cases r with
  | nxt r' m' => exact fun s' H' al' y => h s' H' al' (x.trans y)
  | ret v m' => exact fun u H' al' y => h u H' al' (x.trans y)
  | exc c fs r' m' => exact fun cls d s' H' al' y => h cls d s' H' al' (x.trans y)
  | stuck => exact h
/-- an expression ahead of the rest -/
theorem PostS.thn {b g : Type} {rel : Al → Hp → g → b → M → Prop} {rr : R b} {r : Env} {k : b → M → Rs} (h : PostS S al H D (rr.thn r k)) (re : RE S.K al H s r) :
    Post S rel al H s (fun u H1 => ∃ v m1 al1, Ext al al1 H H1 ∧ Rl S.K S.bs al1 m1 H1 ∧ rel al1 H1 u v m1 ∧ PostS S al1 H1 D (k v m1)) rr := by
  cases rr with
  | ok v m' => exact fun u H' al' x rl q => ⟨v, m', al', x, rl, q, h.shift x⟩
  | exc c fs m' => exact fun cls d H' al' x rl q => h cls d s H' al' x rl (re.ext x) q
  | stuck => exact h
/-- a statement ahead of the rest -/
theorem PostS.seq {rr : Rs} {k : Env → M → Rs} (h : PostS S al H D (rr.bind k)) : PostS S al H { D with nx := tS S k D } rr := by
  cases rr with
  | nxt r' m' => exact fun s' H' al' x rl re => ⟨r', m', al', re, rl, PostS.shift x h⟩
  | ret v m' => exact h
  | exc c fs r' m' => exact h
  | stuck => exact h
theorem PostS.seq' {D' : Ends} {rr : Rs} {k : Env → M → Rs} (h : PostS S al H D (rr.bind k)) (hr : D'.rt = D.rt)
    (hn : ∀ s' H' r' m' al', Ext al al' H H' → Rl S.K S.bs al' m' H' → RE S.K al' H' s' r' → PostS S al' H' D (k r' m') → D'.nx s' H') : PostS S al H D' rr := by
  cases rr with
  | nxt r' m' => exact fun s' H' al' x rl re => hn s' H' r' m' al' x rl re (PostS.shift x h)
  | ret v m' => exact fun u H' al' x rl q => hr ▸ h u H' al' x rl q
  | exc c fs r' m' => exact h
  | stuck => exact h
end
theorem ps_imp {X : L2.Cx} {st : Stmt} {t t' : TS} (h : PS X st t) (f : ∀ D s H, t' D s H → t D s H) : PS X st t' := ⟨fun pins s σ H D I q => h.run pins s σ H D I (f _ _ _ q)⟩
theorem pss_imp {X : L2.Cx} {st : List Stmt} {t t' : TS} (h : PSs X st t) (f : ∀ D s H, t' D s H → t D s H) : PSs X st t' := ⟨fun pins s σ H D I q => h.run pins s σ H D I (f _ _ _ q)⟩
theorem pg_imp {X : L2.Cx} {e : Expr} {t t' : TG} (h : PG X e t) (f : ∀ v s H Q, t' v s H Q → t v s H Q) : PG X e t' := ⟨fun pins s σ H v u Q I r q => h.run pins s σ H v u Q I r (f _ _ _ _ q)⟩
theorem pgs_imp {X : L2.Cx} {e : List Expr} {t t' : TGs} (h : PGs X e t) (f : ∀ v s H Q, t' v s H Q → t v s H Q) : PGs X e t' := ⟨fun pins s σ H v u Q I r q => h.run pins s σ H v u Q I r (f _ _ _ _ q)⟩

/-! ### targets -/
mutual
def Tg.slots : Tg → List Nat
  | .nm i => [i]
  | .tup ts => slotsL ts
  | .star a i b => slotsL a ++ i :: slotsL b
def slotsL : List Tg → List Nat
  | [] => []
  | t :: r => t.slots ++ slotsL r
end
/-- but for the slots is, s' is s -/
def Fr (is : List Nat) (s s' : L2.St) : Prop := s'.length = s.length ∧ ∀ i, i ∉ is → s'[i]? = s[i]?
theorem Fr.refl (is : List Nat) (s : L2.St) : Fr is s s := ⟨rfl, fun _ _ => rfl⟩
theorem Fr.set {s : L2.St} (i : Nat) (o : Option V) : Fr [i] s (s.set i o) := ⟨List.length_set, fun j hj => by
  rw [List.getElem?_set_ne]
  intro e
  subst e
  exact hj List.mem_cons_self⟩
theorem Fr.trans {is js : List Nat} {s s1 s2 : L2.St} (h : Fr is s s1) (h' : Fr js s1 s2) : Fr (is ++ js) s s2 := ⟨h'.1.trans h.1, fun i hi => by
  rw [List.mem_append, not_or] at hi
  exact (h'.2 i hi.2).trans (h.2 i hi.1)⟩
theorem wipe_in {s : L2.St} {i : Nat} : ∀ {vs : List Nat}, i ∈ vs → i < s.length → (L2.wipe s vs)[i]? = some none
  | v :: vs, h, hl => by
    unfold L2.wipe
    by_cases e : v = i
    · subst e
      rw [List.getElem?_set_self (by rw [wipe_length]; exact hl)]
    · rw [List.getElem?_set_ne e]
      rcases List.mem_cons.mp h with h | h
      · exact absurd h.symm e
      · exact wipe_in h hl
theorem Fr.wipe {is own : List Nat} {s s' : L2.St} (h : Fr is s s') (ho : ∀ i ∈ is, i ∈ own) : L2.wipe s' own = L2.wipe s own := by
  refine List.ext_getElem? fun i => ?_
  by_cases hi : i ∈ own
  · by_cases hl : i < s.length
    · rw [wipe_in hi hl, wipe_in hi (by rw [h.1]; exact hl)]
    · rw [List.getElem?_eq_none (by rw [wipe_length, h.1]; omega), List.getElem?_eq_none (by rw [wipe_length]; omega)]
  · rw [wipe_out hi, wipe_out hi]
    exact h.2 i fun z => hi (ho i z)
def tG (S : Sg) (tg : Tg) : TG := fun u s H Q => ∃ r al v r', RE S.K al H s r ∧ RepD S.K al H u v ∧ (∀ i, tg = .nm i → Rep S.K al H u v) ∧ bindT tg v r = some r' ∧ ∀ s', RE S.K al H s' r' → Fr tg.slots s s' → Q s' H
def tGs (S : Sg) (ts : List Tg) : TGs := fun us s H Q => ∃ r al vs r', RE S.K al H s r ∧ RepL S.K al H us vs ∧ bindTs ts vs r = some r' ∧ ∀ s', RE S.K al H s' r' → Fr (slotsL ts) s s' → Q s' H
section
variable {X : L2.Cx} {S : Sg} {e : Expr} {es : List Expr} {pos : Pos} {tg : Tg} {ts : List Tg}
theorem mg_name {i : Nat} {x : Str} (hN : X.N.Nodup) (hi : X.N[i]? = some x) (hx : Loc X.env.scope x) (hf : X.fn x = true ∨ X.env.scope.names.lookup x = some .local) : PG X (.Name x pos) (tG S (.nm i)) := by
  refine pg_imp (pg_name hN hi hx hf) ?_
  rintro u s H Q ⟨r, al, v, r', re, rd, rp, e, k⟩
  simp only [bindT] at e
  split at e
  · cases e
    exact k _ (re.set (rp i rfl) i) (.set i _)
  · cases e
theorem mgs_nil : PGs X [] (tGs S []) := by
  refine pgs_imp pgs_nil ?_
  rintro us s H Q ⟨r, al, vs, r', re, rl, e, k⟩
  cases rl with
  | nil => simp only [bindTs, Option.some.injEq] at e; subst e; exact ⟨rfl, k s re (.refl _ _)⟩
  | cons _ _ => simp [bindTs] at e
theorem mgs_cons (h1 : PG X e (tG S tg)) (h2 : PGs X es (tGs S ts)) (hs : (assignEach (e :: es) X.env).map (·.2) = assign e X.env :: (assignEach es X.env).map (·.2)) : PGs X (e :: es) (tGs S (tg :: ts)) := by
  refine pgs_imp (pgs_cons h1 h2 hs) ?_
  rintro us s H Q ⟨r, al, vs, r', re, rl, e, k⟩
  cases rl with
  | nil => simp [bindTs] at e
  | @cons u us v vs r1 r2 =>
    simp only [bindTs, Option.bind_eq_some_iff] at e
    obtain ⟨ro, e1, e2⟩ := e
    exact ⟨u, us, rfl, r, al, v, ro, re, .of r1, fun _ _ => r1, e1, fun s' re' f1 => ⟨ro, al, vs, r', re', r2, e2, fun s2 re2 f2 => k s2 re2 (f1.trans f2)⟩⟩
/-- a tuple of targets, over a tuple or a list -/
theorem mg_tup (hK : X.K = S.K) {k : Nat} (hc : X.calm = true) (h : PGs X es (tGs S ts)) (hl : es.length = ts.length) (hn : (assignEach es X.env).length = es.length) (hst : (assignEach es X.env).findIdx? (·.1) = none) : PG X (.Tuple es k pos) (tG S (.tup ts)) := by
  have len_of : ∀ (ts : List Tg) (vs : List Val) (r r' : Env), bindTs ts vs r = some r' → vs.length = ts.length := by
    intro ts
    induction ts with
    | nil => intro vs r r' e; cases vs <;> simp [bindTs] at e ⊢
    | cons t ts ih =>
      intro vs r r' e
      cases vs with
      | nil => simp [bindTs] at e
      | cons v vs =>
        simp only [bindTs, Option.bind_eq_some_iff] at e
        obtain ⟨ro, _, e2⟩ := e
        simp [ih vs ro r' e2]
  refine ⟨fun pins s σ H u w Q I rw ⟨r, al, v, r', re, rd, _, e, kk⟩ => ?_⟩
  cases v with
  | tup vs =>
    have e : bindTs ts vs r = some r' := by
      simp only [bindT] at e
      exact e
    obtain ⟨a, us, rfl, ha, ra⟩ := rd.tuple
    exact (pg_tup (pos := pos) (k := k) hc h hn hst).run pins s σ H _ w Q I rw ⟨a, us, rfl, hK ▸ ha, by rw [ra.length, len_of _ _ _ _ e, hl], r, al, _, r', re, ra, e, kk⟩
  | lst vs =>
    have e : bindTs ts vs r = some r' := by
      simp only [bindT] at e
      exact e
    obtain ⟨a, us, rfl, ha, ra⟩ := rd.list
    exact (pg_lst (pos := pos) (k := k) hc h hn hst).run pins s σ H _ w Q I rw ⟨a, us, rfl, .of ha, by rw [ra.length, len_of _ _ _ _ e, hl], r, al, _, r', re, ra, e, kk⟩
  | _ => simp [bindT] at e
end

/-! ### statements -/
section
variable {X : L2.Cx} {S : Sg} {e a b c : Expr} {st : Stmt} {rest body : List Stmt} {f1 f2 f3 : Bool} {fa fb fc : Env → M → R Val} {gs hs ks : Env → M → Rs} {pos : Pos} {tg : Tg} {tge : Expr}
theorem mss_nil : PSs X [] (tS S fun r m => .nxt r m) := pss_imp pss_nil fun D s H ⟨r, m, al, re, rl, p⟩ => p s H al (.refl _ _) rl re
theorem mss_cons (h1 : PS X st (tS S gs)) (h2 : PSs X rest (tS S hs)) : PSs X (st :: rest) (tS S fun r m => (gs r m).bind fun r m => hs r m) :=
  pss_imp (pss_cons h1 h2) fun D s H ⟨r, m, al, re, rl, p⟩ => ⟨r, m, al, re, rl, p.seq⟩
theorem ms_asg (he : PE X e (tE S f1 fa)) (hg : PG X tge (tG S tg)) (hs : swapsWithSole [tge] e pos.line X.env = pure false) (hw : swappedStores [tge] e X.env = pure none) (h1 : (assignEach [tge] X.env).map (·.2) = [assign tge X.env]) :
    PS X (.Assign [tge] e pos) (tS S fun r m => (fa r m).thn r fun v m => match bindT tg (tg.see m v) r with
      | some r => .nxt r m
      | none => .stuck) := by
  refine ps_imp (ps_asg he hg hs hw h1) fun D s H ⟨r, m, al, re, rl, p⟩ => ?_
  refine ⟨r, m, al, re, rl, (p.thn re).mono ?_⟩
  rintro u H1 ⟨v, m1, al1, x1, rl1, q1, p1⟩
  cases eb : bindT tg (tg.see m1 v) r with
  | none => rw [eb] at p1; exact p1.elim
  | some r' =>
    rw [eb] at p1
    refine ⟨r, al1, tg.see m1 v, r', re.ext x1, ?_, ?_, eb, fun s' re' _ => p1 s' H1 al1 (.refl _ _) rl1 re'⟩
    · cases tg with
      | nm i => exact .of q1.1
      | tup _ => exact .dr q1.1 rl1
      | star _ _ _ => exact .dr q1.1 rl1
    · rintro i rfl
      exact q1.1
theorem ms_exp (he : PE X e (tE S f1 fa)) (hs : swapsWith e none pos.line X.env = pure false) : PS X (.Expr e pos) (tS S fun r m => (fa r m).thn r fun _ m => .nxt r m) := by
  refine ps_imp (ps_expr he hs) fun D s H ⟨r, m, al, re, rl, p⟩ => ?_
  refine ⟨r, m, al, re, rl, (p.thn re).mono ?_⟩
  rintro u H1 ⟨v, m1, al1, x1, rl1, q1, p1⟩
  exact p1 s H1 al1 (.refl _ _) rl1 (re.ext x1)
theorem ms_ret (he : PE X e (tE S f1 fa)) : PS X (.Return (some e) pos) (tS S fun r m => (fa r m).thn r fun v m => .ret v m) := by
  refine ps_imp (ps_ret he) fun D s H ⟨r, m, al, re, rl, p⟩ => ?_
  refine ⟨r, m, al, re, rl, (p.thn re).mono ?_⟩
  rintro u H1 ⟨v, m1, al1, x1, rl1, q1, p1⟩
  exact p1 u H1 al1 (.refl _ _) rl1 q1.1
theorem ms_retn : PS X (.Return none pos) (tS S fun _ m => .ret .non m) := ps_imp ps_retN fun D s H ⟨r, m, al, re, rl, p⟩ => p .non H al (.refl _ _) rl .non
theorem ms_pass : PS X (.Pass pos) (tS S fun r m => .nxt r m) := ps_imp ps_pass fun D s H ⟨r, m, al, re, rl, p⟩ => p s H al (.refl _ _) rl re
theorem ms_if {gc : Env → M → R Bool} {sa sb : List Stmt} (hc : PT X c (tBl S gc)) (ha : PSs X sa (tS S gs)) (hb : PSs X sb (tS S hs)) : PS X (.If c sa sb pos) (tS S fun r m => (gc r m).thn r fun k m => if k then gs r m else hs r m) := by
  refine ps_imp (ps_if hc ha hb) fun D s H ⟨r, m, al, re, rl, p⟩ => ?_
  refine ⟨r, m, al, re, rl, (p.thn re).mono ?_⟩
  rintro u H1 ⟨v, m1, al1, x1, rl1, q1, p1⟩
  cases q1
  cases u with
  | true => exact ⟨r, m1, al1, re.ext x1, rl1, p1⟩
  | false => exact ⟨r, m1, al1, re.ext x1, rl1, p1⟩
end
end MP
set_option Elab.async false
set_option linter.all false
set_option maxRecDepth 100000
set_option maxHeartbeats 1000000
/-! MPLoop: what is walked; for, while, comprehensions. -/
namespace MP
open PySem PySem.Spec PyProof.Rows L2

mutual
theorem same_eq : ∀ a b : Val, a.same b = true → a = b
  | .non, b, h => by cases b <;> simp [Val.same] at h ⊢
  | .bl _, b, h => by cases b <;> simp_all [Val.same]
  | .int _, b, h => by cases b <;> simp_all [Val.same]
  | .str _, b, h => by cases b <;> simp_all [Val.same]
  | .ref _, b, h => by cases b <;> simp_all [Val.same]
  | .scr _, b, h => by cases b <;> simp_all [Val.same]
  | .tup xs, b, h => by
    cases b <;> first | (simp [Val.same] at h; done) | skip
    rw [sameL_eq xs _ h]
  | .lst xs, b, h => by
    cases b <;> first | (simp [Val.same] at h; done) | skip
    rw [sameL_eq xs _ h]
  | .set xs, b, h => by
    cases b <;> first | (simp [Val.same] at h; done) | skip
    rw [sameL_eq xs _ h]
  | .dct xs ys, b, h => by
    cases b <;> first | (simp [Val.same] at h; done) | skip
    simp only [Val.same, Bool.and_eq_true] at h
    rw [sameL_eq xs _ h.1, sameL_eq ys _ h.2]
  | .exc c xs, b, h => by
    cases b <;> first | (simp [Val.same] at h; done) | skip
    simp only [Val.same, Bool.and_eq_true, beq_iff_eq] at h
    rw [h.1, sameL_eq xs _ h.2]
theorem sameL_eq : ∀ a b : List Val, sameL a b = true → a = b
  | [], b, h => by cases b <;> simp [sameL] at h ⊢
  | x :: a, b, h => by
    cases b with
    | nil => simp [sameL] at h
    | cons y b =>
      simp only [sameL, Bool.and_eq_true] at h
      rw [same_eq x y h.1, sameL_eq a b h.2]
end
theorem Cell.same_eq {a b : Cell} (h : a.same b = true) : a = b := by
  cases a <;> cases b <;> first | (simp [Cell.same] at h; done) | skip
  · rw [sameL_eq _ _ h]
  · simp only [Cell.same, Bool.and_eq_true] at h
    rw [sameL_eq _ _ h.1, sameL_eq _ _ h.2]
  · simp only [Cell.same, Bool.and_eq_true, beq_iff_eq] at h
    rw [h.1, sameL_eq _ _ h.2]
theorem stands_mem {m m' : M} : ∀ {w : List Nat}, stands m m' w = true → ∀ n ∈ w, ∃ c, m[n]? = some c ∧ m'[n]? = some c
  | [], _, _, h => by cases h
  | n :: w, h, k, hk => by
    simp only [stands, Bool.and_eq_true] at h
    rcases List.mem_cons.mp hk with rfl | hk
    · cases e1 : m[k]? with
      | none => rw [e1] at h; simp at h
      | some a =>
        cases e2 : m'[k]? with
        | none => rw [e1, e2] at h; simp at h
        | some b =>
          rw [e1, e2] at h
          have := Cell.same_eq h.1
          subst this
          exact ⟨a, rfl, rfl⟩
    · exact stands_mem h.2 k hk
theorem stands_append {m m' : M} : ∀ {w w' : List Nat}, stands m m' (w ++ w') = (stands m m' w && stands m m' w')
  | [], _ => by simp [stands]
  | n :: w, w' => by simp only [List.cons_append, stands, stands_append (w := w), Bool.and_assoc]

/-- J walks the values xs, as long as the cells w stand -/
def WalkR (S : Sg) (al : Al) (H : Hp) (m : M) (J : L2.It) (xs : List Val) (w : List Nat) : Prop :=
  stands m m w = true ∧ ∀ al' m' H' (i : Nat), Ext al al' H H' → Rl S.K S.bs al' m' H' → stands m m' w = true →
    (∀ x, xs[i]? = some x → J.go i H' ∧ ∀ u H'', J.yld i H' u H'' → Same H' H'' ∧ Rep S.K al' H'' u x) ∧ (xs.length ≤ i → J.stop i H')
mutual
theorem same_refl : ∀ v : Val, v.same v = true
  | .non => rfl
  | .bl _ => by simp [Val.same]
  | .int _ => by simp [Val.same]
  | .str _ => by simp [Val.same]
  | .ref _ => by simp [Val.same]
  | .scr _ => by simp [Val.same]
  | .tup xs => by simp only [Val.same, sameL_refl xs]
  | .lst xs => by simp only [Val.same, sameL_refl xs]
  | .set xs => by simp only [Val.same, sameL_refl xs]
  | .dct ks vs => by simp only [Val.same, sameL_refl ks, sameL_refl vs, Bool.and_self]
  | .exc c fs => by simp only [Val.same, sameL_refl fs, beq_self_eq_true, Bool.and_self]
theorem sameL_refl : ∀ vs : List Val, sameL vs vs = true
  | [] => rfl
  | v :: vs => by simp only [sameL, same_refl v, sameL_refl vs, Bool.and_self]
end
theorem Cell.same_refl : ∀ c : Cell, c.same c = true
  | .lst xs => by simp only [Cell.same, sameL_refl xs]
  | .dct ks vs => by simp only [Cell.same, sameL_refl ks, sameL_refl vs, Bool.and_self]
  | .ins c fs => by simp only [Cell.same, sameL_refl fs, beq_self_eq_true, Bool.and_self]
theorem stands_self {m : M} : ∀ {w : List Nat}, (∀ n ∈ w, n < m.length) → stands m m w = true
  | [], _ => rfl
  | n :: w, h => by
    have e := List.getElem?_eq_getElem (h n List.mem_cons_self)
    simp only [stands, e, Cell.same_refl, Bool.true_and]
    exact stands_self fun k hk => h k (List.mem_cons_of_mem _ hk)
theorem watch_self {K : PySem.W.Frag} {bs : List Nat} {al : Al} {m : M} {H : Hp} {u : V} {v : Val} (h : Rep K al H u v) (rl : Rl K bs al m H) : stands m m (watch v) = true := by
  refine stands_self fun n hn => ?_
  cases v with
  | ref k =>
    simp only [watch, List.mem_singleton] at hn
    subst hn
    cases h with
    | ref h1 =>
      obtain ⟨c, e, _⟩ := rl.at h1
      exact (List.getElem?_eq_some_iff.mp e).1
  | _ => simp [watch] at hn
def tI (S : Sg) (f : MP.Env → M → R (List Val × List Nat)) : TI := fun s H Q => ∃ r m al, RE S.K al H s r ∧ Rl S.K S.bs al m H ∧ Post S (fun al H J p m => WalkR S al H m J p.1 p.2) al H s Q (f r m)
theorem Post.seqE {S : Sg} {g b g2 b2 : Type} {rel : Al → Hp → g → b → M → Prop} {rel2 : Al → Hp → g2 → b2 → M → Prop} {al : Al} {H : Hp} {s : L2.St} {Q2 : g2 → Hp → Prop} {r : R b} {k : b → M → R b2} (h : Post S rel2 al H s Q2 (r.bind k)) :
    Post S rel al H s (fun u H1 => ∃ v m1 al1, r = .ok v m1 ∧ Ext al al1 H H1 ∧ Rl S.K S.bs al1 m1 H1 ∧ rel al1 H1 u v m1 ∧ Post S rel2 al1 H1 s Q2 (k v m1)) r := by
  cases r with
  | ok v m' => exact fun u H' al' x rl q => ⟨v, m', al', rfl, x, rl, q, h.shift x⟩
  | exc c fs m' => exact h
  | stuck => exact h
/-- what a value shows later -/
theorem later {S : Sg} {al al' : Al} {m m' : M} {H H' : Hp} {u : V} {v : Val} (rp : Rep S.K al H u v) (rl : Rl S.K S.bs al m H) (x : Ext al al' H H') (rl' : Rl S.K S.bs al' m' H') (st : stands m m' (watch v) = true) : RepD S.K al' H' u (dr m v) := by
  cases v with
  | ref n =>
    obtain ⟨c, e1, e2⟩ := stands_mem st n (by simp [watch])
    have e : dr m (.ref n) = dr m' (.ref n) := by simp only [dr, e1, e2]
    rw [e]
    exact .dr (rp.ext x _ _) rl'
  | _ => exact .of (rp.ext x _ _)
section
variable {X : L2.Cx} {S : Sg} {a b : Expr} {es : List Expr} {f1 f2 : Bool} {fa fb : MP.Env → M → R Val} {fs : MP.Env → M → R (List Val)} {pos : Pos} {tg : Expr}
theorem mi_val (hK : X.K = S.K) (ha : PE X a (tE S f1 fa)) : PI X tg a (tI S fun r m => (fa r m).bind fun x m => (opt (iterOf (dr m x)) m).bind fun xs m => .ok (xs, watch x) m) := by
  refine ⟨fun pins s σ H Rq I ⟨r, m, al, re, rl, p⟩ => ?_⟩
  have p := p
  cases e : fa r m with
  | stuck => dsimp only at p; rw [e] at p; exact p.elim
  | exc c fs m' =>
    refine (pi_list (tg := tg) ha).run pins s σ H Rq I ⟨r, m, al, re, rl, (Post.seqE p).mono ?_⟩
    rintro u H1 ⟨v, m1, al1, e', _⟩
    rw [e] at e'; cases e'
  | ok v0 m0 =>
    cases ed : dr m0 v0 with
    | lst xs =>
      refine (pi_list (tg := tg) ha).run pins s σ H Rq I ⟨r, m, al, re, rl, (Post.seqE p).mono ?_⟩
      rintro u H1 ⟨v, m1, al1, e', x1, rl1, q1, p1⟩
      rw [e] at e'; cases e'
      rw [ed] at p1
      have rd : RepD S.K al1 H1 u (.lst xs) := ed ▸ RepD.dr q1.1 rl1
      obtain ⟨a', us, rfl, ha', ra⟩ := rd.list
      refine ⟨a', rfl, ⟨us, .of ha'⟩, Post.done (v := (xs, watch v0)) p1 rl1 ⟨watch_self q1.1 rl1, ?_⟩⟩
      intro al' m' H' i x rl' st
      have rd' : RepD S.K al' H' (.ref a') (.lst xs) := ed ▸ later q1.1 rl1 x rl' st
      obtain ⟨a2, us', e2, ha2, ra2⟩ := rd'.list
      cases e2
      refine ⟨fun y hy => ?_, fun hi => ⟨us', .of ha2, by rw [ra2.length]; exact hi⟩⟩
      obtain ⟨u', e3, r3⟩ := ra2.get hy
      refine ⟨⟨us', u', .of ha2, e3⟩, fun u2 H2 hy2 => ?_⟩
      obtain ⟨rfl, h4⟩ := hy2
      have := h4 us' (.of ha2)
      rw [e3] at this
      cases this
      exact ⟨Same.refl _, r3⟩
    | tup xs =>
      refine (pi_tup (tg := tg) ha).run pins s σ H Rq I ⟨r, m, al, re, rl, (Post.seqE p).mono ?_⟩
      rintro u H1 ⟨v, m1, al1, e', x1, rl1, q1, p1⟩
      rw [e] at e'; cases e'
      rw [ed] at p1
      have rd : RepD S.K al1 H1 u (.tup xs) := ed ▸ RepD.dr q1.1 rl1
      obtain ⟨a', us, rfl, ha', ra⟩ := rd.tuple
      refine ⟨a', rfl, ⟨us, hK ▸ ha'⟩, Post.done (v := (xs, watch v0)) p1 rl1 ⟨watch_self q1.1 rl1, ?_⟩⟩
      intro al' m' H' i x rl' st
      have rd' : RepD S.K al' H' (.ref a') (.tup xs) := ed ▸ later q1.1 rl1 x rl' st
      obtain ⟨a2, us', e2, ha2, ra2⟩ := rd'.tuple
      cases e2
      refine ⟨fun y hy => ?_, fun hi => ⟨us', hK ▸ ha2, by rw [ra2.length]; exact hi⟩⟩
      obtain ⟨u', e3, r3⟩ := ra2.get hy
      refine ⟨⟨us', u', hK ▸ ha2, e3⟩, fun u2 H2 hy2 => ?_⟩
      obtain ⟨rfl, h4⟩ := hy2
      have := h4 us' (hK ▸ ha2)
      rw [e3] at this
      cases this
      exact ⟨Same.refl _, r3⟩
    | str z =>
      refine (pi_str (tg := tg) ha).run pins s σ H Rq I ⟨r, m, al, re, rl, (Post.seqE p).mono ?_⟩
      rintro u H1 ⟨v, m1, al1, e', x1, rl1, q1, p1⟩
      rw [e] at e'; cases e'
      rw [ed] at p1
      have rd : RepD S.K al1 H1 u (.str z) := ed ▸ RepD.dr q1.1 rl1
      have := rd.str
      subst this
      refine ⟨z, rfl, Post.done (v := (z.cps.toList.map fun c => Val.str ⟨#[c]⟩, watch v0)) p1 rl1 ⟨watch_self q1.1 rl1, ?_⟩⟩
      intro al' m' H' i x rl' st
      have w := walk_str (z := z)
      refine ⟨fun y hy => ?_, fun hi => ?_⟩
      · rw [List.getElem?_map, Option.map_eq_some_iff] at hy
        obtain ⟨c, hc, rfl⟩ := hy
        have hi : i < z.cps.size := by
          obtain ⟨l, _⟩ := List.getElem?_eq_some_iff.mp hc
          simpa using l
        refine ⟨w.goes i H' hi trivial, fun u2 H2 hy2 => ?_⟩
        obtain ⟨rfl, c', h1, rfl⟩ := w.yields i H' u2 H2 hi trivial hy2
        rw [Array.getElem?_toList] at hc
        rw [hc] at h1
        cases h1
        exact ⟨Same.refl _, .str _⟩
      · show z.cps.size ≤ i
        simpa using hi
    | _ =>
      dsimp only at p
      rw [e] at p
      dsimp only [MP.R.bind] at p
      rw [ed] at p
      exact p.elim

/-! ### range -/
theorem rngL_get : ∀ (n : Nat) (lo : Int) (i : Nat) (x : Val), (rngL lo n)[i]? = some x → i < n ∧ x = .int (lo + i)
  | 0, _, _, _, h => by simp [rngL] at h
  | n + 1, lo, 0, x, h => by simp [rngL] at h; subst h; exact ⟨by omega, by simp⟩
  | n + 1, lo, i + 1, x, h => by
    simp only [rngL, List.getElem?_cons_succ] at h
    obtain ⟨h1, h2⟩ := rngL_get n (lo + 1) i x h
    refine ⟨by omega, ?_⟩
    rw [h2]
    congr 1
    omega
theorem rngL_length : ∀ (n : Nat) (lo : Int), (rngL lo n).length = n
  | 0, _ => rfl
  | n + 1, lo => by simp [rngL, rngL_length n]
theorem walkR_range {al : Al} {H : Hp} {m : M} (lo : Int) (n : Nat) : WalkR S al H m (Itr lo n) (rngL lo n) [] := by
  refine ⟨rfl, ?_⟩
  intro al' m' H' i x rl' st
  refine ⟨fun y hy => ?_, fun hi => ?_⟩
  · obtain ⟨h1, rfl⟩ := rngL_get n lo i y hy
    refine ⟨h1, fun u H2 h2 => ?_⟩
    obtain ⟨rfl, rfl⟩ := h2
    exact ⟨Same.refl _, .int _⟩
  · rw [rngL_length] at hi
    exact hi
theorem rng62_iff {i : Int} : rng62 i = true ↔ (-(2 ^ 62) ≤ i ∧ i < 2 ^ 62) := by unfold rng62; simp
theorem RepL.one {K : PySem.W.Frag} {al : Al} {H : Hp} {us : List V} {x : Val} (h : RepL K al H us [x]) : ∃ u, us = [u] ∧ Rep K al H u x := by
  cases h with
  | cons h1 h2 => cases h2; exact ⟨_, rfl, h1⟩
theorem RepL.two {K : PySem.W.Frag} {al : Al} {H : Hp} {us : List V} {x y : Val} (h : RepL K al H us [x, y]) : ∃ u w, us = [u, w] ∧ Rep K al H u x ∧ Rep K al H w y := by
  cases h with
  | cons h1 h2 =>
    obtain ⟨w, rfl, h3⟩ := h2.one
    exact ⟨_, w, rfl, h1, h3⟩
theorem RepL.three {K : PySem.W.Frag} {al : Al} {H : Hp} {us : List V} {x y z : Val} (h : RepL K al H us [x, y, z]) : ∃ u w t, us = [u, w, t] ∧ Rep K al H u x ∧ Rep K al H w y ∧ Rep K al H t z := by
  cases h with
  | cons h1 h2 =>
    obtain ⟨w, t, rfl, h3, h4⟩ := h2.two
    exact ⟨_, w, t, rfl, h1, h3, h4⟩
theorem rng_one {x : Val} {xs : List Val} (h : rng [x] = some xs) : ∃ j, x = .int j ∧ rng62 j = true ∧ xs = rngL 0 j.toNat := by
  cases x <;> simp only [rng, reduceCtorEq] at h
  split at h
  · rename_i hz
    cases h
    exact ⟨_, rfl, hz, rfl⟩
  · cases h
theorem rng_two {x y : Val} {xs : List Val} (h : rng [x, y] = some xs) : ∃ i j, x = .int i ∧ y = .int j ∧ rng62 i = true ∧ rng62 j = true ∧ xs = rngL i (j - i).toNat := by
  cases x <;> cases y <;> simp only [rng, reduceCtorEq] at h
  split at h
  · rename_i hz
    cases h
    rw [Bool.and_eq_true] at hz
    exact ⟨_, _, rfl, rfl, hz.1, hz.2, rfl⟩
  · cases h
theorem mi_rng1 {p : Pos} (hg : Gl X "range") (hm : X.mg "range" = none) (ha : PA X [a] (tEs S fs)) (hs : starEach [a] X.env = [(false, eval a X.env)]) (hl : ∀ r m vs m', fs r m = .ok vs m' → vs.length = 1) :
    PI X tg (.Call (.Name "range" p) [a] [] pos) (tI S fun r m => (fs r m).bind fun vs m => (opt (rng vs) m).bind fun xs m => .ok (xs, []) m) := by
  refine ⟨fun pins s σ H Rq I ⟨r, m, al, re, rl, q⟩ => (pi_range1 hg hm ha hs).run pins s σ H Rq I ⟨r, m, al, re, rl, (Post.seqE q).mono ?_⟩⟩
  rintro us H1 ⟨vs, m1, al1, e, x1, rl1, q1, p1⟩
  have l := hl _ _ _ _ e
  obtain ⟨x, rfl⟩ : ∃ x, vs = [x] := by
    cases vs with
    | nil => cases l
    | cons x vs => cases vs with
      | nil => exact ⟨x, rfl⟩
      | cons _ _ => simp at l
  cases er : rng [x] with
  | none => rw [er] at p1; exact p1.elim
  | some xs =>
    rw [er] at p1
    obtain ⟨j, rfl, hj, rfl⟩ := rng_one er
    obtain ⟨u, rfl, hu⟩ := q1.one
    cases hu
    rw [rng62_iff] at hj
    exact ⟨j, rfl, hj.1, hj.2, Post.done (v := (rngL 0 j.toNat, ([] : List Nat))) p1 rl1 (walkR_range 0 j.toNat)⟩
theorem mi_rng2 {p : Pos} (hg : Gl X "range") (hm : X.mg "range" = none) (ha : PA X [a, b] (tEs S fs)) (hs : starEach [a, b] X.env = [(false, eval a X.env), (false, eval b X.env)]) (hs2 : starEach [b] X.env = [(false, eval b X.env)]) (hl : ∀ r m vs m', fs r m = .ok vs m' → vs.length = 2) :
    PI X tg (.Call (.Name "range" p) [a, b] [] pos) (tI S fun r m => (fs r m).bind fun vs m => (opt (rng vs) m).bind fun xs m => .ok (xs, []) m) := by
  refine ⟨fun pins s σ H Rq I ⟨r, m, al, re, rl, q⟩ => (pi_range2 hg hm ha hs hs2).run pins s σ H Rq I ⟨r, m, al, re, rl, (Post.seqE q).mono ?_⟩⟩
  rintro us H1 ⟨vs, m1, al1, e, x1, rl1, q1, p1⟩
  have l := hl _ _ _ _ e
  obtain ⟨x, y, rfl⟩ : ∃ x y, vs = [x, y] := by
    cases vs with
    | nil => cases l
    | cons x vs => cases vs with
      | nil => cases l
      | cons y vs => cases vs with
        | nil => exact ⟨x, y, rfl⟩
        | cons _ _ => simp at l
  cases er : rng [x, y] with
  | none => rw [er] at p1; exact p1.elim
  | some xs =>
    rw [er] at p1
    obtain ⟨i, j, rfl, rfl, hi, hj, rfl⟩ := rng_two er
    obtain ⟨u, w, rfl, hu, hw⟩ := q1.two
    cases hu
    cases hw
    rw [rng62_iff] at hi hj
    exact ⟨i, j, rfl, ⟨hi.1, hi.2, hj.1, hj.2⟩, Post.done (v := (rngL i (j - i).toNat, ([] : List Nat))) p1 rl1 (walkR_range i (j - i).toNat)⟩

/-! ### zip -/
theorem zipL_get : ∀ (xs ys : List Val) (i : Nat) (z : Val), (zipL xs ys)[i]? = some z → ∃ x y, xs[i]? = some x ∧ ys[i]? = some y ∧ z = .tup [x, y]
  | [], _, _, _, h => by simp [zipL] at h
  | _ :: _, [], _, _, h => by simp [zipL] at h
  | x :: xs, y :: ys, 0, z, h => by simp [zipL] at h; exact ⟨x, y, rfl, rfl, h.symm⟩
  | x :: xs, y :: ys, i + 1, z, h => by
    simp only [zipL, List.getElem?_cons_succ] at h ⊢
    exact zipL_get xs ys i z h
theorem zipL_length : ∀ (xs ys : List Val), (zipL xs ys).length = min xs.length ys.length
  | [], _ => by simp [zipL]
  | _ :: _, [] => by simp [zipL]
  | x :: xs, y :: ys => by simp only [zipL, List.length_cons, zipL_length xs ys]; omega
theorem walkR_zip {K : PySem.W.Frag} {al : Al} {H : Hp} {m : M} {J : L2.It} {xs ys : List Val} {w : List Nat} (hK : K = S.K) {Sq : Hp → Addr → List V → Prop} {a b : Addr}
    (hgo : ∀ i H, J.go i H ↔ ∃ (us ws : List V) (u x : V), Sq H a us ∧ Sq H b ws ∧ us[i]? = some u ∧ ws[i]? = some x)
    (hyld : ∀ i H v H', J.yld i H v H' → ∃ T u x, v = .ref T ∧ H T = none ∧ H' = upd H T (.tup [u, x]) ∧ (∀ us, Sq H a us → us[i]? = some u) ∧ ∀ ws, Sq H b ws → ws[i]? = some x)
    (hstop : ∀ i H us ws, Sq H a us → Sq H b ws → (us.length ≤ i ∨ ws.length ≤ i) → J.stop i H)
    (h0 : stands m m w = true) (hx : ∀ al' m' H', Ext al al' H H' → Rl S.K S.bs al' m' H' → stands m m' w = true → ∃ us ws, Sq H' a us ∧ Sq H' b ws ∧ RepL S.K al' H' us xs ∧ RepL S.K al' H' ws ys) :
    WalkR S al H m J (zipL xs ys) w := by
  refine ⟨h0, ?_⟩
  intro al' m' H' i x rl' st
  obtain ⟨us, ws, h1, h2, r1, r2⟩ := hx al' m' H' x rl' st
  refine ⟨fun z hz => ?_, fun hi => ?_⟩
  · obtain ⟨x, y, e1, e2, rfl⟩ := zipL_get xs ys i z hz
    obtain ⟨u, f1, q1⟩ := r1.get e1
    obtain ⟨t, f2, q2⟩ := r2.get e2
    refine ⟨(hgo i H').mpr ⟨us, ws, u, t, h1, h2, f1, f2⟩, fun v H2 hy => ?_⟩
    obtain ⟨T, u', t', rfl, nT, rfl, g1, g2⟩ := hyld i H' v H2 hy
    have z1 := (g1 us h1).symm.trans f1
    have z2 := (g2 ws h2).symm.trans f2
    cases z1
    cases z2
    have sm : Same H' (upd H' T (.tup [u, t])) := same_upd nT
    exact ⟨sm, .tup (.inl (.inl upd_same)) ((RepL.cons q1 (.cons q2 .nil)).ext (.of_same sm) _ _)⟩
  · rw [zipL_length] at hi
    refine hstop i H' us ws h1 h2 ?_
    rw [r1.length, r2.length]
    omega
theorem mi_zip (hK : X.K = S.K) {elts : List Expr} {kk : Nat} {tpos p : Pos} (hg : Gl X "zip") (hm : X.mg "zip" = none) (ha : PE X a (tE S f1 fa)) (hb : PE X b (tE S f2 fb))
    (hs : starEach [a, b] X.env = (false, eval a X.env) :: starEach [b] X.env) (hs2 : starEach [b] X.env = (false, eval b X.env) :: starEach [] X.env) (hpl : (backTo pos (starEach [b] X.env)).any (·.1) = false) :
    PI X (.Tuple elts kk tpos) (.Call (.Name "zip" p) [a, b] [] pos) (tI S fun r m => (fa r m).bind fun x m => (fb r m).bind fun y m => (opt (zipOf false (dr m x) (dr m y)) m).bind fun zs m => .ok (zs, watch x ++ watch y) m) := by
  have hp2 : PA X [a, b] _ := pa_cons ha (pa_cons hb pa_nil hs2) hs
  refine ⟨fun pins s σ H Rq I ⟨r, m, al, re, rl, q⟩ => (RZ.pi_zipA hg hm hp2 hs hpl).run pins s σ H Rq I ?_⟩
  refine ⟨r, m, al, re, rl, (Post.seqE q).mono ?_⟩
  rintro u H1 ⟨x, m1, al1, ea, x1, rl1, q1, p1⟩
  refine ⟨r, m1, al1, re.ext x1, rl1, (Post.seqE p1).mono ?_⟩
  rintro w H2 ⟨y, m2, al2, eb, x2, rl2, q2, p2⟩
  show ∃ a b xs ys, [u, w] = [V.ref a, V.ref b] ∧ _
  have k1 : ∀ al' m' H', Ext al2 al' H2 H' → Rl S.K S.bs al' m' H' → stands m2 m' (watch x ++ watch y) = true → RepD S.K al' H' u (dr m2 x) ∧ RepD S.K al' H' w (dr m2 y) := fun al' m' H' x' rl' st => by
    rw [stands_append, Bool.and_eq_true] at st
    exact ⟨later (q1.1.ext x2 _ _) rl2 x' rl' st.1, later q2.1 rl2 x' rl' st.2⟩
  have k0 : RepD S.K al2 H2 u (dr m2 x) ∧ RepD S.K al2 H2 w (dr m2 y) := ⟨.dr (q1.1.ext x2 _ _) rl2, .dr q2.1 rl2⟩
  have kw : stands m2 m2 (watch x ++ watch y) = true := by
    rw [stands_append, watch_self (q1.1.ext x2 _ _) rl2, watch_self q2.1 rl2, Bool.and_self]
  revert k0 k1 p2
  generalize dr m2 x = vx
  generalize dr m2 y = vy
  intro p2 k1 k0
  cases vx with
  | lst xs =>
    cases vy with
    | lst ys =>
      obtain ⟨a', us, rfl, ha', ra⟩ := k0.1.list
      obtain ⟨b', ws, rfl, hb', rb⟩ := k0.2.list
      refine ⟨a', b', us, ws, rfl, .inl ⟨hK ▸ .of ha', hK ▸ .of hb', ?_⟩⟩
      refine Post.done (v := (zipL xs ys, watch x ++ watch y)) p2 rl2 ?_
      refine walkR_zip (K := X.K) (Sq := fun H a xs => SqL X.K H a xs) (a := a') (b := b') hK ?_ ?_ ?_ kw ?_
      · intro i H
        exact ⟨fun ⟨xs, ys, x, y, h1, h2, h3, h4⟩ => ⟨xs, ys, x, y, h1, h2, h3, h4⟩, fun ⟨xs, ys, x, y, h1, h2, h3, h4⟩ => ⟨xs, ys, x, y, h1, h2, h3, h4⟩⟩
      · exact fun i H v H' h => h
      · exact fun i H us ws h1 h2 h3 => ⟨us, ws, h1, h2, h3⟩
      · intro al' m' H' x' rl' st
        obtain ⟨r1, r2⟩ := k1 al' m' H' x' rl' st
        obtain ⟨a2, us2, e1, h1, q1⟩ := r1.list
        obtain ⟨b2, ws2, e2, h2, q2⟩ := r2.list
        cases e1
        cases e2
        exact ⟨us2, ws2, hK ▸ .of h1, hK ▸ .of h2, q1, q2⟩
    | _ => exact p2.elim
  | tup xs =>
    cases vy with
    | tup ys =>
      obtain ⟨a', us, rfl, ha', ra⟩ := k0.1.tuple
      obtain ⟨b', ws, rfl, hb', rb⟩ := k0.2.tuple
      refine ⟨a', b', us, ws, rfl, .inr ⟨hK ▸ ha', hK ▸ hb', ?_⟩⟩
      refine Post.done (v := (zipL xs ys, watch x ++ watch y)) p2 rl2 ?_
      refine walkR_zip (K := X.K) (Sq := fun H a xs => SqT X.K H a xs) (a := a') (b := b') hK ?_ ?_ ?_ kw ?_
      · intro i H
        exact ⟨fun ⟨xs, ys, x, y, h1, h2, h3, h4⟩ => ⟨xs, ys, x, y, h1, h2, h3, h4⟩, fun ⟨xs, ys, x, y, h1, h2, h3, h4⟩ => ⟨xs, ys, x, y, h1, h2, h3, h4⟩⟩
      · exact fun i H v H' h => h
      · exact fun i H us ws h1 h2 h3 => ⟨us, ws, h1, h2, h3⟩
      · intro al' m' H' x' rl' st
        obtain ⟨r1, r2⟩ := k1 al' m' H' x' rl' st
        obtain ⟨a2, us2, e1, h1, q1⟩ := r1.tuple
        obtain ⟨b2, ws2, e2, h2, q2⟩ := r2.tuple
        cases e1
        cases e2
        exact ⟨us2, ws2, hK ▸ h1, hK ▸ h2, q1, q2⟩
    | _ => exact p2.elim
  | _ => exact p2.elim
end
end MP
set_option Elab.async false
set_option linter.all false
set_option maxRecDepth 100000
set_option maxHeartbeats 1000000
/-! MPLoop2: for, while, comprehensions. -/
namespace MP
open PySem PySem.Spec PyProof.Rows L2
section
variable {X : L2.Cx} {S : Sg} {iter tge c : Expr} {body : List Stmt} {tg : Tg} {gi : Env → M → R (List Val × List Nat)} {gs : Env → M → Rs} {gc : Env → M → R Bool} {pos : Pos}
theorem ms_for (hp : PassesOwn (model X.prog X.w) X.A X.env X.xe) (hc : X.calm = true) (hi : PI X tge iter (tI S gi)) (hg : PG X tge (tG S tg)) (hb : PSs X body (tS S gs)) (hs : ∀ x, foldedSetIterable iter X.env x = pure x) :
    PS X (.For tge iter body [] pos) (tS S fun r m => (gi r m).thn r fun p m0 => loopL (fun v r m => match bindT tg v r with
      | some r => gs r m
      | none => .stuck) (fun m => stands m0 m p.2) p.1 r m0) := by
  refine ps_imp (ps_for hp hc hi hg hb hs) fun D s H ⟨r, m, al, re, rl, p⟩ => ?_
  refine ⟨r, m, al, re, rl, (p.thn re).mono ?_⟩
  rintro J H1 ⟨⟨xs, w⟩, m0, al0, x0, rl0, ⟨w0, wk⟩, p0⟩
  refine ⟨fun i n s H => ∃ r m al, i + n = xs.length ∧ RE S.K al H s r ∧ Rl S.K S.bs al m H ∧ Ext al0 al H1 H ∧ stands m0 m w = true ∧ PostS S al H D (loopL (fun v r m => match bindT tg v r with
      | some r => gs r m
      | none => .stuck) (fun m => stands m0 m w) (xs.drop i) r m), ⟨xs.length, r, m0, al0, by omega, re.ext x0, rl0, .refl _ _, w0, p0⟩, ?_⟩
  rintro i n s1 H2 ⟨r1, m1, al1, hn, re1, rl1, x1, st1, p1⟩
  obtain ⟨k1, k2⟩ := wk al1 m1 H2 i x1 rl1 st1
  cases e : xs.drop i with
  | nil =>
    rw [e] at p1
    have hl : xs.length ≤ i := by
      have := congrArg List.length e
      simp at this
      omega
    exact .inl ⟨k2 hl, p1 s1 H2 al1 (.refl _ _) rl1 re1⟩
  | cons v vs =>
    rw [e] at p1
    have e1 : xs[i]? = some v := by
      have := congrArg (fun l => l[0]?) e
      simpa using this
    have e2 : xs.drop (i + 1) = vs := by
      have := congrArg (List.drop 1) e
      simpa using this
    obtain ⟨k3, k4⟩ := k1 v e1
    refine .inr ⟨k3, fun s H => ∃ n', n' < n ∧ ∃ r m al, i + 1 + n' = xs.length ∧ RE S.K al H s r ∧ Rl S.K S.bs al m H ∧ Ext al0 al H1 H ∧ stands m0 m w = true ∧ PostS S al H D (loopL (fun v r m => match bindT tg v r with
      | some r => gs r m
      | none => .stuck) (fun m => stands m0 m w) (xs.drop (i + 1)) r m), fun s' H' h => h, fun u H3 hy => ?_⟩
    obtain ⟨sm, rp⟩ := k4 u H3 hy
    have p1 : PostS S al1 H2 D ((match bindT tg v r1 with
      | some r => gs r m1
      | none => .stuck).bind fun r m => if stands m0 m w then loopL _ _ vs r m else .stuck) := p1
    cases eb : bindT tg v r1 with
    | none => rw [eb] at p1; exact p1.elim
    | some r2 =>
      rw [eb] at p1
      refine ⟨r1, al1, v, r2, re1.ext (.of_same sm), .of rp, fun _ _ => rp, eb, fun s2 re2 _ => ?_⟩
      have hlt : i < xs.length := (List.getElem?_eq_some_iff.mp e1).1
      refine ⟨r2, m1, al1, re2, rl1.ext sm, PostS.seq' (PostS.shift (.of_same sm) p1) rfl ?_⟩
      intro s' H' r' m' al' x' rl' re' p3
      have xx : Ext al0 al' H1 H' := x1.trans ((Ext.of_same sm).trans x')
      cases es : stands m0 m' w with
      | false => rw [es] at p3; exact p3.elim
      | true =>
        rw [es] at p3
        exact ⟨xs.length - (i + 1), by omega, r', m', al', by omega, re', rl', xx, es, e2.symm ▸ p3⟩
theorem ms_while (hp : PassesOwn (model X.prog X.w) X.A X.env X.xe) (hc : PT X c (tBl S gc)) (hb : PSs X body (tS S gs)) : PS X (.While c body [] pos) (tS S fun r m => loopW gc gs WF r m) := by
  refine ps_imp (ps_while hp hc hb) fun D s H ⟨r, m, al, re, rl, p⟩ => ?_
  refine ⟨fun n s H => ∃ r m al, RE S.K al H s r ∧ Rl S.K S.bs al m H ∧ PostS S al H D (loopW gc gs n r m), ⟨WF, r, m, al, re, rl, p⟩, ?_⟩
  rintro n s1 H1 ⟨r1, m1, al1, re1, rl1, p1⟩
  cases n with
  | zero => exact p1.elim
  | succ n =>
    have p1 : PostS S al1 H1 D ((gc r1 m1).thn r1 fun k m => if k then (gs r1 m).bind fun r m => loopW gc gs n r m else .nxt r1 m) := p1
    refine ⟨r1, m1, al1, re1, rl1, (p1.thn re1).mono ?_⟩
    rintro b H2 ⟨v, m2, al2, x2, rl2, rfl, p2⟩
    cases b with
    | false => exact p2 s1 H2 al2 (.refl _ _) rl2 (re1.ext x2)
    | true =>
      rw [if_pos rfl] at p2
      refine ⟨tS S (fun r m => loopW gc gs n r m) D, fun s' H' ⟨r', m', al', h1, h2, h3⟩ => ⟨n, by omega, r', m', al', h1, h2, h3⟩, ?_⟩
      have p3 := PostS.seq p2
      exact ⟨r1, m2, al2, re1.ext x2, rl2, p3⟩
end
end MP
set_option Elab.async false
set_option linter.all false
set_option maxRecDepth 100000
set_option maxHeartbeats 1000000
/-! MPComp: list comprehensions. -/
namespace MP
open PySem PySem.Spec PyProof.Rows L2
/-- within a block no exception is served -/
abbrev Sg.inn (S : Sg) : Sg := { S with W := fun _ _ _ _ => False }
theorem Post.innE {S : Sg} {g g2 b b2 : Type} {rel : Al → Hp → g → b → M → Prop} {rel2 : Al → Hp → g2 → b2 → M → Prop} {al0 al : Al} {H1 H : Hp} {s s' : L2.St} {Q2 : g2 → Hp → Prop} {r : R b} {k : b → M → R b2} (h : Post S rel2 al0 H1 s Q2 (r.nox.bind k)) :
    Post S.inn rel al H s' (fun u H' => ∃ v m1 al1, r = .ok v m1 ∧ Ext al al1 H H' ∧ Rl S.K S.bs al1 m1 H' ∧ rel al1 H' u v m1 ∧ Post S rel2 al0 H1 s Q2 (k v m1)) r := by
  cases r with
  | ok v m' => exact fun u H' al' x rl q => ⟨v, m', al', rfl, x, rl, q, h⟩
  | exc c fs m' => exact h.elim
  | stuck => exact h.elim
def turnF (tg : Tg) (own : List Nat) (gk : Env → M → R Bool) (fe : Env → M → R Val) (r : Env) : Val → M → R (Option Val) := fun v m => match bindT tg v (wipeE r own) with
  | none => .stuck
  | some r1 => (gk r1 m).nox.bind fun k m => if k then (fe r1 m).nox.bind fun y m => .ok (some y) m else .ok none m
def compF (gi : Env → M → R (List Val × List Nat)) (tg : Tg) (own : List Nat) (gk : Env → M → R Bool) (fe : Env → M → R Val) : Env → M → R Val := fun r m => (gi r m).bind fun p m0 =>
  (compL (turnF tg own gk fe r) (fun m => stands m0 m p.2) [] p.1 m0).bind fun vs m => .ok (.lst vs) m
theorem lc_imp {S : Sg} {gi : Env → M → R (List Val × List Nat)} {tg : Tg} {own : List Nat} {gk : Env → M → R Bool} {fr : Bool} {fe : Env → M → R Val} (ho : ∀ i ∈ tg.slots, i ∈ own) (s : L2.St) (H : Hp) (Q : VK) (h : tE S true (compF gi tg own gk fe) s H Q) :
    tLc (tI S gi) (tG S.inn tg) (tBl S.inn gk) (tE S.inn fr fe) own s H Q := by
  obtain ⟨r, m, al, re, rl, p⟩ := h
  refine ⟨r, m, al, re, rl, (Post.seq p).mono ?_⟩
  rintro J H1 ⟨⟨xs, w⟩, m0, al0, x0, rl0, ⟨w0, wk⟩, p0⟩
  intro D hD
  let G : List Val → List Val → M → R Val := fun acc vs m => (compL (turnF tg own gk fe r) (fun m => stands m0 m w) acc vs m).bind fun vs m => .ok (.lst vs) m
  let IV : Nat → Nat → Hp → Prop := fun i n H2 => ∃ m alh hs acc us, i + n = xs.length ∧ alh.h = hs ++ D :: al0.h ∧ D ∉ hs ∧ RE S.K alh H2 s r ∧ Rl S.K S.bs alh m H2 ∧ Ext al0 alh H1 H2 ∧ stands m0 m w = true ∧
    H2 D = some (.lst us) ∧ RepL S.K alh H2 us acc ∧ acc.length ≤ LINE ∧ Post S (relV S true H) al0 H1 s Q (G acc (xs.drop i) m)
  have hD0 : D ∉ al0.h := fun h => rl0.hid D h hD
  refine ⟨IV, ⟨xs.length, m0, al0.hide D, [], [], [], by omega, rfl, by simp, ((re.ext x0).hide hD).ext (.of_same (same_upd hD)), rl0.hide hD [], .hideX hD, w0, upd_same, .nil, by simp, p0⟩, ?_⟩
  rintro i n H2 ⟨m1, alh, hs, acc, us, hn, eh, nD, re1, rl1, x1, st1, hD2, ra, hl, p1⟩
  obtain ⟨k1, k2⟩ := wk alh m1 H2 i x1 rl1 st1
  have hDm : D ∈ alh.h := by rw [eh]; simp
  have hDc : D ∉ alh.c := fun z => rl1.dis D z hDm
  cases e : xs.drop i with
  | nil =>
    rw [e] at p1
    have hli : xs.length ≤ i := by
      have := congrArg List.length e
      simp at this
      omega
    refine .inl ⟨k2 hli, ?_⟩
    have p1 : Post S (relV S true H) al0 H1 s Q (.ok (.lst acc) m1) := p1
    have hsub : ∀ a ∈ hs ++ al0.h, a ∈ alh.h := fun a ha => by
      rw [eh]
      simp only [List.mem_append, List.mem_cons] at ha ⊢
      exact ha.imp id .inr
    have rl2 : Rl S.K S.bs ⟨alh.c, hs ++ al0.h⟩ m1 H2 := rl1.unhid rfl hsub
    have sb : Sub alh.c.length alh ⟨alh.c, hs ++ al0.h⟩ := .by (fun _ _ => rfl) (fun _ h => h) hsub
    refine p1 (.ref D) H2 ⟨alh.c, hs ++ al0.h⟩ ⟨?_, x1.keep, x1.dom⟩ rl2 ⟨.lst hD2 ⟨hDc, fun z => ?_⟩ (ra.low sb _ _ (RepL.lt _ _ ra)), fun _ xs' ex => ?_⟩
    · obtain ⟨be, hs', e1, h1, h2⟩ := x1.more
      refine ⟨be, hs, ?_, h1, fun p hp => ?_⟩
      · rw [e1]
      · have e2 : alh.h = hs' ++ al0.h := by rw [e1]
        have e3 : hs' ++ al0.h = (hs ++ [D]) ++ al0.h := by rw [← e2, eh]; simp
        have e4 := List.append_cancel_right e3
        exact h2 p (by rw [e4]; simp [hp])
    · rcases List.mem_append.mp z with z | z
      · exact nD z
      · exact hD0 z
    · cases ex
      exact ⟨D, rfl, x0.dom D hD, rl1.adopt eh nD hD0 hD2 ra⟩
  | cons v vs =>
    rw [e] at p1
    have e1 : xs[i]? = some v := by
      have := congrArg (fun l => l[0]?) e
      simpa using this
    have e2 : xs.drop (i + 1) = vs := by
      have := congrArg (List.drop 1) e
      simpa using this
    have hlt : i < xs.length := (List.getElem?_eq_some_iff.mp e1).1
    obtain ⟨k3, k4⟩ := k1 v e1
    refine .inr ⟨k3, fun H => ∃ n', n' < n ∧ IV (i + 1) n' H, fun H' h => h, fun u H3 hy => ?_⟩
    obtain ⟨sm, rp⟩ := k4 u H3 hy
    have p1 : Post S (relV S true H) al0 H1 s Q (((turnF tg own gk fe r v m1).bind fun o m => if stands m0 m w then (match o with
      | some y => if acc.length < LINE then compL (turnF tg own gk fe r) (fun m => stands m0 m w) (acc ++ [y]) vs m else .stuck
      | none => compL (turnF tg own gk fe r) (fun m => stands m0 m w) acc vs m) else .stuck).bind fun vs m => .ok (.lst vs) m) := p1
    cases eb : bindT tg v (wipeE r own) with
    | none =>
      have et : turnF tg own gk fe r v m1 = .stuck := by unfold turnF; rw [eb]
      rw [et] at p1
      exact p1.elim
    | some r1 =>
      have et : turnF tg own gk fe r v m1 = (gk r1 m1).nox.bind fun k m => if k then (fe r1 m).nox.bind fun y m => .ok (some y) m else .ok none m := by
        unfold turnF
        rw [eb]
      rw [et] at p1
      have xs0 : Ext alh alh H2 H3 := .of_same sm
      refine ⟨wipeE r own, alh, v, r1, (re1.ext xs0).wipe own, .of rp, fun _ _ => rp, eb, fun s2 re2 fr2 => ⟨?_, ?_⟩⟩
      · have := fr2.wipe ho
        rw [this]
        refine List.ext_getElem? fun j => ?_
        by_cases hj : j ∈ own
        · by_cases hjl : j < s.length
          · rw [wipe_in hj (by rw [wipe_length]; exact hjl), wipe_in hj hjl]
          · rw [List.getElem?_eq_none (by rw [wipe_length, wipe_length]; omega), List.getElem?_eq_none (by rw [wipe_length]; omega)]
        · rw [wipe_out hj]
      · have p2 : Post S (relV S true H) al0 H1 s Q ((gk r1 m1).nox.bind fun k m => (if k then (fe r1 m).nox.bind fun y m => .ok (some y) m else .ok none m).bind fun o m => (if stands m0 m w then (match o with
            | some y => if acc.length < LINE then compL (turnF tg own gk fe r) (fun m => stands m0 m w) (acc ++ [y]) vs m else .stuck
            | none => compL (turnF tg own gk fe r) (fun m => stands m0 m w) acc vs m) else .stuck).bind fun vs m => .ok (.lst vs) m) := by
          revert p1
          cases gk r1 m1 with
          | ok k m' =>
            intro p1
            show Post _ _ _ _ _ _ ((if k then (fe r1 m').nox.bind fun y m => .ok (some y) m else .ok none m').bind _)
            have p1 : Post S (relV S true H) al0 H1 s Q (((if k then (fe r1 m').nox.bind fun y m => .ok (some y) m else .ok none m').bind _).bind _) := p1
            revert p1
            cases (if k then (fe r1 m').nox.bind fun y m => R.ok (some y) m else .ok none m') with
            | ok o m2 => exact fun h => h
            | exc c fs m2 => exact fun h => h
            | stuck => exact fun h => h
          | exc c fs m' => exact fun h => h
          | stuck => exact fun h => h
        refine ⟨r1, m1, alh, re2, rl1.ext sm, (Post.innE (al := alh) (H := H3) p2).mono ?_⟩
        rintro b H4 ⟨k, m2, al2, _, x2, rl2, rfl, p3⟩
        have z2 : Ext alh al2 H2 H4 := xs0.trans x2
        have grow : ∀ {al' : Al} {H' : Hp}, Ext alh al' H2 H' → H' D = some (.lst us) ∧ ∃ hs', al'.h = hs' ++ D :: al0.h ∧ D ∉ hs' := fun {al' H'} z => by
          refine ⟨z.keep D _ hD2 (.inl hDc), ?_⟩
          obtain ⟨be, hs', e3, _, h3⟩ := z.more
          refine ⟨hs' ++ hs, by rw [e3]; show hs' ++ alh.h = _; rw [eh]; simp, fun hm => ?_⟩
          rcases List.mem_append.mp hm with hm | hm
          · have := h3 D hm
            rw [hD2] at this
            cases this
          · exact nD hm
        cases b with
        | false =>
          rw [if_neg (by decide)] at p3 ⊢
          have p3 : Post S (relV S true H) al0 H1 s Q ((if stands m0 m2 w then compL (turnF tg own gk fe r) (fun m => stands m0 m w) acc vs m2 else .stuck).bind fun vs m => .ok (.lst vs) m) := p3
          obtain ⟨g1, hs', g2, g3⟩ := grow z2
          cases es : stands m0 m2 w with
          | false => rw [es] at p3; exact p3.elim
          | true =>
            rw [es] at p3
            exact ⟨xs.length - (i + 1), by omega, m2, al2, hs', acc, us, by omega, g2, g3, re1.ext z2, rl2, x1.trans z2, es, g1, ra.ext z2 _ _, hl, e2.symm ▸ p3⟩
        | true =>
          rw [if_pos rfl] at p3 ⊢
          have p4 : Post S (relV S true H) al0 H1 s Q ((fe r1 m2).nox.bind fun y m => (if stands m0 m w then (if acc.length < LINE then compL (turnF tg own gk fe r) (fun m => stands m0 m w) (acc ++ [y]) vs m else .stuck) else .stuck).bind fun vs m => .ok (.lst vs) m) := by
            revert p3
            cases fe r1 m2 with
            | ok y m' => exact fun h => h
            | exc c fs m' => exact fun h => h
            | stuck => exact fun h => h
          refine ⟨r1, m2, al2, re2.ext x2, rl2, (Post.innE (al := al2) (H := H4) p4).mono ?_⟩
          rintro y H5 ⟨yv, m3, al3, _, x3, rl3, q3, p5⟩
          have z3 : Ext alh al3 H2 H5 := z2.trans x3
          obtain ⟨g1, hs', g2, g3⟩ := grow z3
          refine ⟨us, g1, ?_, ?_⟩
          · cases es : stands m0 m3 w with
            | false => rw [es] at p5; exact p5.elim
            | true =>
              rw [es, if_pos rfl] at p5
              by_cases hz : acc.length < LINE
              · rw [ra.length]
                exact LINE_eq ▸ hz
              · rw [if_neg hz] at p5
                exact p5.elim
          · cases es : stands m0 m3 w with
            | false => rw [es] at p5; exact p5.elim
            | true =>
              rw [es, if_pos rfl] at p5
              by_cases hz : acc.length < LINE
              · rw [if_pos hz] at p5
                have hm3 : D ∈ al3.h := by rw [g2]; simp
                have u0 : Ex0 al3 al3 H5 (upd H5 D (.lst (us ++ [y]))) := .hid hm3 g1
                have rl4 := rl3.updHid (ws := us ++ [y]) hm3 g1
                have x4 : Ext al0 al3 H1 (upd H5 D (.lst (us ++ [y]))) := by
                  have := x1.trans z3
                  refine ⟨this.more, fun a o ea h => ?_, fun a ea => ?_⟩
                  · have e5 := this.keep a o ea h
                    rw [upd_ne]
                    · exact e5
                    · rintro rfl
                      rw [hD] at ea
                      cases ea
                  · by_cases ha : a = D
                    · subst ha
                      exact hD
                    · rw [upd_ne ha] at ea
                      exact this.dom a ea
                have re3 : RE S.K al3 (upd H5 D (.lst (us ++ [y]))) s r := by
                  have := re1.ext z3
                  exact ⟨this.len, fun j v ev => let ⟨u', a1, a2⟩ := this.get j v ev; ⟨u', a1, a2.ext0 u0 v u'⟩⟩
                refine ⟨xs.length - (i + 1), by omega, m3, al3, hs', acc ++ [yv], us ++ [y], by omega, g2, g3, re3, rl4, x4, es, upd_same, ?_, ?_, e2.symm ▸ p5⟩
                · exact (((ra.ext z3 _ _).append (.cons q3.1 .nil)).ext0 u0 _ _)
                · rw [List.length_append]
                  show acc.length + 1 ≤ LINE
                  omega
              · rw [if_neg hz] at p5
                exact p5.elim
end MP
set_option Elab.async false
set_option linter.all false
set_option maxRecDepth 100000
set_option maxHeartbeats 1000000
/-! MPBlt: built-in functions. -/
namespace MP
open PySem PySem.Spec PyProof.Rows L2
inductive RepDs (K : PySem.W.Frag) (al : Al) (H : Hp) : List V → List Val → Prop
  | nil : RepDs K al H [] []
  | cons {u : V} {us : List V} {x : Val} {xs : List Val} : RepD K al H u x → RepDs K al H us xs → RepDs K al H (u :: us) (x :: xs)
theorem RepL.drs {K : PySem.W.Frag} {bs : List Nat} {al : Al} {m : M} {H : Hp} (rl : Rl K bs al m H) : ∀ {vs : List Val} {us : List V}, RepL K al H us vs → RepDs K al H us (vs.map (dr m))
  | [], _, h => by cases h; exact .nil
  | v :: vs, _, h => by
    cases h with
    | cons h1 h2 => exact .cons (.dr h1 rl) (h2.drs rl)
def rBlt (K : PySem.W.Frag) (b : B) : List V → Hp → VK → Prop := fun us H Q => ∃ al vs z, Dm al H ∧ RepDs K al H us vs ∧ blt b vs = some z ∧ Done K al H true z Q
theorem RepDs.one {K : PySem.W.Frag} {al : Al} {H : Hp} {us : List V} {x : Val} (h : RepDs K al H us [x]) : ∃ u, us = [u] ∧ RepD K al H u x := by
  cases h with
  | cons h1 h2 => cases h2; exact ⟨_, rfl, h1⟩
theorem RepDs.two {K : PySem.W.Frag} {al : Al} {H : Hp} {us : List V} {x y : Val} (h : RepDs K al H us [x, y]) : ∃ u w, us = [u, w] ∧ RepD K al H u x ∧ RepD K al H w y := by
  cases h with
  | cons h1 h2 =>
    obtain ⟨w, rfl, h3⟩ := h2.one
    exact ⟨_, w, rfl, h1, h3⟩
theorem RepD.seq {K : PySem.W.Frag} {al : Al} {H : Hp} {u : V} {v : Val} {xs : List Val} (h : RepD K al H u v) (e : seqOf v = some xs) : ∃ a us, u = .ref a ∧ (SqL K H a us ∨ SqT K H a us) ∧ RepL K al H us xs := by
  cases v <;> simp only [seqOf, Option.some.injEq, reduceCtorEq] at e
  · subst e
    obtain ⟨a, us, rfl, h1, h2⟩ := h.tuple
    exact ⟨a, us, rfl, .inr h1, h2⟩
  · subst e
    obtain ⟨a, us, rfl, h1, h2⟩ := h.list
    exact ⟨a, us, rfl, .inl (.of h1), h2⟩
section
variable {X : L2.Cx} {S : Sg} {b : B}
theorem blt_imp {fs : MP.Env → M → R (List Val)} (s : L2.St) (H : Hp) (Q : VK) (h : tE S true (fun r m => (fs r m).bind fun vs m => opt (blt b (vs.map (dr m))) m) s H Q) : tCB (rBlt S.K b) (tEs S fs) s H Q := by
  obtain ⟨r, m, al, re, rl, p⟩ := h
  refine ⟨r, m, al, re, rl, (Post.seq p).mono ?_⟩
  rintro us H1 ⟨vs, m1, al1, x1, rl1, q1, p1⟩
  obtain ⟨z, e, p2⟩ := p1.opt
  exact ⟨al1, _, z, rl1.dm, q1.drs rl1, e, .of p2 rl1 fun a h => x1.dom a h⟩
theorem cb_len : CallR X (.builtin "len") (rBlt X.K .len) := fun pins s σ H xs us Q I r ⟨al, vs, z, dm, rs, e, q⟩ => by
  refine call_len pins s σ H xs us Q I r ?_
  cases vs with
  | nil => cases e
  | cons v vs =>
    cases vs with
    | cons _ _ => cases v <;> cases e
    | nil =>
      obtain ⟨u, rfl, rd⟩ := rs.one
      cases v <;> first | (cases e; done) | skip
      · simp only [blt] at e
        split at e
        · rename_i z' hz
          cases e
          have := rd.str
          subst this
          exact ⟨_, _, rfl, ⟨LINE_eq ▸ hz, rfl⟩, q.int⟩
        · cases e
      · cases e
        obtain ⟨a, us', rfl, h1, h2⟩ := rd.tuple
        exact ⟨_, _, rfl, .inr ⟨us', h1, rfl⟩, h2.length ▸ q.int⟩
      · cases e
        obtain ⟨a, us', rfl, h1, h2⟩ := rd.list
        exact ⟨_, _, rfl, .inl ⟨us', .of h1, rfl⟩, h2.length ▸ q.int⟩
      · cases e
        obtain ⟨a, rfl, h1⟩ := rd.script
        refine ⟨_, _, rfl, .inl ⟨_, h1, rfl⟩, ?_⟩
        rw [List.length_map]
        exact q.int
      all_goals cases rd with | of rp => cases rp
theorem cb_abs : CallR X (.builtin "abs") (rBlt X.K .abs) := fun pins s σ H xs us Q I r ⟨al, vs, z, dm, rs, e, q⟩ => by
  refine call_abs pins s σ H xs us Q I r ?_
  cases vs with
  | nil => cases e
  | cons v vs =>
    cases vs with
    | cons _ _ => cases v <;> cases e
    | nil =>
      obtain ⟨u, rfl, rd⟩ := rs.one
      cases v <;> first | (cases e; done) | skip
      have := rd.int
      subst this
      cases e
      exact ⟨_, rfl, q.int⟩
theorem cb_int : CallR X (.type "int") (rBlt X.K .int) := fun pins s σ H xs us Q I r ⟨al, vs, z, dm, rs, e, q⟩ => by
  refine call_int1 pins s σ H xs us Q I r ?_
  cases vs with
  | nil => cases e
  | cons v vs =>
    cases vs with
    | cons _ _ => cases v <;> cases e
    | nil =>
      obtain ⟨u, rfl, rd⟩ := rs.one
      cases v <;> first | (cases e; done) | skip
      · have := rd.bl
        subst this
        cases e
        exact .inr ⟨_, rfl, q.int⟩
      · have := rd.int
        subst this
        cases e
        exact .inl ⟨_, rfl, q.int⟩
theorem two_ints {f : Int → Int → Val} {vs : List Val} {z : Val} (h : (match vs with
    | [.int i, .int j] => some (f i j)
    | _ => none) = some z) : ∃ i j, vs = [.int i, .int j] ∧ z = f i j := by
  split at h
  · cases h
    exact ⟨_, _, rfl, rfl⟩
  · cases h
theorem cb_min2 (hc : X.calm = true) : CallR X (.builtin "min") (rBlt X.K .min2) := fun pins s σ H xs us Q I r ⟨al, vs, z, dm, rs, e, q⟩ => by
  refine call_min2 hc pins s σ H xs us Q I r ?_
  obtain ⟨i, j, rfl, rfl⟩ : ∃ i j, vs = [.int i, .int j] ∧ z = .int (if j < i then j else i) := by
    unfold blt at e
    split at e <;> first | (rename_i hb; cases hb; done) | skip
    all_goals first | (cases e; exact ⟨_, _, rfl, rfl⟩) | (cases e; done) | skip
    all_goals simp_all
  obtain ⟨u, w, rfl, r1, r2⟩ := rs.two
  have := r1.int
  have := r2.int
  subst_vars
  exact ⟨_, _, rfl, q.int⟩
theorem cb_max2 (hc : X.calm = true) : CallR X (.builtin "max") (rBlt X.K .max2) := fun pins s σ H xs us Q I r ⟨al, vs, z, dm, rs, e, q⟩ => by
  refine call_max2 hc pins s σ H xs us Q I r ?_
  obtain ⟨i, j, rfl, rfl⟩ : ∃ i j, vs = [.int i, .int j] ∧ z = .int (if j > i then j else i) := by
    unfold blt at e
    split at e <;> first | (rename_i hb; cases hb; done) | skip
    all_goals first | (cases e; exact ⟨_, _, rfl, rfl⟩) | (cases e; done) | skip
    all_goals simp_all
  obtain ⟨u, w, rfl, r1, r2⟩ := rs.two
  have := r1.int
  have := r2.int
  subst_vars
  exact ⟨_, _, rfl, q.int⟩
theorem cb_all (hc : X.calm = true) : CallR X (.builtin "all") (rBlt X.K .all) := fun pins s σ H xs us Q I r ⟨al, vs, z, dm, rs, e, q⟩ => by
  refine cr_all hc pins s σ H xs us Q I r ?_
  cases vs with
  | nil => cases e
  | cons v vs =>
    cases vs with
    | cons _ _ => cases v <;> cases e
    | nil =>
      obtain ⟨u, rfl, rd⟩ := rs.one
      cases v <;> first | (cases e; done) | skip
      simp only [blt, Option.map_eq_some_iff] at e
      obtain ⟨bs, e1, rfl⟩ := e
      obtain ⟨a, us', rfl, h1, h2⟩ := rd.list
      have := h2.of_bls e1
      subst this
      exact ⟨a, bs, rfl, .of h1, q.bl⟩
theorem cb_any (hc : X.calm = true) : CallR X (.builtin "any") (rBlt X.K .any) := fun pins s σ H xs us Q I r ⟨al, vs, z, dm, rs, e, q⟩ => by
  refine cr_any hc pins s σ H xs us Q I r ?_
  cases vs with
  | nil => cases e
  | cons v vs =>
    cases vs with
    | cons _ _ => cases v <;> cases e
    | nil =>
      obtain ⟨u, rfl, rd⟩ := rs.one
      cases v <;> first | (cases e; done) | skip
      simp only [blt, Option.map_eq_some_iff] at e
      obtain ⟨bs, e1, rfl⟩ := e
      obtain ⟨a, us', rfl, h1, h2⟩ := rd.list
      have := h2.of_bls e1
      subst this
      exact ⟨a, bs, rfl, .of h1, q.bl⟩
theorem cb_sum (hc : X.calm = true) : CallR X (.builtin "sum") (rBlt X.K .sum) := fun pins s σ H xs us Q I r ⟨al, vs, z, dm, rs, e, q⟩ => by
  refine cr_sum hc pins s σ H xs us Q I r ?_
  cases vs with
  | nil => cases e
  | cons v vs =>
    cases vs with
    | cons _ _ => cases v <;> cases e
    | nil =>
      obtain ⟨u, rfl, rd⟩ := rs.one
      cases v <;> first | (cases e; done) | skip
      simp only [blt, Option.map_eq_some_iff] at e
      obtain ⟨bs, e1, rfl⟩ := e
      obtain ⟨a, us', rfl, h1, h2⟩ := rd.list
      have := h2.of_ints e1
      subst this
      exact ⟨a, bs, rfl, .of h1, q.int⟩
theorem cb_tuple : CallR X (.type "tuple") (rBlt X.K .tuple) := fun pins s σ H xs us Q I r ⟨al, vs, z, dm, rs, e, q⟩ => by
  refine call_tuple_of pins s σ H xs us Q I r ?_
  cases vs with
  | nil => cases e
  | cons v vs =>
    cases vs with
    | cons _ _ => cases v <;> cases e
    | nil =>
      obtain ⟨u, rfl, rd⟩ := rs.one
      cases v <;> first | (cases e; done) | skip
      · cases e
        obtain ⟨a, us', rfl, h1, h2⟩ := rd.tuple
        exact ⟨a, us', rfl, .inr ⟨h1, q.tupAt h1 h2⟩⟩
      · cases e
        obtain ⟨a, us', rfl, h1, h2⟩ := rd.list
        exact ⟨a, us', rfl, .inl ⟨.of h1, q.tup h2⟩⟩
theorem cb_list : CallR X (.type "list") (rBlt X.K .list) := fun pins s σ H xs us Q I r ⟨al, vs, z, dm, rs, e, q⟩ => by
  refine call_list_of pins s σ H xs us Q I r ?_
  cases vs with
  | nil => cases e
  | cons v vs =>
    cases vs with
    | cons _ _ => cases v <;> cases e
    | nil =>
      obtain ⟨u, rfl, rd⟩ := rs.one
      simp only [blt, Option.map_eq_some_iff] at e
      obtain ⟨xs, e1, rfl⟩ := e
      obtain ⟨a, us', rfl, h1, h2⟩ := rd.seq e1
      exact ⟨a, us', rfl, h1, q.lst dm h2⟩
theorem cb_repr (hg : X.A.guards = some []) (hu : X.A.units + 65 < cLine) : CallR X (.builtin "repr") (rBlt X.K .repr) := fun pins s σ H xs us Q I r ⟨al, vs, z, dm, rs, e, q⟩ => by
  cases vs with
  | nil => cases e
  | cons v vs =>
    cases vs with
    | cons _ _ => cases v <;> cases e
    | nil =>
      obtain ⟨u, rfl, rd⟩ := rs.one
      have e : (if reprOk v then some (Val.str (reprV v)) else none) = some z := by
        cases v <;> exact e
      split at e
      · rename_i hz
        cases e
        unfold reprOk at hz
        simp only [Bool.and_eq_true, decide_eq_true_eq] at hz
        obtain ⟨⟨⟨z1, z2⟩, z3⟩, z4⟩ := hz
        have hd := data_of z2
        have dp := rd.dp hd
        obtain ⟨w, rfl, rw'⟩ := vals1 r
        obtain ⟨as, rr⟩ := dp.reads I _ _ _ rw'
        obtain ⟨a, rfl⟩ : ∃ a, w = .ref a := by
          cases v <;> simp only [isSeq, Bool.false_eq_true] at z1
          · cases rr; exact ⟨_, rfl⟩
          · cases rr; exact ⟨_, rfl⟩
        have hdeep : (toD v).depth ≤ 60 := by
          rw [depth_toD]
          unfold Val.cmpOk at z2
          simp only [Bool.and_eq_true, decide_eq_true_eq] at z2
          exact z2.2
        refine repr_of_reads' rr z3 (PyData.noDict_hsm (PyData.hasDict_of_canLay _ (canLay_toD v hd))) hg (by omega) (fun _ _ e => e) (fun h' u tk hk => ?_) (LINE_eq ▸ z4)
        exact ⟨V.str (reprV v), H, I.kept hk, ⟨_, rfl⟩, q.str⟩
      · cases e
end
end MP
set_option Elab.async false
set_option linter.all false
set_option maxRecDepth 100000
set_option maxHeartbeats 1000000
/-! MPMore: isinstance, methods, stores, calls of own functions, exchanged stores. -/
namespace MP
open PySem PySem.Spec PyProof.Rows L2

/-! ### isinstance -/
def Ty.nm : Ty → String
  | .int => "int" | .bool => "bool" | .str => "str" | .list => "list" | .tuple => "tuple" | _ => "?"
def Ty.plain : Ty → Bool
  | .exc _ => false
  | .base _ => false
  | _ => true
def tyOf : Val → Option String
  | .non => some "NoneType" | .bl _ => some "bool" | .int _ => some "int" | .str _ => some "str" | .tup _ => some "tuple" | .lst _ => some "list"
  | _ => none
theorem RepD.ty {K : PySem.W.Frag} {al : Al} {H : Hp} {u : V} {x : Val} {t : String} (h : RepD K al H u x) (e : tyOf x = some t) : TyX K H u (.type t) := by
  cases x <;> simp only [tyOf, Option.some.injEq, reduceCtorEq] at e <;> subst e
  · cases h.non; exact .base .non
  · cases h.bl; exact .base (.bl _)
  · cases h.int; exact .base (.int _)
  · cases h.str; exact .base (.str _)
  · obtain ⟨a, us, rfl, h1, _⟩ := h.tuple
    rcases h1 with (h1 | ⟨o, h1⟩) | ⟨o, its, n, h1, h2, _⟩
    · exact .base (.tup h1)
    · exact .fTuple h1
    · exact .kTuple h1 h2
  · obtain ⟨a, us, rfl, h1, _⟩ := h.list
    exact .base (.lst h1)
theorem kit_isTy {sup : Nat → Nat → Bool} {K : PySem.W.Frag} {x : Val} {t : String} {ty : Ty} {b : Bool} (e : tyOf x = some t) (hp : ty.plain = true) (h : isTy sup x ty = some b) : PySem.W.kitOne K (.type t) (.type ty.nm) = some b := by
  cases x <;> simp only [tyOf, Option.some.injEq, reduceCtorEq] at e <;> subst e <;> cases ty <;> simp only [Ty.plain, Bool.false_eq_true] at hp <;> (simp only [isTy, Option.some.injEq] at h; subst h; exact kit_ty (by decide +kernel))
theorem tyOf_some {sup : Nat → Nat → Bool} {x : Val} {ty : Ty} {b : Bool} (hp : ty.plain = true) (h : isTy sup x ty = some b) : ∃ t, tyOf x = some t := by
  cases x <;> first | exact ⟨_, rfl⟩ | skip
  all_goals (cases ty <;> simp [isTy, Ty.plain] at h hp)
theorem kit_any {sup : Nat → Nat → Bool} {K : PySem.W.Frag} {x : Val} {t : String} (e : tyOf x = some t) : ∀ {tys : List Ty} {bs : List Bool}, tys.all Ty.plain = true → (tys.mapM fun ty => isTy sup x ty) = some bs → PySem.W.kitAny K (.type t) (tys.map fun ty => .type ty.nm) = some (bs.any id)
  | [], bs, _, h => by simp at h; subst h; rfl
  | ty :: tys, bs, hp, h => by
    simp only [List.all_cons, Bool.and_eq_true] at hp
    rw [List.mapM_cons] at h
    cases e1 : isTy sup x ty with
    | none => rw [e1] at h; simp at h
    | some b =>
      cases e2 : tys.mapM fun ty => isTy sup x ty with
      | none => rw [e1, e2] at h; simp at h
      | some cs =>
        rw [e1, e2] at h
        simp at h
        subst h
        refine kitAny_cons (kit_isTy e hp.1 e1) (fun hb => ?_) fun hb => ?_
        · subst hb
          simpa using kit_any e hp.2 e2
        · subst hb
          simp
section
variable {X : L2.Cx} {S : Sg} {a o i e : Expr} {es : List Expr} {f1 f2 f3 : Bool} {fa fb fo fi fe : MP.Env → M → R Val} {fs : MP.Env → M → R (List Val)} {pos : Pos} {sup : Nat → Nat → Bool}
theorem me_isi1 {ty : Ty} {p tp : Pos} (hg : Gl X "isinstance") (hm : X.mg "isinstance" = none) (hp : ty.plain = true) (hK : X.K = S.K) (ha : PE X a (tE S f1 fa)) {x : Str} (ht : PE X (.Name x tp) (tC (.ty ty.nm)))
    (h1 : starEach [a, .Name x tp] X.env = (false, eval a X.env) :: starEach [.Name x tp] X.env) (h2 : (backTo pos (starEach [.Name x tp] X.env)).any (·.1) = false) :
    PE X (.Call (.Name "isinstance" p) [a, .Name x tp] [] pos) (tE S false fun r m => (fa r m).bind fun x m => (opt ([ty].mapM fun t => isTy sup (dr m x) t) m).bind fun bs m => .ok (.bl (bs.any id)) m) := by
  refine pe_imp (pe_callB call_isi hg hm (by decide +kernel) (pa_cons ha (pa_cons ht pa_nil rfl) h1) (by decide) (by decide) h1 h2) fun s H Q ⟨r, m, al, re, rl, p⟩ => ?_
  refine ⟨r, m, al, re, rl, p.seq.mono ?_⟩
  rintro u H1 ⟨v, m1, al1, x1, rl1, q1, p1⟩
  cases eb : ([ty].mapM fun t => isTy sup (dr m1 v) t) with
  | none => rw [eb] at p1; exact p1.elim
  | some bs =>
    rw [eb] at p1
    obtain ⟨b, e1, e2⟩ : ∃ b, isTy sup (dr m1 v) ty = some b ∧ bs = [b] := by
      rw [List.mapM_cons] at eb
      cases e1 : isTy sup (dr m1 v) ty with
      | none => rw [e1] at eb; simp at eb
      | some b => rw [e1] at eb; simp at eb; exact ⟨b, rfl, eb.symm⟩
    subst e2
    obtain ⟨t, et⟩ := tyOf_some hp e1
    have rd : RepD S.K al1 H1 u (dr m1 v) := .dr q1.1 rl1
    refine ⟨u, .ty ty.nm, .type t, .type ty.nm, b, rfl, .ty _, hK ▸ rd.ty et, kit_isTy et hp e1, ?_⟩
    have p1 : Post S (relV S false H) al1 H1 s Q (.ok (.bl ([b].any id)) m1) := p1
    have := p1.val rl1 (.bl _)
    simpa using this
theorem pa_tys : ∀ {tys : List Ty}, Paired (fun (n : Expr) (t : Ty) => PE X n (tC (.ty t.nm)) ∧ ∀ r, starEach (n :: r) X.env = (false, eval n X.env) :: starEach r X.env) es tys → PA X es (fun s H Q => Q (tys.map fun t => V.ty t.nm) H) := by
  intro tys h
  induction h with
  | nil => exact pa_imp pa_nil fun s H Q q => q
  | @cons n t ns ts h1 h2 ih => exact pa_imp (pa_cons h1.1 ih (h1.2 _)) fun s H Q q => q
theorem me_isiT {tys : List Ty} {k : Nat} {p tp : Pos} (hg : Gl X "isinstance") (hm : X.mg "isinstance" = none) (hp : tys.all Ty.plain = true) (hz : tys.length ≤ 100) (hz0 : tys ≠ []) (hK : X.K = S.K) (ha : PE X a (tE S f1 fa))
    (ht : PA X es (fun s H Q => Q (tys.map fun t => V.ty t.nm) H)) (h1 : starEach [a, .Tuple es k tp] X.env = (false, eval a X.env) :: starEach [.Tuple es k tp] X.env) :
    PE X (.Call (.Name "isinstance" p) [a, .Tuple es k tp] [] pos) (tE S false fun r m => (fa r m).bind fun x m => (opt (tys.mapM fun t => isTy sup (dr m x) t) m).bind fun bs m => .ok (.bl (bs.any id)) m) := by
  refine pe_imp (pe_callB call_isiT hg hm (by decide +kernel) (pa_cons ha (pa_cons (pe_tup ht) pa_nil rfl) h1) (by decide) (by decide) h1 rfl) fun s H Q ⟨r, m, al, re, rl, p⟩ => ?_
  refine ⟨r, m, al, re, rl, p.seq.mono ?_⟩
  rintro u H1 ⟨v, m1, al1, x1, rl1, q1, p1⟩
  refine ⟨by rw [List.length_map]; have := sizeLine_eq; omega, fun T hT => ?_⟩
  cases eb : (tys.mapM fun t => isTy sup (dr m1 v) t) with
  | none => rw [eb] at p1; exact p1.elim
  | some bs =>
    rw [eb] at p1
    obtain ⟨t, et⟩ : ∃ t, tyOf (dr m1 v) = some t := by
      cases tys with
      | nil => exact absurd rfl hz0
      | cons ty tys =>
        simp only [List.all_cons, Bool.and_eq_true] at hp
        rw [List.mapM_cons] at eb
        cases e1 : isTy sup (dr m1 v) ty with
        | none => rw [e1] at eb; simp at eb
        | some b => exact tyOf_some hp.1 e1
    have sm : Same H1 (upd H1 T (.tup (tys.map fun t => V.ty t.nm))) := same_upd hT
    have rl2 := rl1.ext sm
    have rd : RepD S.K al1 (upd H1 T (.tup (tys.map fun t => V.ty t.nm))) u (dr m1 v) := .dr (q1.1.ext (.of_same sm) _ _) rl2
    have pr : ∀ tys : List Ty, Paired ClsV (tys.map fun t => V.ty t.nm) (tys.map fun t => Value.type t.nm) := fun tys => by
      induction tys with
      | nil => exact .nil
      | cons t ts ih => exact .cons (.ty _) ih
    refine ⟨u, T, _, .type t, _, bs.any id, rfl, upd_same, pr tys, hK ▸ rd.ty et, kit_any et hp eb, ?_⟩
    have p1 : Post S (relV S false H) al1 H1 s Q (.ok (.bl (bs.any id)) m1) := p1
    exact p1 _ _ al1 (.of_same sm) rl2 ⟨.bl _, fun h => by cases h⟩

/-! ### stores -/
theorem low_of {bs : List Nat} {n : Nat} {v : Val} (h0 : ∀ b ∈ bs, b ≤ bs.headD 0) (h : storable (bs.headD 0) n v = true) (b : Nat) (hb : b ∈ bs) (hn : n < b) : v.lt_ b = true := by
  unfold storable at h
  rw [Bool.or_eq_true] at h
  rcases h with h | h
  · exact lt_of_pure b v h
  · have h := of_decide_eq_true h
    have := h0 b hb
    omega
theorem ltAll_append {n : Nat} : ∀ {xs ys : List Val}, ltAll n (xs ++ ys) = (ltAll n xs && ltAll n ys)
  | [], _ => by simp [ltAll]
  | x :: xs, ys => by simp only [List.cons_append, ltAll, ltAll_append (xs := xs), Bool.and_assoc]
theorem ltAll_set {n : Nat} {v : Val} (hv : v.lt_ n = true) : ∀ {xs : List Val} {j : Nat}, ltAll n xs = true → ltAll n (xs.set j v) = true
  | [], _, h => h
  | x :: xs, 0, h => by
    simp only [ltAll, Bool.and_eq_true] at h
    simp only [List.set_cons_zero, ltAll, hv, h.2, Bool.and_self]
  | x :: xs, j + 1, h => by
    simp only [ltAll, Bool.and_eq_true] at h
    simp only [List.set_cons_succ, ltAll, h.1, ltAll_set hv h.2, Bool.and_self]
theorem me_append {apos cpos : Pos} (ho : PE X o (tE S f1 fo)) (ha : PA X (e :: es) (tEs S fs)) (hK : X.K = S.K)
    (hbase : attributeBase o "append" X.env (eval o X.env) = eval o X.env)
    (hfew : ((backTo cpos (starEach (e :: es) X.env)).all (fun x => !x.1) && (backToKw cpos (keywordEach [] X.env)).all (fun x => x.1.isSome)
      && decide ((e :: es).length + ([] : List Keyword).length + (if ([] : List Keyword).isEmpty then 0 else 1) < 30)) = true)
    (hline : (apos.endLine == cpos.line) = true) (hs : starEach (e :: es) X.env = (false, eval e X.env) :: starEach es X.env) (hplain : (backTo cpos (starEach es X.env)).any (·.1) = false) :
    PE X (.Call (.Attribute o "append" apos) (e :: es) [] cpos) (tE S false fun r m => (fo r m).bind fun x m => if mutOk .append m x then (fs r m).bind fun vs m => mthd (S.bs.headD 0) m .append x vs else .stuck) := by
  refine pe_imp (pe_bm PySem.F.plainAttrs_list PySem.F.slot_list_append PySem.F.type_list_append mt_append ho ha hbase hfew hline hs hplain) fun s H Q ⟨r, m, al, re, rl, p⟩ => ?_
  refine ⟨r, m, al, re, rl, p.seq.mono ?_⟩
  rintro u H1 ⟨v, m1, al1, x1, rl1, q1, p1⟩
  cases em : mutOk .append m1 v with
  | false => rw [em] at p1; exact p1.elim
  | true =>
    rw [em, if_pos rfl] at p1
    cases v <;> first | (simp [mutOk] at em; done) | skip
    rename_i n
    cases q1.1 with
    | @ref _ a h1 =>
      obtain ⟨c, ec, qc⟩ := rl1.at h1
      cases c with
      | dct _ _ => exact qc.elim
      | ins _ _ => exact qc.elim
      | lst ys0 =>
        obtain ⟨us0, ea0, _⟩ := qc
        refine ⟨.inl ⟨rfl, us0, .inl (.inl ea0)⟩, r, m1, al1, re.ext x1, rl1, p1.seq.mono ?_⟩
        rintro ws H2 ⟨vs, m2, al2, x2, rl2, q2, p2⟩
        have h2 : al2.c[n]? = some a := by
          have := (Rep.ref h1 : Rep S.K al1 H1 (.ref a) (.ref n)).ext x2 _ _
          cases this with
          | ref h => exact h
        obtain ⟨c2, ec2, qc2⟩ := rl2.at h2
        cases c2 with
        | dct _ _ => exact qc2.elim
        | ins _ _ => exact qc2.elim
        | lst xs =>
          obtain ⟨us, ea, ra⟩ := qc2
          cases vs with
          | nil => exact p2.elim
          | cons y vs =>
            cases vs with
            | cons _ _ => exact p2.elim
            | nil =>
              obtain ⟨w, rfl, rw'⟩ := q2.one
              simp only [mthd, ec2] at p2
              split at p2
              · rename_i hz
                simp only [Bool.and_eq_true, decide_eq_true_eq] at hz
                refine ⟨a, us, w, rfl, rfl, ea, by rw [ra.length]; exact LINE_eq ▸ hz.2, ?_⟩
                have rl3 := rl2.store (ys := xs ++ [y]) h2 ea (ra.append (.cons rw' .nil)) fun b hb hn => by
                  have h3 : ltAll b xs = true := rl2.low b hb n _ hn ec2
                  rw [ltAll_append, h3]
                  simp only [ltAll, low_of rl2.head hz.1 b hb hn, Bool.and_self]
                exact p2 _ _ al2 (.store (List.mem_of_getElem? h2) ea) rl3 ⟨.non, fun h => by cases h⟩
              · exact p2.elim
/-- o[i] = e, o a list -/
theorem ms_set {tpos spos : Pos} (hK : X.K = S.K) (he : PE X e (tE S f1 fe)) (ho : PE X o (tE S f2 fo)) (hi : PE X i (tE S f3 fi))
    (hsw : swapsWithSole [.Subscript o i tpos] e spos.line X.env = pure false) (hst : swappedStores [.Subscript o i tpos] e X.env = pure none)
    (ha : ∀ v, assign (.Subscript o i tpos) X.env v = (do
      let ov ← holding [v] (eval o X.env)
      let iv ← holding [v, ov] (eval i X.env)
      standAt tpos
      holding [v, ov, iv] (setItem ov iv v)
      release [v, ov, iv] [])) :
    PS X (.Assign [.Subscript o i tpos] e spos) (tS S fun r m => (fe r m).thn r fun v m => (fo r m).thn r fun ov m => (fi r m).thn r fun iv m => match setAt (S.bs.headD 0) m ov iv v with
      | some m => .nxt r m
      | none => .stuck) := by
  refine ps_imp (ps_asg he (pg_sub ho hi set_list ha) hsw hst rfl) fun D s H ⟨r, m, al, re, rl, p⟩ => ?_
  refine ⟨r, m, al, re, rl, (p.thn re).mono ?_⟩
  rintro u H1 ⟨v, m1, al1, x1, rl1, q1, p1⟩
  refine ⟨r, m1, al1, re.ext x1, rl1, (p1.thn (re.ext x1)).mono ?_⟩
  rintro w H2 ⟨ov, m2, al2, x2, rl2, q2, p2⟩
  refine ⟨r, m2, al2, (re.ext x1).ext x2, rl2, (p2.thn ((re.ext x1).ext x2)).mono ?_⟩
  rintro t H3 ⟨iv, m3, al3, x3, rl3, q3, p3⟩
  have re3 := ((re.ext x1).ext x2).ext x3
  cases es : setAt (S.bs.headD 0) m3 ov iv v with
  | none => rw [es] at p3; exact p3.elim
  | some m4 =>
    rw [es] at p3
    have qo := q2.1.ext x3 _ _
    have qv := (q1.1.ext x2 _ _).ext x3 _ _
    cases ov <;> simp only [setAt, reduceCtorEq] at es
    rename_i n
    cases qo with
    | @ref _ a h1 =>
      obtain ⟨c, ec, qc⟩ := rl3.at h1
      cases c with
      | dct _ _ => exact qc.elim
      | ins _ _ => exact qc.elim
      | lst xs =>
        obtain ⟨us, ea, ra⟩ := qc
        rw [ec] at es
        cases iv <;> simp only [reduceCtorEq] at es
        rename_i k
        cases q3.1
        cases ej : MP.ixN xs.length k with
        | none => rw [ej] at es; simp at es
        | some j =>
          rw [ej] at es
          simp only [Option.bind_some] at es
          split at es
          · rename_i hz
            cases es
            have ej' : L2.ixN us.length k = some j := by rw [ra.length]; exact ej
            refine ⟨a, us, k, j, rfl, rfl, ea, ej', ?_⟩
            have rl4 := rl3.store (ys := xs.set j v) h1 ea (RepL.set qv j ra) fun b hb hn => ltAll_set (low_of rl3.head hz b hb hn) (rl3.low b hb n _ hn ec)
            have x4 := Ext.store (ws := us.set j u) (List.mem_of_getElem? h1) ea
            exact p3 s _ al3 x4 rl4 (re3.ext x4)
          · cases es
/-! ### own functions -/
/-- what a def promises: what the clean call tells -/
def spF (K : PySem.W.Frag) (xr : Al → Hp → Value → Option Addr → Nat → List Val → Prop) (n : Nat) (c : List Val → Bool → M → R Val) (fl : Bool) : Sp := fun vs H Q E =>
  ∃ args m al bs, args.length = n ∧ RepL K al H vs args ∧ Rl K bs al m H ∧ Post ⟨K, bs, fun cls d _ H => E cls d H, xr⟩ (fun al H u v _ => Rep K al H u v) al H [] Q (c args fl m)
theorem spF_of {vs : List V} {args : List Val} {n : Nat} {c : List Val → Bool → M → R Val} {fl : Bool} {al : Al} {m : M} {H H0 : Hp} {s : L2.St} {Q : VK} (hl : ∀ args fl m, args.length ≠ n → c args fl m = .stuck)
    (rl : Rl S.K S.bs al m H) (q : RepL S.K al H vs args) (p : Post S (relV S false H0) al H s Q (c args fl m)) : spF S.K S.xr n c fl vs H Q (WE S.W s) := by
  have l : args.length = n := by
    by_cases h : args.length = n
    · exact h
    · rw [hl _ _ _ h] at p; exact p.elim
  refine ⟨args, m, al, S.bs, l, q, rl, ?_⟩
  cases e : c args fl m with
  | ok v m' => rw [e] at p; exact fun u H' al' x rl' q => p u H' al' x rl' ⟨q, fun h => by cases h⟩
  | exc cc fs' m' => rw [e] at p; exact p
  | stuck => rw [e] at p; exact p
variable {k n : Nat} {f : Addr} {fd : FuncData} {ps : List Str} {x : Str} {p : Pos} {c : List Val → Bool → M → R Val} {fl : Bool}
theorem me_call (F : FnG X.prog X.w X.K X.mg X.base k f fd ps (spF S.K S.xr n c fl)) (hr : Room k X.A) (hg : X.A.guards = some []) (tk : Takes X S.W) (hgl : Gl X x) (hm : X.mg x = some (.ref f)) (hk : PySem.W.keepIn X.K (.ref f) = true) (hb : Binds X.K fd ps [])
    (hl : ∀ args fl m, args.length ≠ n → c args fl m = .stuck)
    (ha : PA X (e :: es) (tEs S fs)) (hdb : (x == ("__debug__" : Str)) = false) (he : starEach (e :: es) X.env = (false, eval e X.env) :: starEach es X.env) (hpl : (backTo pos (starEach es X.env)).any (·.1) = false) :
    PE X (.Call (.Name x p) (e :: es) [] pos) (tE S false fun r m => (fs r m).bind fun vs m => c vs fl m) := by
  refine pe_imp (pe_callG F hr hg tk hgl hm hk hb ha hdb he hpl) fun s H Q ⟨r, m, al, re, rl, p⟩ => ?_
  refine ⟨r, m, al, re, rl, p.seq.mono ?_⟩
  rintro us H1 ⟨vs, m1, al1, x1, rl1, q1, p1⟩
  exact spF_of hl rl1 q1 p1
theorem me_call0 (F : FnG X.prog X.w X.K X.mg X.base k f fd ps (spF S.K S.xr n c fl)) (hr : Room k X.A) (hg : X.A.guards = some []) (tk : Takes X S.W) (hgl : Gl X x) (hm : X.mg x = some (.ref f)) (hk : PySem.W.keepIn X.K (.ref f) = true) (hb : Binds X.K fd ps [])
    (hl : ∀ args fl m, args.length ≠ n → c args fl m = .stuck) (hdb : (x == ("__debug__" : Str)) = false) :
    PE X (.Call (.Name x p) [] [] pos) (tE S false fun r m => c [] fl m) := by
  refine pe_imp (pe_callG0 F hr hg tk hgl hm hk hb hdb) fun s H Q ⟨r, m, al, re, rl, p⟩ => ?_
  exact spF_of hl rl .nil p
/-- keywords -/
theorem RepL.getD {K : PySem.W.Frag} {al : Al} {H : Hp} {us : List V} {vs : List Val} (r : RepL K al H us vs) (i : Nat) : Rep K al H (us.getD i .non) (vs.getD i .non) := by
  rw [List.getD_eq_getElem?_getD, List.getD_eq_getElem?_getD]
  cases e : vs[i]? with
  | some v =>
    obtain ⟨u, e1, q⟩ := r.get e
    rw [e1]
    exact q
  | none =>
    have := List.getElem?_eq_none_iff.mp e
    rw [List.getElem?_eq_none (by rw [r.length]; exact this)]
    exact .non
theorem RepL.pick {K : PySem.W.Frag} {al : Al} {H : Hp} {us : List V} {vs : List Val} (r : RepL K al H us vs) : ∀ perm : List Nat, RepL K al H (perm.map fun i => us.getD i .non) (perm.map fun i => vs.getD i .non)
  | [] => .nil
  | i :: l => .cons (r.getD i) (RepL.pick r l)
def tKs (S : Sg) (f : MP.Env → M → R (List Val)) : TA := tEs S f
variable {n1 : Nat} {kfs : MP.Env → M → R (List Val)} {ks : List Str} {perm : List Nat} {kws : List Keyword}
theorem me_callk (F : FnG X.prog X.w X.K X.mg X.base k f fd ps (spF S.K S.xr n c fl)) (hr : Room k X.A) (hg : X.A.guards = some []) (tk : Takes X S.W) (hgl : Gl X x) (hm : X.mg x = some (.ref f)) (hk : PySem.W.keepIn X.K (.ref f) = true) (hb : KwB X.K fd ps n1 ks perm)
    (hl : ∀ args fl m, args.length ≠ n → c args fl m = .stuck) (ha : PA X (e :: es) (tEs S fs)) (hkw : PK X kws (tEs S kfs)) (hdb : (x == ("__debug__" : Str)) = false)
    (h1 : ∀ r m vs m', fs r m = .ok vs m' → vs.length = n1) (h2 : ∀ r m vs m', kfs r m = .ok vs m' → vs.length = ks.length)
    (he : starEach (e :: es) X.env = (false, eval e X.env) :: starEach es X.env)
    (hall : (backToKw pos (keywordEach kws X.env)).all (·.1.isSome) = true) (hks : (backToKw pos (keywordEach kws X.env)).filterMap (·.1) = ks)
    (hpl : ((backTo pos (starEach (e :: es) X.env)).any (·.1) || (backToKw pos (keywordEach kws X.env)).any (·.1.isNone)) = false) :
    PE X (.Call (.Name x p) (e :: es) kws pos) (tE S false fun r m => (fs r m).bind fun vs m => (kfs r m).bind fun zs m => c (perm.map fun i => (vs ++ zs).getD i .non) fl m) := by
  refine pe_imp (pe_callKG F hr hg tk hgl hm hk hb ha hkw hdb he hall hks hpl) fun s H Q ⟨r, m, al, re, rl, p⟩ => ?_
  refine ⟨r, m, al, re, rl, (Post.seqE p).mono ?_⟩
  rintro us H1 ⟨vs, m1, al1, e1, x1, rl1, q1, p1⟩
  refine ⟨r, m1, al1, re.ext x1, rl1, (Post.seqE p1).mono ?_⟩
  rintro ws H2 ⟨zs, m2, al2, e2, x2, rl2, q2, p2⟩
  refine ⟨by rw [q1.length]; exact h1 _ _ _ _ e1, by rw [q2.length]; exact h2 _ _ _ _ e2, ?_⟩
  exact spF_of hl rl2 (((q1.ext x2 _ _).append q2).pick perm) p2
theorem me_callk0 (F : FnG X.prog X.w X.K X.mg X.base k f fd ps (spF S.K S.xr n c fl)) (hr : Room k X.A) (hg : X.A.guards = some []) (tk : Takes X S.W) (hgl : Gl X x) (hm : X.mg x = some (.ref f)) (hk : PySem.W.keepIn X.K (.ref f) = true) (hb : KwB X.K fd ps 0 ks perm)
    (hl : ∀ args fl m, args.length ≠ n → c args fl m = .stuck) (hkw : PK X kws (tEs S kfs)) (hdb : (x == ("__debug__" : Str)) = false)
    (h2 : ∀ r m vs m', kfs r m = .ok vs m' → vs.length = ks.length)
    (hall : (backToKw pos (keywordEach kws X.env)).all (·.1.isSome) = true) (hks : (backToKw pos (keywordEach kws X.env)).filterMap (·.1) = ks)
    (hpl : ((backTo pos (starEach [] X.env)).any (·.1) || (backToKw pos (keywordEach kws X.env)).any (·.1.isNone)) = false) :
    PE X (.Call (.Name x p) [] kws pos) (tE S false fun r m => (kfs r m).bind fun zs m => c (perm.map fun i => zs.getD i .non) fl m) := by
  refine pe_imp (pe_callKG0 F hr hg tk hgl hm hk hb hkw hdb hall hks hpl) fun s H Q ⟨r, m, al, re, rl, p⟩ => ?_
  refine ⟨r, m, al, re, rl, (Post.seqE p).mono ?_⟩
  rintro ws H2 ⟨zs, m2, al2, e2, x2, rl2, q2, p2⟩
  refine ⟨by rw [q2.length]; exact h2 _ _ _ _ e2, ?_⟩
  exact spF_of hl rl2 (q2.pick perm) p2
/-! ### exchanged stores -/
theorem bind_two {i j : Nat} {vs : List Val} {r r' : MP.Env} (h : bindTs [.nm i, .nm j] vs r = some r') : ∃ v w, vs = [v, w] ∧ r' = (r.set i (some v)).set j (some w) := by
  cases vs with
  | nil => cases h
  | cons v vs =>
    simp only [bindTs, bindT, Option.bind_eq_some_iff] at h
    obtain ⟨r1, h1, h⟩ := h
    split at h1
    · cases h1
      cases vs with
      | nil => cases h
      | cons w vs =>
        simp only [bindTs, bindT, Option.bind_eq_some_iff] at h
        obtain ⟨r2, h2, h⟩ := h
        split at h2
        · cases h2
          cases vs with
          | nil =>
            simp only [bindTs, Option.some.injEq] at h
            exact ⟨v, w, rfl, h.symm⟩
          | cons _ _ => cases h
        · cases h2
    · cases h1
theorem ms_par {i j : Nat} {x y : Str} {a b : Expr} {fs : MP.Env → M → R (List Val)} {px py pt spos : Pos} {kt k2 : Nat} {pt2 : Pos} (hc : X.calm = true) (hN : X.N.Nodup) (hi : X.N[i]? = some x) (hj : X.N[j]? = some y) (hij : i ≠ j)
    (hx : X.env.scope.names.lookup x = some .local) (hy : X.env.scope.names.lookup y = some .local) (ha : PA X [a, b] (tEs S fs))
    (hw : swappedStores [.Tuple [.Name x px, .Name y py] kt pt] (.Tuple [a, b] k2 pt2) X.env = pure (some [x, y]))
    (hs : swapsWithSole [.Tuple [.Name x px, .Name y py] kt pt] (.Tuple [a, b] k2 pt2) spos.line X.env = pure false) :
    PS X (.Assign [.Tuple [.Name x px, .Name y py] kt pt] (.Tuple [a, b] k2 pt2) spos) (tS S fun r m => ((fs r m).bind fun vs m => if vs.length ≤ LINE then .ok (.tup vs) m else .stuck).thn r fun v m => match bindT (.tup [.nm i, .nm j]) (Tg.see m (.tup [.nm i, .nm j]) v) r with
      | some r => .nxt r m
      | none => .stuck) := by
  refine ps_imp (ps_par hc hN hi hj hij hx hy ha hw hs) fun D s H ⟨r, m, al, re, rl, p⟩ => ?_
  refine ⟨r, m, al, re, rl, ?_⟩
  cases e : fs r m with
  | stuck => dsimp only at p; rw [e] at p; exact p.elim
  | exc c fs' m' =>
    dsimp only at p
    rw [e] at p
    exact fun cls d H' al' x rl q => p cls d s H' al' x rl (re.ext x) q
  | ok vs m' =>
    dsimp only at p
    rw [e] at p
    rintro us H1 al1 x1 rl1 q1
    have p : PostS S al H D (R.thn (if vs.length ≤ LINE then R.ok (Val.tup vs) m' else R.stuck) r fun v m => match bindT (.tup [.nm i, .nm j]) (Tg.see m (.tup [.nm i, .nm j]) v) r with
      | some r => .nxt r m
      | none => .stuck) := p
    split at p
    · have p : PostS S al H D (match bindTs [.nm i, .nm j] vs r with
        | some r => .nxt r m'
        | none => .stuck) := p
      cases eb : bindTs [.nm i, .nm j] vs r with
      | none => rw [eb] at p; exact p.elim
      | some r' =>
        rw [eb] at p
        obtain ⟨v, w, rfl, rfl⟩ := bind_two eb
        obtain ⟨u, t, rfl, ru, rt⟩ := q1.two
        exact ⟨u, t, rfl, p _ H1 al1 x1 rl1 (((re.ext x1).set ru i).set rt j)⟩
    · exact p.elim
end
end MP
set_option Elab.async false
set_option linter.all false
set_option maxRecDepth 100000
set_option maxHeartbeats 1000000
/-! MPChk: is a text this clean text? A boolean, and what it gives. -/
namespace MP
open PySem PySem.Spec PyProof.Rows L2

structure Blk where
  N : List Str
  sc : Scope
  fc : Str → Bool
structure Wd where
  fn : List (Str × Nat)
  np : Nat → Nat
  blt : List Str
  kw : List (Nat × Nat × List Str × List Nat)

def noStar : Expr → Bool
  | .Starred _ _ => false
  | _ => true
def noStars (xs : List Expr) : Bool := xs.all noStar
def isComp : Expr → Bool
  | .ListComp _ _ _ _ => true
  | .SetComp _ _ _ _ => true
  | .DictComp _ _ _ _ _ => true
  | _ => false
def notSet : Expr → Bool
  | .Set _ _ _ => false
  | _ => true
def notCall : Expr → Bool
  | .Call _ _ _ _ => false
  | _ => true
def varOk (b : Blk) (i : Nat) (y : Str) : Bool :=
  decide (b.N[i]? = some y) && (match b.sc.names.lookup y with
    | some .local => true
    | some .cell => true
    | some .free => true
    | _ => false) && !(y == ("__debug__" : Str)) && !(y == ("__classdict__" : Str))
def gloOk (b : Blk) (y : Str) : Bool := decide (b.sc.names.lookup y = some .globalImplicit) && !(y == ("__debug__" : Str))
def locOk (b : Blk) (y : Str) : Bool := match b.sc.names.lookup y with
  | some .local => true
  | some .cell => b.fc y
  | _ => false
def bName : B → Option Str
  | .len => some "len" | .abs => some "abs" | .int => some "int" | .min2 => some "min" | .max2 => some "max" | .all => some "all" | .any => some "any" | .sum => some "sum"
  | .tuple => some "tuple" | .list => some "list" | .repr => some "repr"
  | _ => none
def relabS (scope sc : Scope) : Scope := { scope with names := scope.names.map fun (n, k) => if (k == .free && sc.kind == .function && sc.names.lookup n == some .cell) then (n, .cell) else (n, k) }
def Blk.inn (b : Blk) (scope : Scope) : Blk := ⟨b.N, relabS scope b.sc, fun x => scope.names.lookup x == some .cell⟩
def Es.len : Es → Nat
  | .nil => 0
  | .cons _ r => r.len + 1

mutual
def chkTg (b : Blk) : Tg → Expr → Bool
  | .nm i, .Name y _ => decide (b.N[i]? = some y) && locOk b y
  | .tup ts, .Tuple xs _ _ => noStars xs && chkTgs b ts xs
  | _, _ => false
def chkTgs (b : Blk) : List Tg → List Expr → Bool
  | [], [] => true
  | t :: ts, x :: xs => chkTg b t x && chkTgs b ts xs
  | _, _ => false
end
def tyExpr (W : Wd) (b : Blk) : Ty → Expr → Bool
  | t, .Name y _ => t.plain && decide (y = Str.ofString t.nm) && gloOk b y && W.blt.contains y
  | _, _ => false
def tyExprs (W : Wd) (b : Blk) : List Ty → List Expr → Bool
  | [], [] => true
  | t :: ts, x :: xs => tyExpr W b t x && tyExprs W b ts xs
  | _, _ => false
def isiOk (W : Wd) (b : Blk) (tys : List Ty) (t : Expr) : Bool := match t with
  | .Tuple ts _ _ => !tys.isEmpty && decide (tys.length ≤ 100) && tyExprs W b tys ts
  | t => (match tys with
    | [ty] => tyExpr W b ty t
    | _ => false)
def fewOk (n : Nat) : Bool := decide (n < 29)

def zipTg : It → Expr → Bool
  | .zip _ _ _, .Tuple _ _ _ => true
  | .zip _ _ _, _ => false
  | _, _ => true
def optOk (e : E) (f : Expr → Bool) : Option Expr → Bool
  | none => isEmp e
  | some x => f x
mutual
def chkE (W : Wd) (b : Blk) : E → Expr → Bool
  | .var i, .Name y _ => varOk b i y
  | .con .non, .Constant .none _ _ => true
  | .con (.bl k), .Constant (.bool c) _ _ => decide (k = c)
  | .con (.int k), .Constant (.int c) _ _ => decide (k = c)
  | .con (.str k), .Constant (.str c) _ _ => decide (k = c)
  | .bin op x y, .BinOp u op' v _ => decide (op = op') && chkE W b x u && chkE W b y v
  | .neg x, .UnaryOp .USub u _ => chkE W b x u
  | .nt x, .UnaryOp .Not u _ => chkE W b x u
  | .and x r, .BoolOp .And (u :: us) _ => chkE W b x u && chkEs W b r us
  | .or x r, .BoolOp .Or (u :: us) _ => chkE W b x u && chkEs W b r us
  | .ite c x y, .IfExp w u v _ => chkE W b c w && chkE W b x u && chkE W b y v
  | .cmp x ops es, .Compare u ops' us _ => decide (ops = ops') && chkE W b x u && chkEs W b es us && decide (ops.length = us.length) && !us.isEmpty && !lastMarks ops us
  | .idx x i, .Subscript u v _ => chkE W b x u && chkE W b i v && plainIx v
  | .slc x lo hi, .Subscript u (.Slice l h none _) _ => chkE W b x u && optOk lo (chkE W b lo) l && optOk hi (chkE W b hi) h
  | .tup es, .Tuple us _ _ => noStars us && chkEs W b es us
  | .lst es, .List us _ => noStars us && chkEs W b es us
  | .comp st elt own tg it cd, .ListComp u [g] scope _ => !st && decide (g.is_async = 0) && chkIt W b it g.iter && zipTg it g.target && blkC b.N b.sc scope (own.map fun i => (b.N.getD i default, i)) &&
      (tg.slots.all fun i => own.contains i) && chkTg (b.inn scope) tg g.target && (chkEs W (b.inn scope) cd g.ifs && decide (g.ifs.length ≤ 1)) && chkE W (b.inn scope) elt u
  | .call f es _, .Call (.Name y _) us [] _ => gloOk b y && decide (W.fn.lookup y = some f) && noStars us && chkEs W b es us
  | .callk f es kes perm _, .Call (.Name y _) us kws _ => gloOk b y && decide (W.fn.lookup y = some f) && noStars us && chkEs W b es us && chkEs W b kes (kws.map (·.value)) && (kws.all fun k => k.arg.isSome) &&
      W.kw.contains (f, us.length, kws.filterMap (·.arg), perm)
  | .blt k es, .Call (.Name y _) us [] _ => decide (bName k = some y) && gloOk b y && W.blt.contains y && noStars us && !us.isEmpty && chkEs W b es us
  | .isi x tys, .Call (.Name y _) [u, t] [] _ => decide (y = "isinstance") && gloOk b y && W.blt.contains y && noStar u && chkE W b x u && isiOk W b tys t
  | .mth .append o es, .Call (.Attribute u y apos) us [] cpos => decide (y = "append") && notCall u && (apos.endLine == cpos.line) && chkE W b o u && noStars us && !us.isEmpty && fewOk us.length && chkEs W b es us
  | .new x, u => fresh x && chkE W b x u
  | _, _ => false
def chkEs (W : Wd) (b : Blk) : Es → List Expr → Bool
  | .nil, [] => true
  | .cons x r, u :: us => chkE W b x u && chkEs W b r us
  | _, _ => false
def chkIt (W : Wd) (b : Blk) : It → Expr → Bool
  | .val x, u => notSet u && chkE W b x u
  | .rng es, .Call (.Name y _) us [] _ => decide (y = "range") && gloOk b y && W.blt.contains y && noStars us && chkEs W b es us && (decide (us.length = 1) || decide (us.length = 2))
  | .zip x y st, .Call (.Name z _) [u, v] [] _ => !st && decide (z = "zip") && gloOk b z && W.blt.contains z && noStar u && noStar v && chkE W b x u && chkE W b y v
  | _, _ => false
end

/-! ### what a block knows -/
structure Good (W : Wd) (C : MP.Cx) (X : L2.Cx) (S : Sg) (b : Blk) : Prop where
  hK : X.K = S.K
  calm : X.calm = true
  scope : X.env.scope = b.sc
  kind : b.sc.kind = .function
  hN : X.N = b.N
  nd : b.N.Nodup
  fc : ∀ x, b.fc x = true → X.fn x = true
  gd : X.A.guards = some []
  un : X.A.units + 65 < cLine
  tk : Takes X S.W
  po : PassesOwn (model X.prog X.w) X.A X.env X.xe
  base : C.base = S.bs.headD 0
  call : ∀ f args fl m, args.length ≠ W.np f → C.call f args fl m = .stuck
  blt : ∀ x, W.blt.contains x = true → X.mg x = none
  fns : ∀ x f, W.fn.lookup x = some f → ∃ k fa fd ps, (∀ fl, FnG X.prog X.w X.K X.mg X.base k fa fd ps (spF S.K S.xr (W.np f) (C.call f) fl)) ∧ Room k X.A ∧ X.mg x = some (.ref fa) ∧ PySem.W.keepIn X.K (.ref fa) = true ∧ Binds X.K fd ps [] ∧
    ∀ n ks perm, W.kw.contains (f, n, ks, perm) = true → KwB X.K fd ps n ks perm
theorem takesF {X : L2.Cx} : Takes X (fun _ _ _ _ => False) := fun _ _ ⟨_, _, _, _, _, _, _, _, _, _, _, _, _, _, _, _, w⟩ => w.elim
section
variable {W : Wd} {C : MP.Cx} {X : L2.Cx} {S : Sg} {b : Blk}
theorem Good.blk (g : Good W C X S b) {scope : Scope} (hk : scope.kind = .function) (s : Shared) (H : Hp) (Ca : Addr) (cl : List (Str × Addr)) (fp : List Addr) :
    Good W C (X.blk s H scope (compEnvC scope cl Ca X.env) fp) S.inn (b.inn scope) where
  hK := g.hK
  calm := g.calm
  scope := by
    show relabel scope X.env = relabS scope b.sc
    unfold relabel relabS Env.kindOf
    rw [g.scope]
  kind := hk
  hN := g.hN
  nd := g.nd
  fc := fun x h => h
  gd := g.gd
  un := g.un
  tk := takesF
  po := PassesOwn.never
  base := g.base
  call := g.call
  blt := g.blt
  fns := g.fns
theorem Good.gl (g : Good W C X S b) {y : Str} (h : gloOk b y = true) : Gl X y ∧ (y == ("__debug__" : Str)) = false := by
  unfold gloOk at h
  simp only [Bool.and_eq_true, decide_eq_true_eq, Bool.not_eq_true'] at h
  refine ⟨?_, h.2⟩
  show X.env.scope.names.lookup y = _
  rw [g.scope]
  exact h.1
theorem Good.loc (g : Good W C X S b) {y : Str} (h : locOk b y = true) : L2.Loc X.env.scope y ∧ (X.fn y = true ∨ X.env.scope.names.lookup y = some .local) := by
  unfold locOk at h
  unfold L2.Loc
  rw [g.scope]
  split at h
  · rename_i e
    exact ⟨.inl e, .inr e⟩
  · rename_i e
    exact ⟨.inr e, .inl (g.fc y h)⟩
  · cases h
theorem Good.vis (g : Good W C X S b) {i : Nat} {y : Str} (h : varOk b i y = true) : X.N[i]? = some y ∧ Vis X.env.scope y ∧ (y == ("__debug__" : Str)) = false ∧ (y == ("__classdict__" : Str)) = false := by
  unfold varOk at h
  simp only [Bool.and_eq_true, decide_eq_true_eq, Bool.not_eq_true'] at h
  obtain ⟨⟨⟨h1, h2⟩, h3⟩, h4⟩ := h
  refine ⟨g.hN ▸ h1, ?_, h3, h4⟩
  unfold Vis
  rw [g.scope]
  split at h2
  · rename_i e; exact .inl e
  · rename_i e; exact .inr (.inl e)
  · rename_i e; exact .inr (.inr e)
  · cases h2
end
/-! ### forms -/
theorem star_cons {a : Expr} (h : noStar a = true) (es : List Expr) (env : PySem.Env) : starEach (a :: es) env = (false, eval a env) :: starEach es env := by
  cases a <;> first | rfl | cases h
theorem noStars_cons {a : Expr} {es : List Expr} : noStars (a :: es) = true ↔ noStar a = true ∧ noStars es = true := by simp [noStars]
theorem back_any {pos : Pos} {env : PySem.Env} : ∀ {es : List Expr}, noStars es = true → (backTo pos (starEach es env)).any (·.1) = false
  | [], _ => rfl
  | a :: es, h => by
    rw [noStars_cons] at h
    rw [star_cons h.1]
    show (false || (backTo pos (starEach es env)).any (·.1)) = false
    rw [back_any h.2]
    rfl
theorem back_all {pos : Pos} {env : PySem.Env} : ∀ {es : List Expr}, noStars es = true → (backTo pos (starEach es env)).all (fun x => !x.1) = true
  | [], _ => rfl
  | a :: es, h => by
    rw [noStars_cons] at h
    rw [star_cons h.1]
    show (true && (backTo pos (starEach es env)).all (fun x => !x.1)) = true
    rw [back_all h.2]
    rfl
theorem ass_cons {a : Expr} (h : noStar a = true) (es : List Expr) (env : PySem.Env) : assignEach (a :: es) env = (false, assign a env) :: assignEach es env := by
  cases a <;> first | rfl | cases h
theorem ass_len {env : PySem.Env} : ∀ {es : List Expr}, noStars es = true → (assignEach es env).length = es.length
  | [], _ => rfl
  | a :: es, h => by
    rw [noStars_cons] at h
    rw [ass_cons h.1, List.length_cons, List.length_cons, ass_len h.2]
theorem ass_none {env : PySem.Env} : ∀ {es : List Expr}, noStars es = true → (assignEach es env).findIdx? (·.1) = none
  | [], _ => rfl
  | a :: es, h => by
    rw [noStars_cons] at h
    rw [ass_cons h.1, List.findIdx?_cons]
    simp [ass_none h.2]
theorem sole_false {t v : Expr} {l : Nat} {env : PySem.Env} (h : isComp v = false) : swapsWithSole [t] v l env = pure false := by
  cases v <;> first | rfl | cases h
theorem none_false {v : Expr} {l : Nat} {env : PySem.Env} (h : isComp v = false) : swapsWith v none l env = pure false := by
  cases v <;> first | rfl | cases h
theorem folded_pure {e : Expr} (h : notSet e = true) (env : PySem.Env) (x : Value) : foldedSetIterable e env x = pure x := by
  cases e <;> first | rfl | cases h
theorem attr_base {o : Expr} {y : Str} (h : notCall o = true) (env : PySem.Env) : attributeBase o y env (eval o env) = eval o env := by
  cases o <;> first | rfl | cases h
/-! ### targets -/
section
variable {W : Wd} {C : MP.Cx} {X : L2.Cx} {S : Sg} {b : Blk}
theorem chkTgs_len : ∀ {ts : List Tg} {xs : List Expr}, chkTgs b ts xs = true → xs.length = ts.length
  | [], [], _ => rfl
  | [], _ :: _, h => by simp [chkTgs] at h
  | _ :: _, [], h => by simp [chkTgs] at h
  | t :: ts, x :: xs, h => by
    simp only [chkTgs, Bool.and_eq_true] at h
    rw [List.length_cons, List.length_cons, chkTgs_len h.2]
mutual
theorem tg_ok (g : Good W C X S b) : ∀ (t : Tg) (x : Expr), chkTg b t x = true → PG X x (tG S t)
  | .nm i, x, h => by
    cases x <;> simp only [chkTg, Bool.false_eq_true] at h
    simp only [Bool.and_eq_true, decide_eq_true_eq] at h
    obtain ⟨l1, l2⟩ := g.loc h.2
    exact mg_name (g.hN ▸ g.nd) (g.hN ▸ h.1) l1 l2
  | .tup ts, x, h => by
    cases x <;> simp only [chkTg, Bool.false_eq_true] at h
    simp only [Bool.and_eq_true] at h
    exact mg_tup g.hK g.calm (tgs_ok g ts _ h.2 h.1) (chkTgs_len h.2) (ass_len h.1) (ass_none h.1)
  | .star _ _ _, x, h => by simp [chkTg] at h
theorem tgs_ok (g : Good W C X S b) : ∀ (ts : List Tg) (xs : List Expr), chkTgs b ts xs = true → noStars xs = true → PGs X xs (tGs S ts)
  | [], [], _, _ => mgs_nil
  | [], _ :: _, h, _ => by simp [chkTgs] at h
  | _ :: _, [], h, _ => by simp [chkTgs] at h
  | t :: ts, x :: xs, h, hs => by
    simp only [chkTgs, Bool.and_eq_true] at h
    rw [noStars_cons] at hs
    exact mgs_cons (tg_ok g t x h.1) (tgs_ok g ts xs h.2 hs.2) (by rw [ass_cons hs.1]; rfl)
end
/-! ### built-ins -/
theorem me_blt {k : B} {x : Str} {e : Expr} {es : List Expr} {fs : MP.Env → M → R (List Val)} {p pos : Pos} (g : Good W C X S b) (hb : bName k = some x) (hg : Gl X x) (hm : X.mg x = none) (ha : PA X (e :: es) (tEs S fs))
    (he : starEach (e :: es) X.env = (false, eval e X.env) :: starEach es X.env) (hpl : (backTo pos (starEach es X.env)).any (·.1) = false) :
    PE X (.Call (.Name x p) (e :: es) [] pos) (tE S true fun r m => (fs r m).bind fun vs m => opt (blt k (vs.map (dr m))) m) := by
  cases k <;> simp only [bName, Option.some.injEq, reduceCtorEq] at hb <;> subst hb
  · exact pe_imp (pe_callB (g.hK ▸ cb_len) hg hm (by decide +kernel) ha (by decide) (by decide) he hpl) fun s H Q h => blt_imp s H Q h
  · exact pe_imp (pe_callB (g.hK ▸ cb_abs) hg hm (by decide +kernel) ha (by decide) (by decide) he hpl) fun s H Q h => blt_imp s H Q h
  · exact pe_imp (pe_callTy (g.hK ▸ cb_int) hg hm (by decide +kernel) ha (by decide) (by decide) he hpl) fun s H Q h => blt_imp s H Q h
  · exact pe_imp (pe_callTy (g.hK ▸ cb_list) hg hm (by decide +kernel) ha (by decide) (by decide) he hpl) fun s H Q h => blt_imp s H Q h
  · exact pe_imp (pe_callTy (g.hK ▸ cb_tuple) hg hm (by decide +kernel) ha (by decide) (by decide) he hpl) fun s H Q h => blt_imp s H Q h
  · exact pe_imp (pe_callB (g.hK ▸ cb_min2 g.calm) hg hm (by decide +kernel) ha (by decide) (by decide) he hpl) fun s H Q h => blt_imp s H Q h
  · exact pe_imp (pe_callB (g.hK ▸ cb_max2 g.calm) hg hm (by decide +kernel) ha (by decide) (by decide) he hpl) fun s H Q h => blt_imp s H Q h
  · exact pe_imp (pe_callB (g.hK ▸ cb_sum g.calm) hg hm (by decide +kernel) ha (by decide) (by decide) he hpl) fun s H Q h => blt_imp s H Q h
  · exact pe_imp (pe_callB (g.hK ▸ cb_all g.calm) hg hm (by decide +kernel) ha (by decide) (by decide) he hpl) fun s H Q h => blt_imp s H Q h
  · exact pe_imp (pe_callB (g.hK ▸ cb_any g.calm) hg hm (by decide +kernel) ha (by decide) (by decide) he hpl) fun s H Q h => blt_imp s H Q h
  · exact pe_imp (pe_callB (g.hK ▸ cb_repr g.gd g.un) hg hm (by decide +kernel) ha (by decide) (by decide) he hpl) fun s H Q h => blt_imp s H Q h
theorem ty_name {t : Ty} {x : Expr} (g : Good W C X S b) (h : tyExpr W b t x = true) : ∃ y p, x = .Name y p ∧ t.plain = true ∧ PE X (.Name y p) (tC (.ty t.nm)) := by
  cases x <;> simp only [tyExpr, Bool.false_eq_true] at h
  simp only [Bool.and_eq_true, decide_eq_true_eq] at h
  obtain ⟨⟨⟨h1, rfl⟩, h3⟩, h4⟩ := h
  refine ⟨_, _, rfl, h1, ?_⟩
  obtain ⟨hg, hd⟩ := g.gl h3
  refine pe_bltn (u := .type t.nm) hg (g.blt _ h4) ?_ rfl ?_ hd
  · cases t <;> first | decide +kernel | (cases h1; done)
  · cases t <;> first | decide | (cases h1; done)
theorem tys_ok (g : Good W C X S b) : ∀ {ts : List Ty} {xs : List Expr}, tyExprs W b ts xs = true → ts.all Ty.plain = true ∧ PA X xs (fun s H Q => Q (ts.map fun t => V.ty t.nm) H)
  | [], [], _ => ⟨rfl, pa_tys .nil⟩
  | [], _ :: _, h => by simp [tyExprs] at h
  | _ :: _, [], h => by simp [tyExprs] at h
  | t :: ts, x :: xs, h => by
    simp only [tyExprs, Bool.and_eq_true] at h
    obtain ⟨y, p, rfl, h1, h2⟩ := ty_name g h.1
    obtain ⟨h3, h4⟩ := tys_ok g h.2
    exact ⟨by simp [h1, h3], pa_imp (pa_cons h2 h4 rfl) fun s H Q q => q⟩
end
end MP
set_option Elab.async false
set_option linter.all false
set_option maxRecDepth 100000
set_option maxHeartbeats 2000000
/-! MPPre: ahead of MPSound. -/
namespace MP
open PySem PySem.Spec PyProof.Rows L2
section
variable {W : Wd} {C : MP.Cx} {X : L2.Cx} {S : Sg} {b : Blk}
/-- a reading that may give more than is asked -/
theorem pe_fr {x : Expr} {f : Bool} {F : MP.Env → M → R Val} (h : PE X x (tE S f F)) : PE X x (tE S false F) := by
  refine pe_imp h fun s H Q ⟨r, m, al, re, rl, p⟩ => ⟨r, m, al, re, rl, p.weak⟩
theorem pe_eq {x : Expr} {f : Bool} {F G : MP.Env → M → R Val} (h : PE X x (tE S f F)) (e : G = F) : PE X x (tE S f G) := e ▸ h
theorem pt_eq {x : Expr} {F G : MP.Env → M → R Bool} (h : PT X x (tBl S F)) (e : G = F) : PT X x (tBl S G) := e ▸ h
theorem pe_no {x : Expr} {f : Bool} {F : MP.Env → M → R Val} (h : PE X x (tE S false F)) (hf : f = false) : PE X x (tE S f F) := hf ▸ h
def frs_ : E → Bool := fresh

theorem evs_len (C : MP.Cx) : ∀ (es : Es) (r : MP.Env) (m : M) (vs : List Val) (m' : M), evs C es r m = .ok vs m' → vs.length = es.len
  | .nil, r, m, vs, m', h => by
    simp only [evs] at h
    cases h
    rfl
  | .cons x es, r, m, vs, m', h => by
    simp only [evs] at h
    cases e1 : ev C x r m with
    | stuck => rw [e1] at h; cases h
    | exc _ _ _ => rw [e1] at h; cases h
    | ok v m1 =>
      rw [e1] at h
      have h : (evs C es r m1).bind (fun xs m => R.ok (v :: xs) m) = .ok vs m' := h
      cases e2 : evs C es r m1 with
      | stuck => rw [e2] at h; cases h
      | exc _ _ _ => rw [e2] at h; cases h
      | ok ws m2 =>
        rw [e2] at h
        cases h
        show ws.length + 1 = es.len + 1
        rw [evs_len C es r m1 ws _ e2]
theorem chkEs_len {W : Wd} {b : Blk} : ∀ {es : Es} {xs : List Expr}, chkEs W b es xs = true → xs.length = es.len
  | .nil, [], _ => rfl
  | .nil, _ :: _, h => by simp [chkEs] at h
  | .cons _ _, [], h => by simp [chkEs] at h
  | .cons _ r, _ :: xs, h => by
    simp only [chkEs, Bool.and_eq_true] at h
    show xs.length + 1 = r.len + 1
    rw [chkEs_len h.2]
theorem evCmp_bl (C : MP.Cx) : ∀ (es : Es) (ops : List CmpOp) (x : Val) (r : MP.Env) (m : M) (v : Val) (m' : M), evCmp C es ops x r m = .ok v m' → ∃ k, v = .bl k
  | .nil, ops, x, r, m, v, m', h => by simp [evCmp] at h
  | .cons a .nil, [op], x, r, m, v, m', h => by
    simp only [evCmp] at h
    cases e1 : ev C a r m with
    | stuck => rw [e1] at h; cases h
    | exc _ _ _ => rw [e1] at h; cases h
    | ok y m1 =>
      rw [e1] at h
      dsimp only [R.bind] at h
      cases e2 : cop op (dr m1 x) (dr m1 y) with
      | none => rw [e2] at h; cases h
      | some k => rw [e2] at h; cases h; exact ⟨k, rfl⟩
  | .cons a .nil, [], x, r, m, v, m', h => by simp [evCmp] at h
  | .cons a .nil, op :: op' :: ops, x, r, m, v, m', h => by
    simp only [evCmp] at h
    cases e1 : ev C a r m with
    | stuck => rw [e1] at h; cases h
    | exc _ _ _ => rw [e1] at h; cases h
    | ok y m1 =>
      rw [e1] at h
      dsimp only [R.bind] at h
      cases e2 : cop op (dr m1 x) (dr m1 y) with
      | none => rw [e2] at h; cases h
      | some k =>
        rw [e2] at h
        dsimp only [opt] at h
        cases k with
        | false => cases h; exact ⟨_, rfl⟩
        | true => cases h
  | .cons a (.cons c r'), [], x, r, m, v, m', h => by simp [evCmp] at h
  | .cons a (.cons c r'), op :: ops, x, r, m, v, m', h => by
    simp only [evCmp] at h
    cases e1 : ev C a r m with
    | stuck => rw [e1] at h; cases h
    | exc _ _ _ => rw [e1] at h; cases h
    | ok y m1 =>
      rw [e1] at h
      dsimp only [R.bind] at h
      cases e2 : cop op (dr m1 x) (dr m1 y) with
      | none => rw [e2] at h; cases h
      | some k =>
        rw [e2] at h
        dsimp only [opt] at h
        cases k with
        | false => cases h; exact ⟨_, rfl⟩
        | true => exact evCmp_bl C (.cons c r') ops y r m1 v m' h
theorem me_comp {own : List (Str × Nat)} {scope : Scope} {gi : MP.Env → M → R (List Val × List Nat)} {tg : Tg} {gk : MP.Env → M → R Bool} {fr : Bool} {fe : MP.Env → M → R Val} {elt tge iter : Expr} {ifs : List Expr} {pos : Pos}
    (hc : X.calm = true) (hN : X.N.Nodup) (hi : PI X tge iter (tI S gi)) (ok : BlkOk X.N X.env.scope scope own) (ho : ∀ i ∈ tg.slots, i ∈ own.map (·.2))
    (hg : ∀ (s : Shared) (H : Hp) (Ca : Addr) (cl : List (Str × Addr)) (fp : List Addr), PG (X.blk s H scope (compEnvC scope cl Ca X.env) fp) tge (tG S.inn tg))
    (ht : ∀ (s : Shared) (H : Hp) (Ca : Addr) (cl : List (Str × Addr)) (fp : List Addr), PTs (X.blk s H scope (compEnvC scope cl Ca X.env) fp) ifs (tBl S.inn gk))
    (he : ∀ (s : Shared) (H : Hp) (Ca : Addr) (cl : List (Str × Addr)) (fp : List Addr), PE (X.blk s H scope (compEnvC scope cl Ca X.env) fp) elt (tE S.inn fr fe)) (hs : ∀ x, foldedSetIterable iter X.env x = pure x) :
    PE X (.ListComp elt [⟨tge, iter, ifs, 0⟩] scope pos) (tE S true (compF gi tg (own.map (·.2)) gk fe)) :=
  pe_imp (pe_lc hc hN hi ok hg ht he hs) fun s H Q h => lc_imp ho s H Q h
/-- the same, stored in a local name at once -/
theorem ms_comp {i : Nat} {y : Str} {py spos : Pos} {own : List (Str × Nat)} {scope : Scope} {gi : MP.Env → M → R (List Val × List Nat)} {tg : Tg} {gk : MP.Env → M → R Bool} {fr : Bool} {fe : MP.Env → M → R Val} {elt tge iter : Expr} {ifs : List Expr} {pos : Pos}
    (hc : X.calm = true) (hN : X.N.Nodup) (hy : X.N[i]? = some y) (hyl : X.env.scope.names.lookup y = some .local)
    (hsw : swapsWith (.ListComp elt [⟨tge, iter, ifs, 0⟩] scope pos) (some (.Name y py)) spos.line X.env = pure true) (hi : PI X tge iter (tI S gi)) (ok : BlkOk X.N X.env.scope scope own) (ho : ∀ i ∈ tg.slots, i ∈ own.map (·.2))
    (hg : ∀ (s : Shared) (H : Hp) (Ca : Addr) (cl : List (Str × Addr)) (fp : List Addr), PG (X.blk s H scope (compEnvC scope cl Ca X.env) fp) tge (tG S.inn tg))
    (ht : ∀ (s : Shared) (H : Hp) (Ca : Addr) (cl : List (Str × Addr)) (fp : List Addr), PTs (X.blk s H scope (compEnvC scope cl Ca X.env) fp) ifs (tBl S.inn gk))
    (he : ∀ (s : Shared) (H : Hp) (Ca : Addr) (cl : List (Str × Addr)) (fp : List Addr), PE (X.blk s H scope (compEnvC scope cl Ca X.env) fp) elt (tE S.inn fr fe)) (hs : ∀ x, foldedSetIterable iter X.env x = pure x) :
    ∃ t : TE, PS X (.Assign [.Name y py] (.ListComp elt [⟨tge, iter, ifs, 0⟩] scope pos) spos) (tAsg t (gName i)) ∧ ∀ s H Q, tE S true (compF gi tg (own.map (·.2)) gk fe) s H Q → t s H Q :=
  ⟨_, ps_setLc hc hN hy hyl hsw hi ok hg ht he hs, fun s H Q h => lc_imp ho s H Q h⟩
end

theorem own_snd {N : List Str} : ∀ (own : List Nat), (own.map fun i => (N.getD i default, i)).map (·.2) = own
  | [] => rfl
  | _ :: r => by
    have := own_snd (N := N) r
    simp only [List.map_cons, this]
theorem R.bind_ok {α : Type} (r : R α) : (r.bind fun x m => .ok x m) = r := by cases r <;> rfl


def plainT : Expr → Bool
  | .UnaryOp .Not _ _ => false
  | .BoolOp _ _ _ => false
  | .IfExp _ _ _ _ => false
  | .Compare _ _ _ _ => false
  | _ => true
theorem isTrue_of {x : Expr} (h : plainT x = true) (env : PySem.Env) (whole : Sem Value) : isTrue x env whole = (do let v ← whole; standAt x.pos; holding [v] (truthy v)) := by
  cases x <;> first | (cases h; done) | rfl | skip
  rename_i op _ _
  cases op <;> first | (cases h; done) | rfl
def Both (C : MP.Cx) (X : L2.Cx) (S : Sg) (x : Expr) (e : E) : Prop := PE X x (tE S (fresh e) (ev C e)) ∧ PT X x (tBl S (tru_ (ev C e)))
theorem dflt {W : Wd} {C : MP.Cx} {X : L2.Cx} {S : Sg} {b : Blk} {x : Expr} {e : E} (g : Good W C X S b) (h : PE X x (tE S (fresh e) (ev C e))) (hp : plainT x = true) : Both C X S x e :=
  ⟨h, mt_val g.hK h fun whole => isTrue_of hp _ whole⟩
theorem fresh_plain {W : Wd} {b : Blk} {u : E} {x : Expr} (h : fresh u = true) (h2 : chkE W b u x = true) : plainT x = true := by
  cases u <;> first | (simp [fresh] at h; done) | skip
  all_goals (cases x <;> first | rfl | (simp [chkE] at h2; done) | skip)
  all_goals (rename_i o _ _; cases o <;> first | rfl | (simp [chkE] at h2; done))
theorem tru_not (f : MP.Env → M → R Val) (r : MP.Env) (m : M) : tru_ (fun r m => (f r m).bind fun x m => (opt (tru (dr m x)) m).bind fun b m => .ok (.bl (!b)) m) r m = (tru_ f r m).bind fun k m => .ok (!k) m := by
  dsimp only [tru_]
  cases f r m with
  | stuck => rfl
  | exc _ _ _ => rfl
  | ok v m =>
    dsimp only [R.bind]
    cases tru (dr m v) <;> rfl
theorem tru_and (C : MP.Cx) (f : MP.Env → M → R Val) (b : E) (es : Es) (r : MP.Env) (m : M) : tru_ (fun r m => (f r m).bind fun v m => evAnd C (.cons b es) v r m) r m =
    (tru_ f r m).bind fun k m => if k then tru_ (fun r m => (ev C b r m).bind fun v m => evAnd C es v r m) r m else .ok false m := by
  dsimp only [tru_]
  cases f r m with
  | stuck => rfl
  | exc _ _ _ => rfl
  | ok v m =>
    dsimp only [R.bind]
    rw [evAnd]
    cases e : tru (dr m v) with
    | none => rfl
    | some k =>
      cases k with
      | false =>
        simp [MP.opt, R.bind, e]
      | true => rfl
theorem tru_or (C : MP.Cx) (f : MP.Env → M → R Val) (b : E) (es : Es) (r : MP.Env) (m : M) : tru_ (fun r m => (f r m).bind fun v m => evOr C (.cons b es) v r m) r m =
    (tru_ f r m).bind fun k m => if k then .ok true m else tru_ (fun r m => (ev C b r m).bind fun v m => evOr C es v r m) r m := by
  dsimp only [tru_]
  cases f r m with
  | stuck => rfl
  | exc _ _ _ => rfl
  | ok v m =>
    dsimp only [R.bind]
    rw [evOr]
    cases e : tru (dr m v) with
    | none => rfl
    | some k =>
      cases k with
      | true =>
        simp [MP.opt, R.bind, e]
      | false => rfl
theorem pw_eq {X : L2.Cx} {S : Sg} {x : Expr} {F G : MP.Env → M → R Bool} (h : PW X x (tBl S F)) (e : G = F) : PW X x (tBl S G) := e ▸ h

end MP
set_option Elab.async false
set_option linter.all false
set_option maxRecDepth 100000
set_option maxHeartbeats 2000000
/-! MPSound: what is checked is read as the clean text says. -/
namespace MP
open PySem PySem.Spec PyProof.Rows L2
theorem o_ok {C : MP.Cx} {X : L2.Cx} {S : Sg} {e : E} {f : Expr → Bool} (he : ∀ x, f x = true → isEmp e = false ∧ PE X x (tE S (fresh e) (ev C e))) (o : Option Expr) (h : optOk e f o = true) :
    ∃ go, PartOk X S o go ∧ ∀ r m, partO go r m = if isEmp e then .ok none m else (ev C e r m).bind fun y m => opt (partOf y) m := by
  cases o with
  | none =>
    cases e <;> first | (simp [optOk, isEmp] at h; done) | skip
    exact ⟨none, .none, fun r m => rfl⟩
  | some x =>
    obtain ⟨h1, h2⟩ := he x h
    refine ⟨some (ev C e), .some h2, fun r m => ?_⟩
    rw [h1]
    rfl
theorem not_emp {W : Wd} {b : Blk} {e : E} {x : Expr} (h : chkE W b e x = true) : isEmp e = false := by
  cases e <;> first | rfl | (simp [chkE] at h)
mutual
theorem eb {W : Wd} {C : MP.Cx} : ∀ (e : E) (x : Expr) (X : L2.Cx) (S : Sg) (b : Blk), Good W C X S b → chkE W b e x = true → Both C X S x e
  | .var i, x, X, S, b, g, h => by
    cases x <;> simp only [chkE, Bool.false_eq_true] at h
    obtain ⟨h1, h2, h3, h4⟩ := g.vis h
    exact dflt g (pe_eq (me_var h1 h2 h3 h4) (by funext r m; rw [ev]; try rfl)) rfl
  | .con c, x, X, S, b, g, h => by
    cases x <;> first | (cases c <;> simp only [chkE, Bool.false_eq_true] at h; done) | skip
    rename_i k _ _
    cases c <;> cases k <;> simp only [chkE, Bool.false_eq_true, decide_eq_true_eq] at h
    · exact dflt g (pe_eq me_non (by funext r m; rw [ev]; try rfl)) rfl
    · subst h; exact dflt g (pe_eq me_bl (by funext r m; rw [ev]; try rfl)) rfl
    · subst h; exact dflt g (pe_eq me_int (by funext r m; rw [ev]; try rfl)) rfl
    · subst h; exact dflt g (pe_eq me_str (by funext r m; rw [ev]; try rfl)) rfl
  | .glob _, x, X, S, b, g, h => by simp [chkE] at h
  | .bin op u v, x, X, S, b, g, h => by
    cases x <;> simp only [chkE, Bool.false_eq_true, Bool.and_eq_true, decide_eq_true_eq] at h
    obtain ⟨⟨rfl, h1⟩, h2⟩ := h
    exact dflt g (pe_eq (me_bin g.hK (eb u _ X S b g h1).1 (eb v _ X S b g h2).1) (by funext r m; rw [ev])) rfl
  | .neg u, x, X, S, b, g, h => by
    cases x <;> first | (simp only [chkE, Bool.false_eq_true] at h; done) | skip
    rename_i op y _
    cases op <;> simp only [chkE, Bool.false_eq_true] at h
    exact dflt g (pe_eq (me_neg (eb u _ X S b g h).1) (by funext r m; rw [ev]; try rfl)) rfl
  | .nt u, x, X, S, b, g, h => by
    cases x <;> first | (simp only [chkE, Bool.false_eq_true] at h; done) | skip
    rename_i op y _
    cases op <;> simp only [chkE, Bool.false_eq_true] at h
    have q := eb u _ X S b g h
    have e : ev C (.nt u) = fun r m => (ev C u r m).bind fun x m => (opt (tru (dr m x)) m).bind fun b m => .ok (.bl (!b)) m := by
      funext r m
      rw [ev]
    refine ⟨pe_eq (me_not g.hK q.1) e, pt_eq (mt_not q.2) ?_⟩
    funext r m
    rw [e]
    exact tru_not _ r m
  | .and u r, x, X, S, b, g, h => by
    cases x <;> first | (simp only [chkE, Bool.false_eq_true] at h; done) | skip
    rename_i op ys _
    cases op <;> cases ys <;> simp only [chkE, Bool.false_eq_true, Bool.and_eq_true] at h
    have q := eb u _ X S b g h.1
    have e : ev C (.and u r) = fun ρ m => (ev C u ρ m).bind fun x m => evAnd C r x ρ m := by
      funext ρ m
      rw [ev]
    refine ⟨pe_eq (and_ok r _ _ X S b g h.2 q.1) e, ?_⟩
    rw [e]
    exact (andT_ok r _ _ X S b g h.2 q.2).pt
  | .or u r, x, X, S, b, g, h => by
    cases x <;> first | (simp only [chkE, Bool.false_eq_true] at h; done) | skip
    rename_i op ys _
    cases op <;> cases ys <;> simp only [chkE, Bool.false_eq_true, Bool.and_eq_true] at h
    have q := eb u _ X S b g h.1
    have e : ev C (.or u r) = fun ρ m => (ev C u ρ m).bind fun x m => evOr C r x ρ m := by
      funext ρ m
      rw [ev]
    refine ⟨pe_eq (or_ok r _ _ X S b g h.2 q.1) e, ?_⟩
    rw [e]
    exact (orT_ok r _ _ X S b g h.2 q.2).pt
  | .ite c u v, x, X, S, b, g, h => by
    cases x <;> simp only [chkE, Bool.false_eq_true, Bool.and_eq_true] at h
    have qc := eb c _ X S b g h.1.1
    have qu := eb u _ X S b g h.1.2
    have qv := eb v _ X S b g h.2
    have e : ev C (.ite c u v) = fun r m => (tru_ (ev C c) r m).bind fun k m => if k then ev C u r m else ev C v r m := by
      funext r m
      rw [ev]
      unfold tru_
      cases ev C c r m <;> rfl
    refine ⟨pe_eq (me_ite qc.2 qu.1 qv.1) e, pt_eq (mt_ite qc.2 qu.2 qv.2) ?_⟩
    funext r m
    rw [e]
    show R.bind (R.bind (tru_ (ev C c) r m) _) _ = _
    cases tru_ (ev C c) r m with
    | stuck => rfl
    | exc _ _ _ => rfl
    | ok k m => cases k <;> rfl
  | .cmp u ops es, x, X, S, b, g, h => by
    cases x <;> simp only [chkE, Bool.false_eq_true, Bool.and_eq_true, decide_eq_true_eq, Bool.not_eq_true'] at h
    obtain ⟨⟨⟨⟨⟨rfl, h1⟩, h2⟩, h3⟩, h4⟩, h5⟩ := h
    have q := (eb u _ X S b g h1).1
    have c := fun pos => ch_ok (pos := pos) es _ _ X S b g h2 h3 h4
    have e : ev C (.cmp u ops es) = fun r m => (ev C u r m).bind fun x m => evCmp C es ops x r m := by
      funext r m
      rw [ev]
    refine ⟨pe_eq (me_cmp q (c _) h5) e, ?_⟩
    rw [e]
    exact mt_cmp q (c _) h5 fun x r m v m' e => evCmp_bl C es ops x r m v m' e
  | .idx u i, x, X, S, b, g, h => by
    cases x <;> simp only [chkE, Bool.false_eq_true, Bool.and_eq_true] at h
    exact dflt g (pe_eq (me_idx g.hK (eb u _ X S b g h.1.1).1 (eb i _ X S b g h.1.2).1 h.2) (by funext r m; rw [ev])) rfl
  | .slc u lo hi, x, X, S, b, g, h => by
    cases x <;> first | (simp only [chkE, Bool.false_eq_true] at h; done) | skip
    rename_i y sl _
    cases sl <;> first | (simp only [chkE, Bool.false_eq_true] at h; done) | skip
    rename_i l hh st _
    cases st <;> simp only [chkE, Bool.false_eq_true, Bool.and_eq_true] at h
    obtain ⟨gl, pl, el⟩ := o_ok (fun x hx => ⟨not_emp hx, (eb lo x X S b g hx).1⟩) l h.1.2
    obtain ⟨gh, ph, eh⟩ := o_ok (fun x hx => ⟨not_emp hx, (eb hi x X S b g hx).1⟩) hh h.2
    refine dflt g (pe_eq (pe_fr (me_slc g.hK (eb u _ X S b g h.1.1).1 pl ph)) ?_) rfl
    funext r m
    rw [ev]
    simp only [el, eh]
  | .rev _, x, X, S, b, g, h => by simp [chkE] at h
  | .tup es, x, X, S, b, g, h => by
    cases x <;> simp only [chkE, Bool.false_eq_true, Bool.and_eq_true] at h
    exact dflt g (pe_eq (me_tup (es_ok es _ X S b g h.2 h.1)) (by funext r m; rw [ev])) rfl
  | .lst es, x, X, S, b, g, h => by
    cases x <;> simp only [chkE, Bool.false_eq_true, Bool.and_eq_true] at h
    exact dflt g (pe_eq (me_lst (es_ok es _ X S b g h.2 h.1)) (by funext r m; rw [ev])) rfl
  | .comp st elt own tg it cd, x, X, S, b, g, h => by
    cases x <;> first | (simp only [chkE, Bool.false_eq_true] at h; done) | skip
    rename_i y gs scope _
    cases gs <;> first | (simp only [chkE, Bool.false_eq_true] at h; done) | skip
    rename_i ge gr
    cases gr <;> simp only [chkE, Bool.false_eq_true, Bool.and_eq_true, decide_eq_true_eq, Bool.not_eq_true', List.all_eq_true] at h
    obtain ⟨⟨⟨⟨⟨⟨⟨⟨rfl, h0⟩, h1⟩, h2⟩, h3⟩, h4⟩, h5⟩, h6, h6'⟩, h7⟩ := h
    obtain ⟨tge, iter, ifs, asy⟩ := ge
    simp only at h0 h1 h2 h3 h4 h5 h6 h6' h7
    subst h0
    have ok : BlkOk X.N X.env.scope scope (own.map fun i => (b.N.getD i default, i)) := by
      rw [g.hN, g.scope]
      exact blkOk_by h3
    obtain ⟨hi, hns⟩ := it_ok it iter tge X S b g h1 h2
    refine dflt g (pe_eq (me_comp g.calm (g.hN ▸ g.nd) hi ok (fun i hi => by rw [own_snd]; simpa using h4 i hi) (fun s H Ca cl fp => tg_ok (g.blk ok.kind s H Ca cl fp) tg tge h5)
      (fun s H Ca cl fp => cd_ok cd ifs _ _ _ (g.blk ok.kind s H Ca cl fp) h6 h6') (fun s H Ca cl fp => (eb elt y _ _ _ (g.blk ok.kind s H Ca cl fp) h7).1) (hns X.env)) ?_) rfl
    funext r m
    rw [ev, own_snd]
    unfold compF
    congr 1
  | .call f es al, x, X, S, b, g, h => by
    cases x <;> first | (simp only [chkE, Bool.false_eq_true] at h; done) | skip
    rename_i fn us kws _
    cases fn <;> cases kws <;> simp only [chkE, Bool.false_eq_true, Bool.and_eq_true, decide_eq_true_eq] at h
    obtain ⟨⟨⟨h1, h2⟩, h3⟩, h4⟩ := h
    obtain ⟨hg, hd⟩ := g.gl h1
    obtain ⟨k, fa, fd, ps, F, hr, hm, hkp, hb, _⟩ := g.fns _ _ h2
    have hes := es_ok es us X S b g h4 h3
    cases us with
    | nil =>
      cases es with
      | cons _ _ => simp [chkEs] at h4
      | nil => exact dflt g (pe_eq (me_call0 (F al) hr g.gd g.tk hg hm hkp hb (g.call f) hd) (by funext r m; rw [ev, evs])) rfl
    | cons u us =>
      have h3' := noStars_cons.mp h3
      exact dflt g (pe_eq (me_call (F al) hr g.gd g.tk hg hm hkp hb (g.call f) hes hd (star_cons h3'.1 _ _) (back_any h3'.2)) (by funext r m; rw [ev])) rfl
  | .callk f es kes perm al, x, X, S, b, g, h => by
    cases x <;> first | (simp only [chkE, Bool.false_eq_true] at h; done) | skip
    rename_i fn us kws pos
    cases fn <;> simp only [chkE, Bool.false_eq_true, Bool.and_eq_true, decide_eq_true_eq] at h
    obtain ⟨⟨⟨⟨⟨⟨h1, h2⟩, h3⟩, h4⟩, h5⟩, h6⟩, h7⟩ := h
    obtain ⟨hg, hd⟩ := g.gl h1
    obtain ⟨k, fa, fd, ps, F, hr, hm, hkp, hb, hkw⟩ := g.fns _ _ h2
    have hes := es_ok es us X S b g h4 h3
    have hke := ks_ok kes kws X S b g h5
    have kb := hkw _ _ _ h7
    have hall : (backToKw pos (keywordEach kws X.env)).all (·.1.isSome) = true := by
      clear hke h5 h7 kb
      induction kws with
      | nil => rfl
      | cons kw kws ih =>
        simp only [List.all_cons, Bool.and_eq_true] at h6
        obtain ⟨ka, kv, kp⟩ := kw
        show (ka.isSome && (backToKw pos (keywordEach kws X.env)).all (·.1.isSome)) = true
        rw [h6.1, ih h6.2]
        rfl
    have hks : (backToKw pos (keywordEach kws X.env)).filterMap (·.1) = kws.filterMap (·.arg) := by
      clear hke h5 h7 kb hall h6
      induction kws with
      | nil => rfl
      | cons kw kws ih =>
        obtain ⟨a, v, p⟩ := kw
        cases a with
        | none =>
          have : (backToKw pos (keywordEach (⟨none, v, p⟩ :: kws) X.env)).filterMap (·.1) = (backToKw pos (keywordEach kws X.env)).filterMap (·.1) := rfl
          rw [this, ih]
          rfl
        | some a =>
          have : (backToKw pos (keywordEach (⟨some a, v, p⟩ :: kws) X.env)).filterMap (·.1) = a :: (backToKw pos (keywordEach kws X.env)).filterMap (·.1) := rfl
          rw [this, ih]
          rfl
    have hnk : (backToKw pos (keywordEach kws X.env)).any (·.1.isNone) = false := by
      clear hke h5 h7 kb hall hks
      induction kws with
      | nil => rfl
      | cons kw kws ih =>
        simp only [List.all_cons, Bool.and_eq_true] at h6
        obtain ⟨ka, kv, kp⟩ := kw
        show (ka.isNone || (backToKw pos (keywordEach kws X.env)).any (·.1.isNone)) = false
        rw [ih h6.2]
        cases ka with
        | none => simp at h6
        | some _ => rfl
    have hkl : (kws.filterMap (·.arg)).length = kes.len := by
      rw [← chkEs_len h5, List.length_map]
      clear hke h5 h7 kb hall hks hnk
      induction kws with
      | nil => rfl
      | cons kw kws ih =>
        simp only [List.all_cons, Bool.and_eq_true] at h6
        cases e : kw.arg with
        | none => rw [e] at h6; simp at h6
        | some a =>
          rw [List.filterMap_cons, e]
          show (kws.filterMap (·.arg)).length + 1 = kws.length + 1
          rw [ih h6.2]
    cases us with
    | nil =>
      cases es with
      | cons _ _ => simp [chkEs] at h4
      | nil =>
        refine dflt g (pe_eq (me_callk0 (F al) hr g.gd g.tk hg hm hkp kb (g.call f) hke hd (fun r m vs m' e => by rw [hkl]; exact evs_len C kes r m vs m' e) hall hks ?_) (by funext r m; rw [ev, evs]; rfl)) rfl
        rw [hnk]
        rfl
    | cons u us =>
      have h3' := noStars_cons.mp h3
      refine dflt g (pe_eq (me_callk (F al) hr g.gd g.tk hg hm hkp kb (g.call f) hes hke hd (fun r m vs m' e => by rw [chkEs_len h4]; exact evs_len C es r m vs m' e) (fun r m vs m' e => by rw [hkl]; exact evs_len C kes r m vs m' e)
        (star_cons h3'.1 _ _) hall hks ?_) (by funext r m; rw [ev])) rfl
      rw [hnk, back_any h3]
      rfl
  | .blt k es, x, X, S, b, g, h => by
    cases x <;> first | (simp only [chkE, Bool.false_eq_true] at h; done) | skip
    rename_i fn us kws _
    cases fn <;> cases kws <;> simp only [chkE, Bool.false_eq_true, Bool.and_eq_true, decide_eq_true_eq] at h
    obtain ⟨⟨⟨⟨⟨h0, h1⟩, h2⟩, h3⟩, h4⟩, h5⟩ := h
    obtain ⟨hg, hd⟩ := g.gl h1
    have hes := es_ok es us X S b g h5 h3
    cases us with
    | nil => simp at h4
    | cons u us =>
      have h3' := noStars_cons.mp h3
      have q := fun p pos => me_blt (p := p) (pos := pos) g h0 hg (g.blt _ h2) hes (star_cons h3'.1 _ _) (back_any h3'.2)
      refine dflt g (pe_eq (f := fresh (.blt k es)) ?_ (show ev C (.blt k es) = _ by funext r m; rw [ev])) rfl
      cases e : fresh (.blt k es) with
      | true => exact q _ _
      | false => exact pe_fr (q _ _)
  | .isi u tys, x, X, S, b, g, h => by
    cases x <;> first | (simp only [chkE, Bool.false_eq_true] at h; done) | skip
    rename_i fn us kws _
    cases fn <;> first | (simp only [chkE, Bool.false_eq_true] at h; done) | skip
    rcases us with _ | ⟨y, _ | ⟨t, _ | ⟨w, us⟩⟩⟩ <;> first | (simp only [chkE, Bool.false_eq_true] at h; done) | skip
    cases kws <;> simp only [chkE, Bool.false_eq_true, Bool.and_eq_true, decide_eq_true_eq] at h
    obtain ⟨⟨⟨⟨⟨rfl, h1⟩, h2⟩, h3⟩, h4⟩, h5⟩ := h
    obtain ⟨hg, hd⟩ := g.gl h1
    have hm := g.blt _ h2
    have ha := (eb u y X S b g h4).1
    unfold isiOk at h5
    split at h5
    · rename_i ts _ _
      simp only [Bool.and_eq_true, Bool.not_eq_true', decide_eq_true_eq] at h5
      obtain ⟨⟨h6, h7⟩, h8⟩ := h5
      obtain ⟨h9, h10⟩ := tys_ok g h8
      exact dflt g (pe_eq (me_isiT (sup := C.sup) hg hm h9 h7 (by intro e; rw [e] at h6; simp at h6) g.hK ha h10 (star_cons h3 _ _)) (by funext r m; rw [ev])) rfl
    · split at h5
      · rename_i t' _ ty
        obtain ⟨z, p, rfl, h6, h7⟩ := ty_name g h5
        exact dflt g (pe_eq (me_isi1 (sup := C.sup) hg hm h6 g.hK ha h7 (star_cons h3 _ _) rfl) (by funext r m; rw [ev])) rfl
      · cases h5
  | .mth k o es, x, X, S, b, g, h => by
    cases k <;> first | (simp only [chkE, Bool.false_eq_true] at h; done) | skip
    cases x <;> first | (simp only [chkE, Bool.false_eq_true] at h; done) | skip
    rename_i fn us kws _
    cases fn <;> cases kws <;> simp only [chkE, Bool.false_eq_true, Bool.and_eq_true, decide_eq_true_eq] at h
    obtain ⟨⟨⟨⟨⟨⟨⟨rfl, h1⟩, h2⟩, h3⟩, h4⟩, h5⟩, h6⟩, h7⟩ := h
    have hes := es_ok es us X S b g h7 h4
    cases us with
    | nil => simp at h5
    | cons u us =>
      have h4' := noStars_cons.mp h4
      refine dflt g (pe_eq (me_append (eb o _ X S b g h3).1 hes g.hK (attr_base h1 _) ?_ h2 (star_cons h4'.1 _ _) (back_any h4'.2)) (by funext r m; rw [ev, g.base])) rfl
      rw [back_all h4]
      unfold fewOk at h6
      have h6 := of_decide_eq_true h6
      have : decide ((u :: us).length + ([] : List Keyword).length + (if ([] : List Keyword).isEmpty then 0 else 1) < 30) = true := by
        refine decide_eq_true ?_
        simp only [List.length_nil, List.isEmpty_nil, if_true]
        omega
      rw [this]
      rfl
  | .new u, x, X, S, b, g, h => by
    simp only [chkE, Bool.and_eq_true] at h
    have q := (eb u x X S b g h.2).1
    rw [h.1] at q
    exact dflt g (pe_eq (me_new q) (by funext r m; rw [ev]; try rfl)) (fresh_plain h.1 h.2)
  | .dict _ _, x, X, S, b, g, h => by simp [chkE] at h
  | .fld _ _, x, X, S, b, g, h => by simp [chkE] at h
  | .emp, x, X, S, b, g, h => by simp [chkE] at h
theorem es_ok {W : Wd} {C : MP.Cx} : ∀ (es : Es) (xs : List Expr) (X : L2.Cx) (S : Sg) (b : Blk), Good W C X S b → chkEs W b es xs = true → noStars xs = true → PA X xs (tEs S (evs C es))
  | .nil, [], X, S, b, g, h, hs => by
    have e : evs C .nil = fun _ m => .ok [] m := by funext r m; rw [evs]
    rw [e]
    exact ms_nil
  | .nil, _ :: _, X, S, b, g, h, hs => by simp [chkEs] at h
  | .cons _ _, [], X, S, b, g, h, hs => by simp [chkEs] at h
  | .cons u r, x :: xs, X, S, b, g, h, hs => by
    simp only [chkEs, Bool.and_eq_true] at h
    rw [noStars_cons] at hs
    have e : evs C (.cons u r) = fun ρ m => (ev C u ρ m).bind fun x m => (evs C r ρ m).bind fun xs m => .ok (x :: xs) m := by funext ρ m; rw [evs]
    rw [e]
    exact ms_cons (eb u x X S b g h.1).1 (es_ok r xs X S b g h.2 hs.2) (star_cons hs.1 _ _)
theorem ks_ok {W : Wd} {C : MP.Cx} : ∀ (es : Es) (kws : List Keyword) (X : L2.Cx) (S : Sg) (b : Blk), Good W C X S b → chkEs W b es (kws.map (·.value)) = true → PK X kws (tEs S (evs C es))
  | .nil, [], X, S, b, g, h => by
    have e : evs C .nil = fun _ m => .ok [] m := by funext r m; rw [evs]
    rw [e]
    exact ⟨fun pos pins s σ H Q I ⟨r, m, al, re, rl, p⟩ => pk_nil.run pos pins s σ H Q I (Post.done (v := ([] : List Val)) p rl .nil)⟩
  | .nil, _ :: _, X, S, b, g, h => by simp [chkEs] at h
  | .cons _ _, [], X, S, b, g, h => by simp [chkEs] at h
  | .cons u r, ⟨nm, x, kp⟩ :: kws, X, S, b, g, h => by
    simp only [List.map_cons, chkEs, Bool.and_eq_true] at h
    have e : evs C (.cons u r) = fun ρ m => (ev C u ρ m).bind fun x m => (evs C r ρ m).bind fun xs m => .ok (x :: xs) m := by funext ρ m; rw [evs]
    rw [e]
    refine ⟨fun pos pins s σ H Q I ⟨ρ, m, al, re, rl, p⟩ => (pk_cons (eb u x X S b g h.1).1 (ks_ok r kws X S b g h.2)).run pos pins s σ H Q I ?_⟩
    refine ⟨ρ, m, al, re, rl, p.seq.mono ?_⟩
    rintro u1 H1 ⟨v, m1, al1, x1, rl1, q1, p1⟩
    refine ⟨ρ, m1, al1, re.ext x1, rl1, p1.seq.mono ?_⟩
    rintro w H2 ⟨v2, m2, al2, x2, rl2, q2, p2⟩
    exact p2.done rl2 (.cons (q1.1.ext x2 _ _) q2)
theorem and_ok {W : Wd} {C : MP.Cx} : ∀ (es : Es) (u : Expr) (us : List Expr) (X : L2.Cx) (S : Sg) (b : Blk), Good W C X S b → chkEs W b es us = true → ∀ {f : Bool} {fa : MP.Env → M → R Val} {pos : Pos}, PE X u (tE S f fa) →
    PE X (.BoolOp .And (u :: us) pos) (tE S false fun ρ m => (fa ρ m).bind fun v m => evAnd C es v ρ m)
  | .nil, u, [], X, S, b, g, h, f, fa, pos, ha => pe_eq (me_one ha) (by
    funext ρ m
    simp only [evAnd]
    exact R.bind_ok _)
  | .nil, _, _ :: _, X, S, b, g, h, f, fa, pos, ha => by simp [chkEs] at h
  | .cons _ _, _, [], X, S, b, g, h, f, fa, pos, ha => by simp [chkEs] at h
  | .cons c r, u, x :: xs, X, S, b, g, h, f, fa, pos, ha => by
    simp only [chkEs, Bool.and_eq_true] at h
    exact pe_eq (me_and g.hK ha (and_ok r x xs X S b g h.2 (eb c x X S b g h.1).1)) (by
      funext ρ m
      simp only [evAnd])
theorem or_ok {W : Wd} {C : MP.Cx} : ∀ (es : Es) (u : Expr) (us : List Expr) (X : L2.Cx) (S : Sg) (b : Blk), Good W C X S b → chkEs W b es us = true → ∀ {f : Bool} {fa : MP.Env → M → R Val} {pos : Pos}, PE X u (tE S f fa) →
    PE X (.BoolOp .Or (u :: us) pos) (tE S false fun ρ m => (fa ρ m).bind fun v m => evOr C es v ρ m)
  | .nil, u, [], X, S, b, g, h, f, fa, pos, ha => pe_eq (me_one ha) (by
    funext ρ m
    simp only [evOr]
    exact R.bind_ok _)
  | .nil, _, _ :: _, X, S, b, g, h, f, fa, pos, ha => by simp [chkEs] at h
  | .cons _ _, _, [], X, S, b, g, h, f, fa, pos, ha => by simp [chkEs] at h
  | .cons c r, u, x :: xs, X, S, b, g, h, f, fa, pos, ha => by
    simp only [chkEs, Bool.and_eq_true] at h
    exact pe_eq (me_or g.hK ha (or_ok r x xs X S b g h.2 (eb c x X S b g h.1).1)) (by
      funext ρ m
      simp only [evOr])
theorem andT_ok {W : Wd} {C : MP.Cx} : ∀ (es : Es) (u : Expr) (us : List Expr) (X : L2.Cx) (S : Sg) (b : Blk), Good W C X S b → chkEs W b es us = true → ∀ {fa : MP.Env → M → R Val} {pos : Pos}, PT X u (tBl S (tru_ fa)) →
    PW X (.BoolOp .And (u :: us) pos) (tBl S (tru_ fun ρ m => (fa ρ m).bind fun v m => evAnd C es v ρ m))
  | .nil, u, [], X, S, b, g, h, fa, pos, ha => pw_eq (pw_and1 ha) (by
    congr 1
    funext ρ m
    simp only [evAnd]
    exact R.bind_ok _)
  | .nil, _, _ :: _, X, S, b, g, h, fa, pos, ha => by simp [chkEs] at h
  | .cons _ _, _, [], X, S, b, g, h, fa, pos, ha => by simp [chkEs] at h
  | .cons c r, u, x :: xs, X, S, b, g, h, fa, pos, ha => by
    simp only [chkEs, Bool.and_eq_true] at h
    exact pw_eq (mw_and ha (andT_ok r x xs X S b g h.2 (eb c x X S b g h.1).2)) (by
      funext ρ m
      exact tru_and C fa c r ρ m)
theorem orT_ok {W : Wd} {C : MP.Cx} : ∀ (es : Es) (u : Expr) (us : List Expr) (X : L2.Cx) (S : Sg) (b : Blk), Good W C X S b → chkEs W b es us = true → ∀ {fa : MP.Env → M → R Val} {pos : Pos}, PT X u (tBl S (tru_ fa)) →
    PW X (.BoolOp .Or (u :: us) pos) (tBl S (tru_ fun ρ m => (fa ρ m).bind fun v m => evOr C es v ρ m))
  | .nil, u, [], X, S, b, g, h, fa, pos, ha => pw_eq (pw_or1 ha) (by
    congr 1
    funext ρ m
    simp only [evOr]
    exact R.bind_ok _)
  | .nil, _, _ :: _, X, S, b, g, h, fa, pos, ha => by simp [chkEs] at h
  | .cons _ _, _, [], X, S, b, g, h, fa, pos, ha => by simp [chkEs] at h
  | .cons c r, u, x :: xs, X, S, b, g, h, fa, pos, ha => by
    simp only [chkEs, Bool.and_eq_true] at h
    exact pw_eq (mw_or ha (orT_ok r x xs X S b g h.2 (eb c x X S b g h.1).2)) (by
      funext ρ m
      exact tru_or C fa c r ρ m)
theorem ch_ok {W : Wd} {C : MP.Cx} : ∀ (es : Es) (ops : List CmpOp) (xs : List Expr) (X : L2.Cx) (S : Sg) (b : Blk), Good W C X S b → chkEs W b es xs = true → ops.length = xs.length → xs.isEmpty = false → ∀ {pos : Pos}, PCh X S pos ops xs (fun v ρ m => evCmp C es ops v ρ m)
  | .nil, ops, [], X, S, b, g, h, hl, he, pos => by simp at he
  | .nil, _, _ :: _, X, S, b, g, h, hl, he, pos => by simp [chkEs] at h
  | .cons _ _, _, [], X, S, b, g, h, hl, he, pos => by simp at he
  | .cons c .nil, [op], [x], X, S, b, g, h, hl, he, pos => by
    simp only [chkEs, Bool.and_eq_true] at h
    have e : (fun v ρ m => evCmp C (.cons c .nil) [op] v ρ m) = cmpG op (ev C c) := by
      funext v ρ m
      rw [evCmp]
      try rfl
    rw [e]
    exact mc_last g.hK g.un (eb c x X S b g h.1).1
  | .cons c .nil, ops, x :: y :: xs, X, S, b, g, h, hl, he, pos => by simp [chkEs] at h
  | .cons c .nil, [], [x], X, S, b, g, h, hl, he, pos => by simp at hl
  | .cons c .nil, _ :: _ :: _, [x], X, S, b, g, h, hl, he, pos => by simp at hl
  | .cons c (.cons d r), ops, [x], X, S, b, g, h, hl, he, pos => by simp [chkEs] at h
  | .cons c (.cons d r), [], x :: y :: xs, X, S, b, g, h, hl, he, pos => by simp at hl
  | .cons c (.cons d r), [op], x :: y :: xs, X, S, b, g, h, hl, he, pos => by simp at hl
  | .cons c (.cons d r), op :: op' :: ops, x :: y :: xs, X, S, b, g, h, hl, he, pos => by
    have h' := h
    simp only [chkEs, Bool.and_eq_true] at h
    have h2 : chkEs W b (.cons d r) (y :: xs) = true := by
      simp only [chkEs, Bool.and_eq_true]
      exact h.2
    have e : (fun v ρ m => evCmp C (.cons c (.cons d r)) (op :: op' :: ops) v ρ m) = cmpN op (ev C c) (fun v ρ m => evCmp C (.cons d r) (op' :: ops) v ρ m) := by
      funext v ρ m
      rw [evCmp]
      all_goals first | rfl | (intros; simp_all; done)
    rw [e]
    exact mc_cons g.hK g.un (eb c x X S b g h.1).1 (ch_ok (.cons d r) (op' :: ops) (y :: xs) X S b g h2 (by simpa using hl) rfl)
theorem cd_ok {W : Wd} {C : MP.Cx} : ∀ (es : Es) (xs : List Expr) (X : L2.Cx) (S : Sg) (b : Blk), Good W C X S b → chkEs W b es xs = true → xs.length ≤ 1 → PTs X xs (tBl S (evCd C es))
  | .nil, [], X, S, b, g, h, hl => by
    have e : evCd C .nil = fun _ m => .ok true m := by funext r m; rw [evCd]
    rw [e]
    exact ⟨fun pins s σ H Q I ⟨r, m, al, re, rl, p⟩ => pts_nil.run pins s σ H Q I (Post.done (v := true) p rl rfl)⟩
  | .nil, _ :: _, X, S, b, g, h, hl => by simp [chkEs] at h
  | .cons _ _, [], X, S, b, g, h, hl => by simp [chkEs] at h
  | .cons c .nil, [x], X, S, b, g, h, hl => by
    simp only [chkEs, Bool.and_eq_true] at h
    have e : evCd C (.cons c .nil) = tru_ (ev C c) := by funext r m; rw [evCd]; try rfl
    rw [e]
    exact pts_one (eb c x X S b g h.1).2
  | .cons c .nil, _ :: _ :: _, X, S, b, g, h, hl => by simp at hl
  | .cons c (.cons _ _), [_], X, S, b, g, h, hl => by simp [chkEs] at h
  | .cons c (.cons _ _), _ :: _ :: _, X, S, b, g, h, hl => by simp at hl
theorem it_ok {W : Wd} {C : MP.Cx} : ∀ (it : It) (x tge : Expr) (X : L2.Cx) (S : Sg) (b : Blk), Good W C X S b → chkIt W b it x = true → zipTg it tge = true → PI X tge x (tI S (evIt C it)) ∧ ∀ env z, foldedSetIterable x env z = pure z
  | .val u, x, tge, X, S, b, g, h, hz => by
    simp only [chkIt, Bool.and_eq_true] at h
    have e : evIt C (.val u) = fun r m => (ev C u r m).bind fun x m => (opt (iterOf (dr m x)) m).bind fun xs m => .ok (xs, watch x) m := by funext r m; rw [evIt]
    rw [e]
    exact ⟨mi_val g.hK (eb u x X S b g h.2).1, fun env z => folded_pure h.1 env z⟩
  | .rng es, x, tge, X, S, b, g, h, hz => by
    cases x <;> first | (simp only [chkIt, Bool.false_eq_true] at h; done) | skip
    rename_i fn us kws _
    cases fn <;> cases kws <;> simp only [chkIt, Bool.false_eq_true, Bool.and_eq_true, decide_eq_true_eq, Bool.or_eq_true] at h
    obtain ⟨⟨⟨⟨⟨rfl, h1⟩, h2⟩, h3⟩, h4⟩, h5⟩ := h
    obtain ⟨hg, hd⟩ := g.gl h1
    have hm := g.blt _ h2
    have hes := es_ok es us X S b g h4 h3
    have e : evIt C (.rng es) = fun r m => (evs C es r m).bind fun vs m => (opt (rng vs) m).bind fun xs m => .ok (xs, []) m := by funext r m; rw [evIt]
    rw [e]
    have hlen := chkEs_len h4
    refine ⟨?_, fun env z => rfl⟩
    rcases h5 with h5 | h5
    · obtain ⟨u, rfl⟩ := List.length_eq_one_iff.mp h5
      have h3' := noStars_cons.mp h3
      exact mi_rng1 hg hm hes (star_cons h3'.1 _ _) fun r m vs m' e => by rw [evs_len C es r m vs m' e, ← hlen]; rfl
    · obtain ⟨u, v, rfl⟩ : ∃ u v, us = [u, v] := by
        match us, h5 with
        | [u, v], _ => exact ⟨u, v, rfl⟩
      have h3' := noStars_cons.mp h3
      have h3'' := noStars_cons.mp h3'.2
      exact mi_rng2 hg hm hes (by rw [star_cons h3'.1, star_cons h3''.1]; rfl) (star_cons h3''.1 _ _) fun r m vs m' e => by rw [evs_len C es r m vs m' e, ← hlen]; rfl
  | .zip u v st, x, tge, X, S, b, g, h, hz => by
    cases x <;> first | (simp only [chkIt, Bool.false_eq_true] at h; done) | skip
    rename_i fn us kws _
    cases fn <;> first | (simp only [chkIt, Bool.false_eq_true] at h; done) | skip
    rcases us with _ | ⟨y, _ | ⟨z, _ | ⟨w, us⟩⟩⟩ <;> first | (simp only [chkIt, Bool.false_eq_true] at h; done) | skip
    cases kws <;> simp only [chkIt, Bool.false_eq_true, Bool.and_eq_true, decide_eq_true_eq, Bool.not_eq_true'] at h
    obtain ⟨⟨⟨⟨⟨⟨⟨rfl, rfl⟩, h1⟩, h2⟩, h3⟩, h4⟩, h5⟩, h6⟩ := h
    obtain ⟨hg, hd⟩ := g.gl h1
    have hm := g.blt _ h2
    cases tge <;> first | (simp only [zipTg, Bool.false_eq_true] at hz; done) | skip
    have e : evIt C (.zip u v false) = fun r m => (ev C u r m).bind fun x m => (ev C v r m).bind fun y m => (opt (zipOf false (dr m x) (dr m y)) m).bind fun zs m => .ok (zs, watch x ++ watch y) m := by funext r m; rw [evIt]
    rw [e]
    exact ⟨mi_zip g.hK hg hm (eb u y X S b g h5).1 (eb v z X S b g h6).1 (star_cons h3 _ _) (star_cons h4 _ _) (back_any (by simp [noStars, h4])), fun env z => rfl⟩
  | .enu _, x, tge, X, S, b, g, h, hz => by simp [chkIt] at h
  | .items _, x, tge, X, S, b, g, h, hz => by simp [chkIt] at h
end
end MP
set_option Elab.async false
set_option linter.all false
set_option maxRecDepth 100000
set_option maxHeartbeats 2000000
/-! MPStm: statements: checked and sound. -/
namespace MP
open PySem PySem.Spec PyProof.Rows L2

def isList : Expr → Bool
  | .List _ _ => true
  | _ => false
def isTup : Expr → Bool
  | .Tuple _ _ _ => true
  | _ => false
def isName : Expr → Bool
  | .Name _ _ => true
  | _ => false
/-- are the stores exchanged -/
def swP (sc : Scope) (ts vs : List Expr) : Option (Option (List Str)) :=
  if (!(ts.length == 2 || ts.length == 3) || vs.length != ts.length) = true then some none
  else if (vs.any fun | .Starred .. => true | _ => false) = true then some none
  else if ((ts.filterMap fun
      | .Name id pos => if (sc.names.lookup id == some .local && pos.line == (ts.head?.map (·.pos.line)).getD 0) = true then some id else none
      | _ => none).length != ts.length || (ts.filterMap fun
      | .Name id pos => if (sc.names.lookup id == some .local && pos.line == (ts.head?.map (·.pos.line)).getD 0) = true then some id else none
      | _ => none).eraseDups.length != (ts.filterMap fun
      | .Name id pos => if (sc.names.lookup id == some .local && pos.line == (ts.head?.map (·.pos.line)).getD 0) = true then some id else none
      | _ => none).length) = true then some none
  else if vs.all (foldedForSure 8) = true then some none
  else if vs.all (constantsAlone 8) = true then none
  else some (some (ts.filterMap fun
      | .Name id pos => if (sc.names.lookup id == some .local && pos.line == (ts.head?.map (·.pos.line)).getD 0) = true then some id else none
      | _ => none))
theorem swP_ok {env : PySem.Env} {sc : Scope} (hsc : env.scope = sc) (hk : sc.kind = .function) {ts vs : List Expr} {k k2 : Nat} {p p2 : Pos} {o : Option (List Str)} (h : swP sc ts vs = some o) :
    swappedStores [.Tuple ts k p] (.Tuple vs k2 p2) env = pure o := by
  subst hsc
  have hb : (env.blockKind != .function) = false := by
    unfold Env.blockKind
    rw [hk]
    rfl
  unfold swP at h
  unfold swappedStores Env.kindOf
  dsimp only
  split at h
  · rename_i h1
    cases h
    have : (!(ts.length == 2 || ts.length == 3) || vs.length != ts.length || env.blockKind != .function) = true := by rw [h1]; rfl
    rw [if_pos this]
  · rename_i h1
    have : ¬ (!(ts.length == 2 || ts.length == 3) || vs.length != ts.length || env.blockKind != .function) = true := by
      rw [hb, Bool.or_false]
      exact h1
    rw [if_neg this]
    split at h
    · rename_i h2
      cases h
      exact if_pos h2
    · rename_i h2
      refine (if_neg h2).trans ?_
      split at h
      · rename_i h3
        cases h
        exact if_pos h3
      · rename_i h3
        refine (if_neg h3).trans ?_
        split at h
        · rename_i h4
          cases h
          exact if_pos h4
        · rename_i h4
          refine (if_neg h4).trans ?_
          split at h
          · cases h
          · rename_i h5
            cases h
            refine (if_neg h5).trans ?_
            rfl
theorem sw_none {t v : Expr} {env : PySem.Env} (h : (isTup v && (isTup t || isList t)) = false) : swappedStores [t] v env = pure none := by
  cases v <;> first | rfl | skip
  all_goals (cases t <;> first | rfl | (simp [isTup, isList] at h; done))
def swB (sc : Scope) : Expr → Expr → Bool
  | .Name y py, .ListComp _ _ s p => sc.names.lookup y == some .local && py.line == p.line && !(s.names.any fun (n, k) => n == y && (k == .local || k == .cell))
  | _, _ => false
theorem sole_comp {env : PySem.Env} {sc : Scope} (hsc : env.scope = sc) (hk : sc.kind = .function) {t u : Expr} {gs : List Comprehension} {s : Scope} {p : Pos} {l : Nat} : swapsWithSole [t] (.ListComp u gs s p) l env = pure (swB sc t (.ListComp u gs s p)) := by
  subst hsc
  have hb : (env.blockKind == .function) = true := by
    unfold Env.blockKind
    rw [hk]
    rfl
  unfold swapsWithSole swapsWith
  cases t <;> first | rfl | skip
  rename_i y py
  simp only [hb, Env.kindOf, swB, Bool.true_and, Expr.pos]

def asgOk (b : Blk) (t v : Expr) : Bool := noStar t && (!isComp v || (!isTup t && isListComp v && !swB b.sc t v)) && (match t, v with
    | .Tuple ts _ _, .Tuple vs _ _ => decide (swP b.sc ts vs = some none)
    | t, v => !(isTup v && (isTup t || isList t)))
where isListComp : Expr → Bool
  | .ListComp _ _ _ _ => true
  | _ => false
def parOk (b : Blk) : Tg → E → Expr → Expr → Bool
  | .tup [.nm i, .nm j], .tup (.cons _ (.cons _ .nil)), .Tuple [.Name x px, .Name y py] k p, .Tuple [u, v] k2 p2 => decide (i ≠ j) && decide (b.N[i]? = some x) && decide (b.N[j]? = some y) && decide (b.sc.names.lookup x = some .local) && decide (b.sc.names.lookup y = some .local) &&
      decide (swP b.sc [.Name x px, .Name y py] [u, v] = some (some [x, y]))
  | _, _, _, _ => false
def stoOk (b : Blk) : Tg → Expr → Expr → Bool
  | .nm i, .Name y py, v => decide (b.N[i]? = some y) && decide (b.sc.names.lookup y = some .local) && swB b.sc (.Name y py) v
  | _, _, _ => false
def compE : E → Option (Bool × E)
  | .comp false elt own tg it cd => some (false, .comp false elt own tg it cd)
  | .new (.comp false elt own tg it cd) => some (true, .comp false elt own tg it cd)
  | _ => none

mutual
def chkS (W : Wd) (b : Blk) : S → Stmt → Bool
  | .asg tg e, .Assign [t] v _ => (chkE W b e v && chkTg b tg t && asgOk b t v) || (chkE W b e v && parOk b tg e t v) || (chkE W b e v && (compE e).isSome && stoOk b tg t v)
  | .set o i e, .Assign [.Subscript x y _] v _ => chkE W b e v && chkE W b o x && chkE W b i y && plainIx y && !isComp v
  | .exp e, .Expr v _ => chkE W b e v && !isComp v
  | .ret e, .Return (some v) _ => chkE W b e v
  | .retn, .Return none _ => true
  | .iff c p q, .If x us vs _ => chkE W b c x && chkSs W b p us && chkSs W b q vs
  | .for tg it body, .For t x us [] _ => chkTg b tg t && chkIt W b it x && zipTg it t && chkSs W b body us
  | .whl c body, .While x us [] _ => chkE W b c x && chkSs W b body us
  | .pass, .Pass _ => true
  | _, _ => false
def chkSs (W : Wd) (b : Blk) : Ss → List Stmt → Bool
  | .nil, [] => true
  | .cons s r, x :: xs => chkS W b s x && chkSs W b r xs
  | _, _ => false
end
theorem ps_eq {X : L2.Cx} {S : Sg} {x : Stmt} {F G : MP.Env → M → Rs} (h : PS X x (tS S F)) (e : G = F) : PS X x (tS S G) := e ▸ h
theorem asg_imp {X : L2.Cx} {S : Sg} {b : Blk} {W : Wd} {C : MP.Cx} (g : Good W C X S b) {i : Nat} {F : MP.Env → M → R Val} {f : Bool} {D : Ends} {s : L2.St} {H : Hp} {t : TE} (hi : i < b.N.length)
    (ht : ∀ s H Q, tE S f F s H Q → t s H Q) (h : tS S (fun r m => (F r m).thn r fun v m => match bindT (.nm i) (Tg.see m (.nm i) v) r with
      | some r => .nxt r m
      | none => .stuck) D s H) : tAsg t (gName i) D s H := by
  obtain ⟨r, m, al, re, rl, p⟩ := h
  refine ht _ _ _ ⟨r, m, al, re, rl, (p.thn re).mono ?_⟩
  rintro u H1 ⟨v, m1, al1, x1, rl1, q1, p1⟩
  have p1 : PostS S al1 H1 D (match (if i < r.length then some (r.set i (some v)) else none) with
    | some r => .nxt r m1
    | none => .stuck) := p1
  split at p1
  · rename_i r' e
    split at e
    · cases e
      exact p1 _ H1 al1 (.refl _ _) rl1 ((re.ext x1).set q1.1 i)
    · cases e
  · exact p1.elim
theorem new_imp {S : Sg} {fa : MP.Env → M → R Val} (s : L2.St) (H : Hp) (Q : VK) (h : tE S false (fun r m => (fa r m).bind fun x m => match x with
    | .lst xs => .ok (.ref m.length) (m ++ [.lst xs])
    | _ => .stuck) s H Q) : tE S true fa s H Q := by
  obtain ⟨r, m, al, re, rl, p⟩ := h
  refine ⟨r, m, al, re, rl, ?_⟩
  dsimp only at p
  cases e : fa r m with
  | stuck => rw [e] at p; exact p
  | exc _ _ _ => rw [e] at p; exact p
  | ok v m1 =>
    rw [e] at p
    intro u H1 al1 x1 rl1 q1
    cases v with
    | lst xs =>
      obtain ⟨a', rfl, h0, rl2⟩ := q1.2 rfl xs rfl
      have p : Post S (relV S false H) al H s Q (.ok (.ref m1.length) (m1 ++ [.lst xs])) := p
      refine p (.ref a') H1 (al1.add [a']) ⟨?_, x1.keep, x1.dom⟩ rl2 ⟨.ref ?_, fun h => by cases h⟩
      · obtain ⟨be, hs, rfl, hb, hh⟩ := x1.more
        refine ⟨be ++ [a'], hs, by simp [Al.add], fun p hp => ?_, hh⟩
        rcases List.mem_append.mp hp with hp | hp
        · exact hb p hp
        · rw [List.mem_singleton] at hp; subst hp; exact h0
      · rw [← rl1.len]
        show (al1.c ++ [a'])[al1.c.length]? = _
        rw [List.getElem?_append_right (Nat.le_refl _)]
        simp
    | _ => exact p.elim
theorem chkE_new {W : Wd} {b : Blk} (u : E) (v : Expr) : chkE W b (.new u) v = (fresh u && chkE W b u v) := by rw [chkE]
/-- a comprehension that is stored at once -/
theorem comp_sto {W : Wd} {C : MP.Cx} {elt : E} {own : List Nat} {tg : Tg} {it : It} {cd : Es} {X : L2.Cx} {S : Sg} {b : Blk} {i : Nat} {y : Str} {py spos : Pos} {v : Expr} (g : Good W C X S b) (h : chkE W b (.comp false elt own tg it cd) v = true) (hs : stoOk b (.nm i) (.Name y py) v = true) :
    ∃ t : TE, PS X (.Assign [.Name y py] v spos) (tAsg t (gName i)) ∧ ∀ s H Q, tE S true (ev C (.comp false elt own tg it cd)) s H Q → t s H Q := by
  simp only [stoOk, Bool.and_eq_true, decide_eq_true_eq] at hs
  obtain ⟨⟨s1, s2⟩, s3⟩ := hs
  cases v <;> first | (simp only [chkE, Bool.false_eq_true] at h; done) | skip
  rename_i u gs scope _
  cases gs <;> first | (simp only [chkE, Bool.false_eq_true] at h; done) | skip
  rename_i ge gr
  cases gr <;> simp only [chkE, Bool.false_eq_true, Bool.and_eq_true, decide_eq_true_eq, Bool.not_eq_true', List.all_eq_true] at h
  obtain ⟨⟨⟨⟨⟨⟨⟨⟨_, h0⟩, h1⟩, h2⟩, h3⟩, h4⟩, h5⟩, h6, h6'⟩, h7⟩ := h
  obtain ⟨tge, iter, ifs, asy⟩ := ge
  simp only at h0 h1 h2 h3 h4 h5 h6 h6' h7
  subst h0
  have ok : BlkOk X.N X.env.scope scope (own.map fun i => (b.N.getD i default, i)) := by
    rw [g.hN, g.scope]
    exact blkOk_by h3
  obtain ⟨hi, hns⟩ := it_ok it iter tge X S b g h1 h2
  have sw := (sole_comp (l := spos.line) g.scope g.kind (t := .Name y py) (u := u) (gs := [⟨tge, iter, ifs, 0⟩]) (s := scope) (p := ‹Pos›)).trans (by rw [s3])
  obtain ⟨t, ht, hq⟩ := ms_comp (S := S) (spos := spos) g.calm (g.hN ▸ g.nd) (g.hN ▸ s1) (by rw [g.scope]; exact s2) sw hi ok (fun i hi => by rw [own_snd]; simpa using h4 i hi) (fun s H Ca cl fp => tg_ok (g.blk ok.kind s H Ca cl fp) tg tge h5)
      (fun s H Ca cl fp => cd_ok cd ifs _ _ _ (g.blk ok.kind s H Ca cl fp) h6 h6') (fun s H Ca cl fp => (eb elt u _ _ _ (g.blk ok.kind s H Ca cl fp) h7).1) (hns X.env)
  refine ⟨t, ht, fun s H Q q => hq s H Q ?_⟩
  have e : compF (evIt C it) tg ((own.map fun i => (b.N.getD i default, i)).map (·.2)) (evCd C cd) (ev C elt) = ev C (.comp false elt own tg it cd) := by
    funext r m
    rw [ev, own_snd]
    unfold compF
    congr 1
  rw [e]
  exact q
mutual
theorem s_ok {W : Wd} {C : MP.Cx} : ∀ (s : S) (x : Stmt) (X : L2.Cx) (S : Sg) (b : Blk), Good W C X S b → chkS W b s x = true → PS X x (tS S (ex C s))
  | .asg tg e, x, X, S, b, g, h => by
    cases x <;> first | (simp only [chkS, Bool.false_eq_true] at h; done) | skip
    rename_i ts v apos
    cases ts <;> first | (simp only [chkS, Bool.false_eq_true] at h; done) | skip
    rename_i t ts
    cases ts <;> simp only [chkS, Bool.false_eq_true, Bool.and_eq_true, Bool.or_eq_true] at h
    have ee : ex C (.asg tg e) = fun r m => (ev C e r m).thn r fun v m => match bindT tg (tg.see m v) r with
        | some r => .nxt r m
        | none => .stuck := by
      funext r m
      rw [ex]
      try rfl
    rcases h with (⟨⟨h1, h2⟩, h3⟩ | ⟨h1, h2⟩) | ⟨⟨h1, h2⟩, h3⟩
    · rw [ee]
      unfold asgOk at h3
      simp only [Bool.and_eq_true, Bool.or_eq_true, Bool.not_eq_true'] at h3
      obtain ⟨⟨h3, h4⟩, h5⟩ := h3
      refine ms_asg (eb e v X S b g h1).1 (tg_ok g tg t h2) ?_ ?_ (by rw [ass_cons h3]; rfl)
      · rcases h4 with h4 | h4
        · exact sole_false h4
        · cases v <;> simp only [asgOk.isListComp, Bool.false_eq_true, and_false, false_and] at h4
          rw [sole_comp g.scope g.kind, h4.2]
      · split at h5
        · exact swP_ok g.scope g.kind (of_decide_eq_true h5)
        · exact sw_none ((Bool.not_eq_true' _).mp h5)
    · rw [ee]
      unfold parOk at h2
      split at h2
      · rename_i i j ea ec x px y py k p u v k2 p2
        simp only [Bool.and_eq_true, decide_eq_true_eq] at h2
        obtain ⟨⟨⟨⟨⟨h3, h4⟩, h5⟩, h6⟩, h7⟩, h8⟩ := h2
        simp only [chkE, Bool.and_eq_true] at h1
        have e2 : ev C (.tup (.cons ea (.cons ec .nil))) = fun r m => (evs C (.cons ea (.cons ec .nil)) r m).bind fun vs m => if vs.length ≤ LINE then .ok (.tup vs) m else .stuck := by
          funext r m
          rw [ev]
        rw [e2]
        exact ms_par g.calm (g.hN ▸ g.nd) (g.hN ▸ h4) (g.hN ▸ h5) h3 (by rw [g.scope]; exact h6) (by rw [g.scope]; exact h7) (es_ok _ _ X S b g h1.2 h1.1) (swP_ok g.scope g.kind h8) rfl
      · cases h2
    · rw [ee]
      have key : ∃ i y py, tg = .nm i ∧ t = .Name y py := by
        unfold stoOk at h3
        split at h3
        · exact ⟨_, _, _, rfl, rfl⟩
        · cases h3
      obtain ⟨i, y, py, rfl, rfl⟩ := key
      have hi : i < b.N.length := by
        simp only [stoOk, Bool.and_eq_true, decide_eq_true_eq] at h3
        exact (List.getElem?_eq_some_iff.mp h3.1.1).1
      unfold compE at h2
      split at h2
      · obtain ⟨t, ht, hq⟩ := comp_sto (spos := apos) g h1 h3
        exact ps_imp ht fun D s H q => asg_imp g hi hq q
      · rw [chkE_new, Bool.and_eq_true] at h1
        obtain ⟨t, ht, hq⟩ := comp_sto (spos := apos) g h1.2 h3
        refine ps_imp ht fun D s H q => asg_imp g hi (fun s H Q q => hq s H Q (new_imp s H Q q)) ?_
        have e2 : ∀ u : E, ev C (.new u) = fun r m => (ev C u r m).bind fun x m => match x with
            | .lst xs => .ok (.ref m.length) (m ++ [.lst xs])
            | _ => .stuck := by
          intro u
          funext r m
          rw [ev]
          try rfl
        rw [e2] at q
        exact q
      · cases h2
  | .set o i e, x, X, S, b, g, h => by
    cases x <;> first | (simp only [chkS, Bool.false_eq_true] at h; done) | skip
    rename_i ts v _
    cases ts <;> first | (simp only [chkS, Bool.false_eq_true] at h; done) | skip
    rename_i t ts
    cases ts <;> cases t <;> simp only [chkS, Bool.false_eq_true, Bool.and_eq_true, Bool.not_eq_true'] at h
    obtain ⟨⟨⟨⟨h1, h2⟩, h3⟩, h4⟩, h5⟩ := h
    rename_i y _
    have ee : ex C (.set o i e) = fun r m => (ev C e r m).thn r fun v m => (ev C o r m).thn r fun ov m => (ev C i r m).thn r fun iv m => match setAt C.base m ov iv v with
        | some m => .nxt r m
        | none => .stuck := by
      funext r m
      rw [ex]
      try rfl
    rw [ee, g.base]
    refine ms_set g.hK (eb e v X S b g h1).1 (eb o _ X S b g h2).1 (eb i _ X S b g h3).1 (sole_false h5) (sw_none (by simp [isTup, isList])) fun v => ?_
    cases y <;> first | rfl | skip
    rename_i l u st p
    cases st <;> first | (simp [plainIx] at h4; done) | rfl
  | .sets _ _ _ _, x, X, S, b, g, h => by simp [chkS] at h
  | .aug _ _ _, x, X, S, b, g, h => by simp [chkS] at h
  | .exp e, x, X, S, b, g, h => by
    cases x <;> simp only [chkS, Bool.false_eq_true, Bool.and_eq_true, Bool.not_eq_true'] at h
    exact ps_eq (ms_exp (eb e _ X S b g h.1).1 (none_false h.2)) (by funext r m; rw [ex])
  | .ret e, x, X, S, b, g, h => by
    cases x <;> first | (simp only [chkS, Bool.false_eq_true] at h; done) | skip
    rename_i o _
    cases o <;> simp only [chkS, Bool.false_eq_true] at h
    exact ps_eq (ms_ret (eb e _ X S b g h).1) (by funext r m; rw [ex])
  | .retn, x, X, S, b, g, h => by
    cases x <;> first | (simp only [chkS, Bool.false_eq_true] at h; done) | skip
    rename_i o _
    cases o <;> simp only [chkS, Bool.false_eq_true] at h
    exact ps_eq ms_retn (by funext r m; rw [ex])
  | .iff c p q, x, X, S, b, g, h => by
    cases x <;> simp only [chkS, Bool.false_eq_true, Bool.and_eq_true] at h
    refine ps_eq (ms_if (eb c _ X S b g h.1.1).2 (ss_ok p _ X S b g h.1.2) (ss_ok q _ X S b g h.2)) ?_
    funext r m
    rw [ex]
    unfold tru_
    cases ev C c r m <;> rfl
  | .for tg it body, x, X, S, b, g, h => by
    cases x <;> first | (simp only [chkS, Bool.false_eq_true] at h; done) | skip
    rename_i t x us os _
    cases os <;> simp only [chkS, Bool.false_eq_true, Bool.and_eq_true] at h
    obtain ⟨⟨⟨h1, h2⟩, h3⟩, h4⟩ := h
    obtain ⟨hi, hns⟩ := it_ok it x t X S b g h2 h3
    refine ps_eq (ms_for g.po g.calm hi (tg_ok g tg t h1) (ss_ok body us X S b g h4) (hns X.env)) ?_
    funext r m
    rw [ex]
    try rfl
  | .whl c body, x, X, S, b, g, h => by
    cases x <;> first | (simp only [chkS, Bool.false_eq_true] at h; done) | skip
    rename_i x us os _
    cases os <;> simp only [chkS, Bool.false_eq_true, Bool.and_eq_true] at h
    refine ps_eq (ms_while g.po (eb c x X S b g h.1).2 (ss_ok body us X S b g h.2)) ?_
    funext r m
    rw [ex]
    try rfl
  | .raise _ _, x, X, S, b, g, h => by simp [chkS] at h
  | .try _ _, x, X, S, b, g, h => by simp [chkS] at h
  | .pass, x, X, S, b, g, h => by
    cases x <;> simp only [chkS, Bool.false_eq_true] at h
    exact ps_eq ms_pass (by funext r m; rw [ex])
theorem ss_ok {W : Wd} {C : MP.Cx} : ∀ (s : Ss) (xs : List Stmt) (X : L2.Cx) (S : Sg) (b : Blk), Good W C X S b → chkSs W b s xs = true → PSs X xs (tS S (exs C s))
  | .nil, [], X, S, b, g, h => by
    have e : exs C .nil = fun r m => .nxt r m := by funext r m; rw [exs]
    rw [e]
    exact mss_nil
  | .nil, _ :: _, X, S, b, g, h => by simp [chkSs] at h
  | .cons _ _, [], X, S, b, g, h => by simp [chkSs] at h
  | .cons s r, x :: xs, X, S, b, g, h => by
    simp only [chkSs, Bool.and_eq_true] at h
    have e : exs C (.cons s r) = fun ρ m => (ex C s ρ m).bind fun ρ m => exs C r ρ m := by funext ρ m; rw [exs]
    rw [e]
    exact mss_cons (s_ok s x X S b g h.1) (ss_ok r xs X S b g h.2)
end
end MP
set_option Elab.async false
set_option linter.all false
set_option maxRecDepth 100000
set_option maxHeartbeats 2000000
/-! MPProg: a whole program of checked defs; the law's call. -/
namespace MP
open PySem PySem.Spec PyProof.Rows L2

/-- a def: its number, name, text, the names of its slots, its parameters, the clean text -/
structure FI where
  fid : Nat
  x : Str
  st : Stmt
  N : List Str
  ps : List Str
  d : Def
def wd (G : Prog) (fis : List FI) (blt : List Str) (kw : List (Nat × Nat × List Str × List Nat)) : Wd where
  fn := fis.map fun fi => (fi.x, fi.fid)
  np := fun f => match G.defs f with
    | some d => d.np
    | none => 0
  blt := blt
  kw := kw
def fnScopeB (N ps : List Str) (sc : Scope) : Bool :=
  decide (sc.kind = .function) && !sc.isCoroutine && !sc.isGenerator && decide N.Nodup && decide (N.take ps.length = ps) && (ps.all fun x => decide (sc.names.lookup x = some .local) || decide (sc.names.lookup x = some .cell)) && sc.names.all fun y => decide (y.2 ≠ .free)
theorem fnScope_by {N ps : List Str} {sc : Scope} (h : fnScopeB N ps sc = true) : FnScope N ps sc := by
  unfold fnScopeB at h
  simp only [Bool.and_eq_true, decide_eq_true_eq, Bool.not_eq_true', List.all_eq_true, Bool.or_eq_true] at h
  obtain ⟨⟨⟨⟨⟨⟨h1, h2⟩, h3⟩, h4⟩, h5⟩, h6⟩, h7⟩ := h
  exact ⟨h1, h2, h3, h4, h5, h6, h7⟩
def chkF (W : Wd) (fi : FI) : Bool := fnScopeB fi.N fi.ps (defScope fi.st) && decide (fi.d.np = fi.ps.length) && decide (fi.d.ns = fi.N.length) && chkSs W ⟨fi.N, defScope fi.st, fun _ => true⟩ fi.d.body (defBody fi.st)

/-- no exception is told -/
def xr0 : Al → Hp → Value → Option Addr → Nat → List Val → Prop := fun _ _ _ _ _ _ => False
theorem callN_len (G : Prog) : ∀ (k f : Nat) (args : List Val) (fl : Bool) (m : M), args.length ≠ (match G.defs f with
    | some d => d.np
    | none => 0) → callN G k f args fl m = .stuck
  | 0, _, _, _, _, _ => rfl
  | k + 1, f, args, fl, m, h => by
    unfold callN
    cases e : G.defs f with
    | none => rfl
    | some d =>
      rw [e] at h
      exact if_neg h
theorem Ext.cutTo {n : Nat} {al al' : Al} {H H' : Hp} (x : Ext al al' H H') (hn : al.c.length = n) : Ext al (al'.cut n) H H' := by
  obtain ⟨be, hs, rfl, h1, h2⟩ := x.more
  refine ⟨⟨[], hs, ?_, by simp, h2⟩, x.keep, x.dom⟩
  show Al.mk ((al.c ++ be).take n) _ = _
  rw [List.take_append_of_le_length (by omega), List.take_of_length_le (by omega), List.append_nil]
theorem Ext.cutAdd {n : Nat} {al al' : Al} {H H' : Hp} {a : Addr} (x : Ext al al' H H') (hn : al.c.length = n) (ha : a ∈ al'.c.drop n) : Ext al ((al'.cut n).add [a]) H H' := by
  obtain ⟨be, hs, rfl, h1, h2⟩ := x.more
  refine ⟨⟨[a], hs, ?_, fun p hp => ?_, h2⟩, x.keep, x.dom⟩
  · show Al.mk ((al.c ++ be).take n ++ [a]) _ = _
    rw [List.take_append_of_le_length (by omega), List.take_of_length_le (by omega)]
    rfl
  · rw [List.mem_singleton] at hp
    subst hp
    have ha : p ∈ (al.c ++ be).drop n := ha
    rw [List.drop_append_of_le_length (by omega), List.drop_of_length_le (by omega), List.nil_append] at ha
    exact h1 p ha
theorem start_re {K : PySem.W.Frag} {al : Al} {H : Hp} {vs : List V} {args : List Val} {N : List Str} {ns np : Nat} (q : RepL K al H vs args) (hns : ns = N.length) (hnp : args.length = np) :
    RE K al H (L2.start N vs) (args.map some ++ List.replicate (ns - np) none) := by
  have hl := q.length
  unfold L2.start
  refine ⟨by simp [hl, hns, hnp], fun i v e => ?_⟩
  by_cases hi : i < args.length
  · rw [List.getElem?_append_left (by simpa using hi), List.getElem?_map, Option.map_eq_some_iff] at e
    obtain ⟨w, e1, e2⟩ := e
    cases e2
    obtain ⟨u, e3, r⟩ := q.get e1
    refine ⟨u, ?_, r⟩
    rw [List.getElem?_append_left (by simpa [hl] using hi), List.getElem?_map, e3]
    rfl
  · rw [List.getElem?_append_right (by simpa using hi)] at e
    have := List.mem_of_getElem? e
    simp at this
section
variable {P : Program} {w : World} {K : PySem.W.Frag} {mg : Str → Option Value} {base : Heap}
/-- what stands in the module of a def -/
structure Std (P : Program) (w : World) (K : PySem.W.Frag) (mg : Str → Option Value) (W : Wd) (fi : FI) (f : Addr) (fd : FuncData) : Prop where
  fun_ : FunD K fi.x fi.x (defArgs fi.st) (defBody fi.st) (defScope fi.st) [] [] f fd
  mg : mg fi.x = some (.ref f)
  bind : Binds K fd fi.ps []
  kw : ∀ n ks perm, W.kw.contains (fi.fid, n, ks, perm) = true → KwB K fd fi.ps n ks perm
theorem prog_ok {G : Prog} {fis : List FI} {W : Wd} (hd : ∀ fi ∈ fis, G.defs fi.fid = some fi.d) (hc : ∀ fi ∈ fis, chkF W fi = true) (hw : ∀ x f, W.fn.lookup x = some f → ∃ fi ∈ fis, fi.x = x ∧ fi.fid = f)
    (hnp : ∀ f, W.np f = match G.defs f with
      | some d => d.np
      | none => 0)
    (st : ∀ fi ∈ fis, ∃ f fd, Std P w K mg W fi f fd) (hb : ∀ x, W.blt.contains x = true → mg x = none) :
    ∀ (k : Nat), ∀ fi ∈ fis, ∀ f fd, Std P w K mg W fi f fd → ∀ fl, FnG P w K mg base k f fd fi.ps (spF K xr0 (W.np fi.fid) (callN G k fi.fid) fl)
  | 0, fi, hfi, f, fd, sd, fl => by
    refine ⟨fun vs H Q E h => ?_, fun A outer s H args us vs Q E hg hr e0 hbi rv h => ?_⟩
    · obtain ⟨args, m, al, bs, _, _, _, p⟩ := h
      exact p.elim
    · obtain ⟨args, m, al, bs, _, _, _, p⟩ := h
      exact p.elim
  | k + 1, fi, hfi, f, fd, sd, fl => by
    have c := hc fi hfi
    unfold chkF at c
    simp only [Bool.and_eq_true, decide_eq_true_eq] at c
    obtain ⟨⟨⟨c1, c2⟩, c3⟩, c4⟩ := c
    have hdf := hd fi hfi
    have S := fnScope_by c1
    have np : W.np fi.fid = fi.ps.length := by rw [hnp, hdf]; exact c2
    refine fnG_of sd.fun_ S (fun vs H Q E h => ?_) fun cdv A outer s H vs Q E hg hr h => ?_
    · obtain ⟨args, m, al, bs, hl, q, _, _⟩ := h
      rw [q.length, hl, np]
    · obtain ⟨args, m, al, bs, hl, q, rl, p⟩ := h
      let Sg0 : Sg := ⟨K, m.length :: bs, fun cls d _ H => E cls d H, xr0⟩
      let C : MP.Cx := ctx G (callN G k) m.length fl
      have good : Good W C (cxOf (L2.CX P w) P w K mg base fi.N fi.x (defScope fi.st) f cdv A outer s H E) Sg0 ⟨fi.N, defScope fi.st, fun _ => true⟩ := {
        hK := rfl, calm := rfl, scope := rfl, kind := S.kind, hN := rfl, nd := S.nd, fc := fun _ _ => rfl, gd := hg
        un := by
          have := hr.un
          show (A.deeper _).units + 65 < cLine
          omega
        tk := takes_of rfl rfl rfl rfl
        po := passes_of rfl
        base := rfl
        call := fun f args fl m h => callN_len G k f args fl m (by rw [← hnp]; exact h)
        blt := hb
        fns := fun x id h => by
          obtain ⟨fj, hj, rfl, rfl⟩ := hw x id h
          obtain ⟨fa, fda, sda⟩ := st fj hj
          exact ⟨k, fa, fda, fj.ps, fun fl => prog_ok hd hc hw hnp st hb k fj hj fa fda sda fl, hr, sda.mg, sda.fun_.kp, sda.bind, sda.kw⟩ }
      refine ⟨_, ss_ok fi.d.body (defBody fi.st) _ Sg0 _ good c4, args.map some ++ List.replicate (fi.d.ns - fi.d.np) none, m, al, start_re q c3 (by rw [hl, np, c2]), rl.enter, ?_⟩
      have hal := rl.len
      have e : callN G (k + 1) fi.fid args fl m = runD G (callN G k) fi.d args fl m := by
        show (match G.defs fi.fid with
          | some d => if args.length = d.np then runD G (callN G k) d args fl m else .stuck
          | none => .stuck) = _
        rw [hdf]
        exact if_pos (by rw [hl, np, c2])
      rw [e] at p
      unfold runD at p
      show PostS Sg0 al H _ (exs C fi.d.body _ m)
      revert p
      show Post _ _ _ _ _ _ (match exs C fi.d.body _ m with
        | .nxt _ m' => R.ok .non (m'.take m.length)
        | .ret v m' => exitR fl m.length v m'
        | .exc c fs _ m' => if pureL fs then .exc c fs (m'.take m.length) else .stuck
        | .stuck => .stuck) → _
      generalize exs C fi.d.body (args.map some ++ List.replicate (fi.d.ns - fi.d.np) none) m = z
      cases z with
      | nxt r' m' => exact fun p s' H' al' x rl' re' => p .non H' (al'.cut m.length) (x.cutTo hal) rl'.leave .non
      | ret v m' =>
        intro p u H' al' x rl' rv
        cases ee : exitR fl m.length v m' with
        | ok z m2 =>
          obtain ⟨al2, h1, h2, h3⟩ := exit_rep rl' rv ee
          have p : Post _ _ _ _ _ _ (exitR fl m.length v m') := p
          rw [ee] at p
          refine p u H' al2 ?_ h2 h3
          rcases h1 with rfl | ⟨a, ha, rfl⟩
          · exact x.cutTo hal
          · exact x.cutAdd hal ha
        | exc c fs m2 =>
          exfalso
          revert ee
          unfold exitR
          split
          · exact fun h => by cases h
          · split
            · split
              · exact fun h => by cases h
              · split
                · split <;> exact fun h => by cases h
                · split <;> exact fun h => by cases h
                · exact fun h => by cases h
            · split <;> exact fun h => by cases h
        | stuck =>
          have p : Post _ _ _ _ _ _ (exitR fl m.length v m') := p
          rw [ee] at p
          exact p.elim
      | exc c fs r' m' => exact fun p cls d s' H' al' x rl' re' h => h.elim
      | stuck => exact fun p => p.elim
end
end MP
set_option Elab.async false
set_option linter.all false
set_option maxRecDepth 100000
set_option maxHeartbeats 2000000
/-! MPLaw: the law's own call, for defs that ask that no repr runs around. -/
namespace MP
open PySem PySem.Spec PyProof.Rows L2
/-- the abstract heap of the start: nothing, or the script alone, which never changes -/
structure Bare (K : PySem.W.Frag) (a : Addr) (H : Hp) (h : Heap) : Prop where
  only : ∀ b u, H b = some u → b = a ∧ K.lookup b = none ∧ ∃ o xs, u = .frz o (.lst xs)
  list : ∀ o, h.get? a = some o → ∀ es ep, o.data ≠ .dict es ep
section
variable {K : PySem.W.Frag} {a : Addr} {H : Hp} {h : Heap}
theorem Bare.keep (B : Bare K a H h) {b : Addr} {o : Obj} (e : h.get? b = some o) (d : (∃ es ep, o.data = .dict es ep) ∨ K.lookup b = some o) : (hidT h H).get? b = some o := by
  refine hidT_get e ?_
  cases q : H b with
  | none => rfl
  | some u =>
    obtain ⟨rfl, hk, _⟩ := B.only b u q
    rcases d with ⟨es, ep, d⟩ | d
    · exact absurd d (B.list o e es ep)
    · rw [hk] at d; cases d
theorem Bare.ns (B : Bare K a H h) {b : Addr} {m : Str → Option Value} (n : h.Ns b m) : (hidT h H).Ns b m :=
  let ⟨o, es, ep, e, d, r⟩ := n
  ⟨o, es, ep, B.keep e (.inl ⟨es, ep, d⟩), d, r⟩
end
theorem law_callG {P : Program} {w : World} {K : PySem.W.Frag} {mg mb : Str → Option Value} {k : Nat} {fa a : Addr} {fd : FuncData} {x : Str} {sp : Sp} {s₁ : Shared} {vs : List Value} {ns : List Int}
    (kin : K.In s₁.heap) (nsG : s₁.heap.Ns mainGlobals mg) (nsB : s₁.heap.Ns builtinsNs mb) (nsE : ∀ x : Str, x ≠ "__name__" → mb x = bootBuiltins x) (lim : s₁.heap.NoLimit) (gens : s₁.gens = #[])
    (obj : s₁.heap.get? a = some { cls := .type "list", data := .seq vs.toArray }) (hin : IntsAre vs ns) (len : ns.length ≤ sizeLine) (room : Room k callerA)
    (F : ∀ base : Heap, K.In base → base.Ns mainGlobals mg → FnG P w K mg base k fa fd [x] sp) (bind1 : ∀ (s : Shared) (u : Value), BindsTo s fd ⟨[u], []⟩ [(x, u)])
    (prom : ∀ H : Hp, (∀ b, H b = none ∨ ∃ o xs, H b = some (.frz o (.lst xs))) → SqL K H a (ns.map V.int) → sp [.ref a] H (fun v _ => v = .bl true) fun _ _ _ => False) :
    codeAny (model P w) callerA (.call (.ref fa) ⟨[.ref a], []⟩) (fun r s' => r = .ok (.ret (.bool true)) ∧ OldK s₁.heap s'.heap ∧ s'.os = s₁.os ∧ AllBare s'.gens) s₁ := by
  have its := vals_ints hin
  have hlen := hin.length
  have run : ∀ H : Hp, Bare K a H s₁.heap → SqL K H a (ns.map V.int) → HOk P w H s₁.heap →
      codeAny (model P w) callerA (.call (.ref fa) ⟨[.ref a], []⟩) (fun r s' => r = .ok (.ret (.bool true)) ∧ OldK s₁.heap s'.heap ∧ s'.os = s₁.os ∧ AllBare s'.gens) s₁ := fun H B hS hok => by
    have kb : K.In (hidT s₁.heap H) := fun b o e => B.keep (kin b o e) (.inr e)
    obtain ⟨ml, l1, l2⟩ := lim
    have md : Mod K mg (hidT s₁.heap H) := ⟨kb, B.ns nsG, ⟨mb, B.ns nsB, nsE⟩, ml, B.ns l1, l2⟩
    have en : Env0 P w K mg (hidT s₁.heap H) callerA [] s₁ H := {
      frames := rfl, mod := md, bs := fun b o e => of_hidT e, bsz := Nat.le_of_eq (hidT_size _ _), funs := trivial
      frf := fun b z => by cases z
      hok := hok, bare := .of_eq gens }
    have fr : ∀ b, H b = none ∨ ∃ o xs, H b = some (.frz o (.lst xs)) := fun b => by
      cases q : H b with
      | none => exact .inl rfl
      | some u =>
        obtain ⟨_, _, o, xs, rfl⟩ := B.only b u q
        exact .inr ⟨o, xs, rfl⟩
    refine codeAny_mono ((F _ kb (B.ns nsG)).run callerA [] s₁ H ⟨[.ref a], []⟩ [.ref a] [.ref a] _ _ rfl room en (bind1 s₁ _) (.cons rfl .nil) (prom H fr hS)) ?_
    rintro r s' z
    cases r with
    | error e =>
      obtain ⟨_, _, _, _, _, _, _, _, _, _, _, _, z⟩ := z
      exact z.elim
    | ok fl =>
      cases fl <;> first | (exact (z : False).elim) | skip
      obtain ⟨v, H', zos, zbare, zun, zok, zr, zq⟩ := z
      have zq : v = .bl true := zq
      subst zq
      cases (show _ = Value.bool true from zr)
      refine ⟨rfl, .of_keep fun b o e => ?_, zos, zbare⟩
      rcases fr b with q | ⟨ob, xs, q⟩
      · exact zun.keep b o e q (fun z => by cases z) (by simp)
      · have g1 := (hok b _ q).1
        rw [e] at g1
        cases g1
        exact (zok b _ (zun.frzs b _ _ q)).1
  cases lk : K.lookup a with
  | some o =>
    have e := (kin a o lk).symm.trans obj
    cases e
    exact run (fun _ => none) ⟨fun b u z => (by cases z), fun o e es ep d => (by rw [obj] at e; cases e; cases d)⟩ (.inr ⟨_, vs.toArray, _, lk, rfl, rfl, rfl, by simpa [hlen] using len, by simpa using its⟩) fun b u z => by cases z
  | none =>
    refine run (fun b => if b = a then some (.frz { cls := .type "list", data := .seq vs.toArray } (.lst (ns.map V.int))) else none) ⟨fun b u z => ?_, fun o e es ep d => by rw [obj] at e; cases e; cases d⟩ (.inl (.inr ⟨_, if_pos rfl⟩)) fun b u z => ?_
    · have z : (if b = a then some (HO.frz { cls := .type "list", data := .seq vs.toArray } (.lst (ns.map V.int))) else none) = some u := z
      split at z
      · rename_i hb
        cases z
        exact ⟨hb, by rw [hb]; exact lk, _, _, rfl⟩
      · cases z
    · have z : (if b = a then some (HO.frz { cls := .type "list", data := .seq vs.toArray } (.lst (ns.map V.int))) else none) = some u := z
      split at z
      · rename_i hb
        cases z
        subst hb
        exact ⟨obj, by simpa using len, vs, _, its, obj⟩
      · cases z
/-- the goal that the head leaves -/
theorem walk_ofG {l : PySem.W.OpenLaw} {n k : Nat} {q : Program} {loose : List Str} {XP : (Str → Option Value) → Heap → Prop} {YP : World → Heap → Prop} {d : DefRec} {x : Str}
    (hn : l.most = some n) (hn2 : n ≤ sizeLine) (hdf : d.params.defaults = []) (hr : Room k callerA)
    (F : ∀ (w : World) (mg : Str → Option Value) (fa : Addr) (h : Heap), YP w h → h.Ns mainGlobals mg → mg d.name = some (.ref fa) →
      ∃ (K : PySem.W.Frag) (fd : FuncData) (sp : Sp), K.In h ∧ (∀ (s : Shared) (u : Value), BindsTo s fd ⟨[u], []⟩ [(x, u)]) ∧
        (∀ (H : Hp) (a : Addr) (ns : List Int), ns.length ≤ n → (∀ b, H b = none ∨ ∃ o xs, H b = some (.frz o (.lst xs))) → SqL K H a (ns.map V.int) → sp [.ref a] H (fun v _ => v = .bl true) fun _ _ _ => False) ∧
        ∀ base : Heap, K.In base → base.Ns mainGlobals mg → FnG l.prog w K mg base k fa fd [x] sp) :
    PySem.W.WalkO q loose XP YP l.row.toRowW d [] (fun f vs => PySem.call f vs) := by
  refine Att.attach_call hn hdf fun w s₀ s₁ mg mb fa o pm cd doc a vs ns G Y ho hd hcd hmg hobj hints hlen hg => ?_
  obtain ⟨K, fd, sp, kin, hbi, hsp, hF⟩ := F w mg fa _ Y G.T.g hmg
  exact law_callG kin G.T.g G.T.b G.T.builtins G.T.nolimit hg hobj hints (Nat.le_trans hlen hn2) hr hF hbi fun H => hsp H a ns hlen
/-- the promise of the law's def, from the clean text -/
theorem law_sp {K : PySem.W.Frag} {G : Prog} {k f : Nat} {ns : List Int} {H : Hp} {a : Addr} (hH : ∀ b, H b = none ∨ ∃ o xs, H b = some (.frz o (.lst xs))) (hS : SqL K H a (ns.map V.int)) (h : ∃ m, callN G k f [.scr ns] false [] = .ok (.bl true) m) :
    spF K xr0 1 (callN G k f) false [.ref a] H (fun v _ => v = .bl true) fun _ _ _ => False := by
  refine ⟨[.scr ns], [], ⟨[], []⟩, [], rfl, .cons (.scr ?_) .nil, ⟨by simp, rfl, fun i a c h1 h2 => (by cases h2), by simp, by simp, .nil, by simp, by simp⟩, ?_⟩
  · rcases hS with hS | hS
    · exact .inl ⟨hS, by simp [Al.off]⟩
    · exact .inr hS
  · obtain ⟨m, e⟩ := h
    rw [e]
    intro u H' al' x rl r
    cases r
    rfl
end MP
set_option Elab.async false
set_option linter.all false
set_option maxRecDepth 100000
set_option maxHeartbeats 2000000
/-! MPTop: from the head's facts to the law. -/
namespace MP
open PySem PySem.Spec PyProof.Rows L2
abbrev LV : Nat := 40
def dOf (fi : FI) : He.DefD := ⟨(fi.x, none), fi.x, fi.x, defArgs fi.st, defBody fi.st, defScope fi.st, [], []⟩
def faOf (fis : List FI) (blt : List Str) : List He.Fa := fis.map (fun fi => .glo fi.x) ++ blt.map .free
theorem lookup_mem {fis : List FI} {x : Str} {f : Nat} : (fis.map fun fi => (fi.x, fi.fid)).lookup x = some f → ∃ fi ∈ fis, fi.x = x ∧ fi.fid = f := by
  induction fis with
  | nil => intro h; cases h
  | cons fi fis ih =>
    intro h
    rw [List.map_cons, List.lookup_cons] at h
    split at h
    · rename_i e
      cases h
      exact ⟨fi, List.mem_cons_self, (eq_of_beq e).symm, rfl⟩
    · obtain ⟨fj, h1, h2⟩ := ih h
      exact ⟨fj, List.mem_cons_of_mem _ h1, h2⟩
theorem kwB_of {K : PySem.W.Frag} {x qual : Str} {params : Arguments} {body : List Stmt} {scope : Scope} {f : Addr} {fd : FuncData} {ps : List Str} {n : Nat} {ks : List Str} {perm : List Nat} {kws : List (Str × V)} (F : FunD K x qual params body scope [] kws f fd)
    (h : ∀ (kV doc pm : Value) (an : Option Addr) (cdv ct : Value) (us ws : List Value), us.length = n → ws.length = ks.length → bindArgs (PySem.W.fnOf x qual params body scope .none kV doc pm an cdv ct) ⟨us, ks.zip ws⟩ = pure (ps.zip (perm.map fun i => (us ++ ws).getD i .none)))
    (hl : perm.length = ps.length) (hi : ∀ i ∈ perm, i < n + ks.length) : KwB K fd ps n ks perm := by
  obtain ⟨oc, od, dV, kV, doc, pm, an, cdv, ct, osl, rfl, lk, hcd, hD, hK⟩ := F.ex
  rcases hD with ⟨_, rfl⟩ | ⟨e, _⟩
  · exact ⟨fun s us ws _ h1 h2 => .of_eq (h kV doc pm an cdv ct us ws h1 h2), hl, hi⟩
  · exact absurd rfl e
theorem law_top {G : Prog} {fis : List FI} {blt : List Str} {kws : List (Nat × Nat × List Str × List Nat)} {il : FI} {P : Program} {w : World} {K : PySem.W.Frag} {h : Heap} {mg : Str → Option Value} {fa : Addr}
    (KX : K.In h) (Gm : h.Ns mainGlobals mg) (hmg : mg il.x = some (.ref fa)) (c : He.SaysD (faOf fis blt) (fis.map dOf) K) (hd : ∀ fi ∈ fis, G.defs fi.fid = some fi.d) (hc : ∀ fi ∈ fis, chkF (wd G fis blt kws) fi = true)
    (hb : ∀ fi ∈ fis, ∀ f fd, FunD K fi.x fi.x (defArgs fi.st) (defBody fi.st) (defScope fi.st) [] [] f fd → Binds K fd fi.ps [])
    (hk : ∀ fi ∈ fis, ∀ f fd, FunD K fi.x fi.x (defArgs fi.st) (defBody fi.st) (defScope fi.st) [] [] f fd → ∀ n ks perm, kws.contains (fi.fid, n, ks, perm) = true → KwB K fd fi.ps n ks perm)
    (hil : il ∈ fis) (hps : il.ps = (["_law_script"] : List Str)) (hnp : il.d.np = 1)
    (hA : ∀ f fd, FunD K il.x il.x (defArgs il.st) (defBody il.st) (defScope il.st) [] [] f fd → ∀ (s : Shared) (u : Value), BindsTo s fd ⟨[u], []⟩ [("_law_script", u)])
    (h0 : ∀ ns : List Int, ns.length ≤ 63 → ∃ m, callN G LV il.fid [.scr ns] false [] = .ok (.bl true) m) :
    ∃ (K : PySem.W.Frag) (fd : FuncData) (sp : Sp), K.In h ∧ (∀ (s : Shared) (u : Value), BindsTo s fd ⟨[u], []⟩ [("_law_script", u)]) ∧
        (∀ (H : Hp) (a : Addr) (ns : List Int), ns.length ≤ 63 → (∀ b, H b = none ∨ ∃ o xs, H b = some (.frz o (.lst xs))) → SqL K H a (ns.map V.int) → sp [.ref a] H (fun v _ => v = .bl true) fun _ _ _ => False) ∧
        ∀ base : Heap, K.In base → base.Ns mainGlobals mg → FnG P w K mg base LV fa fd ["_law_script"] sp := by
  have fa_at : ∀ f ∈ faOf fis blt, f.ok K = true := fun f hf => by
    obtain ⟨i, hi⟩ := List.getElem?_of_mem hf
    exact c.fact i hi
  have st : ∀ fi ∈ fis, ∃ f fd, Std P w K mg (wd G fis blt kws) fi f fd := fun fi hfi => by
    obtain ⟨i, hi⟩ := List.getElem?_of_mem hfi
    have hi' : (fis.map dOf)[i]? = some (dOf fi) := by rw [List.getElem?_map, hi]; rfl
    obtain ⟨fd, F⟩ := c.def_ i hi'
    have g := He.glo_ok KX Gm (x := fi.x) (fa_at (.glo fi.x) (List.mem_append_left _ (List.mem_map.mpr ⟨fi, hfi, rfl⟩)))
    exact ⟨_, fd, F, g, hb fi hfi _ _ F, hk fi hfi _ _ F⟩
  have hbl : ∀ x, (wd G fis blt kws).blt.contains x = true → mg x = none := fun x hx => by
    have hx : x ∈ blt := List.contains_iff_mem.mp hx
    exact He.free_ok KX Gm (fa_at (.free x) (List.mem_append_right _ (List.mem_map.mpr ⟨x, hx, rfl⟩)))
  obtain ⟨f, fd, sd⟩ := st il hil
  have e := sd.mg.symm.trans hmg
  cases e
  have n1 : (wd G fis blt kws).np il.fid = 1 := by
    show (match G.defs il.fid with
      | some d => d.np
      | none => 0) = 1
    rw [hd il hil]
    exact hnp
  refine ⟨K, fd, spF K xr0 1 (callN G LV il.fid) false, KX, hA _ _ sd.fun_, fun H a ns hl hH hS => ?_, fun base _ _ => ?_⟩
  rotate_left
  · have z := prog_ok (base := base) hd hc (fun x f h => lookup_mem h) (fun f => rfl) st hbl LV il hil _ fd sd false
    rw [hps, n1] at z
    exact z
  exact law_sp hH hS (h0 ns hl)
end MP
set_option Elab.async false
set_option linter.all false
set_option maxRecDepth 100000
set_option maxHeartbeats 1000000
/-! MPC: the laws' own helpers, plainly. -/
namespace MP
open PySem (Str Operator CmpOp PyData)
def dTake : Def where
  np := 2
  ns := 4
  body := (.cons (.iff (.cmp (.idx (.var 0) (.con (.int 0))) [.Gt] (.cons (.con (.int 0)) .nil)) (.cons (.asg (.nm 2) (.bin .Mod (.idx (.var 0) (.con (.int 0))) (.var 1))) (.cons (.set (.var 0) (.con (.int 0)) (.bin .FloorDiv (.idx (.var 0) (.con (.int 0))) (.var 1))) (.cons (.ret (.var 2)) .nil))) .nil) (.cons (.iff (.cmp (.var 1) [.Gt] (.cons (.bin .Pow (.con (.int 10)) (.con (.int 7))) .nil)) (.cons (.ret (.bin .Mod (.bin .Add (.call 0 (.cons (.var 0) (.cons (.bin .Pow (.con (.int 10)) (.con (.int 7))) .nil)) false) (.bin .Mult (.bin .Pow (.con (.int 10)) (.con (.int 7))) (.call 0 (.cons (.var 0) (.cons (.bin .Add (.bin .FloorDiv (.var 1) (.bin .Pow (.con (.int 10)) (.con (.int 7)))) (.con (.int 1))) .nil)) false))) (.var 1))) .nil) .nil) (.cons (.set (.var 0) (.con (.int 2)) (.bin .Add (.idx (.var 0) (.con (.int 2))) (.con (.int 1)))) (.cons (.asg (.nm 3) (.bin .Mod (.bin .Pow (.bin .Add (.idx (.var 0) (.con (.int 1))) (.bin .Mult (.con (.int 52774)) (.idx (.var 0) (.con (.int 2))))) (.con (.int 3))) (.con (.int 2147483563)))) (.cons (.ret (.bin .Mod (.bin .FloorDiv (.bin .Mod (.bin .Add (.bin .Mult (.var 3) (.bin .Add (.bin .Mod (.var 3) (.con (.int 40013))) (.con (.int 11)))) (.bin .Mult (.idx (.var 0) (.con (.int 2))) (.con (.int 6089)))) (.con (.int 2147483647))) (.con (.int 32))) (.var 1))) .nil)))))
/-- a pot: three numbers at cell n; c bounds how often it was taken from -/
def Pot (m : M) (n : Nat) (t : Nat) : Prop := ∃ a b c : Int, m[n]? = some (.lst [.int a, .int b, .int c]) ∧ 0 ≤ a ∧ 0 ≤ b ∧ b < 2147483399 ∧ 0 ≤ c ∧ c ≤ t
/-- m' is m but for cell n, which is a pot -/
def Took (m m' : M) (n : Nat) (t : Nat) : Prop := ∃ c, m' = m.set n c ∧ Pot m' n t
theorem dr_ref {m : M} {n : Nat} {xs : List Val} (h : m[n]? = some (.lst xs)) : dr m (.ref n) = .lst xs := by simp [dr, h]
theorem take_set {m : M} {n : Nat} {c : Cell} : (m.set n c).take m.length = m.set n c := List.take_of_length_le (by simp)
theorem take1 {G : Prog} (hG : G.defs 0 = some dTake) {k : Nat} {m : M} {n t : Nat} {B : Int} (hp : Pot m n t) (hB : 0 < B) (hB2 : B ≤ 10000000) (ht : t < 1000000) :
    ∃ r m', callN G (k + 1) 0 [.ref n, .int B] false m = .ok (.int r) m' ∧ 0 ≤ r ∧ r < B ∧ Took m m' n (t + 1) := by
  obtain ⟨a, b, c, h, ha, hb, hb2, hc, hc2⟩ := hp
  have hn : n < m.length := (List.getElem?_eq_some_iff.mp h).1
  have h' : m[n] = .lst [.int a, .int b, .int c] := Option.some.inj ((List.getElem?_eq_getElem hn).symm.trans h)
  by_cases h0 : 0 < a
  · refine ⟨a % B, m.set n (.lst [.int (a / B), .int b, .int c]), ?_, Int.emod_nonneg _ (by omega), Int.emod_lt_of_pos _ hB, _, rfl, a / B, b, c, by simp [hn], Int.ediv_nonneg ha (by omega), hb, hb2, hc, by omega⟩
    have l1 : B < 1073741824 := by omega
    simp [h', take_set, callN, hG, dTake, runD, exs, ex, ev, evs, evCmp, Cst.val, dr_ref h, dr, idx, atV, ixN, opt, R.bind, R.thn, Rs.bind, cop, cGt, h0, tru, bop, bMod, bDiv, hB, l1, bindT, Tg.see, setAt, h, storable, Val.pure, exitR, hn]
  · have l2 : ¬ (10000000 : Int) < B := by omega
    have e7 : ((10 : Int) ^ 7) = 10000000 := by decide
    generalize hx : (b + 52774 * (c + 1)) ^ 3 % 2147483563 = x
    have x0 : 0 ≤ x := hx ▸ Int.emod_nonneg _ (by decide)
    have x1 : x < 2147483563 := hx ▸ Int.emod_lt_of_pos _ (by decide)
    have s1 : smallI 52774 = true := by decide
    have s2 : smallI 6089 = true := by decide
    have s3 : smallI x = true := by
      unfold smallI
      refine decide_eq_true ⟨by omega, by omega⟩
    have s4 : (b + 52774 * (c + 1)).natAbs < 18446744073709551616 := by omega
    refine ⟨(x * (x % 40013 + 11) + (c + 1) * 6089) % 2147483647 / 32 % B, m.set n (.lst [.int a, .int b, .int (c + 1)]), ?_, Int.emod_nonneg _ (by omega), Int.emod_lt_of_pos _ hB, _, rfl, a, b, c + 1, by simp [hn], ha, hb, hb2, by omega, by omega⟩
    simp [h', take_set, callN, hG, dTake, runD, exs, ex, ev, evs, evCmp, Cst.val, dr_ref h, dr, idx, atV, ixN, opt, R.bind, R.thn, Rs.bind, cop, cGt, h0, tru, bop, bMod, bDiv, bAdd, bMul, bPow, hB, l2, e7, bindT, Tg.see, setAt, h, storable, Val.pure, exitR, hn, s1, s2, s3, s4, hx]
theorem Pot.le {m : M} {n t t' : Nat} (h : Pot m n t) (l : t ≤ t') : Pot m n t' := by
  obtain ⟨a, b, c, h1, h2, h3, h4, h5, h6⟩ := h
  exact ⟨a, b, c, h1, h2, h3, h4, h5, by omega⟩
theorem Pot.lt {m : M} {n t : Nat} (h : Pot m n t) : n < m.length := by
  obtain ⟨a, b, c, h1, _⟩ := h
  exact (List.getElem?_eq_some_iff.mp h1).1
theorem Pot.app {m e : M} {n t : Nat} (h : Pot m n t) : Pot (m ++ e) n t := by
  have l := h.lt
  obtain ⟨a, b, c, h1, h2⟩ := h
  exact ⟨a, b, c, by rw [List.getElem?_append_left l]; exact h1, h2⟩
theorem Took.pot {m m' : M} {n t : Nat} (h : Took m m' n t) : Pot m' n t := h.choose_spec.2
theorem Took.le {m m' : M} {n t t' : Nat} (h : Took m m' n t) (l : t ≤ t') : Took m m' n t' := by
  obtain ⟨c, h1, h2⟩ := h
  exact ⟨c, h1, h2.le l⟩
theorem Took.len {m m' : M} {n t : Nat} (h : Took m m' n t) : m'.length = m.length := by
  obtain ⟨c, rfl, _⟩ := h
  simp
theorem Took.self {m : M} {n t : Nat} (h : Pot m n t) : Took m m n t := by
  have h' := h
  obtain ⟨a, b, c, h1, _⟩ := h
  obtain ⟨l, e⟩ := List.getElem?_eq_some_iff.mp h1
  exact ⟨m[n], by simp, h'⟩
theorem Took.trans {m m1 m2 : M} {n t t' : Nat} (h : Took m m1 n t) (h' : Took m1 m2 n t') : Took m m2 n t' := by
  obtain ⟨c, rfl, _⟩ := h
  obtain ⟨c', rfl, h2⟩ := h'
  exact ⟨c', by simp, h2⟩
theorem Took.app {m e m' : M} {n t : Nat} (hn : n < m.length) (h : Took (m ++ e) m' n t) : ∃ m1, m' = m1 ++ e ∧ Took m m1 n t := by
  obtain ⟨c, rfl, a, b, d, h2, h3⟩ := h
  refine ⟨m.set n c, List.set_append_left _ _ hn, c, rfl, a, b, d, ?_, h3⟩
  rw [List.set_append_left _ _ hn, List.getElem?_append_left (by simpa using hn)] at h2
  exact h2
theorem Took.off {m m' : M} {n t k : Nat} (h : Took m m' n t) (hk : k ≠ n) : m'[k]? = m[k]? := by
  obtain ⟨c, rfl, _⟩ := h
  rw [List.getElem?_set_ne (Ne.symm hk)]
theorem take_app {m e : M} : (m ++ e).take m.length = m := by simp
/-! ### loops -/
theorem loopL_inv {f : Val → Env → M → Rs} {w : M → Bool} (P : Nat → Env → M → Prop) : ∀ (xs : List Val) (i : Nat) (ρ : Env) (m : M), P i ρ m →
    (∀ j v ρ m, xs[j]? = some v → P (i + j) ρ m → ∃ ρ' m', f v ρ m = .nxt ρ' m' ∧ w m' = true ∧ P (i + j + 1) ρ' m') → ∃ ρ' m', loopL f w xs ρ m = .nxt ρ' m' ∧ P (i + xs.length) ρ' m'
  | [], i, ρ, m, h, _ => ⟨ρ, m, rfl, h⟩
  | v :: vs, i, ρ, m, h, st => by
    obtain ⟨ρ1, m1, e1, e2, h1⟩ := st 0 v ρ m rfl h
    obtain ⟨ρ2, m2, e3, h2⟩ := loopL_inv P vs (i + 1) ρ1 m1 h1 fun j v ρ m hv hp => by
      have := st (j + 1) v ρ m (by simpa using hv) (by rw [show i + (j + 1) = i + 1 + j by omega]; exact hp)
      rw [show i + (j + 1) + 1 = i + 1 + j + 1 by omega] at this
      exact this
    refine ⟨ρ2, m2, ?_, by rw [List.length_cons, show i + (vs.length + 1) = i + 1 + vs.length by omega]; exact h2⟩
    simp only [loopL, e1, Rs.bind, e2, if_true]
    exact e3
theorem compL_inv {f : Val → M → R (Option Val)} {w : M → Bool} (P : Nat → List Val → M → Prop) : ∀ (xs : List Val) (i : Nat) (acc : List Val) (m : M), P i acc m →
    (∀ j v acc m, xs[j]? = some v → P (i + j) acc m → ∃ o m', f v m = .ok o m' ∧ w m' = true ∧ acc.length < LINE ∧ P (i + j + 1) (acc ++ o.toList) m') → ∃ acc' m', compL f w acc xs m = .ok acc' m' ∧ P (i + xs.length) acc' m'
  | [], i, acc, m, h, _ => ⟨acc, m, rfl, h⟩
  | v :: vs, i, acc, m, h, st => by
    obtain ⟨o, m1, e1, e2, e3, h1⟩ := st 0 v acc m rfl h
    obtain ⟨a2, m2, e4, h2⟩ := compL_inv P vs (i + 1) (acc ++ o.toList) m1 h1 fun j v acc m hv hp => by
      have := st (j + 1) v acc m (by simpa using hv) (by rw [show i + (j + 1) = i + 1 + j by omega]; exact hp)
      rw [show i + (j + 1) + 1 = i + 1 + j + 1 by omega] at this
      exact this
    refine ⟨a2, m2, ?_, by rw [List.length_cons, show i + (vs.length + 1) = i + 1 + vs.length by omega]; exact h2⟩
    simp only [compL, e1, R.bind, e2, if_true]
    cases o with
    | none => simpa using e4
    | some y => simp only [e3, if_true]; exact e4
/-- a comprehension that changes nothing -/
theorem compL_pure {f : Val → M → R (Option Val)} {w : M → Bool} {m : M} (hw : w m = true) (g : Val → Option Val) : ∀ (xs acc : List Val), acc.length + xs.length ≤ LINE → (∀ v ∈ xs, f v m = .ok (g v) m) → compL f w acc xs m = .ok (acc ++ xs.filterMap g) m
  | [], acc, _, _ => by simp [compL]
  | v :: vs, acc, hl, h => by
    rw [List.length_cons] at hl
    have h1 := h v List.mem_cons_self
    have h2 := fun u hu => h u (List.mem_cons_of_mem _ hu)
    simp only [compL, h1, R.bind, hw, if_true]
    cases e : g v with
    | none =>
      simp only [List.filterMap_cons, e]
      exact compL_pure hw g vs acc (by omega) h2
    | some y =>
      have hz : acc.length < LINE := by omega
      simp only [hz, if_true, List.filterMap_cons, e]
      rw [compL_pure hw g vs (acc ++ [y]) (by simp; omega) h2]
      simp
theorem pureL_append : ∀ {xs ys : List Val}, pureL (xs ++ ys) = (pureL xs && pureL ys)
  | [], _ => by simp [pureL]
  | x :: xs, ys => by simp [pureL, pureL_append (xs := xs), Bool.and_assoc]
theorem pureL_ints : ∀ l : List Int, pureL (l.map .int) = true
  | [] => rfl
  | x :: l => by simp [pureL, Val.pure, pureL_ints l]
theorem frzL_pure {n : Nat} {m : M} : ∀ {xs : List Val} {f : Nat}, pureL xs = true → (∀ x ∈ xs, ∀ k, x ≠ .ref k) → (∀ x ∈ xs, ∃ i, x = .int i) → xs.length < f → frzL n m f xs = some xs
  | [], f, _, _, _, _ => by cases f <;> rfl
  | x :: xs, 0, _, _, _, h => by simp at h
  | x :: xs, 1, _, _, _, h => by simp at h
  | x :: xs, f + 2, hp, hr, hi, h => by
    obtain ⟨i, rfl⟩ := hi x List.mem_cons_self
    simp only [pureL, Bool.and_eq_true] at hp
    simp only [frzL, frz]
    rw [frzL_pure hp.2 (fun y hy => hr y (List.mem_cons_of_mem _ hy)) (fun y hy => hi y (List.mem_cons_of_mem _ hy)) (by simp at h; omega)]
    rfl
/-! ### floors -/
def dFloors : Def where
  np := 2
  ns := 5
  body := (.cons (.asg (.tup [(.nm 2), (.nm 3)]) (.tup (.cons (.call 0 (.cons (.var 0) (.cons (.con (.int 5)) .nil)) false) (.cons (.new (.lst .nil)) .nil)))) (.cons (.iff (.cmp (.var 2) [.Eq] (.cons (.con (.int 1)) .nil)) (.cons (.ret (.lst (.cons (.bin .Add (.con (.int 1)) (.call 0 (.cons (.var 0) (.cons (.var 1) .nil)) false)) .nil))) .nil) .nil) (.cons (.for (.nm 4) (.rng (.cons (.con (.int 1)) (.cons (.bin .Add (.var 1) (.con (.int 1))) .nil))) (.cons (.iff (.or (.cmp (.var 2) [.Eq] (.cons (.con (.int 4)) .nil)) (.cons (.and (.cmp (.var 2) [.Gt] (.cons (.con (.int 1)) .nil)) (.cons (.cmp (.call 0 (.cons (.var 0) (.cons (.var 2) .nil)) false) [.Eq] (.cons (.con (.int 0)) .nil)) .nil)) .nil)) (.cons (.exp (.mth .append (.var 3) (.cons (.var 4) .nil))) .nil) .nil) .nil)) (.cons (.ret (.var 3)) .nil))))
theorem cmp_int (i j : Int) : cop .Eq (.int i) (.int j) = some (decide (i = j)) := by
  by_cases h : i = j <;> simp [cop, Val.cmpOk, Val.data, Val.deep, Val.eqv, h]
theorem cmp_gt (i j : Int) : cop .Gt (.int i) (.int j) = some (decide (j < i)) := rfl
theorem exs_end (r : Rs) : (match r, (fun ρ m => Rs.nxt ρ m : Env → M → Rs) with
    | .nxt ρ m, k => k ρ m
    | .ret v m, _ => .ret v m
    | .exc c fs ρ m, _ => .exc c fs ρ m
    | .stuck, _ => .stuck) = r := by cases r <;> rfl
theorem rngL_len : ∀ (n : Nat) (lo : Int), (rngL lo n).length = n
  | 0, _ => rfl
  | n + 1, lo => by simp [rngL, rngL_len n]
theorem rngL_at : ∀ (n : Nat) (lo : Int) (i : Nat) (x : Val), (rngL lo n)[i]? = some x → i < n ∧ x = .int (lo + i)
  | 0, _, _, _, h => by simp [rngL] at h
  | n + 1, lo, 0, x, h => by simp [rngL] at h; subst h; exact ⟨by omega, by simp⟩
  | n + 1, lo, i + 1, x, h => by
    simp only [rngL, List.getElem?_cons_succ] at h
    obtain ⟨h1, h2⟩ := rngL_at n (lo + 1) i x h
    refine ⟨by omega, ?_⟩
    rw [h2]
    congr 1
    omega
theorem ev_tup2 {C : Cx} {a b : E} {ρ : Env} {m m1 m2 : M} {u v : Val} (h1 : ev C a ρ m = .ok u m1) (h2 : ev C b ρ m1 = .ok v m2) : ev C (.tup (.cons a (.cons b .nil))) ρ m = .ok (.tup [u, v]) m2 := by
  rw [ev, evs, h1]
  simp only [R.bind]
  rw [evs, h2]
  simp only [R.bind]
  rw [evs]
  exact if_pos (by unfold LINE; simp)
theorem ev_lst0 {C : Cx} (ρ : Env) (m : M) : ev C (.lst .nil) ρ m = .ok (.lst []) m := by
  rw [ev, evs]
  exact if_pos (by unfold LINE; simp)
theorem ev_new {C : Cx} {a : E} {ρ : Env} {m m1 : M} {xs : List Val} (h : ev C a ρ m = .ok (.lst xs) m1) : ev C (.new a) ρ m = .ok (.ref m1.length) (m1 ++ [.lst xs]) := by
  rw [ev, h]
theorem ex_asg {C : Cx} {tg : Tg} {e : E} {ρ ρ1 : Env} {m m1 : M} {v : Val} (h : ev C e ρ m = .ok v m1) (hb : bindT tg (tg.see m1 v) ρ = some ρ1) : ex C (.asg tg e) ρ m = .nxt ρ1 m1 := by
  rw [ex, h]
  simp only [R.thn, hb]
theorem call_def {G : Prog} {k f : Nat} {d : Def} {args : List Val} {al : Bool} {m : M} (h : G.defs f = some d) (hl : args.length = d.np) : callN G (k + 1) f args al m = runD G (callN G k) d args al m := by
  show (match G.defs f with
    | some d => if args.length = d.np then runD G (callN G k) d args al m else .stuck
    | none => .stuck) = _
  rw [h]
  exact if_pos hl
def fS1 : S := .asg (.tup [(.nm 2), (.nm 3)]) (.tup (.cons (.call 0 (.cons (.var 0) (.cons (.con (.int 5)) .nil)) false) (.cons (.new (.lst .nil)) .nil)))
def fS2 : S := .iff (.cmp (.var 2) [.Eq] (.cons (.con (.int 1)) .nil)) (.cons (.ret (.lst (.cons (.bin .Add (.con (.int 1)) (.call 0 (.cons (.var 0) (.cons (.var 1) .nil)) false)) .nil))) .nil) .nil
def fB : Ss := .cons (.iff (.or (.cmp (.var 2) [.Eq] (.cons (.con (.int 4)) .nil)) (.cons (.and (.cmp (.var 2) [.Gt] (.cons (.con (.int 1)) .nil)) (.cons (.cmp (.call 0 (.cons (.var 0) (.cons (.var 2) .nil)) false) [.Eq] (.cons (.con (.int 0)) .nil)) .nil)) .nil)) (.cons (.exp (.mth .append (.var 3) (.cons (.var 4) .nil))) .nil) .nil) .nil
def fS3 : S := .for (.nm 4) (.rng (.cons (.con (.int 1)) (.cons (.bin .Add (.var 1) (.con (.int 1))) .nil))) fB
theorem dFloors_body : dFloors.body = .cons fS1 (.cons fS2 (.cons fS3 (.cons (.ret (.var 3)) .nil))) := rfl
/-- one storey -/
theorem floors_turn {G : Prog} (hG : G.defs 0 = some dTake) {k : Nat} {C : Cx} (hC : C.call = callN G (k + 1)) {m1 : M} {n t : Nat} {B way x : Int} {l : List Int} {o : Option Val} (hb : C.base ≤ m1.length) (hp : Pot m1 n t) (w0 : 0 ≤ way) (w1 : way < 5) (ht : t < 200000) (hl : l.length < 1000) :
    ∃ l' m2, exs C fB [some (.ref n), some (.int B), some (.int way), some (.ref m1.length), some (.int x)] (m1 ++ [.lst (l.map .int)]) = .nxt [some (.ref n), some (.int B), some (.int way), some (.ref m1.length), some (.int x)] (m2 ++ [.lst (l'.map .int)]) ∧ Took m1 m2 n (t + 1) ∧ (l' = l ∨ l' = l ++ [x]) := by
  have hn := hp.lt
  have hlz : l.length < LINE := by unfold LINE; omega
  have app : ∀ m2 : M, m2.length = m1.length → exs C (.cons (.exp (.mth .append (.var 3) (.cons (.var 4) .nil))) .nil) [some (.ref n), some (.int B), some (.int way), some (.ref m1.length), some (.int x)] (m2 ++ [.lst (l.map .int)]) =
      .nxt [some (.ref n), some (.int B), some (.int way), some (.ref m1.length), some (.int x)] (m2 ++ [.lst ((l ++ [x]).map .int)]) := fun m2 h2 => by
    simp [exs, ex, ev, evs, mutOk, mthd, R.bind, R.thn, Rs.bind, ← h2, storable, Val.pure, hlz]
  rw [fB, exs]
  by_cases h4 : way = 4
  · subst h4
    refine ⟨l ++ [x], m1, ?_, (Took.self hp).le (by omega), .inr rfl⟩
    rw [← app m1 rfl]
    simp only [ex, ev, evs, evCmp, evOr, Cst.val, R.bind, R.thn, Rs.bind, opt, dr, cmp_int, tru, List.getElem?_cons_succ, List.getElem?_cons_zero, decide_true, if_true]
    exact exs_end _
  · by_cases h1 : 1 < way
    · obtain ⟨r, m', e1, r0, r1, tk⟩ := take1 hG (k := k) (hp.app (e := [.lst (l.map .int)])) (B := way) (by omega) (by omega) (by omega)
      obtain ⟨m2, rfl, tk2⟩ := tk.app hn
      by_cases hr : r = 0
      · subst hr
        refine ⟨l ++ [x], m2, ?_, tk2, .inr rfl⟩
        rw [← app m2 tk2.len]
        simp only [ex, ev, evs, evCmp, evOr, evAnd, Cst.val, R.bind, R.thn, Rs.bind, opt, dr, cmp_int, cmp_gt, tru, List.getElem?_cons_succ, List.getElem?_cons_zero, decide_true, decide_false, if_true, h4, h1, hC, e1, Bool.false_eq_true, if_false]
        exact exs_end _
      · refine ⟨l, m2, ?_, tk2, .inl rfl⟩
        simp only [ex, exs, ev, evs, evCmp, evOr, evAnd, Cst.val, R.bind, R.thn, Rs.bind, opt, dr, cmp_int, cmp_gt, tru, List.getElem?_cons_succ, List.getElem?_cons_zero, decide_true, decide_false, if_true, h4, h1, hr, hC, e1, Bool.false_eq_true, if_false]
    · refine ⟨l, m1, ?_, (Took.self hp).le (by omega), .inl rfl⟩
      simp only [ex, exs, ev, evs, evCmp, evOr, evAnd, Cst.val, R.bind, R.thn, Rs.bind, opt, dr, cmp_int, cmp_gt, tru, List.getElem?_cons_succ, List.getElem?_cons_zero, decide_true, decide_false, if_true, h4, h1, Bool.false_eq_true, if_false]
def FlP (n : Nat) (B way : Int) (m1 : M) (t : Nat) (i : Nat) (ρ : Env) (m : M) : Prop := ∃ (l : List Int) (m2 : M) (o : Option Val), ρ = [some (.ref n), some (.int B), some (.int way), some (.ref m1.length), o] ∧ m = m2 ++ [.lst (l.map .int)] ∧ Took m1 m2 n (t + 1 + i) ∧
  (∀ x ∈ l, 1 ≤ x ∧ x ≤ B) ∧ l.length ≤ i
theorem floors1 {G : Prog} (hG : G.defs 0 = some dTake) (hF : G.defs 3 = some dFloors) {k : Nat} {m : M} {n t : Nat} {B : Int} (hp : Pot m n t) (hB : 0 < B) (hB2 : B ≤ 500) (ht : t < 100000) :
    ∃ (l : List Int) (m' : M), callN G (k + 2) 3 [.ref n, .int B] false m = .ok (.lst (l.map .int)) m' ∧ (∀ x ∈ l, 1 ≤ x ∧ x ≤ B) ∧ l.length ≤ 500 ∧ Took m m' n (t + B.toNat + 2) := by
  have hn := hp.lt
  obtain ⟨way, m1, e1, w0, w1, t1⟩ := take1 hG (k := k) hp (B := 5) (by decide) (by decide) (by omega)
  have hl1 := t1.len
  rw [call_def hF rfl]
  unfold runD
  rw [dFloors_body]
  obtain ⟨C, hC⟩ : ∃ C : Cx, ctx G (callN G (k + 1)) m.length false = C := ⟨_, rfl⟩
  have hcall : C.call = callN G (k + 1) := by rw [← hC]; rfl
  have hbase : C.base = m.length := by rw [← hC]; rfl
  rw [hC]
  have g1 : ex C fS1 [some (.ref n), some (.int B), none, none, none] m = .nxt [some (.ref n), some (.int B), some (.int way), some (.ref m1.length), none] (m1 ++ [.lst []]) := by
    have a0 : ev C (.call 0 (.cons (.var 0) (.cons (.con (.int 5)) .nil)) false) [some (.ref n), some (.int B), none, none, none] m = .ok (.int way) m1 := by
      simp [ev, evs, Cst.val, R.bind, hcall, e1]
    exact ex_asg (ev_tup2 a0 (ev_new (ev_lst0 _ _))) rfl
  have st : ([Val.ref n, Val.int B].map some ++ List.replicate (dFloors.ns - dFloors.np) none : Env) = [some (.ref n), some (.int B), none, none, none] := rfl
  rw [st]
  by_cases hw : way = 1
  · subst hw
    obtain ⟨r, m', e2, r0, r1, tk⟩ := take1 hG (k := k) (t1.pot.app (e := [.lst []])) (B := B) hB (by omega) (by omega)
    obtain ⟨m2, rfl, tk2⟩ := tk.app (by rw [hl1]; exact hn)
    have g2 : ex C fS2 [some (.ref n), some (.int B), some (.int 1), some (.ref m1.length), none] (m1 ++ [.lst []]) = .ret (.lst [.int (1 + r)]) (m2 ++ [.lst []]) := by
      simp [fS2, exs, ex, ev, evs, evCmp, Cst.val, R.bind, R.thn, Rs.bind, opt, dr, cmp_int, tru, hcall, e2, bop, bAdd, LINE]
    refine ⟨[1 + r], m2, ?_, fun x hx => by simp at hx; omega, by simp, (t1.trans tk2).le (by omega)⟩
    simp only [exs, g1, g2, Rs.bind]
    have hz : m2.length = m.length := tk2.len.trans hl1
    simp [exitR, Val.pure, pureL, ← hz]
  · have g2 : ex C fS2 [some (.ref n), some (.int B), some (.int way), some (.ref m1.length), none] (m1 ++ [.lst []]) = .nxt [some (.ref n), some (.int B), some (.int way), some (.ref m1.length), none] (m1 ++ [.lst []]) := by
      simp [fS2, exs, ex, ev, evs, evCmp, Cst.val, R.bind, R.thn, Rs.bind, opt, dr, cmp_int, tru, hw]
    have r62a : rng62 1 = true := by decide
    have r62b : rng62 (B + 1) = true := by unfold rng62; exact decide_eq_true ⟨by omega, by omega⟩
    have g3 : ∃ (l : List Int) (m2 : M) (o : Option Val), ex C fS3 [some (.ref n), some (.int B), some (.int way), some (.ref m1.length), none] (m1 ++ [.lst []]) = .nxt [some (.ref n), some (.int B), some (.int way), some (.ref m1.length), o] (m2 ++ [.lst (l.map .int)]) ∧
        Took m1 m2 n (t + 1 + B.toNat) ∧ (∀ x ∈ l, 1 ≤ x ∧ x ≤ B) ∧ l.length ≤ B.toNat := by
      have hb1 : (1 + B - 1 : Int) = B := by omega
      have step : ∀ (j : Nat) (v : Val) (ρ : Env) (m0 : M), (rngL 1 (B + 1 - 1).toNat)[j]? = some v → FlP n B way m1 t (0 + j) ρ m0 → ∃ ρ' m', (match bindT (.nm 4) v ρ with
          | some ρ => exs C fB ρ m0
          | none => .stuck) = .nxt ρ' m' ∧ stands (m1 ++ [.lst []]) m' [] = true ∧ FlP n B way m1 t (0 + j + 1) ρ' m' := by
        rintro j v ρ m0 hv ⟨l, m2, o, rfl, rfl, tk, h1, h2⟩
        obtain ⟨hj, rfl⟩ := rngL_at _ _ _ _ hv
        obtain ⟨l', m3, e4, tk2, h3⟩ := floors_turn hG (k := k) hcall (B := B) (x := 1 + (j : Int)) (l := l) (o := o) (way := way) (m1 := m2) (n := n) (t := t + 1 + (0 + j)) (by rw [hbase, tk.len, hl1]; exact Nat.le_refl _) tk.pot w0 w1 (by omega) (by omega)
        refine ⟨_, _, ?_, rfl, l', m3, some (.int (1 + (j : Int))), rfl, rfl, (tk.trans tk2).le (by omega), fun x hx => ?_, ?_⟩
        · rw [tk.len] at e4
          exact e4
        · rcases h3 with rfl | rfl
          · exact h1 x hx
          · rcases List.mem_append.mp hx with hx | hx
            · exact h1 x hx
            · simp at hx; omega
        · rcases h3 with rfl | rfl
          · omega
          · simp; omega
      obtain ⟨ρ', m', e3, l, m2, o, rfl, rfl, tk, h1, h2⟩ := loopL_inv (w := fun m => stands (m1 ++ [.lst []]) m []) (FlP n B way m1 t) (rngL 1 (B + 1 - 1).toNat) 0 [some (.ref n), some (.int B), some (.int way), some (.ref m1.length), none] (m1 ++ [.lst []]) ⟨[], m1, none, rfl, rfl, Took.self t1.pot, by simp, by simp⟩ step
      refine ⟨l, m2, o, ?_, ?_, h1, ?_⟩
      · simp only [fS3, ex, evIt, evs, ev, Cst.val, R.bind, R.thn, opt, List.getElem?_cons_succ, List.getElem?_cons_zero, dr, bop, bAdd, rng, r62a, r62b, Bool.and_self, if_true]
        exact e3
      · rw [rngL_len] at tk
        exact tk.le (by omega)
      · rw [rngL_len] at h2
        omega
    obtain ⟨l, m2, o, g3, tk, h1, h2⟩ := g3
    refine ⟨l, m2, ?_, h1, by omega, (t1.trans tk).le (by omega)⟩
    have hz : m2.length = m.length := tk.len.trans hl1
    have hz1 : m1.length = m2.length := tk.len.symm
    have g4 : ex C (.ret (.var 3)) [some (.ref n), some (.int B), some (.int way), some (.ref m1.length), o] (m2 ++ [.lst (l.map .int)]) = .ret (.ref m1.length) (m2 ++ [.lst (l.map .int)]) := by
      simp [ex, ev, R.thn]
    simp only [exs, g1, g2, g3, g4, Rs.bind]
    have fz : frzL m.length (m2 ++ [.lst (l.map .int)]) 4095 (l.map .int) = some (l.map .int) := frzL_pure (pureL_ints l) (by simp) (by simp) (by simp; omega)
    simp only [exitR, Val.pure, Bool.false_eq_true, if_false]
    have fz2 : frz m.length (m2 ++ [.lst (l.map .int)]) FUEL (.ref m1.length) = some (.lst (l.map .int)) := by
      show frz m.length _ (4095 + 1) _ = _
      have nl : ¬ m1.length < m.length := by omega
      simp only [frz, nl, if_false]
      have : (m2 ++ [Cell.lst (l.map .int)])[m1.length]? = some (.lst (l.map .int)) := by rw [hz1]; simp
      rw [this]
      simp only [fz, Option.map_some]
    rw [fz2]
    have : (m2 ++ [Cell.lst (l.map .int)]).take m.length = m2 := by rw [← hz]; simp
    rw [this]
end MP
set_option Elab.async false
set_option linter.all false
set_option maxRecDepth 100000
set_option maxHeartbeats 1000000
/-! MPC2: more helpers of the laws, plainly. -/
namespace MP
open PySem (Str Operator CmpOp PyData)
section
variable {C : Cx} {ρ ρ1 : Env} {m m1 m2 : M} {v u z : Val} {a b e : E} {k : B} {s : S} {r : Ss}
theorem ev_blt1 (h : ev C a ρ m = .ok v m1) (hb : blt k [dr m1 v] = some z) : ev C (.blt k (.cons a .nil)) ρ m = .ok z m1 := by
  rw [ev, evs, h]
  simp only [R.bind]
  rw [evs]
  simp only [List.map_cons, List.map_nil, hb, opt]
theorem ex_ret (h : ev C e ρ m = .ok v m1) : ex C (.ret e) ρ m = .ret v m1 := by
  rw [ex, h]
theorem exs_ret (h : ex C s ρ m = .ret v m1) : exs C (.cons s r) ρ m = .ret v m1 := by
  rw [exs, h]
theorem exs_nxt (h : ex C s ρ m = .nxt ρ1 m1) : exs C (.cons s r) ρ m = exs C r ρ1 m1 := by
  rw [exs, h]
theorem ev_add {i j : Int} (h1 : ev C a ρ m = .ok (.int i) m1) (h2 : ev C b ρ m1 = .ok (.int j) m2) : ev C (.bin .Add a b) ρ m = .ok (.int (i + j)) m2 := by
  rw [ev, h1]
  simp only [R.bind]
  rw [h2]
  rfl
end
/-- one turn of a comprehension -/
def turnV (C : Cx) (elt : E) (own : List Nat) (tg : Tg) (cd : Es) (ρ : Env) : Val → M → R (Option Val) := fun v m => match bindT tg v (wipeE ρ own) with
  | none => .stuck
  | some ρ1 => (evCd C cd ρ1 m).nox.bind fun k m => if k then (ev C elt ρ1 m).nox.bind fun y m => .ok (some y) m else .ok none m
theorem ev_comp {C : Cx} {elt : E} {own : List Nat} {tg : Tg} {it : It} {cd : Es} {ρ : Env} {m m0 m1 : M} {xs vs : List Val} {w : List Nat} (h1 : evIt C it ρ m = .ok (xs, w) m0) (h2 : compL (turnV C elt own tg cd ρ) (fun m => stands m0 m w) [] xs m0 = .ok vs m1) :
    ev C (.comp false elt own tg it cd) ρ m = .ok (.lst vs) m1 := by
  have e : ev C (.comp false elt own tg it cd) ρ m = (evIt C it ρ m).bind fun p m0 => (compL (turnV C elt own tg cd ρ) (fun m => stands m0 m p.2) [] p.1 m0).bind fun vs m => .ok (.lst vs) m := by
    rw [ev]
    rfl
  rw [e, h1]
  simp only [R.bind]
  rw [h2]
theorem turn_nil {C : Cx} {elt : E} {own : List Nat} {tg : Tg} {ρ ρ1 : Env} {m m1 : M} {v y : Val} (hb : bindT tg v (wipeE ρ own) = some ρ1) (h : ev C elt ρ1 m = .ok y m1) : turnV C elt own tg .nil ρ v m = .ok (some y) m1 := by
  unfold turnV
  rw [hb]
  dsimp only
  rw [evCd]
  simp only [R.nox, R.bind, if_true]
  rw [h]
theorem turn_one {C : Cx} {elt c : E} {own : List Nat} {tg : Tg} {ρ ρ1 : Env} {m m1 m2 : M} {v u y : Val} (hb : bindT tg v (wipeE ρ own) = some ρ1) (hc : ev C c ρ1 m = .ok u m1) (ht : tru (dr m1 u) = some true) (h : ev C elt ρ1 m1 = .ok y m2) :
    turnV C elt own tg (.cons c .nil) ρ v m = .ok (some y) m2 := by
  unfold turnV
  rw [hb]
  dsimp only
  rw [evCd, hc]
  simp only [R.nox, R.bind, ht, opt, if_true]
  rw [h]
theorem turn_no {C : Cx} {elt c : E} {own : List Nat} {tg : Tg} {ρ ρ1 : Env} {m m1 : M} {v u : Val} (hb : bindT tg v (wipeE ρ own) = some ρ1) (hc : ev C c ρ1 m = .ok u m1) (ht : tru (dr m1 u) = some false) :
    turnV C elt own tg (.cons c .nil) ρ v m = .ok none m1 := by
  unfold turnV
  rw [hb]
  dsimp only
  rw [evCd, hc]
  simp only [R.nox, R.bind, ht, opt, Bool.false_eq_true, if_false]
theorem run_ret {G : Prog} {c : CallT} {d : Def} {args : List Val} {al : Bool} {m m' : M} {v : Val} (h : ∀ C : Cx, C.call = c → C.base = m.length → C.sup = G.sup → exs C d.body (args.map some ++ List.replicate (d.ns - d.np) none) m = .ret v m') (hp : v.pure = true) : runD G c d args al m = .ok v (m'.take m.length) := by
  unfold runD
  rw [h _ rfl rfl rfl]
  show exitR al m.length v m' = _
  unfold exitR
  rw [if_pos hp]
def pv (p : Int × Int) : Val := .tup [.int p.1, .int p.2]
theorem pureL_pv : ∀ ps : List (Int × Int), pureL (ps.map pv) = true
  | [] => rfl
  | p :: ps => by simp [pureL, Val.pure, pv, pureL_pv ps]
theorem take_len {m m' : M} (h : m'.length = m.length) : m'.take m.length = m' := by rw [← h]; simp
/-! ### homes -/
def dHomes : Def where
  np := 2
  ns := 2
  body := (.cons (.ret (.tup (.cons (.blt .tuple (.cons (.call 3 (.cons (.var 0) (.cons (.var 1) .nil)) false) .nil)) (.cons (.blt .tuple (.cons (.call 3 (.cons (.var 0) (.cons (.var 1) .nil)) false) .nil)) .nil)))) .nil)
theorem homes1 {G : Prog} (hG : G.defs 0 = some dTake) (hF : G.defs 3 = some dFloors) (hH : G.defs 5 = some dHomes) {k : Nat} {m : M} {n t : Nat} {B : Int} (hp : Pot m n t) (hB : 0 < B) (hB2 : B ≤ 500) (ht : t < 90000) :
    ∃ (l1 l2 : List Int) (m' : M), callN G (k + 3) 5 [.ref n, .int B] false m = .ok (.tup [.tup (l1.map .int), .tup (l2.map .int)]) m' ∧ (∀ x ∈ l1, 1 ≤ x ∧ x ≤ B) ∧ (∀ x ∈ l2, 1 ≤ x ∧ x ≤ B) ∧ l1.length ≤ 500 ∧ l2.length ≤ 500 ∧ Took m m' n (t + 2 * (B.toNat + 2)) := by
  obtain ⟨l1, m1, e1, b1, c1, t1⟩ := floors1 hG hF (k := k) hp hB hB2 (by omega)
  obtain ⟨l2, m2, e2, b2, c2, t2⟩ := floors1 hG hF (k := k) t1.pot hB hB2 (by omega)
  have tt := t1.trans t2
  refine ⟨l1, l2, m2, ?_, b1, b2, c1, c2, tt.le (by omega)⟩
  rw [call_def hH rfl, run_ret (m' := m2) (v := .tup [.tup (l1.map .int), .tup (l2.map .int)]) (fun C hc _ _ => ?_) (by simp [Val.pure, pureL, pureL_ints]), take_len tt.len]
  refine exs_ret (ex_ret (ev_tup2 (m1 := m1) (ev_blt1 (m := m) (m1 := m1) (v := .lst (l1.map .int)) ?_ rfl) (ev_blt1 (m := m1) (m1 := m2) (v := .lst (l2.map .int)) ?_ rfl)))
  · simp [ev, evs, R.bind, hc, e1]
  · simp [ev, evs, R.bind, hc, e2]
/-! ### needs -/
def dNeeds : Def where
  np := 3
  ns := 4
  body := (.cons (.ret (.comp false (.tup (.cons (.bin .Add (.con (.int 1)) (.call 0 (.cons (.var 0) (.cons (.var 2) .nil)) false)) (.cons (.bin .Add (.con (.int 1)) (.call 0 (.cons (.var 0) (.cons (.var 2) .nil)) false)) .nil))) [3] (.nm 3) (.rng (.cons (.var 1) .nil)) .nil)) .nil)
def NdP (n : Nat) (B : Int) (m0 : M) (t i : Nat) (acc : List Val) (m : M) : Prop := ∃ ps : List (Int × Int), acc = ps.map pv ∧ Took m0 m n (t + 2 * i) ∧ (∀ p ∈ ps, (1 ≤ p.1 ∧ p.1 ≤ B) ∧ 1 ≤ p.2 ∧ p.2 ≤ B) ∧ ps.length = i
theorem needs1 {G : Prog} (hG : G.defs 0 = some dTake) (hN : G.defs 4 = some dNeeds) {k : Nat} {m : M} {n t : Nat} {B c : Int} (hp : Pot m n t) (hB : 0 < B) (hB2 : B ≤ 500) (hc0 : 0 ≤ c) (hc : c ≤ 500) (ht : t < 90000) :
    ∃ (ps : List (Int × Int)) (m' : M), callN G (k + 2) 4 [.ref n, .int c, .int B] false m = .ok (.lst (ps.map pv)) m' ∧ (∀ p ∈ ps, (1 ≤ p.1 ∧ p.1 ≤ B) ∧ 1 ≤ p.2 ∧ p.2 ≤ B) ∧ ps.length = c.toNat ∧ Took m m' n (t + 2 * c.toNat) := by
  have r62 : rng62 c = true := by unfold rng62; exact decide_eq_true ⟨by omega, by omega⟩
  have key : ∀ C : Cx, C.call = callN G (k + 1) → ∃ (ps : List (Int × Int)) (m' : M), ev C (.comp false (.tup (.cons (.bin .Add (.con (.int 1)) (.call 0 (.cons (.var 0) (.cons (.var 2) .nil)) false)) (.cons (.bin .Add (.con (.int 1)) (.call 0 (.cons (.var 0) (.cons (.var 2) .nil)) false)) .nil))) [3] (.nm 3) (.rng (.cons (.var 1) .nil)) .nil)
      [some (.ref n), some (.int c), some (.int B), none] m = .ok (.lst (ps.map pv)) m' ∧ (∀ p ∈ ps, (1 ≤ p.1 ∧ p.1 ≤ B) ∧ 1 ≤ p.2 ∧ p.2 ≤ B) ∧ ps.length = c.toNat ∧ Took m m' n (t + 2 * c.toNat) := fun C hC => by
    obtain ⟨acc, m', e, ps, rfl, tk, hb, hl⟩ := compL_inv (f := turnV C (.tup (.cons (.bin .Add (.con (.int 1)) (.call 0 (.cons (.var 0) (.cons (.var 2) .nil)) false)) (.cons (.bin .Add (.con (.int 1)) (.call 0 (.cons (.var 0) (.cons (.var 2) .nil)) false)) .nil))) [3] (.nm 3) .nil [some (.ref n), some (.int c), some (.int B), none])
      (w := fun m' => stands m m' []) (NdP n B m t) (rngL 0 c.toNat) 0 [] m ⟨[], rfl, (Took.self hp).le (by omega), by simp, rfl⟩ (by
        rintro j v acc m1 hv ⟨ps, rfl, tk, hb, hl⟩
        obtain ⟨hj, rfl⟩ := rngL_at _ _ _ _ hv
        obtain ⟨r1, m2, e1, r10, r11, t1⟩ := take1 hG (k := k) tk.pot (B := B) hB (by omega) (by omega)
        obtain ⟨r2, m3, e2, r20, r21, t2⟩ := take1 hG (k := k) t1.pot (B := B) hB (by omega) (by omega)
        refine ⟨some (pv (1 + r1, 1 + r2)), m3, ?_, rfl, by rw [List.length_map]; unfold LINE; omega, ps ++ [(1 + r1, 1 + r2)], by simp, (tk.trans (t1.trans t2)).le (by omega), fun p hp => ?_, by simp [hl]⟩
        · have a1 : ev C (.bin .Add (.con (.int 1)) (.call 0 (.cons (.var 0) (.cons (.var 2) .nil)) false)) [some (.ref n), some (.int c), some (.int B), some (.int (0 + (j : Int)))] m1 = .ok (.int (1 + r1)) m2 := by
            refine ev_add (m1 := m1) (by rw [ev]; rfl) ?_
            simp [ev, evs, R.bind, hC, e1]
          have a2 : ev C (.bin .Add (.con (.int 1)) (.call 0 (.cons (.var 0) (.cons (.var 2) .nil)) false)) [some (.ref n), some (.int c), some (.int B), some (.int (0 + (j : Int)))] m2 = .ok (.int (1 + r2)) m3 := by
            refine ev_add (m1 := m2) (by rw [ev]; rfl) ?_
            simp [ev, evs, R.bind, hC, e2]
          exact turn_nil (ρ1 := [some (.ref n), some (.int c), some (.int B), some (.int (0 + (j : Int)))]) rfl (ev_tup2 a1 a2)
        · rcases List.mem_append.mp hp with hp | hp
          · exact hb p hp
          · simp at hp
            subst hp
            dsimp only
            omega)
    refine ⟨ps, m', ?_, hb, ?_, ?_⟩
    · have h5 : evs C (.cons (.var 1) .nil) [some (.ref n), some (.int c), some (.int B), none] m = .ok [.int c] m := by simp [evs, ev, R.bind]
      refine ev_comp (m0 := m) (xs := rngL 0 c.toNat) (w := []) ?_ e
      rw [evIt, h5]
      simp only [R.bind, rng, r62, if_true, opt]
    · rw [hl, rngL_len]; omega
    · rw [rngL_len] at tk
      exact tk.le (by omega)
  obtain ⟨C0, hC0⟩ : ∃ C : Cx, C.call = callN G (k + 1) := ⟨ctx G (callN G (k + 1)) 0 false, rfl⟩
  rw [call_def hN rfl]
  unfold runD
  obtain ⟨C, hC⟩ : ∃ C : Cx, ctx G (callN G (k + 1)) m.length false = C := ⟨_, rfl⟩
  have hcall : C.call = callN G (k + 1) := by rw [← hC]; rfl
  obtain ⟨ps, m', e, hb, hl, tk⟩ := key C hcall
  refine ⟨ps, m', ?_, hb, hl, tk⟩
  rw [hC]
  have : exs C dNeeds.body ([Val.ref n, .int c, .int B].map some ++ List.replicate (dNeeds.ns - dNeeds.np) none) m = .ret (.lst (ps.map pv)) m' := exs_ret (ex_ret e)
  rw [this]
  simp only [exitR, Val.pure, pureL_pv, if_true]
  rw [take_len tk.len]
/-! ### the pot -/
def dPot : Def where
  np := 2
  ns := 3
  body := (.cons (.asg (.nm 2) (.con (.int 0))) (.cons (.iff (.cmp (.var 1) [.Lt] (.cons (.blt .len (.cons (.var 0) .nil)) .nil)) (.cons (.asg (.nm 2) (.idx (.var 0) (.var 1))) .nil) .nil) (.cons (.ret (.new (.lst (.cons (.bin .Mult (.blt .abs (.cons (.var 2) .nil)) (.blt .int (.cons (.cmp (.blt .abs (.cons (.var 2) .nil)) [.GtE] (.cons (.bin .Pow (.con (.int 10)) (.con (.int 18))) .nil)) .nil))) (.cons (.bin .Mod (.bin .Mult (.bin .Add (.bin .Add (.bin .Mod (.var 2) (.con (.int 2147483587))) (.bin .Mult (.con (.int 104729)) (.var 1))) (.con (.int 29))) (.con (.int 40692))) (.con (.int 2147483399))) (.cons (.con (.int 0)) .nil)))))) .nil)))
def iabs (i : Int) : Int := if i < 0 then -i else i
def pRet : S := (.ret (.new (.lst (.cons (.bin .Mult (.blt .abs (.cons (.var 2) .nil)) (.blt .int (.cons (.cmp (.blt .abs (.cons (.var 2) .nil)) [.GtE] (.cons (.bin .Pow (.con (.int 10)) (.con (.int 18))) .nil)) .nil))) (.cons (.bin .Mod (.bin .Mult (.bin .Add (.bin .Add (.bin .Mod (.var 2) (.con (.int 2147483587))) (.bin .Mult (.con (.int 104729)) (.var 1))) (.con (.int 29))) (.con (.int 40692))) (.con (.int 2147483399))) (.cons (.con (.int 0)) .nil))))))
theorem pot_ret {C : Cx} {m : M} {ns : List Int} {j : Nat} {i : Int} (hj : j < 1000) : ex C pRet [some (.scr ns), some (.int j), some (.int i)] m =
    .ret (.ref m.length) (m ++ [.lst [.int (iabs i * b2i (decide (1000000000000000000 ≤ iabs i))), .int ((i % 2147483587 + 104729 * j + 29) * 40692 % 2147483399), .int 0]]) := by
  have s0 : ∀ c : Bool, smallI (b2i c) = true := by decide
  have s1 : smallI 104729 = true := by decide
  have s2 : smallI 40692 = true := by decide
  have hL : ∀ u v w : Val, [u, v, w].length ≤ LINE := fun u v w => by unfold LINE; simp
  refine ex_ret (ev_new ?_)
  have a1 : ev C (.bin .Mult (.blt .abs (.cons (.var 2) .nil)) (.blt .int (.cons (.cmp (.blt .abs (.cons (.var 2) .nil)) [.GtE] (.cons (.bin .Pow (.con (.int 10)) (.con (.int 18))) .nil)) .nil))) [some (.scr ns), some (.int j), some (.int i)] m = .ok (.int (iabs i * b2i (decide (1000000000000000000 ≤ iabs i)))) m := by
    have p18 : bop .Pow (.int 10) (.int 18) = some (.int 1000000000000000000) := rfl
    have p1 : blt .abs [.int i] = some (.int (iabs i)) := rfl
    have p2 : ∀ c : Bool, blt .int [.bl c] = some (.int (b2i c)) := fun _ => rfl
    have p3 : ∀ x y : Int, cop .GtE (.int x) (.int y) = some (decide (y ≤ x)) := fun _ _ => rfl
    have p4 : ∀ c : Bool, bop .Mult (.int (iabs i)) (.int (b2i c)) = some (.int (iabs i * b2i c)) := fun c => by
      show (if smallI (iabs i) || smallI (b2i c) then _ else _) = _
      rw [s0, Bool.or_true]
      rfl
    simp [ev, evs, evCmp, R.bind, opt, dr, Cst.val, p18, p1, p2, p3, p4]
  have a2 : ev C (.bin .Mod (.bin .Mult (.bin .Add (.bin .Add (.bin .Mod (.var 2) (.con (.int 2147483587))) (.bin .Mult (.con (.int 104729)) (.var 1))) (.con (.int 29))) (.con (.int 40692))) (.con (.int 2147483399))) [some (.scr ns), some (.int j), some (.int i)] m = .ok (.int ((i % 2147483587 + 104729 * j + 29) * 40692 % 2147483399)) m := by
    simp [ev, R.bind, opt, dr, bop, bMul, bMod, bAdd, Cst.val, s1, s2]
  rw [ev, evs, a1]
  simp only [R.bind]
  rw [evs, a2]
  simp only [R.bind]
  rw [evs, ev]
  simp only [R.bind]
  rw [evs]
  simp only [R.bind, hL, if_true, Cst.val]
theorem pot1 {G : Prog} (hP : G.defs 8 = some dPot) {k : Nat} {m : M} {ns : List Int} {j : Nat} (hj : j < 1000) :
    ∃ c, callN G (k + 1) 8 [.scr ns, .int j] true m = .ok (.ref m.length) (m ++ [c]) ∧ Pot (m ++ [c]) m.length 0 := by
  have key : ∀ i : Int, Pot (m ++ [.lst [.int (iabs i * b2i (decide (1000000000000000000 ≤ iabs i))), .int ((i % 2147483587 + 104729 * j + 29) * 40692 % 2147483399), .int 0]]) m.length 0 := fun i =>
    ⟨iabs i * b2i (decide (1000000000000000000 ≤ iabs i)), (i % 2147483587 + 104729 * j + 29) * 40692 % 2147483399, 0, by simp, Int.mul_nonneg (by unfold iabs; split <;> omega) (by cases (decide (1000000000000000000 ≤ iabs i)) <;> decide), Int.emod_nonneg _ (by decide), Int.emod_lt_of_pos _ (by decide), by omega, by omega⟩
  rw [call_def hP rfl]
  unfold runD
  obtain ⟨C, hC⟩ : ∃ C : Cx, ctx G (callN G k) m.length true = C := ⟨_, rfl⟩
  rw [hC]
  have fin : ∀ i : Int, exs C dPot.body ([Val.scr ns, .int j].map some ++ List.replicate (dPot.ns - dPot.np) none) m = .ret (.ref m.length) (m ++ [.lst [.int (iabs i * b2i (decide (1000000000000000000 ≤ iabs i))), .int ((i % 2147483587 + 104729 * j + 29) * 40692 % 2147483399), .int 0]]) →
      ∃ c, (match exs C dPot.body ([Val.scr ns, .int j].map some ++ List.replicate (dPot.ns - dPot.np) none) m with
        | .nxt _ m' => R.ok Val.non (m'.take m.length)
        | .ret v m' => exitR true m.length v m'
        | .exc c fs _ m' => if pureL fs then R.exc c fs (m'.take m.length) else R.stuck
        | .stuck => R.stuck) = .ok (.ref m.length) (m ++ [c]) ∧ Pot (m ++ [c]) m.length 0 := fun i h => by
    rw [h]
    refine ⟨_, ?_, key i⟩
    simp [exitR, Val.pure, pureL]
  have s0 : ex C (.asg (.nm 2) (.con (.int 0))) [some (.scr ns), some (.int j), none] m = .nxt [some (.scr ns), some (.int j), some (.int 0)] m := ex_asg (by rw [ev]; rfl) rfl
  by_cases hl : j < ns.length
  · refine fin (ns[j]) ?_
    refine (exs_nxt s0).trans ((exs_nxt (ρ1 := [some (.scr ns), some (.int j), some (.int ns[j])]) (m1 := m) ?_).trans (exs_ret (pot_ret hj)))
    simp [ex, exs, ev, evs, evCmp, R.bind, R.thn, Rs.bind, opt, dr, blt, cop, cLt, tru, hl, idx, atV, ixN, bindT, Tg.see]
  · refine fin 0 ?_
    refine (exs_nxt s0).trans ((exs_nxt (ρ1 := [some (.scr ns), some (.int j), some (.int 0)]) (m1 := m) ?_).trans (exs_ret (pot_ret hj)))
    simp [ex, exs, ev, evs, evCmp, R.bind, R.thn, Rs.bind, opt, dr, blt, cop, cLt, tru, hl]
end MP
set_option Elab.async false
set_option linter.all false
set_option maxRecDepth 100000
set_option maxHeartbeats 1000000
/-! MPC3: same, lists, repr's size. -/
namespace MP
open PySem (Str Operator CmpOp PyData)
/-! ### small data -/
mutual
def Val.fit : Val → Bool
  | .tup xs => decide (xs.length ≤ 1000000) && fitL xs
  | .lst xs => decide (xs.length ≤ 1000000) && fitL xs
  | .non => true
  | .bl _ => true
  | .int _ => true
  | .str x => strV x
  | _ => false
def fitL : List Val → Bool
  | [] => true
  | x :: r => x.fit && fitL r
end
theorem fitL_mem {x : Val} : ∀ {xs : List Val}, fitL xs = true → x ∈ xs → x.fit = true
  | [], _, h => by cases h
  | y :: r, h, hm => by
    simp only [fitL, Bool.and_eq_true] at h
    rcases List.mem_cons.mp hm with rfl | hm
    · exact h.1
    · exact fitL_mem h.2 hm
theorem deepL_mem {x : Val} : ∀ {xs : List Val}, x ∈ xs → x.deep ≤ deepL xs
  | [], h => by cases h
  | y :: r, h => by
    simp only [deepL]
    rcases List.mem_cons.mp h with rfl | h
    · exact Nat.le_max_left _ _
    · exact Nat.le_trans (deepL_mem h) (Nat.le_max_right _ _)
mutual
theorem fit_pure : ∀ v : Val, v.fit = true → v.pure = true
  | .tup xs, h => by simp only [Val.fit, Bool.and_eq_true] at h; simp only [Val.pure]; exact fitL_pure xs h.2
  | .lst xs, h => by simp only [Val.fit, Bool.and_eq_true] at h; simp only [Val.pure]; exact fitL_pure xs h.2
  | .non, _ => rfl
  | .bl _, _ => rfl
  | .int _, _ => rfl
  | .str _, _ => rfl
  | .ref _, h => by simp [Val.fit] at h
  | .scr _, h => by simp [Val.fit] at h
  | .set _, h => by simp [Val.fit] at h
  | .dct _ _, h => by simp [Val.fit] at h
  | .exc _ _, h => by simp [Val.fit] at h
theorem fitL_pure : ∀ xs : List Val, fitL xs = true → pureL xs = true
  | [], _ => rfl
  | x :: r, h => by
    simp only [fitL, Bool.and_eq_true] at h
    simp only [pureL, Bool.and_eq_true]
    exact ⟨fit_pure x h.1, fitL_pure r h.2⟩
end
theorem dr_fit {m : M} {v : Val} (h : v.fit = true) : dr m v = v := by cases v <;> first | rfl | (simp [Val.fit] at h)
mutual
theorem vsame_refl : ∀ v : Val, v.same v = true
  | .non => rfl
  | .bl _ => by simp [Val.same]
  | .int _ => by simp [Val.same]
  | .str _ => by simp [Val.same]
  | .ref _ => by simp [Val.same]
  | .scr _ => by simp [Val.same]
  | .tup xs => by simp only [Val.same, vsameL_refl xs]
  | .lst xs => by simp only [Val.same, vsameL_refl xs]
  | .set xs => by simp only [Val.same, vsameL_refl xs]
  | .dct ks vs => by simp only [Val.same, vsameL_refl ks, vsameL_refl vs, Bool.and_self]
  | .exc c fs => by simp only [Val.same, vsameL_refl fs, beq_self_eq_true, Bool.and_self]
theorem vsameL_refl : ∀ vs : List Val, sameL vs vs = true
  | [] => rfl
  | v :: vs => by simp only [sameL, vsame_refl v, vsameL_refl vs, Bool.and_self]
end
/-- a value that shows data may be walked -/
theorem watch_ok {m : M} {x v : Val} (h : dr m x = v) (hf : v.fit = true) : stands m m (watch x) = true := by
  cases x with
  | ref n =>
    cases e : m[n]? with
    | none => simp [dr, e] at h; subst h; simp [Val.fit] at hf
    | some c =>
      simp only [watch, stands, e, Bool.and_true]
      cases c <;> simp only [Cell.same, vsameL_refl, beq_self_eq_true, Bool.and_self]
  | _ => rfl
theorem watch_fit {v : Val} (hf : v.fit = true) : watch v = [] := by cases v <;> first | rfl | (simp [Val.fit] at hf)
theorem zipL_self : ∀ xs : List Val, zipL xs xs = xs.map fun x => .tup [x, x]
  | [] => rfl
  | x :: r => by simp only [zipL, List.map_cons, zipL_self r]
theorem bls_true : ∀ xs : List Val, blsOf (xs.map fun _ => .bl true) = some (xs.map fun _ => true)
  | [] => rfl
  | x :: r => by simp only [List.map_cons, blsOf, bls_true r, Option.map_some]
theorem all_true : ∀ xs : List Val, (xs.map fun _ => true).all id = true
  | [] => rfl
  | x :: r => by simp [all_true r]
mutual
theorem eqv_refl : ∀ v : Val, v.fit = true → v.eqv v = true
  | .tup xs, h => by simp only [Val.fit, Bool.and_eq_true] at h; simp only [Val.eqv]; exact eqvL_refl xs h.2
  | .lst xs, h => by simp only [Val.fit, Bool.and_eq_true] at h; simp only [Val.eqv]; exact eqvL_refl xs h.2
  | .non, _ => rfl
  | .bl _, _ => by simp [Val.eqv]
  | .int _, _ => by simp [Val.eqv]
  | .str _, _ => by simp [Val.eqv]
  | .ref _, h => by simp [Val.fit] at h
  | .scr _, h => by simp [Val.fit] at h
  | .set _, h => by simp [Val.fit] at h
  | .dct _ _, h => by simp [Val.fit] at h
  | .exc _ _, h => by simp [Val.fit] at h
theorem eqvL_refl : ∀ xs : List Val, fitL xs = true → eqvL xs xs = true
  | [], _ => rfl
  | x :: r, h => by
    simp only [fitL, Bool.and_eq_true] at h
    simp only [eqvL, Bool.and_eq_true]
    exact ⟨eqv_refl x h.1, eqvL_refl r h.2⟩
end
/-! ### same -/
def sZip : E := .comp false (.call 1 (.cons (.var 2) (.cons (.var 3) .nil)) false) [2, 3] (.tup [(.nm 2), (.nm 3)]) (.zip (.var 0) (.var 1) false) .nil
def sSeq : Ss := .cons (.iff (.or (.cmp (.isi (.var 0) [.list]) [.NotEq] (.cons (.isi (.var 1) [.list]) .nil)) (.cons (.cmp (.isi (.var 0) [.tuple]) [.NotEq] (.cons (.isi (.var 1) [.tuple]) .nil)) .nil)) (.cons (.ret (.con (.bl false))) .nil) .nil) (.cons (.ret (.and (.cmp (.blt .len (.cons (.var 0) .nil)) [.Eq] (.cons (.blt .len (.cons (.var 1) .nil)) .nil)) (.cons (.blt .all (.cons sZip .nil)) .nil))) .nil)
def sTxt : S := .iff (.or (.cmp (.var 1) [.Is] (.cons (.con .non) .nil)) (.cons (.isi (.var 1) [.str]) .nil)) (.cons (.ret (.and (.cmp (.var 0) [.Eq] (.cons (.var 1) .nil)) (.cons (.cmp (.isi (.var 0) [.str]) [.Eq] (.cons (.isi (.var 1) [.str]) .nil)) .nil))) .nil) .nil
def sInt : S := .ret (.and (.isi (.var 0) [.int]) (.cons (.cmp (.isi (.var 0) [.bool]) [.Eq] (.cons (.isi (.var 1) [.bool]) .nil)) (.cons (.cmp (.var 0) [.Eq] (.cons (.var 1) .nil)) .nil)))
def dSame : Def where
  np := 2
  ns := 4
  body := .cons (.iff (.isi (.var 1) [.list, .tuple]) sSeq .nil) (.cons sTxt (.cons sInt .nil))
theorem dr_bl (m : M) (b : Bool) : dr m (.bl b) = .bl b := rfl
theorem dr_int (m : M) (b : Int) : dr m (.int b) = .int b := rfl
theorem zip_true (xs : List Val) : (zipL xs xs).filterMap (fun _ => some (Val.bl true)) = xs.map fun _ => .bl true := by
  induction xs with
  | nil => rfl
  | cons x r ih => simp only [zipL, List.filterMap_cons, ih, List.map_cons]
theorem cmpb_ne (a : Bool) : cop .NotEq (.bl a) (.bl a) = some false := by cases a <;> rfl
theorem cmpb_eq (a : Bool) : cop .Eq (.bl a) (.bl a) = some true := by cases a <;> rfl
theorem ex_iff {C : Cx} {c : E} {p q : Ss} {ρ : Env} {m m1 : M} {x : Val} {k : Bool} (h : ev C c ρ m = .ok x m1) (ht : tru (dr m1 x) = some k) : ex C (.iff c p q) ρ m = if k then exs C p ρ m1 else exs C q ρ m1 := by
  rw [ex, h]
  simp only [R.thn, ht, opt]
/-- leaves -/
theorem same_leaf {G : Prog} (hS : G.defs 1 = some dSame) {k : Nat} {m : M} {v : Val} (h : v.fit = true) (h0 : isSeq v = false) : callN G (k + 1) 1 [v, v] false m = .ok (.bl true) m := by
  rw [call_def hS rfl, run_ret (m' := m) (v := .bl true) (fun C hc _ _ => ?_) rfl, take_len rfl]
  have hv := eqv_refl v h
  have hcm : v.cmpOk = true := by cases v <;> first | (simp [isSeq] at h0; done) | (simp [Val.fit] at h; done) | (simpa [Val.cmpOk, Val.data, Val.deep, Val.fit] using h)
  have hd := dr_fit (m := m) h
  have c1 : cop .Eq v v = some true := by simp [cop, hcm, hv]
  show exs C dSame.body [some v, some v, none, none] m = _
  unfold dSame
  dsimp only
  have s1 : ex C (.iff (.isi (.var 1) [.list, .tuple]) sSeq .nil) [some v, some v, none, none] m = .nxt [some v, some v, none, none] m := by
    refine (ex_iff (x := .bl false) (k := false) (m1 := m) ?_ rfl).trans (by simp [exs])
    cases v <;> first | (simp [isSeq] at h0; done) | (simp [Val.fit] at h; done) | simp [ev, R.bind, opt, dr, isTy]
  refine (exs_nxt s1).trans ?_
  have txt : ∀ tf : Bool, (isTy C.sup v .str = some tf) → ex C sTxt [some v, some v, none, none] m = if isNon v || tf then .ret (.bl true) m else .nxt [some v, some v, none, none] m := fun tf ht => by
    have q0 : ev C (.or (.cmp (.var 1) [.Is] (.cons (.con .non) .nil)) (.cons (.isi (.var 1) [.str]) .nil)) [some v, some v, none, none] m = .ok (.bl (isNon v || tf)) m := by
      have is1 : cop .Is v .non = some (isNon v) := rfl
      have drn : dr m Val.non = .non := rfl
      cases hn : isNon v <;> simp [ev, evCmp, evOr, R.bind, opt, hd, ht, is1, drn, Cst.val, tru, dr_bl, hn]
    refine (ex_iff (m1 := m) q0 rfl).trans ?_
    cases isNon v || tf with
    | false => simp [exs]
    | true =>
      refine (if_pos rfl).trans (exs_ret (ex_ret ?_))
      simp [ev, evCmp, evAnd, R.bind, opt, hd, ht, c1, cmpb_eq, tru, dr_bl]
  have num : ∀ tb : Bool, isTy C.sup v .int = some true → isTy C.sup v .bool = some tb → ex C sInt [some v, some v, none, none] m = .ret (.bl true) m := fun tb h1 h2 => by
    refine ex_ret ?_
    simp [ev, evCmp, evAnd, R.bind, opt, hd, h1, h2, c1, cmpb_eq, tru, dr_bl]
  cases v <;> first | (simp [isSeq] at h0; done) | (simp [Val.fit] at h; done) | skip
  · exact exs_ret (txt false rfl)
  · exact (exs_nxt (txt false rfl)).trans (exs_ret (num true rfl rfl))
  · exact (exs_nxt (txt false rfl)).trans (exs_ret (num false rfl rfl))
  · exact exs_ret (txt true rfl)
/-- lists and tuples -/
theorem same_seq {G : Prog} (hS : G.defs 1 = some dSame) {k : Nat} {m : M} {x v : Val} {xs : List Val} (hv : v = .lst xs ∨ v = .tup xs) (h : v.fit = true) (hx : dr m x = v) (he : ∀ y ∈ xs, callN G k 1 [y, y] false m = .ok (.bl true) m) :
    callN G (k + 1) 1 [x, v] false m = .ok (.bl true) m := by
  rw [call_def hS rfl, run_ret (m' := m) (v := .bl true) (fun C hc _ _ => ?_) rfl, take_len rfl]
  have hd := dr_fit (m := m) h
  have hfl : xs.length ≤ 1000000 := by rcases hv with rfl | rfl <;> simp [Val.fit] at h <;> exact h.1
  show exs C dSame.body [some x, some v, none, none] m = _
  unfold dSame
  dsimp only
  have w0 := watch_ok hx h
  have z1 : ev C sZip [some x, some v, none, none] m = .ok (.lst (xs.map fun _ => .bl true)) m := by
    have z2 := compL_pure (f := turnV C (.call 1 (.cons (.var 2) (.cons (.var 3) .nil)) false) [2, 3] (.tup [(.nm 2), (.nm 3)]) .nil [some x, some v, none, none]) (w := fun m' => stands m m' (watch x ++ watch v)) (m := m)
      (by rw [watch_fit h, List.append_nil]; exact w0) (fun _ => some (.bl true)) (zipL xs xs) [] (by rw [zipL_self, List.length_map]; unfold LINE; simp; omega) (fun z hz => by
        rw [zipL_self] at hz
        obtain ⟨y, hy, rfl⟩ := List.mem_map.mp hz
        refine turn_nil (ρ1 := [some x, some v, some y, some y]) rfl ?_
        simp [ev, evs, R.bind, hc, he y hy])
    refine (ev_comp (m0 := m) (xs := zipL xs xs) (w := watch x ++ watch v) ?_ z2).trans ?_
    · rw [evIt]
      rcases hv with rfl | rfl <;> simp [ev, R.bind, opt, hx, hd, zipOf]
    · rw [List.nil_append, zip_true]
  refine exs_ret ((ex_iff (x := .bl true) (k := true) (m1 := m) (by rcases hv with rfl | rfl <;> simp [ev, R.bind, opt, hd, isTy]) rfl).trans ?_)
  have s1 : ex C (.iff (.or (.cmp (.isi (.var 0) [.list]) [.NotEq] (.cons (.isi (.var 1) [.list]) .nil)) (.cons (.cmp (.isi (.var 0) [.tuple]) [.NotEq] (.cons (.isi (.var 1) [.tuple]) .nil)) .nil)) (.cons (.ret (.con (.bl false))) .nil) .nil) [some x, some v, none, none] m = .nxt [some x, some v, none, none] m := by
    refine (ex_iff (x := .bl false) (k := false) (m1 := m) ?_ rfl).trans (by simp [exs])
    rcases hv with rfl | rfl <;> simp [ev, evCmp, evOr, R.bind, opt, hx, hd, isTy, cmpb_ne, tru, dr_bl]
  refine (exs_nxt s1).trans (exs_ret (ex_ret ?_))
  have b1 : blt .all [.lst (xs.map fun _ => Val.bl true)] = some (.bl true) := by
    show (blsOf _).map _ = _
    rw [bls_true]
    simp [all_true]
  have b2 := ev_blt1 (k := .all) (a := sZip) z1 b1
  have l1 : ev C (.cmp (.blt .len (.cons (.var 0) .nil)) [.Eq] (.cons (.blt .len (.cons (.var 1) .nil)) .nil)) [some x, some v, none, none] m = .ok (.bl true) m := by
    rcases hv with rfl | rfl <;> simp [ev, evs, evCmp, R.bind, opt, hx, hd, blt, cmp_int, dr_int]
  rw [ev, l1]
  simp only [R.bind]
  rw [evAnd]
  simp only [dr, tru, opt, R.bind, if_true]
  rw [b2]
  simp only [R.bind]
  rw [evAnd]
mutual
theorem same_ok {G : Prog} (hS : G.defs 1 = some dSame) : ∀ (v : Val), v.fit = true → ∀ (k : Nat) (m : M) (x : Val), v.deep ≤ k → dr m x = v → (isSeq v = false → x = v) → callN G (k + 1) 1 [x, v] false m = .ok (.bl true) m
  | .tup xs, h, k, m, x, hk, hx, _ => same_seq hS (.inr rfl) h hx (by
    simp only [Val.fit, Bool.and_eq_true] at h
    simp only [Val.deep] at hk
    obtain ⟨k, rfl⟩ : ∃ k', k = k' + 1 := ⟨k - 1, by omega⟩
    exact same_all hS xs h.2 k m (by omega))
  | .lst xs, h, k, m, x, hk, hx, _ => same_seq hS (.inl rfl) h hx (by
    simp only [Val.fit, Bool.and_eq_true] at h
    simp only [Val.deep] at hk
    obtain ⟨k, rfl⟩ : ∃ k', k = k' + 1 := ⟨k - 1, by omega⟩
    exact same_all hS xs h.2 k m (by omega))
  | .non, h, k, m, x, _, _, hs => by
    rw [hs rfl]
    exact same_leaf hS h rfl
  | .bl _, h, k, m, x, _, _, hs => by
    rw [hs rfl]
    exact same_leaf hS h rfl
  | .int _, h, k, m, x, _, _, hs => by
    rw [hs rfl]
    exact same_leaf hS h rfl
  | .str _, h, k, m, x, _, _, hs => by
    rw [hs rfl]
    exact same_leaf hS h rfl
  | .ref _, h, _, _, _, _, _, _ => by simp [Val.fit] at h
  | .scr _, h, _, _, _, _, _, _ => by simp [Val.fit] at h
  | .set _, h, _, _, _, _, _, _ => by simp [Val.fit] at h
  | .dct _ _, h, _, _, _, _, _, _ => by simp [Val.fit] at h
  | .exc _ _, h, _, _, _, _, _, _ => by simp [Val.fit] at h
theorem same_all {G : Prog} (hS : G.defs 1 = some dSame) : ∀ (xs : List Val), fitL xs = true → ∀ (k : Nat) (m : M), deepL xs ≤ k → ∀ y ∈ xs, callN G (k + 1) 1 [y, y] false m = .ok (.bl true) m
  | [], _, _, _, _, _, hy => by cases hy
  | x :: r, h, k, m, hk, y, hy => by
    simp only [fitL, Bool.and_eq_true] at h
    simp only [deepL] at hk
    rcases List.mem_cons.mp hy with e | hy
    · rw [e]
      exact same_ok hS x h.1 k m x (by omega) (dr_fit h.1) fun _ => rfl
    · exact same_all hS r h.2 k m (by omega) y hy
end
end MP
set_option Elab.async false
set_option linter.all false
set_option maxRecDepth 100000
set_option maxHeartbeats 1000000
/-! MPC4: lists, repr's size. -/
namespace MP
open PySem (Str Operator CmpOp PyData)
/-! ### lists -/
mutual
def lify : Val → Val
  | .tup xs => .lst (lifyL xs)
  | .lst xs => .lst (lifyL xs)
  | v => v
def lifyL : List Val → List Val
  | [] => []
  | x :: r => lify x :: lifyL r
end
theorem lifyL_len : ∀ xs : List Val, (lifyL xs).length = xs.length
  | [] => rfl
  | x :: r => by simp [lifyL, lifyL_len r]
mutual
theorem lify_pure : ∀ v : Val, v.fit = true → (lify v).pure = true
  | .tup xs, h => by simp only [Val.fit, Bool.and_eq_true] at h; simp only [lify, Val.pure]; exact lifyL_pure xs h.2
  | .lst xs, h => by simp only [Val.fit, Bool.and_eq_true] at h; simp only [lify, Val.pure]; exact lifyL_pure xs h.2
  | .non, _ => rfl
  | .bl _, _ => rfl
  | .int _, _ => rfl
  | .str _, _ => rfl
  | .ref _, h => by simp [Val.fit] at h
  | .scr _, h => by simp [Val.fit] at h
  | .set _, h => by simp [Val.fit] at h
  | .dct _ _, h => by simp [Val.fit] at h
  | .exc _ _, h => by simp [Val.fit] at h
theorem lifyL_pure : ∀ xs : List Val, fitL xs = true → pureL (lifyL xs) = true
  | [], _ => rfl
  | x :: r, h => by
    simp only [fitL, Bool.and_eq_true] at h
    simp only [lifyL, pureL, Bool.and_eq_true]
    exact ⟨lify_pure x h.1, lifyL_pure r h.2⟩
end
def dLists : Def where
  np := 1
  ns := 2
  body := (.cons (.ret (.ite (.isi (.var 0) [.list, .tuple]) (.comp false (.call 2 (.cons (.var 1) .nil) false) [1] (.nm 1) (.val (.var 0)) .nil) (.var 0))) .nil)
theorem lifyL_map : ∀ xs : List Val, lifyL xs = xs.map lify
  | [] => rfl
  | x :: r => by simp [lifyL, lifyL_map r]
theorem ev_ite {C : Cx} {c a b : E} {ρ : Env} {m m1 : M} {x : Val} {k : Bool} (h : ev C c ρ m = .ok x m1) (ht : tru (dr m1 x) = some k) : ev C (.ite c a b) ρ m = if k then ev C a ρ m1 else ev C b ρ m1 := by
  rw [ev, h]
  simp only [R.bind, ht, opt]
theorem lists_seq {G : Prog} (hL : G.defs 2 = some dLists) {k : Nat} {m : M} {v : Val} {xs : List Val} (hv : v = .lst xs ∨ v = .tup xs) (h : v.fit = true) (he : ∀ y ∈ xs, callN G k 2 [y] false m = .ok (lify y) m) :
    callN G (k + 1) 2 [v] false m = .ok (lify v) m := by
  have hl : lify v = .lst (lifyL xs) := by rcases hv with rfl | rfl <;> rfl
  have hd := dr_fit (m := m) h
  have hfl : xs.length ≤ 1000000 := by rcases hv with rfl | rfl <;> simp [Val.fit] at h <;> exact h.1
  rw [call_def hL rfl, run_ret (m' := m) (v := lify v) (fun C hc _ _ => ?_) (lify_pure v h), take_len rfl]
  show exs C dLists.body [some v, none] m = _
  refine exs_ret (ex_ret ((ev_ite (x := .bl true) (k := true) (m1 := m) (by rcases hv with rfl | rfl <;> simp [ev, R.bind, opt, hd, isTy]) rfl).trans ?_))
  rw [if_pos rfl, hl]
  have z2 := compL_pure (f := turnV C (.call 2 (.cons (.var 1) .nil) false) [1] (.nm 1) .nil [some v, none]) (w := fun m' => stands m m' (watch v)) (m := m) (watch_ok hd h) (fun y => some (lify y)) xs [] (by unfold LINE; simp; omega) (fun y hy => by
    refine turn_nil (ρ1 := [some v, some y]) rfl ?_
    simp [ev, evs, R.bind, hc, he y hy])
  refine (ev_comp (m0 := m) (xs := xs) (w := watch v) ?_ z2).trans ?_
  · rw [evIt]
    rcases hv with rfl | rfl <;> simp [ev, R.bind, opt, hd, iterOf]
  · rw [List.nil_append, lifyL_map]
    congr 2
    induction xs with
    | nil => rfl
    | cons x r ih => simp
theorem lists_leaf {G : Prog} (hL : G.defs 2 = some dLists) {k : Nat} {m : M} {v : Val} (h : v.fit = true) (h0 : isSeq v = false) : callN G (k + 1) 2 [v] false m = .ok (lify v) m := by
  have hd := dr_fit (m := m) h
  have hl : lify v = v := by cases v <;> first | rfl | (simp [isSeq] at h0)
  rw [call_def hL rfl, run_ret (m' := m) (v := lify v) (fun C hc _ _ => ?_) (lify_pure v h), take_len rfl]
  show exs C dLists.body [some v, none] m = _
  refine exs_ret (ex_ret ((ev_ite (x := .bl false) (k := false) (m1 := m) ?_ rfl).trans ?_))
  · cases v <;> first | (simp [isSeq] at h0; done) | (simp [Val.fit] at h; done) | simp [ev, R.bind, opt, dr, isTy]
  · rw [hl]
    simp [ev]
mutual
theorem lists_ok {G : Prog} (hL : G.defs 2 = some dLists) : ∀ (v : Val), v.fit = true → ∀ (k : Nat) (m : M), v.deep ≤ k → callN G (k + 1) 2 [v] false m = .ok (lify v) m
  | .tup xs, h, k, m, hk => lists_seq hL (.inr rfl) h (by
    simp only [Val.fit, Bool.and_eq_true] at h
    simp only [Val.deep] at hk
    obtain ⟨k, rfl⟩ : ∃ k', k = k' + 1 := ⟨k - 1, by omega⟩
    exact lists_all hL xs h.2 k m (by omega))
  | .lst xs, h, k, m, hk => lists_seq hL (.inl rfl) h (by
    simp only [Val.fit, Bool.and_eq_true] at h
    simp only [Val.deep] at hk
    obtain ⟨k, rfl⟩ : ∃ k', k = k' + 1 := ⟨k - 1, by omega⟩
    exact lists_all hL xs h.2 k m (by omega))
  | .non, h, k, m, _ => lists_leaf hL h rfl
  | .bl _, h, k, m, _ => lists_leaf hL h rfl
  | .int _, h, k, m, _ => lists_leaf hL h rfl
  | .str _, h, k, m, _ => lists_leaf hL h rfl
  | .ref _, h, _, _, _ => by simp [Val.fit] at h
  | .scr _, h, _, _, _ => by simp [Val.fit] at h
  | .set _, h, _, _, _ => by simp [Val.fit] at h
  | .dct _ _, h, _, _, _ => by simp [Val.fit] at h
  | .exc _ _, h, _, _, _ => by simp [Val.fit] at h
theorem lists_all {G : Prog} (hL : G.defs 2 = some dLists) : ∀ (xs : List Val), fitL xs = true → ∀ (k : Nat) (m : M), deepL xs ≤ k → ∀ y ∈ xs, callN G (k + 1) 2 [y] false m = .ok (lify y) m
  | [], _, _, _, _, _, hy => by cases hy
  | x :: r, h, k, m, hk, y, hy => by
    simp only [fitL, Bool.and_eq_true] at h
    simp only [deepL] at hk
    rcases List.mem_cons.mp hy with e | hy
    · rw [e]
      exact lists_ok hL x h.1 k m (by omega)
    · exact lists_all hL r h.2 k m (by omega) y hy
end
/-! ### repr's size -/
mutual
/-- only numbers of up to 1920 bits, None, truths within -/
def Val.numb : Val → Bool
  | .tup xs => numbL xs
  | .lst xs => numbL xs
  | .non => true
  | .bl _ => true
  | .int i => decide (i.natAbs.log2 < 1920)
  | _ => false
def numbL : List Val → Bool
  | [] => true
  | x :: r => x.numb && numbL r
end
mutual
def Val.sz : Val → Nat
  | .tup xs => szL xs + 1
  | .lst xs => szL xs + 1
  | _ => 1
def szL : List Val → Nat
  | [] => 0
  | x :: r => x.sz + szL r
end
theorem listText_le (ts : List Str) : (PySem.listText ts).length ≤ PySem.piled ts + 2 := by
  unfold PySem.listText
  rw [PySem.strLen_append]
  have e : ((("]" : String) : Str)).length = 1 := rfl
  rw [e]
  cases ts with
  | nil => show 1 + 1 ≤ _; simp [PySem.piled]
  | cons t r =>
    show (PySem.textFrom 1 _ r).length + 1 ≤ _
    rw [PySem.textFrom_length_pos r 1 _ (by decide), PySem.strLen_append, PySem.strLen_append, PySem.piled_cons]
    have e1 : ((("[" : String) : Str)).length = 1 := rfl
    have e2 : (((if (0 : Nat) > 0 then ", " else "" : String) : Str)).length = 0 := rfl
    rw [e1, e2]
    omega
theorem tupleText_le (ts : List Str) : (PySem.tupleText ts).length ≤ PySem.piled ts + 3 := by
  unfold PySem.tupleText
  rw [PySem.strLen_append, PySem.strLen_append]
  have e1 : ((("(" : String) : Str)).length = 1 := rfl
  have e3 : (((if ts.length == 1 then ",)" else ")" : String) : Str)).length ≤ 2 := by split <;> decide
  rw [e1]
  by_cases h : ts = []
  · subst h
    have : (Str.join ", " []).length = 0 := rfl
    omega
  · have := PySem.join_length_add ts h
    omega
mutual
theorem show_len : ∀ v : Val, v.numb = true → (toD v).showable = true ∧ (toD v).shown.length + 2 ≤ 1930 * v.sz
  | .tup xs, h => by
    simp only [Val.numb] at h
    obtain ⟨h1, h2⟩ := showL_len xs h
    refine ⟨h1, ?_⟩
    have := tupleText_le (PyData.shownAll (toDs xs))
    show (PySem.tupleText (PyData.shownAll (toDs xs))).length + 2 ≤ 1930 * (szL xs + 1)
    omega
  | .lst xs, h => by
    simp only [Val.numb] at h
    obtain ⟨h1, h2⟩ := showL_len xs h
    refine ⟨h1, ?_⟩
    have := listText_le (PyData.shownAll (toDs xs))
    show (PySem.listText (PyData.shownAll (toDs xs))).length + 2 ≤ 1930 * (szL xs + 1)
    omega
  | .non, _ => ⟨rfl, by decide⟩
  | .bl b, _ => ⟨rfl, by cases b <;> decide⟩
  | .int i, h => by
    have h := of_decide_eq_true h
    refine ⟨decide_eq_true h, ?_⟩
    have := PyProof.Rows.int_text_len_1921 h
    show (PySem.Str.ofString (toString i)).length + 2 ≤ 1930 * 1
    omega
  | .str _, h => by simp [Val.numb] at h
  | .ref _, h => by simp [Val.numb] at h
  | .scr _, h => by simp [Val.numb] at h
  | .set _, h => by simp [Val.numb] at h
  | .dct _ _, h => by simp [Val.numb] at h
  | .exc _ _, h => by simp [Val.numb] at h
theorem showL_len : ∀ xs : List Val, numbL xs = true → PyData.showableAll (toDs xs) = true ∧ PySem.piled (PyData.shownAll (toDs xs)) ≤ 1930 * szL xs
  | [], _ => ⟨rfl, Nat.le_refl _⟩
  | x :: r, h => by
    simp only [numbL, Bool.and_eq_true] at h
    obtain ⟨h1, h2⟩ := show_len x h.1
    obtain ⟨h3, h4⟩ := showL_len r h.2
    refine ⟨?_, ?_⟩
    · show (PyData.showable (toD x) && PyData.showableAll (toDs r)) = true
      rw [h1, h3]
      rfl
    · show PySem.piled ((toD x).shown :: PyData.shownAll (toDs r)) ≤ 1930 * (x.sz + szL r)
      rw [PySem.piled_cons]
      omega
end
theorem repr_ok {v : Val} (h1 : isSeq v = true) (h2 : v.cmpOk = true) (h3 : v.numb = true) (h4 : v.sz ≤ 8000) : blt .repr [v] = some (.str (reprV v)) := by
  obtain ⟨a, b⟩ := show_len v h3
  have : reprOk v = true := by
    unfold reprOk
    rw [h1, h2, a]
    simp only [Bool.and_self, Bool.true_and]
    refine decide_eq_true ?_
    show (toD v).shown.length ≤ LINE
    unfold LINE
    omega
  show (if reprOk v then some (Val.str (reprV v)) else none) = _
  rw [this]
  rfl
end MP
set_option Elab.async false
set_option linter.all false
set_option maxRecDepth 100000
set_option maxHeartbeats 1000000
/-! K54Plain: needs that are not met, plainly. -/
namespace MP
open PySem (Str Operator CmpOp PyData)
theorem keyIn_int (a : Int) : ∀ l : List Int, keyIn (.int a) (l.map .int) = decide (a ∈ l)
  | [] => rfl
  | x :: r => by
    simp only [List.map_cons, keyIn, keyIn_int a r, Val.eqv]
    by_cases h : x = a
    · simp [h]
    · have : ¬ a = x := fun e => h e.symm
      simp [h, this]
theorem allOk (l : List Int) : (l.map Val.int).all Val.cmpOk = true := by
  induction l with
  | nil => rfl
  | cons x r ih =>
    rw [List.map_cons, List.all_cons, ih]
    rfl
theorem in_tup (a : Int) (l : List Int) : cop .In (.int a) (.tup (l.map .int)) = some (decide (a ∈ l)) := by
  show (if (Val.int a).cmpOk && (l.map Val.int).all Val.cmpOk then some (keyIn (.int a) (l.map .int)) else none) = _
  rw [allOk, keyIn_int]
  rfl
theorem in_lst (a : Int) (l : List Int) : cop .In (.int a) (.lst (l.map .int)) = some (decide (a ∈ l)) := by
  show (if (Val.int a).cmpOk && (l.map Val.int).all Val.cmpOk then some (keyIn (.int a) (l.map .int)) else none) = _
  rw [allOk, keyIn_int]
  rfl
theorem nin_tup (a : Int) (l : List Int) : cop .NotIn (.int a) (.tup (l.map .int)) = some (!decide (a ∈ l)) := by
  show (cIn (.int a) (.tup (l.map .int))).map (!·) = _
  have := in_tup a l
  have : cIn (.int a) (.tup (l.map .int)) = some (decide (a ∈ l)) := this
  rw [this]
  rfl
theorem nin_lst (a : Int) (l : List Int) : cop .NotIn (.int a) (.lst (l.map .int)) = some (!decide (a ∈ l)) := by
  have : cIn (.int a) (.lst (l.map .int)) = some (decide (a ∈ l)) := in_lst a l
  show (cIn (.int a) (.lst (l.map .int))).map (!·) = _
  rw [this]
  rfl
theorem dr_tup (m : M) (xs : List Val) : dr m (.tup xs) = .tup xs := rfl
theorem dr_lst (m : M) (xs : List Val) : dr m (.lst xs) = .lst xs := rfl
def hom (l1 l2 : List Int) : Val := .tup [.tup (l1.map .int), .tup (l2.map .int)]
def homL (l1 l2 : List Int) : Val := .lst [.lst (l1.map .int), .lst (l2.map .int)]
def pl (p : Int × Int) : Val := .lst [.int p.1, .int p.2]
/-! ### meets -/
def dMeets : Def where
  np := 2
  ns := 2
  body := (.cons (.ret (.or (.cmp (.idx (.var 1) (.con (.int 0))) [.In] (.cons (.idx (.var 0) (.con (.int 0))) .nil)) (.cons (.cmp (.idx (.var 1) (.con (.int 1))) [.In] (.cons (.idx (.var 0) (.con (.int 1))) .nil)) .nil))) .nil)
theorem meets1 {G : Prog} (hM : G.defs 6 = some dMeets) {k : Nat} {m : M} {l1 l2 : List Int} {p : Int × Int} :
    callN G (k + 1) 6 [hom l1 l2, pv p] false m = .ok (.bl (decide (p.1 ∈ l1) || decide (p.2 ∈ l2))) m := by
  rw [call_def hM rfl, run_ret (m' := m) (v := .bl (decide (p.1 ∈ l1) || decide (p.2 ∈ l2))) (fun C hc _ _ => ?_) rfl, take_len rfl]
  refine exs_ret (ex_ret ?_)
  have i1 : ∀ a b : Val, idx (.tup [a, b]) (.int 0) = some a := fun _ _ => rfl
  have i2 : ∀ a b : Val, idx (.tup [a, b]) (.int 1) = some b := fun _ _ => rfl
  by_cases h : p.1 ∈ l1
  · simp [ev, evCmp, evOr, R.bind, opt, hom, pv, dr_tup, dr_int, dr_bl, i1, i2, Cst.val, in_tup, tru, h]
  · simp [ev, evCmp, evOr, R.bind, opt, hom, pv, dr_tup, dr_int, dr_bl, i1, i2, Cst.val, in_tup, tru, h]
/-! ### unmet -/
def uCd : E := .and (.cmp (.var 4) [.NotIn] (.cons (.var 2) .nil)) (.cons (.cmp (.var 5) [.NotIn] (.cons (.var 3) .nil)) .nil)
def uComp : E := .comp false (.tup (.cons (.var 4) (.cons (.var 5) .nil))) [4, 5] (.tup [(.nm 4), (.nm 5)]) (.val (.var 0)) (.cons uCd .nil)
def dUnmet : Def where
  np := 2
  ns := 6
  body := .cons (.asg (.tup [(.nm 2), (.nm 3)]) (.var 1)) (.cons (.ret (.new uComp)) .nil)
def free (l1 l2 : List Int) (p : Int × Int) : Bool := !decide (p.1 ∈ l1) && !decide (p.2 ∈ l2)
def gU (l1 l2 : List Int) : Val → Option Val
  | .tup [.int a, .int b] => if free l1 l2 (a, b) then some (pv (a, b)) else none
  | .lst [.int a, .int b] => if free l1 l2 (a, b) then some (pv (a, b)) else none
  | _ => none
theorem gU_map {pw : Int × Int → Val} (hw : pw = pv ∨ pw = pl) (l1 l2 : List Int) : ∀ ps : List (Int × Int), (ps.map pw).filterMap (gU l1 l2) = (ps.filter (free l1 l2)).map pv
  | [] => rfl
  | p :: ps => by
    have : gU l1 l2 (pw p) = if free l1 l2 p then some (pv p) else none := by rcases hw with rfl | rfl <;> rfl
    rw [List.map_cons, List.filterMap_cons, this, List.filter_cons]
    cases free l1 l2 p with
    | true => simp [gU_map hw l1 l2 ps]
    | false => simpa using gU_map hw l1 l2 ps
theorem frzL_pv {n : Nat} {m : M} : ∀ (ps : List (Int × Int)) (f : Nat), ps.length + 6 ≤ f → frzL n m f (ps.map pv) = some (ps.map pv)
  | [], f, _ => by cases f <;> rfl
  | p :: ps, f, h => by
    obtain ⟨g, rfl⟩ : ∃ g, f = g + 6 := ⟨f - 6, by simp at h; omega⟩
    have ih := frzL_pv (n := n) (m := m) ps (g + 5) (by simp at h ⊢; omega)
    simp only [List.map_cons, frzL, pv, frz] at ih ⊢
    rw [show frzL n m (g + 5) (ps.map pv) = some (ps.map pv) from ih]
    simp [Val.pure]
theorem unmet1 {G : Prog} (hU : G.defs 7 = some dUnmet) {k : Nat} {al : Bool} {m : M} {l1 l2 : List Int} {ps : List (Int × Int)} {pw : Int × Int → Val} {nd h : Val} (hw : pw = pv ∨ pw = pl) (hn : nd = .lst (ps.map pw) ∨ nd = .tup (ps.map pw)) (hh : h = hom l1 l2 ∨ h = homL l1 l2) (hl : ps.length ≤ 1000) :
    callN G (k + 1) 7 [nd, h] al m = if al then .ok (.ref m.length) (m ++ [.lst ((ps.filter (free l1 l2)).map pv)]) else .ok (.lst ((ps.filter (free l1 l2)).map pv)) m := by
  rw [call_def hU rfl]
  unfold runD
  obtain ⟨C, hC⟩ : ∃ C : Cx, ctx G (callN G k) m.length al = C := ⟨_, rfl⟩
  rw [hC]
  obtain ⟨v2, v3, hv, hb⟩ : ∃ v2 v3, ((v2 = .tup (l1.map .int) ∧ v3 = .tup (l2.map .int)) ∨ (v2 = .lst (l1.map .int) ∧ v3 = .lst (l2.map .int))) ∧ bindT (.tup [(.nm 2), (.nm 3)]) (Tg.see m (.tup [(.nm 2), (.nm 3)]) h) [some nd, some h, none, none, none, none] = some [some nd, some h, some v2, some v3, none, none] := by
    rcases hh with rfl | rfl
    · exact ⟨_, _, .inl ⟨rfl, rfl⟩, rfl⟩
    · exact ⟨_, _, .inr ⟨rfl, rfl⟩, rfl⟩
  have s1 : ex C (.asg (.tup [(.nm 2), (.nm 3)]) (.var 1)) [some nd, some h, none, none, none, none] m = .nxt [some nd, some h, some v2, some v3, none, none] m := ex_asg (v := h) (by rw [ev]; rfl) hb
  have z : ev C uComp [some nd, some h, some v2, some v3, none, none] m = .ok (.lst ((ps.filter (free l1 l2)).map pv)) m := by
    have hd : dr m nd = nd := by rcases hn with rfl | rfl <;> rfl
    have z2 := compL_pure (f := turnV C (.tup (.cons (.var 4) (.cons (.var 5) .nil))) [4, 5] (.tup [(.nm 4), (.nm 5)]) (.cons uCd .nil) [some nd, some h, some v2, some v3, none, none]) (w := fun m' => stands m m' (watch nd)) (m := m)
      (by rcases hn with rfl | rfl <;> rfl) (gU l1 l2) (ps.map pw) [] (by unfold LINE; simp; omega) (fun v hv' => by
        obtain ⟨p, _, rfl⟩ := List.mem_map.mp hv'
        have hg : gU l1 l2 (pw p) = if free l1 l2 p then some (pv p) else none := by rcases hw with rfl | rfl <;> rfl
        have hbd : bindT (.tup [(.nm 4), (.nm 5)]) (pw p) (wipeE [some nd, some h, some v2, some v3, none, none] [4, 5]) = some [some nd, some h, some v2, some v3, some (.int p.1), some (.int p.2)] := by rcases hw with rfl | rfl <;> rfl
        have hc : ev C uCd [some nd, some h, some v2, some v3, some (.int p.1), some (.int p.2)] m = .ok (.bl (free l1 l2 p)) m := by
          unfold uCd free
          rcases hv with ⟨rfl, rfl⟩ | ⟨rfl, rfl⟩ <;> by_cases h1 : p.1 ∈ l1 <;> simp [ev, evCmp, evAnd, R.bind, opt, dr_tup, dr_lst, dr_int, dr_bl, nin_tup, nin_lst, tru, h1]
        rw [hg]
        cases hf : free l1 l2 p with
        | true =>
          rw [hf] at hc
          exact turn_one hbd hc rfl (ev_tup2 (m1 := m) (by rw [ev]; rfl) (by rw [ev]; rfl))
        | false =>
          rw [hf] at hc
          exact turn_no hbd hc rfl)
    refine (ev_comp (m0 := m) (xs := ps.map pw) (w := watch nd) ?_ z2).trans ?_
    · rw [evIt]
      rcases hn with rfl | rfl <;> simp [ev, R.bind, opt, dr_lst, dr_tup, iterOf]
    · rw [List.nil_append, gU_map hw]
  have e : exs C dUnmet.body ([nd, h].map some ++ List.replicate (dUnmet.ns - dUnmet.np) none) m = .ret (.ref m.length) (m ++ [.lst ((ps.filter (free l1 l2)).map pv)]) :=
    (exs_nxt s1).trans (exs_ret (ex_ret (ev_new z)))
  rw [e]
  have fz : frzL m.length (m ++ [.lst ((ps.filter (free l1 l2)).map pv)]) 4095 ((ps.filter (free l1 l2)).map pv) = some ((ps.filter (free l1 l2)).map pv) := frzL_pv _ _ (by have := List.length_filter_le (free l1 l2) ps; omega)
  have fz2 : frz m.length (m ++ [.lst ((ps.filter (free l1 l2)).map pv)]) FUEL (.ref m.length) = some (.lst ((ps.filter (free l1 l2)).map pv)) := by
    show frz m.length _ (4095 + 1) _ = _
    simp only [frz, Nat.lt_irrefl, if_false]
    have : (m ++ [Cell.lst ((ps.filter (free l1 l2)).map pv)])[m.length]? = some (.lst ((ps.filter (free l1 l2)).map pv)) := by simp
    rw [this]
    simp only [fz, Option.map_some]
  cases al with
  | false =>
    simp only [exitR, Val.pure, Bool.false_eq_true, if_false, fz2]
    simp
  | true => simp [exitR, Val.pure, pureL_pv]
/-! ### repr's text has signs alone -/
theorem strV_append (a b : Str) : strV (a ++ b) = (strV a && strV b) := by
  show (a.cps ++ b.cps).all _ = _
  rw [Array.all_append]
  rfl
theorem strV_of (s : String) : strV (Str.ofString s) = true := by
  rw [Str.ofString_eq_toList]
  unfold strV
  rw [Array.all_eq_true]
  intro i hi
  simp only [List.size_toArray, List.length_map] at hi
  simp only [List.getElem_toArray, List.getElem_map, decide_eq_true_eq]
  have h := (s.toList[i]).valid
  rcases h with h | h
  · have h : (s.toList[i]).toNat < 0xd800 := h
    omega
  · exact h.2
theorem textFrom_ok : ∀ (ts : List Str) (k : Nat) (acc : Str), strV acc = true → (∀ t ∈ ts, strV t = true) → strV (PySem.textFrom k acc ts) = true
  | [], _, acc, h, _ => h
  | t :: r, k, acc, h, ht => textFrom_ok r (k + 1) _ (by rw [strV_append, strV_append, h, ht t List.mem_cons_self, strV_of]; rfl) fun u hu => ht u (List.mem_cons_of_mem _ hu)
theorem join_ok : ∀ (ts : List Str), (∀ t ∈ ts, strV t = true) → strV (Str.join ", " ts) = true
  | [], _ => by
    show (#[] : Array Nat).all _ = true
    simp
  | [x], h => h x List.mem_cons_self
  | x :: y :: r, h => by
    show strV (x ++ ((", " : String) : Str) ++ Str.join ", " (y :: r)) = true
    rw [strV_append, strV_append, h x List.mem_cons_self, strV_of, join_ok (y :: r) fun u hu => h u (List.mem_cons_of_mem _ hu)]
    rfl
mutual
theorem show_ok : ∀ v : Val, v.numb = true → strV (toD v).shown = true
  | .tup xs, h => by
    simp only [Val.numb] at h
    have := showL_ok xs h
    show strV ((("(" : String) : Str) ++ Str.join ", " (PyData.shownAll (toDs xs)) ++ (if (PyData.shownAll (toDs xs)).length == 1 then ",)" else ")" : String)) = true
    rw [strV_append, strV_append, strV_of, strV_of, join_ok _ this]
    rfl
  | .lst xs, h => by
    simp only [Val.numb] at h
    have := showL_ok xs h
    show strV (PySem.textFrom 0 "[" (PyData.shownAll (toDs xs)) ++ (("]" : String) : Str)) = true
    rw [strV_append, strV_of, textFrom_ok _ _ _ (strV_of _) this]
    rfl
  | .non, _ => strV_of _
  | .bl b, _ => by cases b <;> exact strV_of _
  | .int i, _ => strV_of _
  | .str _, h => by simp [Val.numb] at h
  | .ref _, h => by simp [Val.numb] at h
  | .scr _, h => by simp [Val.numb] at h
  | .set _, h => by simp [Val.numb] at h
  | .dct _ _, h => by simp [Val.numb] at h
  | .exc _ _, h => by simp [Val.numb] at h
theorem showL_ok : ∀ xs : List Val, numbL xs = true → ∀ t ∈ PyData.shownAll (toDs xs), strV t = true
  | [], _, t, ht => by cases ht
  | x :: r, h, t, ht => by
    simp only [numbL, Bool.and_eq_true] at h
    rcases List.mem_cons.mp ht with rfl | ht
    · exact show_ok x h.1
    · exact showL_ok r h.2 t ht
end
/-! ### right -/
theorem numb_ints {B : Int} (hB : B ≤ 500) : ∀ l : List Int, (∀ x ∈ l, 1 ≤ x ∧ x ≤ B) → numbL (l.map .int) = true ∧ szL (l.map .int) = l.length ∧ dataL (l.map .int) = true ∧ deepL (l.map .int) = 0 ∧ fitL (l.map .int) = true
  | [], _ => ⟨rfl, rfl, rfl, rfl, rfl⟩
  | x :: r, h => by
    obtain ⟨h1, h2, h3, h4, h5⟩ := numb_ints hB r fun y hy => h y (List.mem_cons_of_mem _ hy)
    have hx := h x List.mem_cons_self
    have hlog : x.natAbs.log2 < 1920 := by
      have : x.natAbs < 2 ^ 1920 := Nat.lt_of_lt_of_le (show x.natAbs < 2 ^ 9 by omega) (Nat.pow_le_pow_right (by decide) (by decide))
      exact (Nat.log2_lt (by omega)).mpr this
    refine ⟨?_, ?_, ?_, ?_, ?_⟩
    · simp only [List.map_cons, numbL, Val.numb, h1, Bool.and_true]; exact decide_eq_true hlog
    · simp only [List.map_cons, szL, Val.sz, h2, List.length_cons]; omega
    · simp only [List.map_cons, dataL, Val.data, h3, Bool.and_self]
    · simp only [List.map_cons, deepL, Val.deep, h4]; rfl
    · simp only [List.map_cons, fitL, Val.fit, h5, Bool.and_self]
theorem numb_pv {B : Int} (hB : B ≤ 500) : ∀ ps : List (Int × Int), (∀ p ∈ ps, (1 ≤ p.1 ∧ p.1 ≤ B) ∧ 1 ≤ p.2 ∧ p.2 ≤ B) → numbL (ps.map pv) = true ∧ szL (ps.map pv) = 3 * ps.length ∧ dataL (ps.map pv) = true ∧ deepL (ps.map pv) ≤ 1 ∧ fitL (ps.map pv) = true
  | [], _ => ⟨rfl, rfl, rfl, by decide, rfl⟩
  | p :: ps, h => by
    obtain ⟨h1, h2, h3, h4, h5⟩ := numb_pv hB ps fun y hy => h y (List.mem_cons_of_mem _ hy)
    have hp := h p List.mem_cons_self
    obtain ⟨g1, g2, g3, g4, g5⟩ := numb_ints hB [p.1, p.2] (by intro x hx; simp at hx; rcases hx with rfl | rfl <;> omega)
    refine ⟨?_, ?_, ?_, ?_, ?_⟩
    · simp only [List.map_cons, numbL, h1, Bool.and_true]; exact g1
    · have : (pv p).sz = 3 := rfl
      simp only [List.map_cons, szL, h2, this, List.length_cons]; omega
    · simp only [List.map_cons, dataL, h3, Bool.and_true]; exact g3
    · have : (pv p).deep = 1 := rfl
      simp only [List.map_cons, deepL, this]; omega
    · simp only [List.map_cons, fitL, h5, Bool.and_true]; rfl
def rRep : E := .blt .repr (.cons (.lst (.cons (.var 1) (.cons (.var 2) .nil))) .nil)
def rDue : E := .comp false (.var 5) [5] (.nm 5) (.val (.var 1)) (.cons (.nt (.call 6 (.cons (.var 2) (.cons (.var 5) .nil)) false)) .nil)
def rS1 : S := .asg (.tup [(.nm 1), (.nm 2)]) (.tup (.cons (.call 4 (.cons (.var 0) (.cons (.call 0 (.cons (.var 0) (.cons (.con (.int 13)) .nil)) false) (.cons (.con (.int 7)) .nil))) false) (.cons (.call 5 (.cons (.var 0) (.cons (.con (.int 6)) .nil)) false) .nil)))
def rS2 : S := .asg (.tup [(.nm 3), (.nm 4)]) (.tup (.cons rDue (.cons rRep .nil)))
def rS3 : S := .asg (.nm 6) (.call 7 (.cons (.var 1) (.cons (.var 2) .nil)) true)
def rS4 : S := .iff (.or (.nt (.call 1 (.cons (.var 6) (.cons (.var 3) .nil)) false)) (.cons (.cmp rRep [.NotEq] (.cons (.var 4) .nil)) .nil)) (.cons (.ret (.con (.bl false))) .nil) .nil
def rS5 : S := .exp (.mth .append (.var 6) (.cons (.con (.str "more")) .nil))
def rS6 : S := .ret (.call 1 (.cons (.callk 7 .nil (.cons (.call 2 (.cons (.var 2) .nil) false) (.cons (.blt .tuple (.cons (.call 2 (.cons (.var 1) .nil) false) .nil)) .nil)) [1, 0] false) (.cons (.var 3) .nil)) false)
def dRight : Def where
  np := 1
  ns := 7
  body := .cons rS1 (.cons rS2 (.cons rS3 (.cons rS4 (.cons rS5 (.cons rS6 .nil)))))
structure K54Defs (G : Prog) : Prop where
  take : G.defs 0 = some dTake
  same : G.defs 1 = some dSame
  lists : G.defs 2 = some dLists
  floors : G.defs 3 = some dFloors
  needs : G.defs 4 = some dNeeds
  homes : G.defs 5 = some dHomes
  meets : G.defs 6 = some dMeets
  unmet : G.defs 7 = some dUnmet
  pot : G.defs 8 = some dPot
theorem filter_map_pv (l1 l2 : List Int) : ∀ ps : List (Int × Int), (ps.map pv).filterMap (gU l1 l2) = (ps.filter (free l1 l2)).map pv := gU_map (.inl rfl) l1 l2
theorem lify_pv (ps : List (Int × Int)) : lify (.lst (ps.map pv)) = .lst (ps.map pl) := by
  show Val.lst (lifyL (ps.map pv)) = _
  rw [lifyL_map, List.map_map]
  rfl
theorem lify_ints : ∀ l : List Int, lifyL (l.map .int) = l.map .int
  | [] => rfl
  | x :: r => by simp only [List.map_cons, lifyL, lify, lify_ints r]
theorem lify_hom (l1 l2 : List Int) : lify (hom l1 l2) = homL l1 l2 := by
  show Val.lst [.lst (lifyL (l1.map .int)), .lst (lifyL (l2.map .int))] = _
  rw [lify_ints, lify_ints]
  rfl
theorem right1 {G : Prog} (g : K54Defs G) (hR : G.defs 9 = some dRight) {k : Nat} {m : M} {n t : Nat} (hp : Pot m n t) (ht : t < 10000) : ∃ m', callN G (k + 5) 9 [.ref n] false m = .ok (.bl true) m' ∧ Took m m' n (t + 100) := by
  obtain ⟨c, m1, e1, c0, c1, t1⟩ := take1 g.take (k := k + 3) hp (B := 13) (by decide) (by decide) (by omega)
  obtain ⟨ps, m2, e2, b2, n2, t2⟩ := needs1 g.take g.needs (k := k + 2) t1.pot (B := 7) (c := c) (by decide) (by decide) c0 (by omega) (by omega)
  obtain ⟨l1, l2, m3, e3, b31, b32, n31, n32, t3⟩ := homes1 g.take g.floors g.homes (k := k + 1) t2.pot (B := 6) (by decide) (by decide) (by omega)
  have tt := t1.trans (t2.trans t3)
  have hz : m3.length = m.length := tt.len
  obtain ⟨p1, p2, p3, p4, p5⟩ := numb_pv (by decide) ps b2
  obtain ⟨q1, q2, q3, q4, q5⟩ := numb_ints (by decide) l1 b31
  obtain ⟨r1, r2, r3, r4, r5⟩ := numb_ints (by decide) l2 b32
  have hpl : ps.length ≤ 13 := by omega
  have hfil := List.length_filter_le (free l1 l2) ps
  obtain ⟨d1, d2, d3, d4, d5⟩ := numb_pv (B := 7) (by decide) (ps.filter (free l1 l2)) fun p hp => b2 p (List.mem_filter.mp hp).1
  -- what repr tells
  let RV : Val := .lst [.lst (ps.map pv), hom l1 l2]
  have hrep : blt .repr [RV] = some (.str (reprV RV)) := by
    refine repr_ok rfl ?_ ?_ ?_
    · show (dataL [.lst (ps.map pv), hom l1 l2] && decide (deepL [.lst (ps.map pv), hom l1 l2] + 1 ≤ 60)) = true
      simp only [dataL, Val.data, hom, p3, q3, r3, deepL, Val.deep, q4, r4, Bool.and_self, Bool.true_and]
      refine decide_eq_true ?_
      omega
    · show numbL [.lst (ps.map pv), hom l1 l2] = true
      simp only [numbL, Val.numb, hom, p1, q1, r1, Bool.and_self]
    · show szL [.lst (ps.map pv), hom l1 l2] + 1 ≤ 8000
      simp only [szL, Val.sz, hom, p2, q2, r2]
      omega
  have hnumb : RV.numb = true := by
    show numbL [.lst (ps.map pv), hom l1 l2] = true
    simp only [numbL, Val.numb, hom, p1, q1, r1, Bool.and_self]
  have hsv : (Val.str (reprV RV)).cmpOk = true := by
    show (strV (reprV RV) && decide (0 ≤ 60)) = true
    rw [show strV (reprV RV) = true from show_ok RV hnumb]
    rfl
  have hne : cop .NotEq (.str (reprV RV)) (.str (reprV RV)) = some false := by
    show (if (Val.str (reprV RV)).cmpOk && (Val.str (reprV RV)).cmpOk then some (!(reprV RV == reprV RV)) else none) = _
    rw [hsv]
    simp
  let due : Val := .lst ((ps.filter (free l1 l2)).map pv)
  have dfit : due.fit = true := by
    show (decide _ && fitL _) = true
    rw [d5, Bool.and_true]
    refine decide_eq_true ?_
    rw [List.length_map]
    omega
  have ddeep : due.deep ≤ 2 := by
    show deepL _ + 1 ≤ 2
    omega
  refine ⟨m3, ?_, tt.le (by have : (6 : Int).toNat = 6 := rfl; omega)⟩
  rw [call_def hR rfl, run_ret (m' := m3 ++ [.lst ((ps.filter (free l1 l2)).map pv ++ [.str "more"])]) (v := .bl true) (fun C hc hbase _ => ?_) rfl]
  · have : (m3 ++ [Cell.lst ((ps.filter (free l1 l2)).map pv ++ [.str "more"])]).take m.length = m3 := by rw [← hz]; simp
    rw [this]
  show exs C dRight.body [some (.ref n), none, none, none, none, none, none] m = _
  let M4 : M := m3 ++ [.lst ((ps.filter (free l1 l2)).map pv)]
  have f1 : ex C rS1 [some (.ref n), none, none, none, none, none, none] m = .nxt [some (.ref n), some (.lst (ps.map pv)), some (hom l1 l2), none, none, none, none] m3 := by
    have a0 : ev C (.call 0 (.cons (.var 0) (.cons (.con (.int 13)) .nil)) false) [some (.ref n), none, none, none, none, none, none] m = .ok (.int c) m1 := by
      simp [ev, evs, R.bind, hc, e1, Cst.val]
    have a1 : ev C (.call 4 (.cons (.var 0) (.cons (.call 0 (.cons (.var 0) (.cons (.con (.int 13)) .nil)) false) (.cons (.con (.int 7)) .nil))) false) [some (.ref n), none, none, none, none, none, none] m = .ok (.lst (ps.map pv)) m2 := by
      simp [ev, evs, R.bind, hc, e1, e2, Cst.val]
    have a2 : ev C (.call 5 (.cons (.var 0) (.cons (.con (.int 6)) .nil)) false) [some (.ref n), none, none, none, none, none, none] m2 = .ok (hom l1 l2) m3 := by
      simp [ev, evs, R.bind, hc, e3, Cst.val, hom]
    exact ex_asg (ev_tup2 a1 a2) rfl
  have rep : ∀ (M : M) (x y z : Option Val), ev C rRep [some (.ref n), some (.lst (ps.map pv)), some (hom l1 l2), x, y, none, z] M = .ok (.str (reprV RV)) M := fun M x y z => by
    refine ev_blt1 (v := RV) ?_ hrep
    have hL : [Val.lst (ps.map pv), hom l1 l2].length ≤ LINE := by unfold LINE; simp
    rw [ev, evs, ev]
    simp only [List.getElem?_cons_succ, List.getElem?_cons_zero, R.bind]
    rw [evs, ev]
    simp only [List.getElem?_cons_succ, List.getElem?_cons_zero, R.bind]
    rw [evs]
    exact if_pos hL
  have f2 : ex C rS2 [some (.ref n), some (.lst (ps.map pv)), some (hom l1 l2), none, none, none, none] m3 = .nxt [some (.ref n), some (.lst (ps.map pv)), some (hom l1 l2), some due, some (.str (reprV RV)), none, none] m3 := by
    have z2 := compL_pure (f := turnV C (.var 5) [5] (.nm 5) (.cons (.nt (.call 6 (.cons (.var 2) (.cons (.var 5) .nil)) false)) .nil) [some (.ref n), some (.lst (ps.map pv)), some (hom l1 l2), none, none, none, none]) (w := fun m' => stands m3 m' []) (m := m3)
      rfl (gU l1 l2) (ps.map pv) [] (by unfold LINE; simp; omega) (fun v hv' => by
        obtain ⟨p, _, rfl⟩ := List.mem_map.mp hv'
        have hg : gU l1 l2 (pv p) = if free l1 l2 p then some (pv p) else none := rfl
        have hbd : bindT (.nm 5) (pv p) (wipeE [some (.ref n), some (.lst (ps.map pv)), some (hom l1 l2), none, none, none, none] [5]) = some [some (.ref n), some (.lst (ps.map pv)), some (hom l1 l2), none, none, some (pv p), none] := rfl
        have hcd : ev C (.nt (.call 6 (.cons (.var 2) (.cons (.var 5) .nil)) false)) [some (.ref n), some (.lst (ps.map pv)), some (hom l1 l2), none, none, some (pv p), none] m3 = .ok (.bl (free l1 l2 p)) m3 := by
          have := meets1 g.meets (k := k + 3) (m := m3) (l1 := l1) (l2 := l2) (p := p)
          simp [ev, evs, R.bind, hc, this, opt, dr_bl, tru, free]
        rw [hg]
        cases hf : free l1 l2 p with
        | true =>
          rw [hf] at hcd
          exact turn_one hbd hcd rfl (by rw [ev]; rfl)
        | false =>
          rw [hf] at hcd
          exact turn_no hbd hcd rfl)
    have z : ev C rDue [some (.ref n), some (.lst (ps.map pv)), some (hom l1 l2), none, none, none, none] m3 = .ok due m3 := by
      refine (ev_comp (m0 := m3) (xs := ps.map pv) (w := []) ?_ z2).trans ?_
      · rw [evIt]
        simp [ev, R.bind, opt, dr_lst, iterOf, watch]
      · rw [List.nil_append, filter_map_pv]
    exact ex_asg (ev_tup2 z (rep m3 none none none)) rfl
  have f3 : ex C rS3 [some (.ref n), some (.lst (ps.map pv)), some (hom l1 l2), some due, some (.str (reprV RV)), none, none] m3 = .nxt [some (.ref n), some (.lst (ps.map pv)), some (hom l1 l2), some due, some (.str (reprV RV)), none, some (.ref m3.length)] M4 := by
    refine ex_asg (v := .ref m3.length) ?_ rfl
    have u := unmet1 g.unmet (k := k + 3) (al := true) (m := m3) (l1 := l1) (l2 := l2) (ps := ps) (.inl rfl) (.inl rfl) (.inl rfl) (by omega)
    rw [if_pos rfl] at u
    simp [ev, evs, R.bind, hc, u, M4]
  have f4 : ex C rS4 [some (.ref n), some (.lst (ps.map pv)), some (hom l1 l2), some due, some (.str (reprV RV)), none, some (.ref m3.length)] M4 = .nxt [some (.ref n), some (.lst (ps.map pv)), some (hom l1 l2), some due, some (.str (reprV RV)), none, some (.ref m3.length)] M4 := by
    have sm := same_ok g.same due dfit (k + 3) M4 (.ref m3.length) (by omega) (by simp [dr, M4, due]) (fun h => by cases h)
    have b1 : ev C (.nt (.call 1 (.cons (.var 6) (.cons (.var 3) .nil)) false)) [some (.ref n), some (.lst (ps.map pv)), some (hom l1 l2), some due, some (.str (reprV RV)), none, some (.ref m3.length)] M4 = .ok (.bl false) M4 := by
      simp [ev, evs, R.bind, hc, sm, opt, dr_bl, tru]
    have b2 : ev C (.cmp rRep [.NotEq] (.cons (.var 4) .nil)) [some (.ref n), some (.lst (ps.map pv)), some (hom l1 l2), some due, some (.str (reprV RV)), none, some (.ref m3.length)] M4 = .ok (.bl false) M4 := by
      rw [ev, rep M4 (some due) (some (.str (reprV RV))) (some (.ref m3.length))]
      simp only [R.bind]
      rw [evCmp, ev]
      simp only [List.getElem?_cons_succ, List.getElem?_cons_zero, R.bind]
      have drs : ∀ z : Str, dr M4 (.str z) = .str z := fun _ => rfl
      rw [drs, hne]
      rfl
    refine (ex_iff (x := .bl false) (k := false) (m1 := M4) ?_ rfl).trans (by simp [exs])
    rw [ev, b1]
    simp only [R.bind]
    rw [evOr]
    simp only [dr_bl, tru, opt, R.bind, Bool.false_eq_true, if_false]
    rw [b2]
    simp only [R.bind]
    rw [evOr]
  have f5 : ex C rS5 [some (.ref n), some (.lst (ps.map pv)), some (hom l1 l2), some due, some (.str (reprV RV)), none, some (.ref m3.length)] M4 = .nxt [some (.ref n), some (.lst (ps.map pv)), some (hom l1 l2), some due, some (.str (reprV RV)), none, some (.ref m3.length)] (m3 ++ [.lst ((ps.filter (free l1 l2)).map pv ++ [.str "more"])]) := by
    have hlz : (ps.filter (free l1 l2)).length < LINE := by unfold LINE; omega
    simp [rS5, ex, ev, evs, mutOk, mthd, R.bind, R.thn, storable, Val.pure, hlz, M4, Cst.val]
  have f6 : ex C rS6 [some (.ref n), some (.lst (ps.map pv)), some (hom l1 l2), some due, some (.str (reprV RV)), none, some (.ref m3.length)] (m3 ++ [.lst ((ps.filter (free l1 l2)).map pv ++ [.str "more"])]) = .ret (.bl true) (m3 ++ [.lst ((ps.filter (free l1 l2)).map pv ++ [.str "more"])]) := by
    generalize m3 ++ [Cell.lst ((ps.filter (free l1 l2)).map pv ++ [.str "more"])] = M5
    have hfit : (hom l1 l2).fit = true := by
      show (decide (2 ≤ 1000000) && fitL [.tup (l1.map .int), .tup (l2.map .int)]) = true
      simp only [fitL, Val.fit, q5, r5, Bool.and_true]
      simp
      omega
    have pfit : (Val.lst (ps.map pv)).fit = true := by
      show (decide _ && fitL _) = true
      rw [p5, Bool.and_true]
      refine decide_eq_true ?_
      rw [List.length_map]
      omega
    have y1 := lists_ok g.lists (hom l1 l2) hfit (k + 3) M5 (by
      show deepL [.tup (l1.map .int), .tup (l2.map .int)] + 1 ≤ k + 3
      simp only [deepL, Val.deep, q4, r4]
      omega)
    have y2 := lists_ok g.lists (.lst (ps.map pv)) pfit (k + 3) M5 (by show deepL _ + 1 ≤ k + 3; omega)
    rw [lify_hom] at y1
    rw [lify_pv] at y2
    have u := unmet1 g.unmet (k := k + 3) (al := false) (m := M5) (l1 := l1) (l2 := l2) (ps := ps) (.inr rfl) (.inr rfl) (.inr rfl) (by omega)
    have sm := same_ok g.same due dfit (k + 3) M5 due (by omega) rfl fun _ => rfl
    refine ex_ret ?_
    have w1 : ev C (.call 2 (.cons (.var 2) .nil) false) [some (.ref n), some (.lst (ps.map pv)), some (hom l1 l2), some due, some (.str (reprV RV)), none, some (.ref m3.length)] M5 = .ok (homL l1 l2) M5 := by
      simp [ev, evs, R.bind, hc, y1]
    have w2 : ev C (.blt .tuple (.cons (.call 2 (.cons (.var 1) .nil) false) .nil)) [some (.ref n), some (.lst (ps.map pv)), some (hom l1 l2), some due, some (.str (reprV RV)), none, some (.ref m3.length)] M5 = .ok (.tup (ps.map pl)) M5 :=
      ev_blt1 (v := .lst (ps.map pl)) (by simp [ev, evs, R.bind, hc, y2]) rfl
    have w3 : ev C (.callk 7 .nil (.cons (.call 2 (.cons (.var 2) .nil) false) (.cons (.blt .tuple (.cons (.call 2 (.cons (.var 1) .nil) false) .nil)) .nil)) [1, 0] false) [some (.ref n), some (.lst (ps.map pv)), some (hom l1 l2), some due, some (.str (reprV RV)), none, some (.ref m3.length)] M5 = .ok due M5 := by
      rw [ev, evs]
      simp only [R.bind]
      rw [evs, w1]
      simp only [R.bind]
      rw [evs, w2]
      simp only [R.bind]
      rw [evs]
      simp only [R.bind]
      rw [hc]
      exact u
    rw [ev, evs, w3]
    simp only [R.bind]
    rw [evs, ev]
    simp only [List.getElem?_cons_succ, List.getElem?_cons_zero, R.bind]
    rw [evs]
    simp only [R.bind]
    rw [hc]
    exact sm
  exact (exs_nxt f1).trans ((exs_nxt f2).trans ((exs_nxt f3).trans ((exs_nxt f4).trans ((exs_nxt f5).trans (exs_ret f6)))))
/-! ### law -/
def lComp : E := .comp false (.call 9 (.cons (.var 2) .nil) false) [3] (.nm 3) (.rng (.cons (.con (.int 4)) .nil)) .nil
def lB : Ss := .cons (.asg (.nm 2) (.call 8 (.cons (.var 0) (.cons (.var 1) .nil)) true)) (.cons (.iff (.nt (.blt .all (.cons lComp .nil))) (.cons (.ret (.con (.bl false))) .nil) .nil) .nil)
def dLaw : Def where
  np := 1
  ns := 4
  body := .cons (.for (.nm 1) (.rng (.cons (.blt .max2 (.cons (.con (.int 1)) (.cons (.blt .min2 (.cons (.con (.int 3)) (.cons (.blt .len (.cons (.var 0) .nil)) .nil))) .nil))) .nil)) lB) (.cons (.ret (.con (.bl true))) .nil)
def LcP (m0 : M) (n : Nat) (i : Nat) (acc : List Val) (m : M) : Prop := acc = List.replicate i (.bl true) ∧ Took m0 m n (100 * i)
def LwP (ns : List Int) (i : Nat) (ρ : Env) (m : M) : Prop := ∃ a b : Option Val, ρ = [some (.scr ns), a, b, none]
theorem law_turn {G : Prog} (g : K54Defs G) (hR : G.defs 9 = some dRight) {k : Nat} {C : Cx} (hc : C.call = callN G (k + 5)) {ns : List Int} {j : Nat} (hj : j < 1000) {b : Option Val} {m : M} :
    ∃ a b' m', exs C lB [some (.scr ns), some (.int j), b, none] m = .nxt [some (.scr ns), a, b', none] m' := by
  obtain ⟨c, e1, hp⟩ := pot1 g.pot (k := k + 4) (m := m) (ns := ns) hj
  have s1 : ex C (.asg (.nm 2) (.call 8 (.cons (.var 0) (.cons (.var 1) .nil)) true)) [some (.scr ns), some (.int j), b, none] m = .nxt [some (.scr ns), some (.int j), some (.ref m.length), none] (m ++ [c]) := by
    refine ex_asg (v := .ref m.length) ?_ rfl
    simp [ev, evs, R.bind, hc, e1]
  obtain ⟨acc, m', e2, hacc, tk⟩ := compL_inv (f := turnV C (.call 9 (.cons (.var 2) .nil) false) [3] (.nm 3) .nil [some (.scr ns), some (.int j), some (.ref m.length), none]) (w := fun m' => stands (m ++ [c]) m' []) (LcP (m ++ [c]) m.length) (rngL 0 4) 0 [] (m ++ [c]) ⟨rfl, Took.self hp⟩ (by
    rintro i v acc m1 hv ⟨rfl, tk⟩
    obtain ⟨hi, rfl⟩ := rngL_at _ _ _ _ hv
    obtain ⟨m2, e3, t3⟩ := right1 g hR (k := k) tk.pot (by omega)
    refine ⟨some (.bl true), m2, turn_nil (ρ1 := [some (.scr ns), some (.int j), some (.ref m.length), some (.int (0 + (i : Int)))]) rfl ?_, rfl, by unfold LINE; simp; omega, ?_, (tk.trans t3).le (by omega)⟩
    · simp [ev, evs, R.bind, hc, e3]
    · rw [List.replicate_succ']
      rfl)
  have r62 : rng62 4 = true := by decide
  have z : ev C lComp [some (.scr ns), some (.int j), some (.ref m.length), none] (m ++ [c]) = .ok (.lst (List.replicate 4 (.bl true))) m' := by
    refine (ev_comp (m0 := m ++ [c]) (xs := rngL 0 4) (w := []) ?_ e2).trans (by rw [hacc]; rfl)
    rw [evIt, evs, ev]
    simp only [R.bind, Cst.val]
    rw [evs]
    simp only [R.bind, rng, r62, if_true, opt]
    rfl
  have a1 := ev_blt1 (k := .all) z (z := .bl true) rfl
  have s2 : ex C (.iff (.nt (.blt .all (.cons lComp .nil))) (.cons (.ret (.con (.bl false))) .nil) .nil) [some (.scr ns), some (.int j), some (.ref m.length), none] (m ++ [c]) = .nxt [some (.scr ns), some (.int j), some (.ref m.length), none] m' := by
    refine (ex_iff (x := .bl false) (k := false) (m1 := m') ?_ rfl).trans (by simp [exs])
    rw [ev, a1]
    simp [R.bind, opt, dr_bl, tru]
  refine ⟨some (.int j), some (.ref m.length), m', (exs_nxt s1).trans ((exs_nxt s2).trans ?_)⟩
  rw [exs]
theorem law1 {G : Prog} (g : K54Defs G) (hR : G.defs 9 = some dRight) (hL : G.defs 10 = some dLaw) (k : Nat) (ns : List Int) : ∃ m, callN G (k + 6) 10 [.scr ns] false [] = .ok (.bl true) m := by
  rw [call_def hL rfl]
  unfold runD
  obtain ⟨C, hC⟩ : ∃ C : Cx, ctx G (callN G (k + 5)) ([] : M).length false = C := ⟨_, rfl⟩
  have hc : C.call = callN G (k + 5) := by rw [← hC]; rfl
  rw [hC]
  let x : Int := if (ns.length : Int) < 3 then ns.length else 3
  let c : Int := if x > 1 then x else 1
  have hc3 : c ≤ 3 ∧ 1 ≤ c := by
    have hx : x ≤ 3 := by show (if (ns.length : Int) < 3 then (ns.length : Int) else 3) ≤ 3; split <;> omega
    show (if x > 1 then x else 1) ≤ 3 ∧ 1 ≤ (if x > 1 then x else 1)
    split <;> omega
  have r62 : rng62 c = true := by unfold rng62; exact decide_eq_true ⟨by omega, by omega⟩
  have step : ∀ (j : Nat) (v : Val) (ρ : Env) (m : M), (rngL 0 c.toNat)[j]? = some v → LwP ns (0 + j) ρ m → ∃ ρ' m', (match bindT (.nm 1) v ρ with
      | some ρ => exs C lB ρ m
      | none => .stuck) = .nxt ρ' m' ∧ stands ([] : M) m' [] = true ∧ LwP ns (0 + j + 1) ρ' m' := by
    rintro j v ρ m hv ⟨a, b, rfl⟩
    obtain ⟨hj, rfl⟩ := rngL_at _ _ _ _ hv
    obtain ⟨a', b', m', e⟩ := law_turn g hR (k := k) hc (ns := ns) (j := j) (by omega) (b := b) (m := m)
    refine ⟨_, m', ?_, rfl, a', b', rfl⟩
    have : (0 + (j : Int)) = j := by omega
    rw [this]
    exact e
  obtain ⟨ρ', m', e3, a, b, rfl⟩ := loopL_inv (w := fun m => stands ([] : M) m []) (LwP ns) (rngL 0 c.toNat) 0 [some (.scr ns), none, none, none] [] ⟨none, none, rfl⟩ step
  have f1 : ex C (.for (.nm 1) (.rng (.cons (.blt .max2 (.cons (.con (.int 1)) (.cons (.blt .min2 (.cons (.con (.int 3)) (.cons (.blt .len (.cons (.var 0) .nil)) .nil))) .nil))) .nil)) lB) [some (.scr ns), none, none, none] [] = .nxt [some (.scr ns), a, b, none] m' := by
    have q1 : blt .len [.scr ns] = some (.int ns.length) := rfl
    have q2 : blt .min2 [.int 3, .int ns.length] = some (.int x) := rfl
    have q3 : blt .max2 [.int 1, .int x] = some (.int c) := rfl
    have q0 : evs C (.cons (.blt .max2 (.cons (.con (.int 1)) (.cons (.blt .min2 (.cons (.con (.int 3)) (.cons (.blt .len (.cons (.var 0) .nil)) .nil))) .nil))) .nil) [some (.scr ns), none, none, none] [] = .ok [.int c] [] := by
      have drs : dr ([] : M) (.scr ns) = .scr ns := rfl
      simp [ev, evs, R.bind, opt, q1, q2, q3, Cst.val, dr_int, drs]
    rw [ex, evIt, q0]
    simp only [R.bind, R.thn, rng, r62, if_true, opt]
    exact e3
  have f2 : ex C (.ret (.con (.bl true))) [some (.scr ns), a, b, none] m' = .ret (.bl true) m' := ex_ret (by rw [ev]; rfl)
  have : exs C dLaw.body ([Val.scr ns].map some ++ List.replicate (dLaw.ns - dLaw.np) none) [] = .ret (.bl true) m' := (exs_nxt f1).trans (exs_ret f2)
  rw [this]
  exact ⟨_, rfl⟩
end MP
set_option Elab.async false
set_option linter.all false
set_option maxRecDepth 100000
set_option maxHeartbeats 0
namespace K54
open MP PySem PySem.Spec PyProof.Rows L2
def top (i : Nat) : Stmt := PySem.Challenge.pw_balconyrow_k54_needs_that_are_not_met.main.body.getD i (.Pass ⟨0, 0, 0, 0⟩)
def d_unmet : Def where
  np := 2
  ns := 6
  body := (.cons (.asg (.tup [(.nm 2), (.nm 3)]) (.var 1)) (.cons (.ret (.new (.comp false (.tup (.cons (.var 4) (.cons (.var 5) .nil))) [4, 5] (.tup [(.nm 4), (.nm 5)]) (.val (.var 0)) (.cons (.and (.cmp (.var 4) [.NotIn] (.cons (.var 2) .nil)) (.cons (.cmp (.var 5) [.NotIn] (.cons (.var 3) .nil)) .nil)) .nil)))) .nil))
def i_unmet : FI where
  fid := 7
  x := "unmet"
  st := top 1
  N := ["needs", "houses", "left", "right", "mine", "its"]
  ps := ["needs", "houses"]
  d := d_unmet
def d__law_pot : Def where
  np := 2
  ns := 3
  body := (.cons (.asg (.nm 2) (.con (.int 0))) (.cons (.iff (.cmp (.var 1) [.Lt] (.cons (.blt .len (.cons (.var 0) .nil)) .nil)) (.cons (.asg (.nm 2) (.idx (.var 0) (.var 1))) .nil) .nil) (.cons (.ret (.new (.lst (.cons (.bin .Mult (.blt .abs (.cons (.var 2) .nil)) (.blt .int (.cons (.cmp (.blt .abs (.cons (.var 2) .nil)) [.GtE] (.cons (.bin .Pow (.con (.int 10)) (.con (.int 18))) .nil)) .nil))) (.cons (.bin .Mod (.bin .Mult (.bin .Add (.bin .Add (.bin .Mod (.var 2) (.con (.int 2147483587))) (.bin .Mult (.con (.int 104729)) (.var 1))) (.con (.int 29))) (.con (.int 40692))) (.con (.int 2147483399))) (.cons (.con (.int 0)) .nil)))))) .nil)))
def i__law_pot : FI where
  fid := 8
  x := "_law_pot"
  st := top 3
  N := ["_law_script", "_law_k", "_law_cell"]
  ps := ["_law_script", "_law_k"]
  d := d__law_pot
def d__law_take : Def where
  np := 2
  ns := 4
  body := (.cons (.iff (.cmp (.idx (.var 0) (.con (.int 0))) [.Gt] (.cons (.con (.int 0)) .nil)) (.cons (.asg (.nm 2) (.bin .Mod (.idx (.var 0) (.con (.int 0))) (.var 1))) (.cons (.set (.var 0) (.con (.int 0)) (.bin .FloorDiv (.idx (.var 0) (.con (.int 0))) (.var 1))) (.cons (.ret (.var 2)) .nil))) .nil) (.cons (.iff (.cmp (.var 1) [.Gt] (.cons (.bin .Pow (.con (.int 10)) (.con (.int 7))) .nil)) (.cons (.ret (.bin .Mod (.bin .Add (.call 0 (.cons (.var 0) (.cons (.bin .Pow (.con (.int 10)) (.con (.int 7))) .nil)) false) (.bin .Mult (.bin .Pow (.con (.int 10)) (.con (.int 7))) (.call 0 (.cons (.var 0) (.cons (.bin .Add (.bin .FloorDiv (.var 1) (.bin .Pow (.con (.int 10)) (.con (.int 7)))) (.con (.int 1))) .nil)) false))) (.var 1))) .nil) .nil) (.cons (.set (.var 0) (.con (.int 2)) (.bin .Add (.idx (.var 0) (.con (.int 2))) (.con (.int 1)))) (.cons (.asg (.nm 3) (.bin .Mod (.bin .Pow (.bin .Add (.idx (.var 0) (.con (.int 1))) (.bin .Mult (.con (.int 52774)) (.idx (.var 0) (.con (.int 2))))) (.con (.int 3))) (.con (.int 2147483563)))) (.cons (.ret (.bin .Mod (.bin .FloorDiv (.bin .Mod (.bin .Add (.bin .Mult (.var 3) (.bin .Add (.bin .Mod (.var 3) (.con (.int 40013))) (.con (.int 11)))) (.bin .Mult (.idx (.var 0) (.con (.int 2))) (.con (.int 6089)))) (.con (.int 2147483647))) (.con (.int 32))) (.var 1))) .nil)))))
def i__law_take : FI where
  fid := 0
  x := "_law_take"
  st := top 4
  N := ["_law_pot_here", "_law_bound", "_law_found", "_law_once"]
  ps := ["_law_pot_here", "_law_bound"]
  d := d__law_take
def d__law_same : Def where
  np := 2
  ns := 4
  body := (.cons (.iff (.isi (.var 1) [.list, .tuple]) (.cons (.iff (.or (.cmp (.isi (.var 0) [.list]) [.NotEq] (.cons (.isi (.var 1) [.list]) .nil)) (.cons (.cmp (.isi (.var 0) [.tuple]) [.NotEq] (.cons (.isi (.var 1) [.tuple]) .nil)) .nil)) (.cons (.ret (.con (.bl false))) .nil) .nil) (.cons (.ret (.and (.cmp (.blt .len (.cons (.var 0) .nil)) [.Eq] (.cons (.blt .len (.cons (.var 1) .nil)) .nil)) (.cons (.blt .all (.cons (.comp false (.call 1 (.cons (.var 2) (.cons (.var 3) .nil)) false) [2, 3] (.tup [(.nm 2), (.nm 3)]) (.zip (.var 0) (.var 1) false) .nil) .nil)) .nil))) .nil)) .nil) (.cons (.iff (.or (.cmp (.var 1) [.Is] (.cons (.con .non) .nil)) (.cons (.isi (.var 1) [.str]) .nil)) (.cons (.ret (.and (.cmp (.var 0) [.Eq] (.cons (.var 1) .nil)) (.cons (.cmp (.isi (.var 0) [.str]) [.Eq] (.cons (.isi (.var 1) [.str]) .nil)) .nil))) .nil) .nil) (.cons (.ret (.and (.isi (.var 0) [.int]) (.cons (.cmp (.isi (.var 0) [.bool]) [.Eq] (.cons (.isi (.var 1) [.bool]) .nil)) (.cons (.cmp (.var 0) [.Eq] (.cons (.var 1) .nil)) .nil)))) .nil)))
def i__law_same : FI where
  fid := 1
  x := "_law_same"
  st := top 5
  N := ["_law_found", "_law_due", "_law_lone", "_law_mate"]
  ps := ["_law_found", "_law_due"]
  d := d__law_same
def d__law_lists : Def where
  np := 1
  ns := 2
  body := (.cons (.ret (.ite (.isi (.var 0) [.list, .tuple]) (.comp false (.call 2 (.cons (.var 1) .nil) false) [1] (.nm 1) (.val (.var 0)) .nil) (.var 0))) .nil)
def i__law_lists : FI where
  fid := 2
  x := "_law_lists"
  st := top 6
  N := ["_law_matter", "_law_part"]
  ps := ["_law_matter"]
  d := d__law_lists
def d__law_floors : Def where
  np := 2
  ns := 5
  body := (.cons (.asg (.tup [(.nm 2), (.nm 3)]) (.tup (.cons (.call 0 (.cons (.var 0) (.cons (.con (.int 5)) .nil)) false) (.cons (.new (.lst .nil)) .nil)))) (.cons (.iff (.cmp (.var 2) [.Eq] (.cons (.con (.int 1)) .nil)) (.cons (.ret (.lst (.cons (.bin .Add (.con (.int 1)) (.call 0 (.cons (.var 0) (.cons (.var 1) .nil)) false)) .nil))) .nil) .nil) (.cons (.for (.nm 4) (.rng (.cons (.con (.int 1)) (.cons (.bin .Add (.var 1) (.con (.int 1))) .nil))) (.cons (.iff (.or (.cmp (.var 2) [.Eq] (.cons (.con (.int 4)) .nil)) (.cons (.and (.cmp (.var 2) [.Gt] (.cons (.con (.int 1)) .nil)) (.cons (.cmp (.call 0 (.cons (.var 0) (.cons (.var 2) .nil)) false) [.Eq] (.cons (.con (.int 0)) .nil)) .nil)) .nil)) (.cons (.exp (.mth .append (.var 3) (.cons (.var 4) .nil))) .nil) .nil) .nil)) (.cons (.ret (.var 3)) .nil))))
def i__law_floors : FI where
  fid := 3
  x := "_law_floors"
  st := top 7
  N := ["_law_pot_here", "_law_most", "_law_way", "_law_found", "_law_storey"]
  ps := ["_law_pot_here", "_law_most"]
  d := d__law_floors
def d__law_homes : Def where
  np := 2
  ns := 2
  body := (.cons (.ret (.tup (.cons (.blt .tuple (.cons (.call 3 (.cons (.var 0) (.cons (.var 1) .nil)) false) .nil)) (.cons (.blt .tuple (.cons (.call 3 (.cons (.var 0) (.cons (.var 1) .nil)) false) .nil)) .nil)))) .nil)
def i__law_homes : FI where
  fid := 5
  x := "_law_homes"
  st := top 8
  N := ["_law_pot_here", "_law_most"]
  ps := ["_law_pot_here", "_law_most"]
  d := d__law_homes
def d__law_needs : Def where
  np := 3
  ns := 4
  body := (.cons (.ret (.comp false (.tup (.cons (.bin .Add (.con (.int 1)) (.call 0 (.cons (.var 0) (.cons (.var 2) .nil)) false)) (.cons (.bin .Add (.con (.int 1)) (.call 0 (.cons (.var 0) (.cons (.var 2) .nil)) false)) .nil))) [3] (.nm 3) (.rng (.cons (.var 1) .nil)) .nil)) .nil)
def i__law_needs : FI where
  fid := 4
  x := "_law_needs"
  st := top 9
  N := ["_law_pot_here", "_law_count", "_law_most", "_law_k"]
  ps := ["_law_pot_here", "_law_count", "_law_most"]
  d := d__law_needs
def d__law_meets : Def where
  np := 2
  ns := 2
  body := (.cons (.ret (.or (.cmp (.idx (.var 1) (.con (.int 0))) [.In] (.cons (.idx (.var 0) (.con (.int 0))) .nil)) (.cons (.cmp (.idx (.var 1) (.con (.int 1))) [.In] (.cons (.idx (.var 0) (.con (.int 1))) .nil)) .nil))) .nil)
def i__law_meets : FI where
  fid := 6
  x := "_law_meets"
  st := top 10
  N := ["_law_homes_here", "_law_pair"]
  ps := ["_law_homes_here", "_law_pair"]
  d := d__law_meets
def d__law_right : Def where
  np := 1
  ns := 7
  body := (.cons (.asg (.tup [(.nm 1), (.nm 2)]) (.tup (.cons (.call 4 (.cons (.var 0) (.cons (.call 0 (.cons (.var 0) (.cons (.con (.int 13)) .nil)) false) (.cons (.con (.int 7)) .nil))) false) (.cons (.call 5 (.cons (.var 0) (.cons (.con (.int 6)) .nil)) false) .nil)))) (.cons (.asg (.tup [(.nm 3), (.nm 4)]) (.tup (.cons (.comp false (.var 5) [5] (.nm 5) (.val (.var 1)) (.cons (.nt (.call 6 (.cons (.var 2) (.cons (.var 5) .nil)) false)) .nil)) (.cons (.blt .repr (.cons (.lst (.cons (.var 1) (.cons (.var 2) .nil))) .nil)) .nil)))) (.cons (.asg (.nm 6) (.call 7 (.cons (.var 1) (.cons (.var 2) .nil)) true)) (.cons (.iff (.or (.nt (.call 1 (.cons (.var 6) (.cons (.var 3) .nil)) false)) (.cons (.cmp (.blt .repr (.cons (.lst (.cons (.var 1) (.cons (.var 2) .nil))) .nil)) [.NotEq] (.cons (.var 4) .nil)) .nil)) (.cons (.ret (.con (.bl false))) .nil) .nil) (.cons (.exp (.mth .append (.var 6) (.cons (.con (.str "more")) .nil))) (.cons (.ret (.call 1 (.cons (.callk 7 .nil (.cons (.call 2 (.cons (.var 2) .nil) false) (.cons (.blt .tuple (.cons (.call 2 (.cons (.var 1) .nil) false) .nil)) .nil)) [1, 0] false) (.cons (.var 3) .nil)) false)) .nil))))))
def i__law_right : FI where
  fid := 9
  x := "_law_right"
  st := top 11
  N := ["_law_pot_here", "_law_pairs", "_law_homes_here", "_law_due", "_law_kept", "_law_pair", "_law_found"]
  ps := ["_law_pot_here"]
  d := d__law_right
def d_law : Def where
  np := 1
  ns := 4
  body := (.cons (.for (.nm 1) (.rng (.cons (.blt .max2 (.cons (.con (.int 1)) (.cons (.blt .min2 (.cons (.con (.int 3)) (.cons (.blt .len (.cons (.var 0) .nil)) .nil))) .nil))) .nil)) (.cons (.asg (.nm 2) (.call 8 (.cons (.var 0) (.cons (.var 1) .nil)) true)) (.cons (.iff (.nt (.blt .all (.cons (.comp false (.call 9 (.cons (.var 2) .nil) false) [3] (.nm 3) (.rng (.cons (.con (.int 4)) .nil)) .nil) .nil))) (.cons (.ret (.con (.bl false))) .nil) .nil) .nil))) (.cons (.ret (.con (.bl true))) .nil))
def i_law : FI where
  fid := 10
  x := "law"
  st := top 12
  N := ["_law_script", "_law_k", "_law_pot_here", "_law_turn"]
  ps := ["_law_script"]
  d := d_law
def fis : List FI := [i_unmet, i__law_pot, i__law_take, i__law_same, i__law_lists, i__law_floors, i__law_homes, i__law_needs, i__law_meets, i__law_right, i_law]
def bl : List Str := ["abs", "all", "bool", "int", "isinstance", "len", "list", "max", "min", "range", "repr", "str", "tuple", "zip"]
def kws : List (Nat × Nat × List Str × List Nat) := [(7, 0, ["houses", "needs"], [1, 0])]
def G : Prog where
  defs := fun
    | 7 => some d_unmet
    | 8 => some d__law_pot
    | 0 => some d__law_take
    | 1 => some d__law_same
    | 2 => some d__law_lists
    | 3 => some d__law_floors
    | 5 => some d__law_homes
    | 4 => some d__law_needs
    | 6 => some d__law_meets
    | 9 => some d__law_right
    | 10 => some d_law
    | _ => none
  glob := fun _ => none
  sup := fun _ _ => false
abbrev W : Wd := wd G fis bl kws
theorem chk_ok : ∀ fi ∈ fis, chkF W fi = true := by decide +kernel
theorem defs_ok : ∀ fi ∈ fis, G.defs fi.fid = some fi.d := by
  intro fi h
  simp only [fis, List.mem_cons, List.not_mem_nil, or_false] at h
  rcases h with rfl | rfl | rfl | rfl | rfl | rfl | rfl | rfl | rfl | rfl | rfl <;> rfl
theorem binds_ok {K : PySem.W.Frag} : ∀ fi ∈ fis, ∀ f fd, FunD K fi.x fi.x (defArgs fi.st) (defBody fi.st) (defScope fi.st) [] [] f fd → Binds K fd fi.ps [] := by
  intro fi h f fd F
  simp only [fis, List.mem_cons, List.not_mem_nil, or_false] at h
  rcases h with rfl | rfl | rfl | rfl | rfl | rfl | rfl | rfl | rfl | rfl | rfl
  · exact F.bindsN fun _ _ _ _ _ _ us hl => match us, hl with | [_, _], _ => rfl
  · exact F.bindsN fun _ _ _ _ _ _ us hl => match us, hl with | [_, _], _ => rfl
  · exact F.bindsN fun _ _ _ _ _ _ us hl => match us, hl with | [_, _], _ => rfl
  · exact F.bindsN fun _ _ _ _ _ _ us hl => match us, hl with | [_, _], _ => rfl
  · exact F.bindsN fun _ _ _ _ _ _ us hl => match us, hl with | [_], _ => rfl
  · exact F.bindsN fun _ _ _ _ _ _ us hl => match us, hl with | [_, _], _ => rfl
  · exact F.bindsN fun _ _ _ _ _ _ us hl => match us, hl with | [_, _], _ => rfl
  · exact F.bindsN fun _ _ _ _ _ _ us hl => match us, hl with | [_, _, _], _ => rfl
  · exact F.bindsN fun _ _ _ _ _ _ us hl => match us, hl with | [_, _], _ => rfl
  · exact F.bindsN fun _ _ _ _ _ _ us hl => match us, hl with | [_], _ => rfl
  · exact F.bindsN fun _ _ _ _ _ _ us hl => match us, hl with | [_], _ => rfl
theorem kw_ok {K : PySem.W.Frag} : ∀ fi ∈ fis, ∀ f fd, FunD K fi.x fi.x (defArgs fi.st) (defBody fi.st) (defScope fi.st) [] [] f fd → ∀ n ks perm, kws.contains (fi.fid, n, ks, perm) = true → KwB K fd fi.ps n ks perm := by
  intro fi h f fd F n ks perm hk
  simp only [fis, List.mem_cons, List.not_mem_nil, or_false] at h
  rcases h with rfl | rfl | rfl | rfl | rfl | rfl | rfl | rfl | rfl | rfl | rfl
  · have hk : (n = 0 ∧ ks = (["houses", "needs"] : List Str) ∧ perm = [1, 0]) := by simpa [kws, i_unmet] using hk
    obtain ⟨rfl, rfl, rfl⟩ := hk
    exact kwB_of F (fun _ _ _ _ _ _ us ws h1 h2 => match us, ws, h1, h2 with | [], [_, _], _, _ => rfl) (by decide) (by decide)
  · exact absurd hk (by simp [kws, i__law_pot])
  · exact absurd hk (by simp [kws, i__law_take])
  · exact absurd hk (by simp [kws, i__law_same])
  · exact absurd hk (by simp [kws, i__law_lists])
  · exact absurd hk (by simp [kws, i__law_floors])
  · exact absurd hk (by simp [kws, i__law_homes])
  · exact absurd hk (by simp [kws, i__law_needs])
  · exact absurd hk (by simp [kws, i__law_meets])
  · exact absurd hk (by simp [kws, i__law_right])
  · exact absurd hk (by simp [kws, i_law])
abbrev R : PySem.W.OpenRow := PySem.W.OpenLaw.row PySem.Challenge.rw_balconyrow_k54_needs_that_are_not_met
abbrev hk : PySem.W.Hook := He.hookD 4 (faOf fis bl) (fis.map dOf)
def ob (s : PySem.W.SharedT) : He.AlD := He.obsDG 4 (faOf fis bl) (fis.map dOf) (HandSHeadRun.getT s)
theorem ob_eq (s : PySem.W.SharedT) : ob s = hk.obs s.abs := He.obsDG_eq (HandSHeadRun.getT_eq s)
def names : List PySem.Str := ["unmet", "_law_pot", "_law_take", "_law_same", "_law_lists", "_law_floors", "_law_homes", "_law_needs", "_law_meets", "_law_right"]
theorem run (w : World) : HandSHeadRun.RunEq R (PySem.W.view R.prog [12]) hk ob 4000 names w := by
  intro os
  kernel_rfl
theorem holds_of (h0 : ∀ ns : List Int, ns.length ≤ 63 → ∃ m, callN G LV 10 [.scr ns] false [] = .ok (.bl true) m) : PySem.Challenge.rw_balconyrow_k54_needs_that_are_not_met.Holds := by
  w_on; o_law
  refine HandSHeadRun.head_any (r := PySem.W.OpenLaw.row PySem.Challenge.rw_balconyrow_k54_needs_that_are_not_met) (q := PySem.W.view (PySem.W.OpenLaw.row PySem.Challenge.rw_balconyrow_k54_needs_that_are_not_met).prog [12]) (H := hk) (ob := ob) (M := 4000) (loose := names) (d := HandSHeadRun.topDef (PySem.W.OpenLaw.row PySem.Challenge.rw_balconyrow_k54_needs_that_are_not_met).prog 12) (kwd := []) ob_eq
    (by kernel_rfl) (fun s => by kernel_rfl) run (by kernel_rfl) (by kernel_rfl) (by kernel_rfl) (by rfl) (by first | assumption | decide +kernel) (by decide +kernel) ⟨rfl, rfl, rfl, rfl, rfl, by decide +kernel⟩ ?hw ?hc
  case hw => w_witness2
  case hc =>
    refine walk_ofG (l := PySem.Challenge.rw_balconyrow_k54_needs_that_are_not_met) (n := 63) (k := LV) (x := "_law_script") rfl (by decide) (by kernel_rfl) ⟨rfl, by decide, by decide⟩ ?F
    intro w mg fa h Y Gm hmg0
    obtain ⟨K, KX, c⟩ := Y
    have hmg : mg ("law" : PySem.Str) = some (.ref fa) := by
      have e : (HandSHeadRun.topDef (PySem.W.OpenLaw.row PySem.Challenge.rw_balconyrow_k54_needs_that_are_not_met).prog 12).name = ("law" : PySem.Str) := by kernel_rfl
      rw [← e]
      exact hmg0
    exact law_top (G := G) (fis := fis) (blt := bl) (kws := kws) (il := i_law) KX Gm hmg c defs_ok chk_ok binds_ok kw_ok (by simp [fis]) rfl rfl (fun f fd F s u => F.bindsA (ps := ["_law_script"]) (fun _ _ _ _ _ _ us hl => match us, hl with | [_], _ => rfl) s [u] rfl) h0
end K54
open PySem PySem.W PyProof.Rows
theorem PySem.Challenge.cw_balconyrow_k54_needs_that_are_not_met_holds : PySem.Challenge.rw_balconyrow_k54_needs_that_are_not_met.Holds := by
  have g : MP.K54Defs K54.G := ⟨rfl, rfl, rfl, rfl, rfl, rfl, rfl, rfl, rfl⟩
  exact K54.holds_of fun ns _ => MP.law1 g rfl rfl 34 ns
