import PyProof.Rows.All
import Wide.All
import OpenK.AllK
import Wide.FinOn
import HandS.ForMost
import HandS.Wide
import HandS.WideBits
import HandS.TupAny
import HandS.TupMul
import HandS.Style
import HandS.Flow
import HandS.SortInts
import HandS.IsInst
import HandS.Gcd
import HandS.Walk
import HandS.Zip
import HandS.Conv
import KE.DataEq
import KE.DataCmp
import HandS.MapSum
import KE.DataMinMax
import KE.KMathG
import KE.SortData
import HandS.Rev
import HandS.Defaults
import HandS.HeadEnd
import HandS.HeadHook1
import HandS.HeadHook2
import KE.KStateDown
import HandS.Head0
import HandS.Head1
import HandS.Head2
import HandS.Head3
import HandS.Words
import HandS.WordsExc
import HandS.More
import PySem.Challenge.RW_rootstold_k12_whole_divisors_and_remaind
section
set_option Elab.async false
set_option linter.all false
set_option maxRecDepth 100000
/-! EngA: a small language of expressions and statements with a meaning in plain Lean (data: PySem.PyData). -/
namespace Eng
open PySem

/-- data without addresses -/
abbrev D := PyData
abbrev Sg := List (Option D)

inductive Bop where
  | add | sub | mul | fdiv | mod | pow | shl | shr | band | bor | bxor
  deriving DecidableEq
inductive Cop where
  | eq | ne | lt | le | gt | ge | is | isnot | isin | notin
  deriving DecidableEq
/-- built-in calls -/
inductive Bi where
  | len | sum | all | any | abs | max1 | min1 | max2 | min2 | int | tuple | list | sorted | sortedRev | sortedSet
  | isInt | isBool | isTuple | isStr | isqrt | range | enumerate | zip | reversed
  deriving DecidableEq
/-- where a value goes -/
inductive Tg where
  | one (i : Nat)
  | many (ts : List Tg)
inductive E where
  | var (i : Nat)
  | cst (d : D)
  | glo (x : Str) (d : D)
  | bin (o : Bop) (a b : E)
  | neg (a : E)
  | not (a : E)
  | and (a b : E)
  | or (a b : E)
  | cmp (o : Cop) (a b : E)
  | chain (o o' : Cop) (a b c : E)
  | ite (c a b : E)
  | tup (es : List E)
  | lst (es : List E)
  | idx (a i : E)
  | sl (a : E) (lo hi : List E)
  | rev (a : E)
  | call (f : Nat) (bor : Bool) (es : List E)
  | bi (b : Bi) (es : List E)
  | comp (tg : Tg) (own : List (Str × Nat)) (it : E) (cond : List E) (elt : E)
  | comp2 (tg tg' : Tg) (own : List (Str × Nat)) (it it' : E) (cond : List E) (elt : E)
inductive S where
  | asg (tg : Tg) (e : E)
  | par (is : List Nat) (es : List E)
  | setIx (x : Nat) (i e : E)
  | augIx (x : Nat) (i : E) (o : Bop) (e : E)
  | swapIx (x y : Nat) (i j e f : E)
  | aug (x : Nat) (o : Bop) (e : E)
  | app (x : Nat) (e : E)
  | ext (x : Nat) (e : E)
  | ret (fr : Bool) (e : E)
  | ite (c : E) (a b : List S)
  | loop (w : List Nat) (tg : Tg) (it : E) (body : List S)
  | wh (w : List Nat) (c : E) (body : List S)
  | brk | cont | pass
  | fre (x : Nat)
/-- how a statement ends -/
inductive Fl where
  | nx (σ : Sg) | rt (d : D) | bk (σ : Sg) | ct (σ : Sg)

/-! ### values -/
def SL : Nat := 16777216
def lenOk (n : Nat) : Bool := Nat.ble n SL
def lenLt (n : Nat) : Bool := Nat.blt n SL
def intsD : List D → Option (List Int)
  | [] => some []
  | .int i :: r => (intsD r).map (i :: ·)
  | _ :: _ => none
def bls : List D → Option (List Bool)
  | [] => some []
  | .bool b :: r => (bls r).map (b :: ·)
  | _ :: _ => none
/-- a list that none ever writes (the script) -/
abbrev frz (xs : List D) : D := .dict [(.none, .list xs)]
def elemsP : D → Option (List D)
  | .list xs => some xs
  | .tuple xs => some xs
  | _ => none
def elems : D → Option (List D)
  | .list xs => some xs
  | .tuple xs => some xs
  | .dict [(.none, .list xs)] => some xs
  | _ => none
mutual
/-- no list within -/
def pur : D → Bool
  | .list _ => false
  | .dict _ => false
  | .tuple xs => purAll xs
  | _ => true
def purAll : List D → Bool
  | [] => true
  | x :: xs => pur x && purAll xs
end
/-- what a borrowing call may hand back -/
def flatB : D → Bool
  | .list xs => purAll xs
  | d => pur d
def truth : D → Option Bool
  | .none => some false
  | .bool b => some b
  | .int i => some (i != 0)
  | .list xs => some (!xs.isEmpty)
  | .tuple xs => some (!xs.isEmpty)
  | .str x => if lenOk x.length then some (x.length != 0) else none
  | .dict _ => none
def b64 (i : Int) : Bool := decide (-(2 ^ 64) < i) && decide (i < 2 ^ 64)
def mulOk (i j : Int) : Bool := b64 i || b64 j || Nat.blt (i.natAbs.log2 + j.natAbs.log2) 1000000
def divOk (j : Int) : Bool := !decide (j = 0) && Nat.blt j.natAbs.log2 9000
def powOk (i j : Int) : Bool := decide (0 ≤ j) && decide (j ≤ 1000000) && Nat.blt i.natAbs (2 ^ 64)
def binI : Bop → Int → Int → Option Int
  | .add, i, j => some (i + j)
  | .sub, i, j => some (i - j)
  | .mul, i, j => if mulOk i j then some (i * j) else none
  | .fdiv, i, j => if divOk j then some (i.fdiv j) else none
  | .mod, i, j => if decide (j = 0) then none else some (i.fmod j)
  | .pow, i, j => if powOk i j then some (i ^ j.toNat) else none
  | .shl, i, j => if powOk i j then some (i * 2 ^ j.toNat) else none
  | .shr, i, j => if decide (0 ≤ j) then some (i / 2 ^ j.toNat) else none
  | .band, i, j => some (Builtin.bitAnd i j)
  | .bor, i, j => some (Builtin.bitOr i j)
  | .bxor, i, j => some (Builtin.bitXor i j)
def rep (xs : List D) (k : Int) : List D := (List.replicate k.toNat xs).flatten
def repOk (n : Nat) (k : Int) : Bool := decide (-(2 ^ 63) ≤ k) && decide (k < 2 ^ 63) && Nat.ble (n * k.toNat) SL
def b2i (b : Bool) : Int := if b then 1 else 0
def bin : Bop → D → D → Option D
  | o, .int i, .int j => (binI o i j).map .int
  | .add, .tuple xs, .tuple ys => if lenOk (xs.length + ys.length) then some (.tuple (xs ++ ys)) else none
  | .add, .list xs, .list ys => if lenOk (xs.length + ys.length) then some (.list (xs ++ ys)) else none
  | .mul, .list xs, .int k => if repOk xs.length k then some (.list (rep xs k)) else none
  | .mul, .tuple xs, .int k => if repOk xs.length k then some (.tuple (rep xs k)) else none
  | .sub, .bool a, .bool b => some (.int (b2i a - b2i b))
  | _, _, _ => none
def flatD : D → Bool
  | .none => true
  | .bool _ => true
  | .int _ => true
  | _ => false
def eqD (d e : D) : Option Bool := match d, e with
  | .int i, .int j => some (i == j)
  | .bool i, .bool j => some (i == j)
  | d, e => if SeqAt.shaped d && SeqAt.shaped e then some (PyData.eqv d e) else none
def inD (d : D) (xs : List D) : Option Bool := if (flatD d && xs.all flatD) then some (xs.any fun y => PyData.eqv y d)
  else if (SeqAt.shaped d && xs.all SeqAt.shaped) then some (xs.any fun y => PyData.eqv y d) else none
def lexLe : List Int → List Int → Bool
  | [], _ => true
  | _ :: _, [] => false
  | x :: xs, y :: ys => if x = y then lexLe xs ys else decide (x < y)
def ltT (xs ys : List D) : Option Bool := do
  let ns ← intsD xs
  let ms ← intsD ys
  some (HT.lexLt ns ms)
def inE (d : D) : D → Option Bool
  | .list xs => inD d xs
  | .tuple xs => inD d xs
  | _ => none
def isNonD : D → Bool
  | .none => true
  | _ => false
def cmp : Cop → D → D → Option Bool
  | .eq, d, e => eqD d e
  | .ne, d, e => (eqD d e).map (!·)
  | .lt, .int i, .int j => some (decide (i < j))
  | .le, .int i, .int j => some (decide (i ≤ j))
  | .gt, .int i, .int j => some (decide (j < i))
  | .ge, .int i, .int j => some (decide (j ≤ i))
  | .lt, .tuple xs, .tuple ys => ltT xs ys
  | .is, d, .none => some (isNonD d)
  | .isnot, d, .none => some (!isNonD d)
  | .isin, d, e => inE d e
  | .notin, d, e => (inE d e).map (!·)
  | _, _, _ => none
/-- the item at i -/
def at? (xs : List D) (i : Int) : Option D := L2.atI xs i
def idx : D → D → Option D
  | .list xs, .int i => at? xs i
  | .tuple xs, .int i => at? xs i
  | .dict [(.none, .list xs)], .int i => at? xs i
  | _, _ => none
def cut (xs : List D) (lo hi : Option Int) : List D := (xs.drop (HT.sIx xs.length 0 lo)).take (HT.sIx xs.length xs.length hi - HT.sIx xs.length 0 lo)
def slD (d : D) (lo hi : Option Int) : Option D := match d with
  | .list xs => some (.list (cut xs lo hi))
  | .tuple xs => some (.tuple (cut xs lo hi))
  | _ => none
def revD : D → Option D
  | .list xs => some (.list xs.reverse)
  | .tuple xs => some (.tuple xs.reverse)
  | _ => none
/-! ### built-ins -/
def insI (x : Int) : List Int → List Int
  | [] => [x]
  | y :: r => if x ≤ y then x :: y :: r else y :: insI x r
/-- the rising arrangement -/
def sortI (ns : List Int) : List Int := ns.mergeSort (fun a b => decide (a ≤ b))
def dedup : List Int → List Int
  | [] => []
  | x :: r => if r.elem x then dedup r else x :: dedup r
def maxI : List Int → Option Int
  | [] => none
  | x :: r => some (r.foldl max x)
def minI : List Int → Option Int
  | [] => none
  | x :: r => some (r.foldl min x)
def small62 (i : Int) : Bool := decide (-(2 ^ 62) ≤ i) && decide (i < 2 ^ 62)
def rngUp (lo : Int) (n : Nat) : List D := (List.range n).map fun (i : Nat) => PyData.int (lo + i)
def rngBy (lo c : Int) (n : Nat) : List D := (List.range n).map fun (i : Nat) => PyData.int (lo + i * c)
def enumD (xs : List D) : List D := (List.range xs.length).zipWith (fun (i : Nat) x => PyData.tuple [.int i, x]) xs
def zipD (xs ys : List D) : List D := List.zipWith (fun x y => PyData.tuple [x, y]) xs ys
def dLen : List D → Option D
  | [d] => (elems d).map fun xs => .int xs.length
  | _ => none
def dSum : List D → Option D
  | [d] => (elemsP d).bind fun xs => (intsD xs).map fun ns => .int ns.sum
  | _ => none
def dAll : List D → Option D
  | [.list xs] => (bls xs).map fun bs => .bool (bs.all id)
  | _ => none
def dAny : List D → Option D
  | [.list xs] => (bls xs).map fun bs => .bool (bs.any id)
  | _ => none
def dAbs : List D → Option D
  | [.int i] => some (.int (if i < 0 then -i else i))
  | _ => none
def dMax1 : List D → Option D
  | [d] => (elemsP d).bind fun xs => (intsD xs).bind fun ns => (maxI ns).map .int
  | _ => none
def dMin1 : List D → Option D
  | [d] => (elemsP d).bind fun xs => (intsD xs).bind fun ns => (minI ns).map .int
  | _ => none
def dMax2 : List D → Option D
  | [.int i, .int j] => some (.int (if j > i then j else i))
  | _ => none
def dMin2 : List D → Option D
  | [.int i, .int j] => some (.int (if j < i then j else i))
  | _ => none
def dInt : List D → Option D
  | [.int i] => some (.int i)
  | [.bool b] => some (.int (b2i b))
  | _ => none
def dTuple : List D → Option D
  | [d] => (elemsP d).map .tuple
  | _ => none
def dList : List D → Option D
  | [d] => (elemsP d).map .list
  | _ => none
def encP (p : Int × Int) : D := .tuple [.int p.1, .int p.2]
def pairsD : List D → Option (List (Int × Int))
  | [] => some []
  | .tuple [.int a, .int b] :: r => (pairsD r).map ((a, b) :: ·)
  | _ :: _ => none
def leP (p q : Int × Int) : Bool := decide (p.1 < q.1 ∨ (p.1 = q.1 ∧ p.2 ≤ q.2))
def sortP (ps : List (Int × Int)) : List (Int × Int) := ps.mergeSort leP
def dSorted : List D → Option D
  | [.list xs] => match intsD xs with
    | some ns => some (.list ((sortI ns).map .int))
    | none => (pairsD xs).map fun ps => .list ((sortP ps).map encP)
  | [.tuple xs] => (pairsD xs).map fun ps => .list ((sortP ps).map encP)
  | _ => none
def dSortedRev : List D → Option D
  | [d] => (elemsP d).bind fun xs => (intsD xs).map fun ns => .list ((sortI ns).reverse.map .int)
  | _ => none
def dSortedSet : List D → Option D
  | [d] => (elemsP d).bind fun xs => (intsD xs).map fun ns => .list ((sortI (dedup ns)).map .int)
  | _ => none
def isIntD : D → Bool
  | .int _ => true
  | .bool _ => true
  | _ => false
def isBoolD : D → Bool
  | .bool _ => true
  | _ => false
def isTupleD : D → Bool
  | .tuple _ => true
  | _ => false
def isStrD : D → Bool
  | .str _ => true
  | _ => false
def dIs (p : D → Bool) : List D → Option D
  | [.dict _] => none
  | [d] => some (.bool (p d))
  | _ => none
def dIsqrt : List D → Option D
  | [.int i] => if decide (0 ≤ i) && decide (i < 2 ^ 64) then some (.int ((Float64.isqrt i.toNat : Nat) : Int)) else none
  | _ => none
def rngOk (a b : Int) : Bool := small62 a && small62 b && lenOk (b - a).toNat
def rng3Ok (a b c : Int) : Bool := small62 a && small62 b && !decide (c = 0) && Nat.blt c.natAbs 1073741824 && Builtin.Range.small a b c && decide (0 ≤ Builtin.Range.rangeSize a b c)
def dRange : List D → Option D
  | [.int n] => if rngOk 0 n then some (.list (rngUp 0 (n - 0).toNat)) else none
  | [.int a, .int b] => if rngOk a b then some (.list (rngUp a (b - a).toNat)) else none
  | [.int a, .int b, .int c] => if rng3Ok a b c then some (.list (rngBy a c (Builtin.Range.rangeSize a b c).toNat)) else none
  | _ => none
def dEnum : List D → Option D
  | [d] => (elemsP d).map fun xs => .list (enumD xs)
  | _ => none
def dZip : List D → Option D
  | [.list xs, .list ys] => some (.list (zipD xs ys))
  | [.tuple xs, .tuple ys] => some (.list (zipD xs ys))
  | _ => none
def dRev : List D → Option D
  | [d] => (elemsP d).map fun xs => .list xs.reverse
  | _ => none
def biD : Bi → List D → Option D
  | .len => dLen | .sum => dSum | .all => dAll | .any => dAny | .abs => dAbs | .max1 => dMax1 | .min1 => dMin1 | .max2 => dMax2 | .min2 => dMin2
  | .int => dInt | .tuple => dTuple | .list => dList | .sorted => dSorted | .sortedRev => dSortedRev | .sortedSet => dSortedSet
  | .isInt => dIs isIntD | .isBool => dIs isBoolD | .isTuple => dIs isTupleD | .isStr => dIs isStrD | .isqrt => dIsqrt
  | .range => dRange | .enumerate => dEnum | .zip => dZip | .reversed => dRev

/-! ### meaning -/
def setAll : List (Nat × D) → Sg → Sg
  | [], σ => σ
  | (i, d) :: r, σ => setAll r (σ.set i (some d))
mutual
/-- the slots of a target -/
def tgSlots : Tg → List Nat
  | .one i => [i]
  | .many ts => tgSlotss ts
def tgSlotss : List Tg → List Nat
  | [] => []
  | t :: ts => tgSlots t ++ tgSlotss ts
end
mutual
/-- d goes to tg -/
def put : Tg → D → Sg → Option Sg
  | .one i, d, σ => some (σ.set i (some d))
  | .many ts, .tuple ds, σ => puts ts ds σ
  | .many _, _, _ => none
def puts : List Tg → List D → Sg → Option Sg
  | [], [], σ => some σ
  | t :: ts, d :: ds, σ => (put t d σ).bind (puts ts ds)
  | _, _, _ => none
end
def wipeD (σ : Sg) : List Nat → Sg
  | [] => σ
  | v :: vs => (wipeD σ vs).set v none
/-- a comprehension's turns: f gives none (the test fails) or a value -/
def compL (f : D → Option (Option D)) : List D → Option (List D)
  | [] => some []
  | x :: xs => (f x).bind fun r => (compL f xs).map fun rs => match r with
    | some y => y :: rs
    | none => rs
def comp2L (f : D → Option (List D)) : List D → Option (List D)
  | [] => some []
  | x :: xs => (f x).bind fun r => (comp2L f xs).map fun rs => r ++ rs
abbrev Fs := Nat → List D → Option D
section
variable (Γ : Fs)
mutual
def ev : E → Sg → Option D
  | .var i, σ => (σ[i]?).bind id
  | .cst d, _ => some d
  | .glo _ d, _ => some d
  | .bin o a b, σ => (ev a σ).bind fun x => (ev b σ).bind fun y => bin o x y
  | .neg a, σ => (ev a σ).bind fun x => match x with
    | .int i => some (.int (-i))
    | _ => none
  | .not a, σ => (ev a σ).bind fun x => (truth x).map fun b => .bool (!b)
  | .and a b, σ => (ev a σ).bind fun x => (truth x).bind fun c => if c then ev b σ else some x
  | .or a b, σ => (ev a σ).bind fun x => (truth x).bind fun c => if c then some x else ev b σ
  | .cmp o a b, σ => (ev a σ).bind fun x => (ev b σ).bind fun y => (cmp o x y).map .bool
  | .chain o o' a b c, σ => (ev a σ).bind fun x => (ev b σ).bind fun y => (cmp o x y).bind fun r => if r then (ev c σ).bind fun z => (cmp o' y z).map .bool else some (.bool false)
  | .ite c a b, σ => (ev c σ).bind fun x => (truth x).bind fun t => if t then ev a σ else ev b σ
  | .tup es, σ => (evs es σ).bind fun xs => if lenOk xs.length then some (.tuple xs) else none
  | .lst es, σ => (evs es σ).bind fun xs => if lenOk xs.length then some (.list xs) else none
  | .idx a i, σ => (ev a σ).bind fun x => (ev i σ).bind fun k => idx x k
  | .sl a lo hi, σ => (ev a σ).bind fun x => (evs lo σ).bind fun l => (evs hi σ).bind fun h => match l, h with
    | [], [] => slD x none none
    | [.int i], [] => slD x (some i) none
    | [], [.int j] => slD x none (some j)
    | [.int i], [.int j] => slD x (some i) (some j)
    | _, _ => none
  | .rev a, σ => (ev a σ).bind revD
  | .call f bor es, σ => (evs es σ).bind fun xs => (Γ f xs).bind fun r => if !bor || flatB r then some r else none
  | .bi b es, σ => (evs es σ).bind fun xs => biD b xs
  | .comp tg own it cond elt, σ => (ev it σ).bind fun d => (elemsP d).bind fun xs => if lenOk xs.length then
      (compL (fun x => (put tg x (wipeD σ (own.map (·.2)))).bind fun σ' => (evs cond σ').bind fun cs => match cs with
        | [] => (ev elt σ').map some
        | [c] => (truth c).bind fun t => if t then (ev elt σ').map some else some none
        | _ => none) xs).map .list
    else none
  | .comp2 tg tg' own it it' cond elt, σ => (ev it σ).bind fun d => (elemsP d).bind fun xs =>
      (comp2L (fun x => (put tg x (wipeD σ (own.map (·.2)))).bind fun σ' => (ev it' σ').bind fun d' => (elemsP d').bind fun ys =>
        compL (fun y => (put tg' y (wipeD σ' (tgSlots tg'))).bind fun σ'' => (evs cond σ'').bind fun cs => match cs with
          | [] => (ev elt σ'').map some
          | [c] => (truth c).bind fun t => if t then (ev elt σ'').map some else some none
          | _ => none) ys) xs).bind fun rs => if lenOk rs.length then some (.list rs) else none
def evs : List E → Sg → Option (List D)
  | [], _ => some []
  | e :: es, σ => (ev e σ).bind fun x => (evs es σ).map fun xs => x :: xs
end
/-- a for's turns -/
def loopL (f : D → Sg → Option Fl) : List D → Sg → Option Fl
  | [], σ => some (.nx σ)
  | x :: xs, σ => (f x σ).bind fun r => match r with
    | .nx σ' => loopL f xs σ'
    | .ct σ' => loopL f xs σ'
    | .bk σ' => some (.nx σ')
    | .rt d => some (.rt d)
/-- a while's turns, at most n -/
def whL (c : Sg → Option Bool) (f : Sg → Option Fl) : Nat → Sg → Option Fl
  | 0, _ => none
  | n + 1, σ => (c σ).bind fun t => if t then (f σ).bind fun r => match r with
      | .nx σ' => whL c f n σ'
      | .ct σ' => whL c f n σ'
      | .bk σ' => some (.nx σ')
      | .rt d => some (.rt d)
    else some (.nx σ)
def lset (d : D) (i : Int) (v : D) : Option D := match d with
  | .list xs => (L2.ixN xs.length i).map fun j => .list (xs.set j v)
  | _ => none
def isList : D → Bool
  | .list _ => true
  | _ => false
def lapp (d v : D) : Option D := match d with
  | .list xs => if lenLt xs.length then some (.list (xs ++ [v])) else none
  | _ => none
def lext (d v : D) : Option D := match d, v with
  | .list xs, .list ys => if lenOk (xs.length + ys.length) then some (.list (xs ++ ys)) else none
  | _, _ => none
def asInt : D → Option Int
  | .int i => some i
  | _ => none
/-- the i-th name -/
def get (σ : Sg) (i : Nat) : Option D := (σ[i]?).bind id
variable (W : Nat)
mutual
def ex : S → Sg → Option Fl
  | .asg tg e, σ => (ev Γ e σ).bind fun d => (put tg d σ).map .nx
  | .par is es, σ => (evs Γ es σ).bind fun ds => (puts (is.map .one) ds σ).map .nx
  | .setIx x i e, σ => (ev Γ e σ).bind fun v => (get σ x).bind fun d => (ev Γ i σ).bind fun k => (asInt k).bind fun k => (lset d k v).map fun d' => .nx (σ.set x (some d'))
  | .augIx x i o e, σ => (get σ x).bind fun d => (ev Γ i σ).bind fun k => (asInt k).bind fun k => (idx d (.int k)).bind fun u => (asInt u).bind fun a => (ev Γ e σ).bind fun y => (asInt y).bind fun b => (binI o a b).bind fun z => (lset d k (.int z)).map fun d' => .nx (σ.set x (some d'))
  | .swapIx x y i j e f, σ => (ev Γ e σ).bind fun v => (ev Γ f σ).bind fun w => (get σ x).bind fun d => (ev Γ i σ).bind fun k => (asInt k).bind fun k => (lset d k v).bind fun d' =>
      (get (σ.set x (some d')) y).bind fun d2 => (ev Γ j (σ.set x (some d'))).bind fun l => (asInt l).bind fun l => (lset d2 l w).map fun d3 => .nx ((σ.set x (some d')).set y (some d3))
  | .aug x o e, σ => (get σ x).bind fun u => (asInt u).bind fun a => (ev Γ e σ).bind fun y => (asInt y).bind fun b => (binI o a b).map fun z => .nx (σ.set x (some (.int z)))
  | .app x e, σ => (get σ x).bind fun d => (ev Γ e σ).bind fun v => (lapp d v).map fun d' => .nx (σ.set x (some d'))
  | .ext x e, σ => (get σ x).bind fun d => (ev Γ e σ).bind fun v => (lext d v).map fun d' => .nx (σ.set x (some d'))
  | .ret fr e, σ => (ev Γ e σ).bind fun d => if fr || !isList d then some (.rt d) else none
  | .ite c a b, σ => (ev Γ c σ).bind fun x => (truth x).bind fun t => if t then exs a σ else exs b σ
  | .loop _ tg it body, σ => (ev Γ it σ).bind fun d => (elemsP d).bind fun xs => loopL (fun x σ => (put tg x σ).bind fun σ' => exs body σ') xs σ
  | .wh _ c body, σ => whL (fun σ => (ev Γ c σ).bind truth) (fun σ => exs body σ) W σ
  | .brk, σ => some (.bk σ)
  | .cont, σ => some (.ct σ)
  | .pass, σ => some (.nx σ)
  | .fre _, σ => some (.nx σ)
def exs : List S → Sg → Option Fl
  | [], σ => some (.nx σ)
  | s :: ss, σ => (ex s σ).bind fun r => match r with
    | .nx σ' => exs ss σ'
    | r => some r
end
/-- a def: n names, its body -/
def run (n : Nat) (body : List S) (ds : List D) : Option D :=
  (exs Γ W body (ds.map some ++ List.replicate (n - ds.length) none)).bind fun r => match r with
    | .rt d => some d
    | .nx _ => some .none
    | _ => none
end
end Eng
end
section
set_option Elab.async false
set_option linter.all false
set_option maxRecDepth 100000
/-! EngB: data told by values over an abstract heap; the situation of a def's body. -/
namespace Eng
open PySem PySem.Spec PyProof.Rows L2

/-- a list of the written part -/
def KL (K : PySem.W.Frag) (a : Addr) (xs : List V) : Prop :=
  ∃ (o : Obj) (its : Array Value) (n : Nat), K.lookup a = some o ∧ o.cls = .type "list" ∧ o.dict = none ∧ o.data = .seq its n ∧ its.size ≤ sizeLine ∧ Vals xs its.toList
def SqF (K : PySem.W.Frag) (H : Hp) (a : Addr) (xs : List V) : Prop := (∃ o, H a = some (.frz o (.lst xs))) ∨ KL K a xs
theorem SqF.l {K : PySem.W.Frag} {H : Hp} {a : Addr} {xs : List V} (h : SqF K H a xs) : SqL K H a xs := h.elim (fun h => .inl (.inr h)) .inr
mutual
/-- d as v tells it; the tracked lists within stand where ok allows -/
inductive Rep (K : PySem.W.Frag) (H : Hp) (ok : Addr → Prop) : D → V → Prop
  | non : Rep K H ok .none .non
  | bl (b : Bool) : Rep K H ok (.bool b) (.bl b)
  | int (i : Int) : Rep K H ok (.int i) (.int i)
  | str (x : Str) : Rep K H ok (.str x) (.str x)
  | tup {a : Addr} {vs : List V} {ds : List D} : SqT K H a vs → Reps K H ok ds vs → Rep K H ok (.tuple ds) (.ref a)
  | lst {a : Addr} {vs : List V} {ds : List D} : H a = some (.lst vs) → ok a → Reps K H ok ds vs → Rep K H ok (.list ds) (.ref a)
  | frz {a : Addr} {vs : List V} {ds : List D} : SqF K H a vs → Reps K H ok ds vs → Rep K H ok (frz ds) (.ref a)
inductive Reps (K : PySem.W.Frag) (H : Hp) (ok : Addr → Prop) : List D → List V → Prop
  | nil : Reps K H ok [] []
  | cons {d : D} {v : V} {ds : List D} {vs : List V} : Rep K H ok d v → Reps K H ok ds vs → Reps K H ok (d :: ds) (v :: vs)
end
section
variable {K : PySem.W.Frag} {H H' : Hp} {ok ok' : Addr → Prop}
mutual
theorem Rep.mono (hT : ∀ a vs, SqT K H a vs → SqT K H' a vs) (hF : ∀ a vs, SqF K H a vs → SqF K H' a vs) (hL : ∀ a vs, ok a → H a = some (.lst vs) → ok' a ∧ H' a = some (.lst vs)) : ∀ (d : D) (v : V), Rep K H ok d v → Rep K H' ok' d v
  | .none, _, h => by cases h; exact .non
  | .bool b, _, h => by cases h; exact .bl b
  | .int i, _, h => by cases h; exact .int i
  | .str x, _, h => by cases h; exact .str x
  | .dict kv, _, h => by
    cases h with
    | frz h1 h2 => exact .frz (hF _ _ h1) (Reps.mono hT hF hL _ _ h2)
  | .tuple ds, _, h => by
    cases h with
    | tup h1 h2 => exact .tup (hT _ _ h1) (Reps.mono hT hF hL ds _ h2)
  | .list ds, _, h => by
    cases h with
    | lst h1 h2 h3 => exact .lst (hL _ _ h2 h1).2 (hL _ _ h2 h1).1 (Reps.mono hT hF hL ds _ h3)
theorem Reps.mono (hT : ∀ a vs, SqT K H a vs → SqT K H' a vs) (hF : ∀ a vs, SqF K H a vs → SqF K H' a vs) (hL : ∀ a vs, ok a → H a = some (.lst vs) → ok' a ∧ H' a = some (.lst vs)) : ∀ (ds : List D) (vs : List V), Reps K H ok ds vs → Reps K H' ok' ds vs
  | [], _, h => by cases h; exact .nil
  | d :: ds, _, h => by
    cases h with
    | cons h1 h2 => exact .cons (Rep.mono hT hF hL d _ h1) (Reps.mono hT hF hL ds _ h2)
end
mutual
theorem Rep.dp : ∀ (d : D) (v : V), d.canLay0 = true → Rep K H ok d v → Dp K H v d
  | .none, _, _, h => by cases h; exact .non
  | .bool b, _, _, h => by cases h; exact .bl b
  | .int i, _, _, h => by cases h; exact .int i
  | .str x, _, _, h => by cases h; exact .str x
  | .dict _, _, p, h => by simp [PyData.canLay0] at p
  | .tuple ds, _, p, h => by
    cases h with
    | tup h1 h2 => exact .tup h1 (Reps.dp ds _ (by simpa [PyData.canLay0] using p) h2)
  | .list ds, _, p, h => by
    cases h with
    | lst h1 h2 h3 => exact .lst (.inl (.inl h1)) (Reps.dp ds _ (by simpa [PyData.canLay0] using p) h3)
theorem Reps.dp : ∀ (ds : List D) (vs : List V), PyData.canLayAll0 ds = true → Reps K H ok ds vs → DpAll K H vs ds
  | [], _, _, h => by cases h; exact .nil
  | d :: ds, _, p, h => by
    have p' : d.canLay0 = true ∧ PyData.canLayAll0 ds = true := by simpa [PyData.canLayAll0] using p
    cases h with
    | cons h1 h2 => exact .cons (Rep.dp d _ p'.1 h1) (Reps.dp ds _ p'.2 h2)
end
mutual
/-- data without lists: whatever is allowed -/
theorem Rep.pur : ∀ (d : D) (v : V), pur d = true → Rep K H ok d v → Rep K H ok' d v
  | .none, _, _, h => by cases h; exact .non
  | .bool b, _, _, h => by cases h; exact .bl b
  | .int i, _, _, h => by cases h; exact .int i
  | .str x, _, _, h => by cases h; exact .str x
  | .dict _, _, p, h => by simp [Eng.pur] at p
  | .tuple ds, _, p, h => by
    cases h with
    | tup h1 h2 => exact .tup h1 (Reps.pur ds _ (by simpa [Eng.pur] using p) h2)
  | .list ds, _, p, h => by simp [Eng.pur] at p
theorem Reps.pur : ∀ (ds : List D) (vs : List V), purAll ds = true → Reps K H ok ds vs → Reps K H ok' ds vs
  | [], _, _, h => by cases h; exact .nil
  | d :: ds, _, p, h => by
    have p' : Eng.pur d = true ∧ purAll ds = true := by simpa [Eng.purAll] using p
    cases h with
    | cons h1 h2 => exact .cons (Rep.pur d _ p'.1 h1) (Reps.pur ds _ p'.2 h2)
end
theorem Reps.length : ∀ {ds : List D} {vs : List V}, Reps K H ok ds vs → vs.length = ds.length
  | [], _, h => by cases h; rfl
  | d :: ds, _, h => by
    cases h with
    | cons h1 h2 => simp [Reps.length h2]
theorem Reps.get : ∀ {ds : List D} {vs : List V} {i : Nat} {d : D}, Reps K H ok ds vs → ds[i]? = some d → ∃ v, vs[i]? = some v ∧ Rep K H ok d v
  | [], _, _, _, _, e => by simp at e
  | d :: ds, _, 0, _, h, e => by
    cases h with
    | cons h1 h2 => simp at e; subst e; exact ⟨_, rfl, h1⟩
  | d :: ds, _, i + 1, _, h, e => by
    cases h with
    | cons h1 h2 => simpa using Reps.get h2 (by simpa using e)
theorem Reps.getV {ds : List D} {vs : List V} {i : Nat} {v : V} (h : Reps K H ok ds vs) (e : vs[i]? = some v) : ∃ d, ds[i]? = some d ∧ Rep K H ok d v := by
  have hl := h.length
  have hi : i < ds.length := by
    have := (List.getElem?_eq_some_iff.mp e).1
    omega
  obtain ⟨v', e', r⟩ := h.get (List.getElem?_eq_getElem hi)
  rw [e] at e'
  cases e'
  exact ⟨_, List.getElem?_eq_getElem hi, r⟩
theorem Reps.append : ∀ {ds es : List D} {vs ws : List V}, Reps K H ok ds vs → Reps K H ok es ws → Reps K H ok (ds ++ es) (vs ++ ws)
  | [], _, _, _, h, g => by cases h; exact g
  | d :: ds, _, _, _, h, g => by
    cases h with
    | cons h1 h2 => exact .cons h1 (Reps.append h2 g)
theorem Reps.take : ∀ {ds : List D} {vs : List V} (n : Nat), Reps K H ok ds vs → Reps K H ok (ds.take n) (vs.take n)
  | _, _, 0, _ => by simp; exact .nil
  | [], _, n + 1, h => by cases h; exact .nil
  | d :: ds, _, n + 1, h => by
    cases h with
    | cons h1 h2 => exact .cons h1 (Reps.take n h2)
theorem Reps.drop : ∀ {ds : List D} {vs : List V} (n : Nat), Reps K H ok ds vs → Reps K H ok (ds.drop n) (vs.drop n)
  | _, _, 0, h => by simpa using h
  | [], _, n + 1, h => by cases h; exact .nil
  | d :: ds, _, n + 1, h => by
    cases h with
    | cons h1 h2 => exact Reps.drop n h2
theorem Reps.set {d : D} {v : V} (r : Rep K H ok d v) : ∀ {ds : List D} {vs : List V} (n : Nat), Reps K H ok ds vs → Reps K H ok (ds.set n d) (vs.set n v)
  | [], _, _, h => by cases h; exact .nil
  | _ :: ds, _, 0, h => by
    cases h with
    | cons h1 h2 => exact .cons r h2
  | _ :: ds, _, n + 1, h => by
    cases h with
    | cons h1 h2 => exact .cons h1 (Reps.set r n h2)
theorem Reps.one {d : D} {v : V} (r : Rep K H ok d v) : Reps K H ok [d] [v] := .cons r .nil
theorem Reps.reverse : ∀ {ds : List D} {vs : List V}, Reps K H ok ds vs → Reps K H ok ds.reverse vs.reverse
  | [], _, h => by cases h; exact .nil
  | d :: ds, _, h => by
    cases h with
    | cons h1 h2 =>
      rw [List.reverse_cons, List.reverse_cons]
      exact (Reps.reverse h2).append (.one h1)
theorem Reps.rep {ds : List D} {vs : List V} (h : Reps K H ok ds vs) : ∀ k : Nat, Reps K H ok (List.replicate k ds).flatten (List.replicate k vs).flatten
  | 0 => .nil
  | k + 1 => by
    simp only [List.replicate_succ, List.flatten_cons]
    exact h.append (Reps.rep h k)
theorem Reps.ofInts : ∀ {ns : List Int} {ds : List D} {vs : List V}, intsD ds = some ns → Reps K H ok ds vs → vs = ns.map V.int ∧ ds = ns.map PyData.int
  | ns, [], _, e, h => by
    cases h
    simp [intsD] at e
    subst e
    exact ⟨rfl, rfl⟩
  | ns, d :: ds, _, e, h => by
    cases h with
    | cons h1 h2 =>
      cases d <;> simp [intsD] at e
      obtain ⟨ms, e1, e2⟩ := e
      subst e2
      obtain ⟨e3, e4⟩ := Reps.ofInts e1 h2
      cases h1
      subst e3; subst e4
      exact ⟨rfl, rfl⟩
theorem Reps.ofBls : ∀ {bs : List Bool} {ds : List D} {vs : List V}, bls ds = some bs → Reps K H ok ds vs → vs = bs.map V.bl
  | ns, [], _, e, h => by
    cases h
    simp [bls] at e
    subst e
    rfl
  | ns, d :: ds, _, e, h => by
    cases h with
    | cons h1 h2 =>
      cases d <;> simp [bls] at e
      obtain ⟨ms, e1, e2⟩ := e
      subst e2
      have e3 := Reps.ofBls e1 h2
      cases h1
      subst e3
      rfl
theorem Reps.ints : ∀ (ns : List Int), Reps K H ok (ns.map PyData.int) (ns.map V.int)
  | [] => .nil
  | n :: ns => .cons (.int n) (Reps.ints ns)
theorem Rep.list {ds : List D} {v : V} (h : Rep K H ok (.list ds) v) : ∃ a vs, v = .ref a ∧ H a = some (.lst vs) ∧ ok a ∧ Reps K H ok ds vs := by
  cases h with
  | lst h1 h2 h3 => exact ⟨_, _, rfl, h1, h2, h3⟩
theorem Rep.tuple {ds : List D} {v : V} (h : Rep K H ok (.tuple ds) v) : ∃ a vs, v = .ref a ∧ SqT K H a vs ∧ Reps K H ok ds vs := by
  cases h with
  | tup h1 h2 => exact ⟨_, _, rfl, h1, h2⟩
theorem Rep.int' {i : Int} {v : V} (h : Rep K H ok (.int i) v) : v = .int i := by cases h; rfl
theorem Rep.bl' {i : Bool} {v : V} (h : Rep K H ok (.bool i) v) : v = .bl i := by cases h; rfl
theorem Rep.str' {i : Str} {v : V} (h : Rep K H ok (.str i) v) : v = .str i := by cases h; rfl
theorem Rep.non' {v : V} (h : Rep K H ok .none v) : v = .non := by cases h; rfl
theorem Rep.frz' {kv} {v : V} (h : Rep K H ok (.dict kv) v) : ∃ a vs ds, kv = [(.none, .list ds)] ∧ v = .ref a ∧ SqF K H a vs ∧ Reps K H ok ds vs := by
  cases h with
  | frz h1 h2 => exact ⟨_, _, _, rfl, rfl, h1, h2⟩
/-! ### heaps that grow, that change at an own list -/
theorem rd_same {a : Addr} {u : HO} (s : Same H H') (h : Rd H a u) : Rd H' a u := h.elim (fun h => .inl (s _ _ h)) fun ⟨o, h⟩ => .inr ⟨o, s _ _ h⟩
theorem sqT_same {a : Addr} {vs : List V} (s : Same H H') (h : SqT K H a vs) : SqT K H' a vs := h.elim (fun h => .inl (rd_same s h)) .inr
theorem sqF_same {a : Addr} {vs : List V} (s : Same H H') (h : SqF K H a vs) : SqF K H' a vs := h.elim (fun ⟨o, h⟩ => .inl ⟨o, s _ _ h⟩) .inr
theorem Rep.same {d : D} {v : V} (s : Same H H') (h : Rep K H ok d v) : Rep K H' ok d v := Rep.mono (fun _ _ => sqT_same s) (fun _ _ => sqF_same s) (fun _ _ o h => ⟨o, s _ _ h⟩) d v h
theorem Reps.same {d : List D} {v : List V} (s : Same H H') (h : Reps K H ok d v) : Reps K H' ok d v := Reps.mono (fun _ _ => sqT_same s) (fun _ _ => sqF_same s) (fun _ _ o h => ⟨o, s _ _ h⟩) d v h
theorem Rep.weak {d : D} {v : V} (s : ∀ a, ok a → ok' a) (h : Rep K H ok d v) : Rep K H ok' d v := Rep.mono (fun _ _ h => h) (fun _ _ h => h) (fun a _ o h => ⟨s a o, h⟩) d v h
theorem Reps.weak {d : List D} {v : List V} (s : ∀ a, ok a → ok' a) (h : Reps K H ok d v) : Reps K H ok' d v := Reps.mono (fun _ _ h => h) (fun _ _ h => h) (fun a _ o h => ⟨s a o, h⟩) d v h
theorem sqT_upd {a b : Addr} {xs ys vs : List V} (e : H a = some (.lst xs)) (h : SqT K H b vs) : SqT K (L2.upd H a (.lst ys)) b vs := by
  rcases h with h | h
  · have n : b ≠ a := fun z => by
      subst z
      rcases h with h | ⟨o, h⟩ <;> (rw [e] at h; cases h)
    rcases h with h | ⟨o, h⟩
    · exact .inl (.inl (by rw [upd_ne n]; exact h))
    · exact .inl (.inr ⟨o, by rw [upd_ne n]; exact h⟩)
  · exact .inr h
theorem sqF_upd {a b : Addr} {xs ys vs : List V} (e : H a = some (.lst xs)) (h : SqF K H b vs) : SqF K (L2.upd H a (.lst ys)) b vs := by
  rcases h with ⟨o, h⟩ | h
  · have n : b ≠ a := fun z => by
      subst z
      rw [e] at h; cases h
    exact .inl ⟨o, by rw [upd_ne n]; exact h⟩
  · exact .inr h
theorem Rep.upd {a : Addr} {xs ys : List V} {d : D} {v : V} (e : H a = some (.lst xs)) (n : ∀ b, ok b → b ≠ a) (h : Rep K H ok d v) : Rep K (L2.upd H a (.lst ys)) ok d v :=
  Rep.mono (fun _ _ => sqT_upd e) (fun _ _ => sqF_upd e) (fun b _ o h => ⟨o, by rw [upd_ne (n b o)]; exact h⟩) d v h
theorem Reps.upd {a : Addr} {xs ys : List V} {d : List D} {v : List V} (e : H a = some (.lst xs)) (n : ∀ b, ok b → b ≠ a) (h : Reps K H ok d v) : Reps K (L2.upd H a (.lst ys)) ok d v :=
  Reps.mono (fun _ _ => sqT_upd e) (fun _ _ => sqF_upd e) (fun b _ o h => ⟨o, by rw [upd_ne (n b o)]; exact h⟩) d v h
/-- what is told stands where something is tracked -/
theorem Rep.old {p : Addr} (n : H p = none) {d : D} {v : V} (h : Rep K H ok d v) : Rep K H (fun b => ok b ∧ b ≠ p) d v :=
  Rep.mono (fun _ _ h => h) (fun _ _ h => h) (fun a _ o h => ⟨⟨o, fun z => by subst z; rw [n] at h; cases h⟩, h⟩) d v h
theorem Reps.old {p : Addr} (n : H p = none) {d : List D} {v : List V} (h : Reps K H ok d v) : Reps K H (fun b => ok b ∧ b ≠ p) d v :=
  Reps.mono (fun _ _ h => h) (fun _ _ h => h) (fun a _ o h => ⟨⟨o, fun z => by subst z; rw [n] at h; cases h⟩, h⟩) d v h
theorem same_new {p : Addr} {o : HO} (n : H p = none) : Same H (L2.upd H p o) := fun b x e => by
  rw [upd_ne (ne_of_none e n)]
  exact e
end

/-! ### the situation -/
/-- slot i's datum: a list of one's own (it may be written), or any datum that none writes -/
def RepS (K : PySem.W.Frag) (H : Hp) (ok : Addr → Prop) (F : Addr → Prop) (own : Bool) (d : D) (v : V) : Prop :=
  (own = true ∧ ∃ a vs ds, d = .list ds ∧ v = .ref a ∧ F a ∧ H a = some (.lst vs) ∧ Reps K H (fun b => ok b ∧ ¬ F b) ds vs) ∨ (Rep K H (fun b => ok b ∧ ¬ F b) d v ∧ (own = true → ∀ ds, d ≠ .list ds))
/-- H0 the heap at the entry; ok what was allowed there; F the lists of one's own; τ which slots hold one -/
structure SR (K : PySem.W.Frag) (H0 : Hp) (ok : Addr → Prop) (τ : List Bool) (F : Addr → Prop) (H : Hp) (σV : L2.St) (σD : Sg) : Prop where
  same : Same H0 H
  okn : ∀ b, H0 b = none → ok b
  own : ∀ a, F a → H0 a = none ∧ ∃ vs, H a = some (.lst vs)
  len : σV.length = σD.length
  val : ∀ (i : Nat) (d : D), σD[i]? = some (some d) → ∃ v, σV[i]? = some (some v) ∧ RepS K H ok F (τ.getD i false) d v
  uniq : ∀ (i j : Nat) (a : Addr), F a → σV[i]? = some (some (V.ref a)) → σV[j]? = some (some (V.ref a)) → (∃ ds, σD[i]? = some (some (.list ds))) → (∃ ds, σD[j]? = some (some (.list ds))) → i = j
section
variable {K : PySem.W.Frag} {H0 H H' : Hp} {ok : Addr → Prop} {τ : List Bool} {F : Addr → Prop} {σV : L2.St} {σD : Sg}
theorem RepS.same {own : Bool} {d : D} {v : V} (s : Same H H') (h : RepS K H ok F own d v) : RepS K H' ok F own d v := by
  rcases h with ⟨e, a, vs, ds, e1, e2, f, h, r⟩ | h
  · exact .inl ⟨e, a, vs, ds, e1, e2, f, s _ _ h, r.same s⟩
  · exact .inr ⟨h.1.same s, h.2⟩
/-- the heap has grown -/
theorem SR.grow (R : SR K H0 ok τ F H σV σD) (s : Same H H') : SR K H0 ok τ F H' σV σD :=
  ⟨R.same.trans s, R.okn, fun a f => ⟨(R.own a f).1, (R.own a f).2.imp fun vs h => s _ _ h⟩, R.len, fun i d e => let ⟨v, h1, h2⟩ := R.val i d e; ⟨v, h1, h2.same s⟩, R.uniq⟩
end
end Eng
end
section
set_option Elab.async false
set_option linter.all false
set_option maxRecDepth 100000
set_option maxHeartbeats 1000000
/-! EngC: what the operators and built-ins do, told by data. -/
namespace Eng
open PySem PySem.Spec PyProof.Rows L2

/-- read: the top may be a list of one's own -/
def RO (K : PySem.W.Frag) (H : Hp) (ok : Addr → Prop) (d : D) (v : V) : Prop :=
  (∃ ds a vs, d = .list ds ∧ v = .ref a ∧ H a = some (.lst vs) ∧ Reps K H ok ds vs) ∨ Rep K H ok d v
/-- new: a list is one that did not stand in H -/
def RN (K : PySem.W.Frag) (ok : Addr → Prop) (H H' : Hp) (d : D) (v : V) : Prop :=
  (∃ ds a vs, d = .list ds ∧ v = .ref a ∧ H a = none ∧ H' a = some (.lst vs) ∧ Reps K H' (fun b => ok b ∧ b ≠ a) ds vs) ∨ ((∀ ds, d ≠ .list ds) ∧ Rep K H' ok d v)
inductive ROs (K : PySem.W.Frag) (H : Hp) (ok : Addr → Prop) : List D → List V → Prop
  | nil : ROs K H ok [] []
  | cons {d : D} {v : V} {ds : List D} {vs : List V} : RO K H ok d v → ROs K H ok ds vs → ROs K H ok (d :: ds) (v :: vs)
section
variable {K : PySem.W.Frag} {H H1 H' : Hp} {ok : Addr → Prop} {d : D} {v : V}
theorem RO.same (s : Same H H') (h : RO K H ok d v) : RO K H' ok d v := by
  rcases h with ⟨ds, a, vs, e1, e2, h, r⟩ | h
  · exact .inl ⟨ds, a, vs, e1, e2, s _ _ h, r.same s⟩
  · exact .inr (h.same s)
theorem ROs.same (s : Same H H') {ds : List D} {vs : List V} (h : ROs K H ok ds vs) : ROs K H' ok ds vs := by
  induction h with
  | nil => exact .nil
  | cons h _ ih => exact .cons (h.same s) ih
theorem RN.rep (n : ∀ b, H b = none → ok b) (h : RN K ok H H' d v) : Rep K H' ok d v := by
  rcases h with ⟨ds, a, vs, rfl, rfl, h0, h, r⟩ | ⟨_, h⟩
  · exact .lst h (n a h0) (r.weak fun _ z => z.1)
  · exact h
theorem RN.ro (h : RN K ok H H' d v) : RO K H' ok d v := by
  rcases h with ⟨ds, a, vs, rfl, rfl, h0, h, r⟩ | ⟨_, h⟩
  · exact .inl ⟨_, _, _, rfl, rfl, h, r.weak fun _ z => z.1⟩
  · exact .inr h
theorem RN.same0 (s : Same H H1) (h : RN K ok H1 H' d v) : RN K ok H H' d v := by
  rcases h with ⟨ds, a, vs, e1, e2, h0, h, r⟩ | h
  · exact .inl ⟨ds, a, vs, e1, e2, s.free h0, h, r⟩
  · exact .inr h
theorem RO.elems {ds : List D} (h : RO K H ok d v) (e : elems d = some ds) : ∃ a vs, v = .ref a ∧ (SqL K H a vs ∨ SqT K H a vs) ∧ Reps K H ok ds vs := by
  rcases h with ⟨ds', a, vs, rfl, e2, h, r⟩ | h
  · simp [Eng.elems] at e; subst e
    exact ⟨a, vs, e2, .inl (.inl (.inl h)), r⟩
  · cases h with
    | tup h1 h2 => simp [Eng.elems] at e; subst e; exact ⟨_, _, rfl, .inr h1, h2⟩
    | lst h1 h2 h3 => simp [Eng.elems] at e; subst e; exact ⟨_, _, rfl, .inl (.inl (.inl h1)), h3⟩
    | frz h1 h2 => simp [Eng.elems] at e; subst e; exact ⟨_, _, rfl, .inl h1.l, h2⟩
    | _ => simp [Eng.elems] at e
theorem RO.int {i : Int} (h : RO K H ok (.int i) v) : v = .int i := by
  rcases h with ⟨_, _, _, e, _⟩ | h
  · cases e
  · exact h.int'
theorem RO.bl {i : Bool} (h : RO K H ok (.bool i) v) : v = .bl i := by
  rcases h with ⟨_, _, _, e, _⟩ | h
  · cases e
  · exact h.bl'
theorem RO.str {i : Str} (h : RO K H ok (.str i) v) : v = .str i := by
  rcases h with ⟨_, _, _, e, _⟩ | h
  · cases e
  · exact h.str'
theorem RO.non (h : RO K H ok .none v) : v = .non := by
  rcases h with ⟨_, _, _, e, _⟩ | h
  · cases e
  · exact h.non'
theorem RO.tup {ds : List D} (h : RO K H ok (.tuple ds) v) : ∃ a vs, v = .ref a ∧ SqT K H a vs ∧ Reps K H ok ds vs := by
  rcases h with ⟨_, _, _, e, _⟩ | h
  · cases e
  · exact h.tuple
theorem RO.lst {ds : List D} (h : RO K H ok (.list ds) v) : ∃ a vs, v = .ref a ∧ H a = some (.lst vs) ∧ Reps K H ok ds vs := by
  rcases h with ⟨_, _, _, e, e2, h, r⟩ | h
  · cases e; exact ⟨_, _, e2, h, r⟩
  · obtain ⟨a, vs, e, h, _, r⟩ := h.list
    exact ⟨a, vs, e, h, r⟩
theorem RO.dp (c : d.canLay0 = true) (h : RO K H ok d v) : Dp K H v d := by
  rcases h with ⟨ds, a, vs, rfl, rfl, h, r⟩ | h
  · exact .lst (.inl (.inl h)) (Reps.dp ds _ (by simpa [PyData.canLay0] using c) r)
  · exact h.dp _ _ c
theorem RN.int (i : Int) : RN K ok H H' (.int i) (.int i) := .inr ⟨(fun _ e => nomatch e), .int i⟩
theorem RN.bl (i : Bool) : RN K ok H H' (.bool i) (.bl i) := .inr ⟨(fun _ e => nomatch e), .bl i⟩
/-- a new list, a new tuple -/
theorem RN.newL {p : Addr} {ds : List D} {vs : List V} (n : H p = none) (r : Reps K H ok ds vs) : RN K ok H (upd H p (.lst vs)) (.list ds) (.ref p) :=
  .inl ⟨ds, p, vs, rfl, rfl, n, upd_same, (r.old n).same (same_new n)⟩
theorem RN.newT {p : Addr} {ds : List D} {vs : List V} (n : H p = none) (r : Reps K H ok ds vs) : RN K ok H (upd H p (.tup vs)) (.tuple ds) (.ref p) :=
  .inr ⟨(fun _ e => nomatch e), .tup (.inl (.inl upd_same)) (r.same (same_new n))⟩
theorem RN.oldT {p : Addr} {ds : List D} {vs : List V} (h : SqT K H p vs) (r : Reps K H ok ds vs) : RN K ok H H (.tuple ds) (.ref p) := .inr ⟨(fun _ e => nomatch e), .tup h r⟩
end
/-! ### the forms of rules -/
def Okn (H : Hp) (ok : Addr → Prop) : Prop := ∀ b, H b = none → ok b
theorem Okn.same {H H' : Hp} {ok : Addr → Prop} (n : Okn H ok) (s : Same H H') : Okn H' ok := fun b e => n b (s.free e)
def rD2 (K : PySem.W.Frag) (f : D → D → Option D) : R2 := fun x y H Q => ∃ ok d e z, Okn H ok ∧ RO K H ok d x ∧ RO K H ok e y ∧ f d e = some z ∧ ∀ v H', Same H H' → RN K ok H H' z v → Q v H'
def rDc (K : PySem.W.Frag) (g : List D → Option D) : List V → Hp → VK → Prop := fun vs H Q => ∃ ok ds z, Okn H ok ∧ ROs K H ok ds vs ∧ g ds = some z ∧ ∀ v H', Same H H' → RN K ok H H' z v → Q v H'
theorem lenOk_le {n : Nat} (h : lenOk n = true) : n ≤ sizeLine := by rw [sizeLine_eq]; exact Nat.le_of_ble_eq_true h
theorem lenLt_lt {n : Nat} (h : lenLt n = true) : n < sizeLine := by rw [sizeLine_eq]; exact Nat.le_of_ble_eq_true h
/-! ### numbers -/
theorem b64_ok {i : Int} (h : b64 i = true) : -(2 ^ 64) < i ∧ i < 2 ^ 64 := by
  unfold b64 at h
  rw [Bool.and_eq_true] at h
  exact ⟨of_decide_eq_true h.1, of_decide_eq_true h.2⟩
theorem mulOk_ok {i j : Int} (h : mulOk i j = true) : IntMulOk i j := by
  unfold mulOk at h
  rw [Bool.or_eq_true, Bool.or_eq_true] at h
  rcases h with (h | h) | h
  · exact CMul.ok (.inl (b64_ok h))
  · exact CMul.ok (.inr (b64_ok h))
  · exact CMulW.ok (Nat.le_of_ble_eq_true h)
theorem divOk_ok {j : Int} (h : divOk j = true) : j ≠ 0 ∧ j.natAbs.log2 < 9000 := by
  unfold divOk at h
  rw [Bool.and_eq_true] at h
  exact ⟨by simpa using h.1, Nat.le_of_ble_eq_true h.2⟩
theorem powOk_ok {i j : Int} (h : powOk i j = true) : CPow i j := by
  unfold powOk at h
  rw [Bool.and_eq_true, Bool.and_eq_true] at h
  exact ⟨of_decide_eq_true h.1.1, of_decide_eq_true h.1.2, Nat.le_of_ble_eq_true h.2⟩
def opOf : Bop → Operator
  | .add => .Add | .sub => .Sub | .mul => .Mult | .fdiv => .FloorDiv | .mod => .Mod | .pow => .Pow | .shl => .LShift | .shr => .RShift | .band => .BitAnd | .bor => .BitOr | .bxor => .BitXor
def copOf : Cop → CmpOp
  | .eq => .Eq | .ne => .NotEq | .lt => .Lt | .le => .LtE | .gt => .Gt | .ge => .GtE | .is => .Is | .isnot => .IsNot | .isin => .In | .notin => .NotIn
section
variable {X : Cx}
/-- two ints -/
theorem op_binI (o : Bop) : OpR X (binaryOp (opOf o)) (fun x y H Q => ∃ i j z, x = .int i ∧ y = .int j ∧ binI o i j = some z ∧ Q (.int z) H) := by
  intro pins s σ H x y v u Q I rx ry h
  obtain ⟨i, j, z, rfl, rfl, hz, q⟩ := h
  cases o with
  | add => simp only [binI, Option.some.injEq] at hz; subst hz; exact op_add pins s σ H _ _ v u Q I rx ry ⟨i, j, rfl, rfl, q⟩
  | sub => simp only [binI, Option.some.injEq] at hz; subst hz; exact op_sub pins s σ H _ _ v u Q I rx ry ⟨i, j, rfl, rfl, q⟩
  | mul =>
    simp only [binI, Option.ite_none_right_eq_some, Option.some.injEq] at hz
    obtain ⟨hm, rfl⟩ := hz
    obtain ⟨t, rfl⟩ := rx
    obtain ⟨t', rfl⟩ := ry
    exact mul_int ⟨.int _, H, I.tok _, ⟨_, rfl⟩, q⟩ (mulOk_ok hm)
  | fdiv =>
    simp only [binI, Option.ite_none_right_eq_some, Option.some.injEq] at hz
    obtain ⟨hm, rfl⟩ := hz
    obtain ⟨t, rfl⟩ := rx
    obtain ⟨t', rfl⟩ := ry
    exact floordiv_int (divOk_ok hm).1 ⟨.int _, H, I.tok _, ⟨_, rfl⟩, q⟩ (.inl (PyProof.noPylong_of_log2 (divOk_ok hm).2))
  | mod =>
    simp only [binI, Option.ite_none_left_eq_some, Option.some.injEq] at hz
    obtain ⟨hm, rfl⟩ := hz
    exact op_modN pins s σ H _ _ v u Q I rx ry ⟨i, j, rfl, rfl, by simpa using hm, q⟩
  | pow =>
    simp only [binI, Option.ite_none_right_eq_some, Option.some.injEq] at hz
    obtain ⟨hm, rfl⟩ := hz
    exact op_pow pins s σ H _ _ v u Q I rx ry ⟨i, j, rfl, rfl, powOk_ok hm, q⟩
  | shl =>
    simp only [binI, Option.ite_none_right_eq_some, Option.some.injEq] at hz
    obtain ⟨hm, rfl⟩ := hz
    exact op_shl pins s σ H _ _ v u Q I rx ry ⟨i, j, rfl, rfl, powOk_ok hm, q⟩
  | shr =>
    simp only [binI, Option.ite_none_right_eq_some, Option.some.injEq] at hz
    obtain ⟨hm, rfl⟩ := hz
    exact op_shr pins s σ H _ _ v u Q I rx ry ⟨i, j, rfl, rfl, by simpa using hm, q⟩
  | band => simp only [binI, Option.some.injEq] at hz; subst hz; exact op_and pins s σ H _ _ v u Q I rx ry ⟨i, j, rfl, rfl, q⟩
  | bor => simp only [binI, Option.some.injEq] at hz; subst hz; exact op_or pins s σ H _ _ v u Q I rx ry ⟨i, j, rfl, rfl, q⟩
  | bxor => simp only [binI, Option.some.injEq] at hz; subst hz; exact op_xor pins s σ H _ _ v u Q I rx ry ⟨i, j, rfl, rfl, q⟩
/-- in place -/
theorem iop_binI (o : Bop) : OpR X (inplaceOp (opOf o)) (fun x y H Q => ∃ i j z, x = .int i ∧ y = .int j ∧ binI o i j = some z ∧ (o ≠ .pow) ∧ Q (.int z) H) := by
  intro pins s σ H x y v u Q I rx ry h
  obtain ⟨i, j, z, rfl, rfl, hz, hp, q⟩ := h
  cases o with
  | add => simp only [binI, Option.some.injEq] at hz; subst hz; exact iop_add pins s σ H _ _ v u Q I rx ry ⟨i, j, rfl, rfl, q⟩
  | sub => simp only [binI, Option.some.injEq] at hz; subst hz; exact iop_sub pins s σ H _ _ v u Q I rx ry ⟨i, j, rfl, rfl, q⟩
  | mul =>
    simp only [binI, Option.ite_none_right_eq_some, Option.some.injEq] at hz
    obtain ⟨hm, rfl⟩ := hz
    obtain ⟨t, rfl⟩ := rx
    obtain ⟨t', rfl⟩ := ry
    exact imul_int ⟨.int _, H, I.tok _, ⟨_, rfl⟩, q⟩ (mulOk_ok hm)
  | fdiv =>
    simp only [binI, Option.ite_none_right_eq_some, Option.some.injEq] at hz
    obtain ⟨hm, rfl⟩ := hz
    obtain ⟨t, rfl⟩ := rx
    obtain ⟨t', rfl⟩ := ry
    exact ifloordiv_int (divOk_ok hm).1 ⟨.int _, H, I.tok _, ⟨_, rfl⟩, q⟩ (.inl (PyProof.noPylong_of_log2 (divOk_ok hm).2))
  | mod =>
    simp only [binI, Option.ite_none_left_eq_some, Option.some.injEq] at hz
    obtain ⟨hm, rfl⟩ := hz
    obtain ⟨t, rfl⟩ := rx
    obtain ⟨t', rfl⟩ := ry
    exact imod_int (by simpa using hm) ⟨.int _, H, I.tok _, ⟨_, rfl⟩, q⟩
  | pow => exact absurd rfl hp
  | shl =>
    simp only [binI, Option.ite_none_right_eq_some, Option.some.injEq] at hz
    obtain ⟨hm, rfl⟩ := hz
    exact iop_shl pins s σ H _ _ v u Q I rx ry ⟨i, j, rfl, rfl, powOk_ok hm, q⟩
  | shr =>
    simp only [binI, Option.ite_none_right_eq_some, Option.some.injEq] at hz
    obtain ⟨hm, rfl⟩ := hz
    exact iop_shr pins s σ H _ _ v u Q I rx ry ⟨i, j, rfl, rfl, by simpa using hm, q⟩
  | band => simp only [binI, Option.some.injEq] at hz; subst hz; exact iop_and pins s σ H _ _ v u Q I rx ry ⟨i, j, rfl, rfl, q⟩
  | bor => simp only [binI, Option.some.injEq] at hz; subst hz; exact iop_or pins s σ H _ _ v u Q I rx ry ⟨i, j, rfl, rfl, q⟩
  | bxor => simp only [binI, Option.some.injEq] at hz; subst hz; exact iop_xor pins s σ H _ _ v u Q I rx ry ⟨i, j, rfl, rfl, q⟩
end
end Eng
end
section
set_option Elab.async false
set_option linter.all false
set_option maxRecDepth 100000
set_option maxHeartbeats 1000000
/-! EngC2: operators over tuples and lists, comparisons, subscripts. -/
namespace Eng
open PySem PySem.Spec PyProof.Rows L2

/-! ### tuple * int, in every case -/
section
variable {prog : Program} {w : World} {A : Around} {E : Value → Shared → Prop} {s : Shared}
theorem tuple_mul_same (l : Addr) (items : Array Value) (n : Nat) (dd : Option Addr) (sl : Array (Option Value)) (x : Int) (u : Tok) (c0 : (decide (x < -(2 ^ 63)) || decide (x ≥ 2 ^ 63)) = false) (c1 : (items.isEmpty || x == 1) = true) :
    Meets (Builtin.«tuple.__mul__» ⟨[.ref l, .int x u], []⟩) (fun _ R s => s.heap.get? l = some { cls := .type "tuple", dict := dd, data := .seq items n, slots := sl } ∧ R (.ok (.ret (Value.ref l))) s) :=
  .of_wp fun prog w A R s h => by
    obtain ⟨hp, g, d, tk, os⟩ := s
    obtain ⟨hl, h⟩ := h
    have f1 := AutoSeq1.idx_int
    wp_walk using wpAny_loadPart' hl
    repeat (first
      | (refine wpAny_ite_false (decide_eq_false (by rw [c0]; exact Bool.false_ne_true)) ?_; wp_walk using wpAny_loadPart' hl)
      | (refine wpAny_ite_true (decide_eq_true (by rw [c1])) ?_; wp_walk using wpAny_loadPart' hl))
    exact ⟨_, rfl, h⟩
theorem tuple_mul_none (l : Addr) (items : Array Value) (n : Nat) (dd : Option Addr) (sl : Array (Option Value)) (x : Int) (u : Tok) (c0 : (decide (x < -(2 ^ 63)) || decide (x ≥ 2 ^ 63)) = false) (c1 : (items.isEmpty || x == 1) = false) (c2 : (decide (x ≤ 0) || items.isEmpty) = true) :
    Meets (Builtin.«tuple.__mul__» ⟨[.ref l, .int x u], []⟩) (fun _ R s => s.heap.get? l = some { cls := .type "tuple", dict := dd, data := .seq items n, slots := sl } ∧
      R (.ok (.ret (Value.ref s.heap.objs.size))) { s with heap := s.heap.push { cls := Value.type "tuple", data := Data.seq #[] }, toks := s.toks }) :=
  .of_wp fun prog w A R s h => by
    obtain ⟨hp, g, d, tk, os⟩ := s
    obtain ⟨hl, h⟩ := h
    have f1 := AutoSeq1.idx_int
    wp_walk using wpAny_loadPart' hl
    repeat (first
      | (refine wpAny_ite_false (decide_eq_false (by rw [c0]; exact Bool.false_ne_true)) ?_; wp_walk using wpAny_loadPart' hl)
      | (refine wpAny_ite_false (decide_eq_false (by rw [c1]; exact Bool.false_ne_true)) ?_; wp_walk using wpAny_loadPart' hl)
      | (refine wpAny_ite_true (decide_eq_true (by rw [c2])) ?_; wp_walk using wpAny_loadPart' hl))
    exact ⟨_, rfl, h⟩
end
section
variable {X : Cx}
def rRepA (K : PySem.W.Frag) : R2 := fun x y H Q => ∃ l k xs, x = .ref l ∧ y = .int k ∧ SqT K H l xs ∧ -(2 ^ 63) ≤ k ∧ k < 2 ^ 63 ∧ xs.length * k.toNat ≤ sizeLine ∧
  ((List.replicate k.toNat xs).flatten = xs → Q (.ref l) H) ∧ ∀ p, H p = none → Q (.ref p) (upd H p (.tup (List.replicate k.toNat xs).flatten))
theorem op_repA : OpR X (binaryOp .Mult) (rRepA X.K) := by
  intro pins s σ H x y v u Q I rx ry h
  obtain ⟨l, k, xs, rfl, rfl, hT, k1, k2, hz, q1, q2⟩ := h
  cases rx
  obtain ⟨t, rfl⟩ := ry
  obtain ⟨its, r, ⟨⟨cls, dd, data, sl⟩, ho, hc, n, hd⟩, hs⟩ := I.tuple hT
  simp only at hc hd
  subst hc hd
  have hle : its.length = xs.length := r.length.symm
  have c0 : (decide (k < -(2 ^ 63)) || decide (k ≥ 2 ^ 63)) = false := by
    rw [decide_eq_false (by omega), decide_eq_false (by omega)] <;> rfl
  have go : ∀ {P : Value → Shared → Prop}, wpAny (model X.prog X.w) X.A.in1.in1 (call (.builtin "tuple.__mul__") [.ref l, .int k t]) P X.xe s → True := fun _ => trivial
  by_cases h1 : its.toArray.isEmpty = true ∨ k = 1
  · have c1 : (its.toArray.isEmpty || k == 1) = true := by
      rcases h1 with h1 | h1
      · rw [h1]; rfl
      · rw [h1]; simp
    have e : (List.replicate k.toNat xs).flatten = xs := by
      rcases h1 with h1 | h1
      · have : its = [] := by simpa using h1
        rw [this] at hle
        have : xs = [] := List.eq_nil_of_length_eq_zero hle.symm
        subst this
        simp
      · subst h1
        simp
    exact wpAny_binaryOp_repeat_ref (T := "tuple") (U := "int") (by decide) ⟨_, ho, rfl⟩ (fun s' => typeIs_int s' k t) noFill_tuple_mul F.fills_int_mul F.slot_int_rmul repeat_tuple F.slot_int_index.lookup
      (call_meets F.slot_int_rmul (typeIs_int s k t) F.entry_int_rmul (F.args_int_rmul_2 _ _) (int_rmul_tuple k t l its.toArray n dd sl)
        ⟨ho, rfl, ⟨_, ho, rfl⟩, call_meets F.slot_tuple_mul ⟨_, ho, rfl⟩ F.entry_tuple_mul (F.args_tuple_mul_2 _ _) (tuple_mul_same l its.toArray n dd sl k t c0 c1) ⟨ho, .ref l, H, I.tok _, rfl, q1 e⟩⟩)
  · have hi : its.toArray.isEmpty = false := by
      cases q : its.toArray.isEmpty with
      | false => rfl
      | true => exact absurd (.inl q) h1
    have hk1 : k ≠ 1 := fun e => h1 (.inr e)
    have c1 : (its.toArray.isEmpty || k == 1) = false := by
      rw [hi, Bool.false_or]
      exact beq_eq_false_iff_ne.mpr hk1
    by_cases h2 : k ≤ 0
    · have c2 : (decide (k ≤ 0) || its.toArray.isEmpty) = true := by
        rw [decide_eq_true h2] <;> rfl
      have e0 : k.toNat = 0 := by omega
      refine wpAny_binaryOp_repeat_ref (T := "tuple") (U := "int") (by decide) ⟨_, ho, rfl⟩ (fun s' => typeIs_int s' k t) noFill_tuple_mul F.fills_int_mul F.slot_int_rmul repeat_tuple F.slot_int_index.lookup
        (call_meets F.slot_int_rmul (typeIs_int s k t) F.entry_int_rmul (F.args_int_rmul_2 _ _) (int_rmul_tuple k t l its.toArray n dd sl)
          ⟨ho, rfl, ⟨_, ho, rfl⟩, call_meets F.slot_tuple_mul ⟨_, ho, rfl⟩ F.entry_tuple_mul (F.args_tuple_mul_2 _ _) (tuple_mul_none l its.toArray n dd sl k t c0 c1 c2) ⟨ho, ?_⟩⟩)
      have q2' := q2 s.heap.objs.size (I.hok.fresh (Nat.le_refl _))
      rw [e0] at q2'
      refine ⟨.ref s.heap.objs.size, _, I.laid (t' := s.toks) (o := .tup []) (fun b ob q => Heap.get?_push_of_some _ q) (Nat.le_refl _) ?_, rfl, q2'⟩
      exact ⟨Nat.zero_le _, [], .nil, IsTup.new _ _⟩
    · have c2 : (decide (k ≤ 0) || its.toArray.isEmpty) = false := by
        rw [hi, Bool.or_false]
        exact decide_eq_false h2
      have hsz0 : its.toArray.size = xs.length := by rw [List.size_toArray, hle]
      have hzI : (xs.length : Int) * k ≤ 16777216 := by
        have e : ((xs.length * k.toNat : Nat) : Int) = (xs.length : Int) * k := by
          rw [Int.natCast_mul, Int.toNat_of_nonneg (by omega)]
        rw [← e]
        rw [sizeLine_eq] at hz
        exact Int.ofNat_le.mpr hz
      have flen : (List.replicate k.toNat its).flatten.length ≤ sizeLine := by
        rw [PyProof.Rows.lm_len_rep_flat, hle, Nat.mul_comm]
        exact hz
      have c4 : Builtin.Tuple.tupleTooMany (((its.toArray.size : Nat) : Int) * k) = false := by
        unfold Builtin.Tuple.tupleTooMany
        rw [sizeLine_eq, hsz0]
        exact decide_eq_false (by omega)
      refine wpAny_binaryOp_repeat_ref (T := "tuple") (U := "int") (by decide) ⟨_, ho, rfl⟩ (fun s' => typeIs_int s' k t) noFill_tuple_mul F.fills_int_mul F.slot_int_rmul repeat_tuple F.slot_int_index.lookup
        (call_meets F.slot_int_rmul (typeIs_int s k t) F.entry_int_rmul (F.args_int_rmul_2 _ _) (int_rmul_tuple k t l its.toArray n dd sl)
          ⟨ho, rfl, ⟨_, ho, rfl⟩, call_meets F.slot_tuple_mul ⟨_, ho, rfl⟩ F.entry_tuple_mul (F.args_tuple_mul_2 _ _) (tuple_mulW l its.toArray n dd sl k t c0 c1 c2 (by rw [hsz0]; omega) c4 (by rw [size_rep, List.size_toArray]; exact flen)) ⟨ho, ?_⟩⟩)
      rw [size_rep]
      refine ⟨.ref s.heap.objs.size, _, I.laid (t' := s.toks) (o := .tup (List.replicate k.toNat xs).flatten) (fun b ob q => Heap.get?_push_of_some _ q) (Nat.le_refl _) ?_, rfl, q2 _ (I.hok.fresh (Nat.le_refl _))⟩
      exact ⟨by rw [PyProof.Rows.lm_len_rep_flat, Nat.mul_comm]; exact hz, _, r.rep k.toNat, IsTup.new _ _⟩

/-! ### every binary operator -/
theorem op_bin (o : Bop) : OpR X (binaryOp (opOf o)) (rD2 X.K (bin o)) := by
  intro pins s σ H x y v u Q I rx ry h
  obtain ⟨ok, d, e, z, hn, rd, re, hz, q⟩ := h
  have fin : ∀ (i j : Int), d = .int i → e = .int j → wpAny (model X.prog X.w) X.A (binaryOp (opOf o) v u) (EP X pins σ Q) X.xe s := fun i j e1 e2 => by
    subst e1; subst e2
    have hz' : (binI o i j).map PyData.int = some z := by cases o <;> exact hz
    obtain ⟨k, hk, rfl⟩ := Option.map_eq_some_iff.mp hz'
    exact op_binI o pins s σ H x y v u Q I rx ry ⟨i, j, k, rd.int, re.int, hk, q _ _ (Same.refl _) (.int k)⟩
  cases d with
  | int i =>
    cases e with
    | int j => exact fin i j rfl rfl
    | _ => cases o <;> simp [bin] at hz
  | tuple xs =>
    cases e with
    | tuple ys =>
      cases o with
      | add =>
        simp only [bin, Option.ite_none_right_eq_some, Option.some.injEq] at hz
        obtain ⟨hl, rfl⟩ := hz
        obtain ⟨a, vs, rfl, ha, ra⟩ := rd.tup
        obtain ⟨b, ws, rfl, hb, rb⟩ := re.tup
        refine op_catA pins s σ H _ _ v u Q I rx ry ⟨a, b, vs, ws, rfl, rfl, ha, hb, by rw [ra.length, rb.length]; exact lenOk_le hl, fun e0 => ?_, fun _ e0 => ?_, fun _ _ p hp => ?_⟩
        · subst e0
          cases ra
          exact q _ _ (Same.refl _) (.oldT hb rb)
        · subst e0
          cases rb
          rw [List.append_nil] at q
          exact q _ _ (Same.refl _) (.oldT ha ra)
        · exact q _ _ (same_new hp) (.newT hp (ra.append rb))
      | _ => simp [bin] at hz
    | int k =>
      cases o with
      | mul =>
        simp only [bin, Option.ite_none_right_eq_some, Option.some.injEq] at hz
        obtain ⟨hl, rfl⟩ := hz
        obtain ⟨a, vs, rfl, ha, ra⟩ := rd.tup
        have e1 := re.int
        subst e1
        unfold repOk at hl
        rw [Bool.and_eq_true, Bool.and_eq_true] at hl
        refine op_repA pins s σ H _ _ v u Q I rx ry ⟨a, k, vs, rfl, rfl, ha, of_decide_eq_true hl.1.1, of_decide_eq_true hl.1.2, by rw [ra.length, sizeLine_eq]; exact Nat.le_of_ble_eq_true hl.2, fun e0 => ?_, fun p hp => ?_⟩
        · have rr := ra.rep k.toNat
          rw [e0] at rr
          exact q _ _ (Same.refl _) (.oldT ha rr)
        · exact q _ _ (same_new hp) (.newT hp (ra.rep _))
      | _ => simp [bin] at hz
    | _ => cases o <;> simp [bin] at hz
  | list xs =>
    cases e with
    | list ys =>
      cases o with
      | add =>
        simp only [bin, Option.ite_none_right_eq_some, Option.some.injEq] at hz
        obtain ⟨hl, rfl⟩ := hz
        obtain ⟨a, vs, rfl, ha, ra⟩ := rd.lst
        obtain ⟨b, ws, rfl, hb, rb⟩ := re.lst
        exact op_cat pins s σ H _ _ v u Q I rx ry ⟨a, b, vs, ws, rfl, rfl, ha, hb, by rw [ra.length, rb.length]; exact lenOk_le hl, fun p hp => q _ _ (same_new hp) (.newL hp (ra.append rb))⟩
      | _ => simp [bin] at hz
    | int k =>
      cases o with
      | mul =>
        simp only [bin, Option.ite_none_right_eq_some, Option.some.injEq] at hz
        obtain ⟨hl, rfl⟩ := hz
        obtain ⟨a, vs, rfl, ha, ra⟩ := rd.lst
        have e1 := re.int
        subst e1
        unfold repOk at hl
        rw [Bool.and_eq_true, Bool.and_eq_true] at hl
        exact op_rep pins s σ H _ _ v u Q I rx ry ⟨a, k, vs, rfl, rfl, ha, of_decide_eq_true hl.1.1, of_decide_eq_true hl.1.2, by rw [ra.length, sizeLine_eq]; exact Nat.le_of_ble_eq_true hl.2, fun p hp => q _ _ (same_new hp) (.newL hp (ra.rep _))⟩
      | _ => simp [bin] at hz
    | _ => cases o <;> simp [bin] at hz
  | bool a =>
    cases e with
    | bool b =>
      cases o with
      | sub =>
        simp only [bin, Option.some.injEq] at hz
        subst hz
        have e1 := rd.bl
        have e2 := re.bl
        subst e1 e2
        cases rx
        cases ry
        refine PyProof.Rows.sub_bool ⟨.int _, H, I.tok _, ⟨_, rfl⟩, q _ H (Same.refl _) ?_⟩
        show RN X.K ok H H (.int (b2i a - b2i b)) (.int _)
        have e3 : ∀ t : Bool, PyProof.Rows.b2i t = b2i t := fun t => rfl
        rw [e3, e3]
        exact .int _
      | _ => simp [bin] at hz
    | _ => cases o <;> simp [bin] at hz
  | _ => cases e <;> cases o <;> simp [bin] at hz
end
end Eng
end
section
set_option Elab.async false
set_option linter.all false
set_option maxRecDepth 100000
set_option maxHeartbeats 1000000
/-! EngC3: comparisons, truth, subscripts. -/
namespace Eng
open PySem PySem.Spec PyProof.Rows L2

theorem flat_shaped {d : D} (h : flatD d = true) : SeqAt.shaped d = true := by
  cases d <;> first | rfl | (simp [flatD] at h)
theorem canLay_all : ∀ {xs : List D}, xs.all SeqAt.shaped = true → PyData.canLayAll0 xs = true
  | [], _ => rfl
  | x :: xs, h => by
    rw [List.all_cons, Bool.and_eq_true] at h
    simp only [PyData.canLayAll0, Bool.and_eq_true]
    exact ⟨SeqAt.canLay_of_shaped h.1, canLay_all h.2⟩
def rCmp (K : PySem.W.Frag) (f : D → D → Option Bool) : R2 := fun x y H Q => ∃ ok d e b, RO K H ok d x ∧ RO K H ok e y ∧ f d e = some b ∧ Q (.bl b) H
section
variable {X : Cx}
theorem op_eqDD (hu : X.A.units + 64 < cLine) : OpR X (compareOp .Eq) (rCmp X.K eqD) := by
  intro pins s σ H x y v u Q I rx ry h
  obtain ⟨ok, d, e, b, rd, re, hb, q⟩ := h
  unfold eqD at hb
  split at hb
  · rename_i i j
    simp only [Option.some.injEq] at hb; subst hb
    have e1 := rd.int
    have e2 := re.int
    subst e1; subst e2
    exact op_eq pins s σ H _ _ v u Q I rx ry ⟨rfl, by rw [dec_int]; exact q⟩
  · rename_i i j
    simp only [Option.some.injEq] at hb; subst hb
    have e1 := rd.bl
    have e2 := re.bl
    subst e1; subst e2
    exact op_eq pins s σ H _ _ v u Q I rx ry ⟨rfl, by rw [dec_bl]; exact q⟩
  · simp only [Option.ite_none_right_eq_some, Option.some.injEq, Bool.and_eq_true] at hb
    obtain ⟨⟨s1, s2⟩, rfl⟩ := hb
    exact op_eqD hu pins s σ H x y v u Q I rx ry ⟨d, e, rd.dp (SeqAt.canLay_of_shaped s1), re.dp (SeqAt.canLay_of_shaped s2), s1, s2, q⟩
theorem op_neDD (hu : X.A.units + 64 < cLine) : OpR X (compareOp .NotEq) (rCmp X.K fun d e => (eqD d e).map (!·)) := by
  intro pins s σ H x y v u Q I rx ry h
  obtain ⟨ok, d, e, b, rd, re, hb, q⟩ := h
  obtain ⟨b, hc, rfl⟩ := Option.map_eq_some_iff.mp hb
  clear hb
  have hb := hc
  clear hc
  unfold eqD at hb
  split at hb
  · rename_i i j
    simp only [Option.some.injEq] at hb; subst hb
    have e1 := rd.int
    have e2 := re.int
    subst e1; subst e2
    exact op_ne pins s σ H _ _ v u Q I rx ry ⟨rfl, by rw [dec_int]; exact q⟩
  · rename_i i j
    simp only [Option.some.injEq] at hb; subst hb
    have e1 := rd.bl
    have e2 := re.bl
    subst e1; subst e2
    exact op_ne pins s σ H _ _ v u Q I rx ry ⟨rfl, by rw [dec_bl]; exact q⟩
  · simp only [Option.ite_none_right_eq_some, Option.some.injEq, Bool.and_eq_true] at hb
    obtain ⟨⟨s1, s2⟩, rfl⟩ := hb
    exact op_neD hu pins s σ H x y v u Q I rx ry ⟨d, e, rd.dp (SeqAt.canLay_of_shaped s1), re.dp (SeqAt.canLay_of_shaped s2), s1, s2, q⟩
/-- x in xs -/
theorem inD_some {d : D} {xs : List D} {b : Bool} (h : inD d xs = some b) : SeqAt.shaped d = true ∧ xs.all SeqAt.shaped = true ∧ b = xs.any fun y => PyData.eqv y d := by
  unfold inD at h
  split at h
  · rename_i hf
    rw [Bool.and_eq_true] at hf
    simp only [Option.some.injEq] at h
    exact ⟨flat_shaped hf.1, List.all_eq_true.mpr fun x hx => flat_shaped (List.all_eq_true.mp hf.2 x hx), h.symm⟩
  · split at h
    · rename_i hf
      rw [Bool.and_eq_true] at hf
      simp only [Option.some.injEq] at h
      exact ⟨hf.1, hf.2, h.symm⟩
    · cases h
theorem elems_cases {e : D} {xs : List D} (h : elems e = some xs) : e = .list xs ∨ e = .tuple xs ∨ e = frz xs := by
  unfold elems at h
  split at h <;> first | (simp only [Option.some.injEq] at h; subst h; simp) | cases h
theorem depth_lt {A : Around} (hu : A.units + 80 < cLine) {d : D} {xs : List D} (h : SeqAt.shaped d = true) : A.units + 1 + min (PyData.depthAll xs) d.depth < cLine := by
  have h1 := SeqAt.depth_of_shaped h
  have h2 : min (PyData.depthAll xs) d.depth ≤ d.depth := Nat.min_le_right _ _
  omega
theorem op_inDD (hu : X.A.units + 80 < cLine) : OpR X (compareOp .In) (rCmp X.K inE) := by
  intro pins s σ H x y v u Q I rx ry h
  obtain ⟨ok, d, e, b, rd, re, hb, q⟩ := h
  have core : ∀ xs, inD d xs = some b → e = .list xs ∨ e = .tuple xs → wpAny (model X.prog X.w) X.A (compareOp .In v u) (EP X pins σ Q) X.xe s := fun xs hb he => by
    obtain ⟨s1, s2, rfl⟩ := inD_some hb
    have cl := canLay_all s2
    obtain ⟨as, r1⟩ := Dp.reads I d x v (rd.dp (SeqAt.canLay_of_shaped s1)) rx
    have hc : e.canLay0 = true := by rcases he with rfl | rfl <;> simpa [PyData.canLay0] using cl
    obtain ⟨bs, r2⟩ := Dp.reads I e y u (re.dp hc) ry
    have p1 := PyData.plainAll_of_canLay0 xs cl
    have p2 := PyData.plain_of_canLay0 d (SeqAt.canLay_of_shaped s1)
    rcases he with rfl | rfl
    · exact PySem.SeqAt.in_list_data r2 r1 p1 p2 (depth_lt hu s1) ⟨.bl _, H, I, rfl, q⟩
    · exact PySem.SeqAt.in_tuple_data r2 r1 p1 p2 (depth_lt hu s1) ⟨.bl _, H, I, rfl, q⟩
  unfold inE at hb
  split at hb
  · exact core _ hb (.inl rfl)
  · exact core _ hb (.inr rfl)
  · cases hb
theorem op_notinDD (hu : X.A.units + 80 < cLine) : OpR X (compareOp .NotIn) (rCmp X.K fun d e => (inE d e).map (!·)) := by
  intro pins s σ H x y v u Q I rx ry h
  obtain ⟨ok, d, e, b, rd, re, hb, q⟩ := h
  obtain ⟨b, hc, rfl⟩ := Option.map_eq_some_iff.mp hb
  clear hb
  have hb := hc
  clear hc
  have core : ∀ xs, inD d xs = some b → e = .list xs ∨ e = .tuple xs → wpAny (model X.prog X.w) X.A (compareOp .NotIn v u) (EP X pins σ Q) X.xe s := fun xs hb he => by
    obtain ⟨s1, s2, rfl⟩ := inD_some hb
    have cl := canLay_all s2
    obtain ⟨as, r1⟩ := Dp.reads I d x v (rd.dp (SeqAt.canLay_of_shaped s1)) rx
    have hc : e.canLay0 = true := by rcases he with rfl | rfl <;> simpa [PyData.canLay0] using cl
    obtain ⟨bs, r2⟩ := Dp.reads I e y u (re.dp hc) ry
    have p1 := PyData.plainAll_of_canLay0 xs cl
    have p2 := PyData.plain_of_canLay0 d (SeqAt.canLay_of_shaped s1)
    rcases he with rfl | rfl
    · exact PySem.SeqAt.notIn_list_data r2 r1 p1 p2 (depth_lt hu s1) ⟨.bl _, H, I, rfl, q⟩
    · exact PySem.SeqAt.notIn_tuple_data r2 r1 p1 p2 (depth_lt hu s1) ⟨.bl _, H, I, rfl, q⟩
  unfold inE at hb
  split at hb
  · exact core _ hb (.inl rfl)
  · exact core _ hb (.inr rfl)
  · cases hb
theorem RO.isnon {K : PySem.W.Frag} {H : Hp} {ok : Addr → Prop} {d : D} {v : V} (h : RO K H ok d v) : decide (v = .non) = isNonD d := by
  rcases h with ⟨ds, a, vs, rfl, rfl, _⟩ | h
  · exact decide_eq_false (by intro z; cases z)
  · cases h <;> first | rfl | exact decide_eq_false (by intro z; cases z)
theorem op_cmp (hu : X.A.units + 80 < cLine) (o : Cop) : OpR X (compareOp (copOf o)) (rCmp X.K (cmp o)) := by
  intro pins s σ H x y v u Q I rx ry h
  have hh := h
  obtain ⟨ok, d, e, b, rd, re, hb, q⟩ := h
  have hu64 : X.A.units + 64 < cLine := by omega
  have hu0 : X.A.units < cLine := by omega
  have ii : ∀ (i j : Int), d = .int i → e = .int j → x = .int i ∧ y = .int j := fun i j e1 e2 => by
    subst e1; subst e2
    exact ⟨rd.int, re.int⟩
  cases o with
  | eq => exact op_eqDD hu64 pins s σ H x y v u Q I rx ry hh
  | ne => exact op_neDD hu64 pins s σ H x y v u Q I rx ry hh
  | lt =>
    cases d <;> cases e <;> simp only [cmp, Option.some.injEq] at hb <;> try (cases hb; done)
    · subst hb
      obtain ⟨rfl, rfl⟩ := ii _ _ rfl rfl
      exact op_lt pins s σ H _ _ v u Q I rx ry ⟨_, _, rfl, rfl, q⟩
    · rename_i xs ys
      unfold ltT at hb
      simp only [Option.bind_eq_bind, Option.bind_eq_some_iff, Option.some.injEq] at hb
      obtain ⟨ns, h1, ms, h2, rfl⟩ := hb
      obtain ⟨a, vs, rfl, ha, ra⟩ := rd.tup
      obtain ⟨b, ws, rfl, hb, rb⟩ := re.tup
      obtain ⟨rfl, _⟩ := ra.ofInts h1
      obtain ⟨rfl, _⟩ := rb.ofInts h2
      exact op_ltT hu0 pins s σ H _ _ v u Q I rx ry ⟨a, b, ns, ms, rfl, rfl, ha, hb, q⟩
  | le =>
    cases d <;> cases e <;> simp only [cmp, Option.some.injEq] at hb <;> try (cases hb; done)
    subst hb
    obtain ⟨rfl, rfl⟩ := ii _ _ rfl rfl
    exact op_le pins s σ H _ _ v u Q I rx ry ⟨_, _, rfl, rfl, q⟩
  | gt =>
    cases d <;> cases e <;> simp only [cmp, Option.some.injEq] at hb <;> try (cases hb; done)
    subst hb
    obtain ⟨rfl, rfl⟩ := ii _ _ rfl rfl
    exact op_gt pins s σ H _ _ v u Q I rx ry ⟨_, _, rfl, rfl, q⟩
  | ge =>
    cases d <;> cases e <;> simp only [cmp, Option.some.injEq] at hb <;> try (cases hb; done)
    subst hb
    obtain ⟨rfl, rfl⟩ := ii _ _ rfl rfl
    exact op_ge pins s σ H _ _ v u Q I rx ry ⟨_, _, rfl, rfl, q⟩
  | is =>
    have e0 : e = .none := by
      cases e with
      | none => rfl
      | _ => simp [cmp] at hb
    subst e0
    have hb' : isNonD d = b := by
      simpa [cmp] using hb
    have := re.non
    subst this
    exact op_isN pins s σ H _ _ v u Q I rx ry ⟨rfl, by rw [rd.isnon, hb']; exact q⟩
  | isnot =>
    have e0 : e = .none := by
      cases e with
      | none => rfl
      | _ => simp [cmp] at hb
    subst e0
    have hb' : (!isNonD d) = b := by
      simpa [cmp] using hb
    have := re.non
    subst this
    exact op_notN pins s σ H _ _ v u Q I rx ry ⟨rfl, by rw [rd.isnon, hb']; exact q⟩
  | isin => exact op_inDD hu pins s σ H x y v u Q I rx ry ⟨ok, d, e, b, rd, re, by simpa [cmp] using hb, q⟩
  | notin => exact op_notinDD hu pins s σ H x y v u Q I rx ry ⟨ok, d, e, b, rd, re, by simpa [cmp] using hb, q⟩

/-! ### truth -/
theorem truth_ok {K : PySem.W.Frag} {H : Hp} {ok : Addr → Prop} {d : D} {v : V} {k : Bool} (h : truth d = some k) (r : RO K H ok d v) : TruV K v H k := by
  have em : ∀ {ds : List D} {vs : List V}, Reps K H ok ds vs → vs.isEmpty = ds.isEmpty := fun {ds vs} r => by
    cases r <;> rfl
  cases d with
  | none => simp [truth] at h; have := r.non; subst this; exact h
  | bool b => simp [truth] at h; have := r.bl; subst this; exact h.symm
  | int i => simp only [truth, Option.some.injEq] at h; have := r.int; subst this; exact h.symm
  | str x =>
    simp only [truth, Option.ite_none_right_eq_some, Option.some.injEq] at h
    have := r.str
    subst this
    refine ⟨lenOk_le h.1, ?_⟩
    rw [← h.2]
    cases x.length with
    | zero => rfl
    | succ n =>
      have e1 : ((n + 1 : Nat) != 0) = true := by simp
      have e2 : (((n + 1 : Nat) : Int) != 0) = true := by
        rw [bne_iff_ne]
        omega
      rw [e1, e2]
  | list xs =>
    simp only [truth, Option.some.injEq] at h
    obtain ⟨a, vs, rfl, ha, ra⟩ := r.lst
    refine .inl ⟨vs, .inl (.inl ha), ?_⟩
    rw [em ra, ← h]
  | tuple xs =>
    simp only [truth, Option.some.injEq] at h
    obtain ⟨a, vs, rfl, ha, ra⟩ := r.tup
    refine .inr (.inl ⟨vs, ha, ?_⟩)
    rw [em ra, ← h]
  | dict kv => simp [truth] at h
end
end Eng
end
section
set_option Elab.async false
set_option linter.all false
set_option maxRecDepth 100000
set_option maxHeartbeats 1000000
/-! EngC4: subscripts, slices, built-in calls. -/
namespace Eng
open PySem PySem.Spec PyProof.Rows L2
/-- a part of what stands -/
def rDA2 (K : PySem.W.Frag) (f : D → D → Option D) : R2 := fun x y H Q => ∃ ok d e z, RO K H ok d x ∧ RO K H ok e y ∧ f d e = some z ∧ ∀ v, Rep K H ok z v → Q v H
def rDs (K : PySem.W.Frag) : V → Option Int → Option Int → Hp → VK → Prop := fun x lo hi H Q => ∃ ok d z, Okn H ok ∧ RO K H ok d x ∧ slD d lo hi = some z ∧ ∀ v H', Same H H' → RN K ok H H' z v → Q v H'
section
variable {X : Cx}
theorem at_rep {K : PySem.W.Frag} {H : Hp} {ok : Addr → Prop} {xs : List D} {vs : List V} {k : Int} {z : D} (r : Reps K H ok xs vs) (hk : at? xs k = some z) : ∃ w, L2.atI vs k = some w ∧ Rep K H ok z w := by
  unfold at? L2.atI at hk
  obtain ⟨j, h1, h2⟩ := Option.bind_eq_some_iff.mp hk
  obtain ⟨w, hw, rw_⟩ := r.get h2
  refine ⟨w, ?_, rw_⟩
  unfold L2.atI
  rw [r.length, h1]
  exact hw
theorem ix_D : IxR X (rDA2 X.K idx) := by
  intro value slice pins s σ H x y v u Q I rx ry h hs
  obtain ⟨ok, d, e, z, rd, re, hz, q⟩ := h
  unfold idx at hz
  split at hz
  · obtain ⟨a, vs, rfl, ha, ra⟩ := rd.lst
    obtain ⟨w, hw, rw_⟩ := at_rep ra hz
    have := re.int
    subst this
    exact ix_list value slice pins s σ H _ _ v u Q I rx ry ⟨a, vs, _, w, rfl, rfl, .inl (.inl ha), hw, q w rw_⟩ hs
  · obtain ⟨a, vs, rfl, ha, ra⟩ := rd.tup
    obtain ⟨w, hw, rw_⟩ := at_rep ra hz
    have := re.int
    subst this
    exact ix_tup value slice pins s σ H _ _ v u Q I rx ry ⟨a, vs, _, w, rfl, rfl, ha, hw, q w rw_⟩ hs
  · rcases rd with ⟨_, _, _, z, _⟩ | rd
    · cases z
    obtain ⟨a, vs, ds, z, rfl, ha, ra⟩ := rd.frz'
    simp only [List.cons.injEq, Prod.mk.injEq, PyData.list.injEq, true_and, and_true] at z
    subst z
    obtain ⟨w, hw, rw_⟩ := at_rep ra hz
    have := re.int
    subst this
    exact ix_list value slice pins s σ H _ _ v u Q I rx ry ⟨a, vs, _, w, rfl, rfl, ha.l, hw, q w rw_⟩ hs
  · cases hz
theorem cut_rep {K : PySem.W.Frag} {H : Hp} {ok : Addr → Prop} {xs : List D} {vs : List V} (r : Reps K H ok xs vs) (lo hi : Option Int) : Reps K H ok (cut xs lo hi) (cutV vs lo hi) := by
  unfold cut cutV
  rw [r.length]
  exact (r.drop _).take _
theorem sl_D : SlR X (rDs X.K) := by
  intro pins s σ H x v vl vu lo hi sl Q I rx hs pl pu h
  obtain ⟨ok, d, z, hn, rd, hz, q⟩ := h
  unfold slD at hz
  split at hz
  · simp only [Option.some.injEq] at hz
    subst hz
    obtain ⟨a, vs, rfl, ha, ra⟩ := rd.lst
    exact sl_list pins s σ H _ v vl vu lo hi sl Q I rx hs pl pu ⟨a, vs, rfl, .inl (.inl ha), fun p hp => q _ _ (same_new hp) (.newL hp (cut_rep ra lo hi))⟩
  · simp only [Option.some.injEq] at hz
    subst hz
    obtain ⟨a, vs, rfl, ha, ra⟩ := rd.tup
    refine sl_tupA pins s σ H _ v vl vu lo hi sl Q I rx hs pl pu ⟨a, vs, rfl, ha, fun hw => ?_, fun hw p hp => q _ _ (same_new hp) (.newT hp (cut_rep ra lo hi))⟩
    have hc := cut_rep ra lo hi
    have e : cutV vs lo hi = vs := by
      unfold cutV
      rw [hw.1, hw.2]
      simp
    rw [e] at hc
    exact q _ _ (Same.refl _) (.oldT ha hc)
  · cases hz
/-! ### t[::-1] -/
theorem filterMap_all {α β : Type} {f : α → Option β} {g : α → β} : ∀ {l : List α}, (∀ x ∈ l, f x = some (g x)) → l.filterMap f = l.map g
  | [], _ => rfl
  | x :: l, h => by
    rw [List.filterMap_cons, h x List.mem_cons_self, List.map_cons, filterMap_all fun y hy => h y (List.mem_cons_of_mem _ hy)]
theorem getItem_tuple_rev {prog : Program} {w : World} {A : Around} {E : Value → Shared → Prop} {s : Shared} {t sl : Addr} {items : Array Value} {vs : Value} {Q : Value → Shared → Prop} (ht : IsTup s.heap t items) (hs : s.heap.IsSliceOf sl .none .none vs) (ps : IsPart vs (some (-1)))
    (h : Q (.ref s.heap.objs.size) { s with heap := s.heap.push { cls := .type "tuple", data := .seq items.toList.reverse.toArray } }) (hsz : items.size ≤ sizeLine) : wpAny (model prog w) A (getItem (.ref t) (.ref sl)) Q E s := by
  have htake : sizeOk (.seq items.toList.reverse.toArray) := by
    show items.toList.reverse.toArray.size ≤ sizeLine
    simpa using hsz
  obtain ⟨os, hos, hcs, hds⟩ := id hs
  have hTs : s.TypeIs (.ref sl) "slice" := ⟨os, hos, hcs⟩
  unfold getItem
  try with_reducible refine wpAny_holding ?_
  first | refine wpAny_bind (wpAny_pure ?_) | skip
  refine wpAny_bind (wpAny_sequenceKey ht.typeIs (by decide) ?_)
  refine wpAny_bind (wpAny_callSpecial?_slot (name := Str.ofString "__getitem__") ht.typeIs PyProof.Rows.slot_tuple_getitem
    (wpAny_call_entry PyProof.Rows.slot_tuple_getitem ht.typeIs entry_tuple_getitem ?_ (args_tuple_getitem _ _)))
  show wpAny _ _ (Builtin.Tuple.tupleItemsOf (.ref t) >>= _) _ _ s
  refine wpAny_bind (tupleItemsOf_ ht ?_)
  refine wpAny_bind (wpAny_typeOf hTs ?_)
  rw [if_pos (by decide)]
  have places : Builtin.Slice.slicePlaces (Builtin.Slice.sliceAdjust none none (-1) (items.size : Int)).1 (Builtin.Slice.sliceAdjust none none (-1) (items.size : Int)).2 (-1) = items.size := by
    unfold Builtin.Slice.slicePlaces Builtin.Slice.sliceAdjust
    simp
    omega
  have start : (Builtin.Slice.sliceAdjust none none (-1) (items.size : Int)).1 = (items.size : Int) - 1 := by
    unfold Builtin.Slice.sliceAdjust
    simp
  have app : ∀ {P : Int × Int × Nat → Shared → Prop} {A E}, P ((items.size : Int) - 1, -1, items.size) s → wpAny (model prog w) A (Builtin.Slice.sliceApplied (.ref sl) (pure (items.size : Int))) P E s := fun {P A E} hP => by
    unfold Builtin.Slice.sliceApplied Builtin.Slice.sliceFields
    refine wpAny_bind (wpAny_bind (wpAny_field hos hds (x := .none) rfl (wpAny_bind (wpAny_field hos hds (x := .none) rfl (wpAny_bind (wpAny_field hos hds (x := vs) rfl (wpAny_pure ?_)))))))
    refine wpAny_bind (HT.slicePart_ ps ?_)
    show wpAny _ _ (if ((-1 : Int) == 0) = true then _ else _) _ _ s
    rw [if_neg (by decide)]
    refine wpAny_bind (HT.slicePart_ .none (wpAny_bind (HT.slicePart_ .none (wpAny_bind (wpAny_pure ?_)))))
    show wpAny _ _ (pure ((Builtin.Slice.sliceAdjust none none (-1) (items.size : Int)).1, (-1 : Int), Builtin.Slice.slicePlaces (Builtin.Slice.sliceAdjust none none (-1) (items.size : Int)).1 (Builtin.Slice.sliceAdjust none none (-1) (items.size : Int)).2 (-1))) _ _ s
    rw [places, start]
    exact wpAny_pure hP
  refine wpAny_bind (app ?_)
  show wpAny _ _ (if (((items.size : Int) - 1) == 0 && (-1 : Int) == 1 && items.size == items.size) = true then _ else _) _ _ s
  have hno : ¬ ((((items.size : Int) - 1) == 0 && (-1 : Int) == 1 && items.size == items.size) = true) := by
    rw [show ((-1 : Int) == 1) = false from rfl, Bool.and_false, Bool.false_and]
    exact Bool.false_ne_true
  rw [if_neg hno]
  have pick : ((List.range items.size).filterMap fun (m : Nat) => items[(((items.size : Int) - 1) + (m : Int) * -1).toNat]?).toArray = items.toList.reverse.toArray := by
    congr 1
    apply List.ext_getElem?
    intro i
    have e : (List.range items.size).filterMap (fun (m : Nat) => items[(((items.size : Int) - 1) + (m : Int) * -1).toNat]?) = (List.range items.size).map (fun (m : Nat) => items.toList.reverse.getD m .none) := by
      apply filterMap_all
      intro m hm
      have hm' : m < items.size := List.mem_range.mp hm
      have e1 : (((items.size : Int) - 1) + (m : Int) * -1).toNat = items.size - 1 - m := by omega
      rw [e1]
      have h2 : items.size - 1 - m < items.size := by omega
      rw [Array.getElem?_eq_getElem h2]
      simp only [List.getD_eq_getElem?_getD]
      rw [List.getElem?_reverse (by simpa using hm')]
      simp [h2]
    rw [e]
    rw [List.getElem?_map]
    by_cases hi : i < items.size
    · rw [List.getElem?_range hi]
      simp only [Option.map_some, List.getD_eq_getElem?_getD]
      rw [List.getElem?_eq_getElem (by simpa using hi)]
      rfl
    · rw [List.getElem?_eq_none (by simpa using hi), List.getElem?_eq_none (by simpa using hi)]
      rfl
  rw [pick]
  first
    | exact wpAny_bind (m := Builtin.Tuple.tupleExact _) (wpAny_newObj_type (wpAny_pure ⟨_, rfl, wpAny_pure h⟩) htake)
    | exact wpAny_bind (m := Builtin.Tuple.tupleExact _) (wpAny_newObj_type (wpAny_bind (wpAny_pure (wpAny_pure ⟨_, rfl, wpAny_pure h⟩))) htake)
    | exact wpAny_bind (wpAny_bind (m := Builtin.Tuple.tupleExact _) (wpAny_newObj_type (wpAny_pure (wpAny_pure ⟨_, rfl, wpAny_pure h⟩)) htake))
    | exact wpAny_bind (wpAny_bind (m := Builtin.Tuple.tupleExact _) (wpAny_newObj_type (wpAny_pure ⟨_, rfl, wpAny_pure h⟩) htake))
def tRevD (K : PySem.W.Frag) (te : TE) : TE := fun σ H Q => te σ H fun x H1 => ∃ ok d z, Okn H1 ok ∧ RO K H1 ok d x ∧ revD d = some z ∧ ∀ v H', Same H1 H' → RN K ok H1 H' z v → Q v H'
theorem pe_revD {e : Expr} {te : TE} {k : Nat} {p1 p2 p3 pos : Pos} (he : PE X e te) : PE X (.Subscript e (.Slice none none (some (.UnaryOp .USub (.Constant (.int 1) k p1) p2)) p3) pos) (tRevD X.K te) := by
  refine ⟨fun pins s σ H Q I h => ?_⟩
  refine Subscript_ (thn (he.run pins s σ H _ I h) fun v s1 ⟨x, H1, I1, r1, q1⟩ => ?_)
  obtain ⟨ok, d, z, hn, rd, hz, q⟩ := q1
  have hst : PO X (some (.UnaryOp .USub (.Constant (.int 1) k p1) p2)) (tPart (tUn (rU fun i => .int (-i)) (tC (.int 1)))) := po_some (pe_un un_neg pe_int)
  refine wpAny_Slice (thn (po_none.run pins s1 σ H1 (fun o H2 => o = none ∧ H2 = H1) I1 ⟨rfl, rfl⟩) fun vl s2 ⟨l, H2, I2, pl, el, e2⟩ => ?_)
  subst el e2
  refine thn (po_none.run pins s2 σ H2 (fun o H3 => o = none ∧ H3 = H2) I2 ⟨rfl, rfl⟩) fun vu s3 ⟨u, H3, I3, pu, eu, e3⟩ => ?_
  subst eu e3
  refine thn (hst.run pins s3 σ H3 (fun o H4 => o = some (-1) ∧ H4 = H3) I3 ⟨1, rfl, -1, rfl, rfl, rfl⟩) fun vs s4 ⟨o, H4, I4, ps, eo, e4⟩ => ?_
  subst eo e4
  have I5 : Inv X pins σ H4 { s4 with heap := s4.heap.push { cls := .type "slice", data := .fields #[vl, vu, vs] } } := I4.kept (t' := s4.toks) fun b ob q => Heap.get?_push_of_some _ q
  unfold revD at hz
  split at hz
  · simp only [Option.some.injEq] at hz
    subst hz
    obtain ⟨a, xs, rfl, hx, ra⟩ := rd.lst
    cases r1
    obtain ⟨its, r, ht, hz⟩ := I5.list (.inl (.inl hx))
    have hlen := r.length
    show wpAny (model X.prog X.w) X.A (subscriptTail e (.Slice none none (some (.UnaryOp .USub (.Constant (.int 1) k p1) p2)) p3) (.ref a) (.ref s4.heap.objs.size)) (EP X pins σ Q) X.xe { s4 with heap := s4.heap.push { cls := .type "slice", data := .fields #[vl, vu, vs] } }
    refine tail_any (ops := [.ref a, .ref s4.heap.objs.size]) ht.isList.typeIs (PySem.slot_list_getitem.lookup) ?_ (by with_unfolding_all rfl)
    refine wpAny_getItem_list_slice ht.isList (Heap.IsSliceOf.new _ vl vu vs) pl pu ps (by decide) ?_ (by rw [List.size_toArray]; omega)
    rw [PySem.W.krv_pick]
    refine ⟨.ref _, _, I5.laid (t' := s4.toks) (o := .lst xs.reverse) (fun b ob q => Heap.get?_push_of_some _ q) (Nat.le_refl _) ?_, rfl, q _ _ (same_new (I5.hok.fresh (Nat.le_refl _))) (.newL (I5.hok.fresh (Nat.le_refl _)) ra.reverse)⟩
    exact ⟨by rw [List.length_reverse]; exact hz, _, 0, r.reverse, Heap.get?_push_size _ rfl⟩
  · simp only [Option.some.injEq] at hz
    subst hz
    obtain ⟨a, xs, rfl, hx, ra⟩ := rd.tup
    cases r1
    obtain ⟨its, r, ht, hz⟩ := I5.tuple hx
    have hlen := r.length
    cases pl
    cases pu
    show wpAny (model X.prog X.w) X.A (subscriptTail e (.Slice none none (some (.UnaryOp .USub (.Constant (.int 1) k p1) p2)) p3) (.ref a) (.ref s4.heap.objs.size)) (EP X pins σ Q) X.xe { s4 with heap := s4.heap.push { cls := .type "slice", data := .fields #[.none, .none, vs] } }
    refine tail_any (ops := [.ref a, .ref s4.heap.objs.size]) ht.typeIs (PyProof.Rows.slot_tuple_getitem.lookup) ?_ (by with_unfolding_all rfl)
    refine getItem_tuple_rev ht (Heap.IsSliceOf.new _ .none .none vs) ps ?_ (by rw [List.size_toArray]; omega)
    refine ⟨.ref _, _, I5.laid (t' := s4.toks) (o := .tup xs.reverse) (fun b ob q => Heap.get?_push_of_some _ q) (Nat.le_refl _) ?_, rfl, q _ _ (same_new (I5.hok.fresh (Nat.le_refl _))) (.newT (I5.hok.fresh (Nat.le_refl _)) ra.reverse)⟩
    exact ⟨by rw [List.length_reverse]; exact hz, its.reverse, r.reverse, IsTup.new _ _⟩
  · cases hz
end
end Eng
end
section
set_option Elab.async false
set_option linter.all false
set_option maxRecDepth 100000
set_option maxHeartbeats 1000000
/-! EngS: sorted of a tuple. -/
namespace EngS
open PySem PySem.Calls PyProof.Rows PySem.W
section
variable {prog : Program} {w : World} {A : Around} {E : Value → Shared → Prop} {s : Shared}
/-- a tuple's items in a new list -/
theorem col_tup {t : Addr} {us : List Value} {Q : List Value → Shared → Prop} (ht : s.heap.IsTuple t us.toArray) (hz : us.length ≤ sizeLine)
    (k : Q us { s with heap := (s.heap.push (seqObj "list" #[] 0)).update s.heap.objs.size (Obj.mapSeq (· ++ us.toArray)) }) : wpAny (model prog w) A (collect (.ref t)) Q E s := by
  obtain ⟨ob, ob1, ob2, m, ob3⟩ := id ht
  unfold collect
  refine wpAny_bind (wpAny_runValue (codeAny_builtin entry_proto_collect' ?z1))
  case z1 =>
    show wpAny _ _ (do again (.builtin "list.__iadd__" ⟨[← newList [], .ref t], []⟩)) _ _ s
    refine wpAny_bind (wpAny_newList (wpAny_pure ⟨Code.quiet_builtin _ (by decide +kernel), codeAny_builtin entry_list_iadd' ?z2⟩))
    show wpAny _ _ (Builtin.List.listExtendWith (.ref s.heap.objs.size) (.ref t) (.ref s.heap.objs.size)) _ _ { s with heap := s.heap.push (seqObj "list" #[] 0) }
    unfold Builtin.List.listExtendWith
    have o1 : (s.heap.push (seqObj "list" #[] 0)).get? t = some ob := Heap.get?_push_of_some _ ob1
    refine wpAny_bind (wpAny_typeOf (T := "tuple") ⟨ob, o1, ob2⟩ ?_)
    have same : (Value.type "tuple" == Value.type "tuple") = true := rfl
    rw [if_pos (by rw [same]; simp)]
    refine wpAny_bind (listItems_at o1 ob3 (wpAny_bind (listItems_at (xs := #[]) (n := 0) (Heap.get?_push_size _ rfl) rfl ?_)))
    rw [if_neg (by simp)]
    refine wpAny_bind (listUpdate_at (xs := #[]) (n := 0) (Heap.get?_push_size _ rfl) rfl (wpAny_pure ?_) (Nat.zero_le _) (by show (#[] ++ us.toArray).size ≤ sizeLine + 1; simp only [Array.size_append, List.size_toArray, List.length_nil]; omega))
    show wpAny (model prog w) A (do
        let ob ← load s.heap.objs.size
        match ob.data with
        | .seq xs _ => pure xs.toList
        | _ => unsupported "internal:collect") Q E { s with heap := (s.heap.push (seqObj "list" #[] 0)).update s.heap.objs.size (Obj.mapSeq (· ++ us.toArray)) }
    refine wpAny_bind (wpAny_load (get?_update_seq (Heap.get?_push_size _ rfl) _) ?_)
    show wpAny _ _ (pure ((#[] : Array Value) ++ us.toArray).toList) Q E _
    rw [show ((#[] : Array Value) ++ us.toArray).toList = us by simp]
    exact wpAny_pure k
/-- sorted of a tuple: a new list, in order -/
theorem sort_tup {κ : PyProof.Rows.KeyKind} {t : Addr} {us : List Value} {Q : Value → Shared → Prop} (ht : s.heap.IsTuple t us.toArray) (S : SortsAt prog w A.in1.in1 { s with heap := sortingHeap (copyHeap s.heap us) (s.heap.objs.size + 1) us } κ us) (hz : us.length ≤ sizeLine)
    (k : Q (.ref (s.heap.objs.size + 1)) { s with heap := sortedAll s.heap us (sortVals κ false us us).toArray }) : wpAny (model prog w) A (call (.builtin "sorted") [.ref t]) Q E s := by
  refine call_function_entry_kw kind_sorted plain_sorted entry_sorted (args_sorted1 _) ?_
  unfold Builtin.«sorted»
  refine wpAny_bind (m := checkCount "sorted" 1 1 _) (wpAny_pure (wpAny_bind (col_tup ht hz (wpAny_bind (wpAny_newList ?_ hz)))))
  have sz : ((s.heap.push (seqObj "list" #[] 0)).update s.heap.objs.size (Obj.mapSeq (· ++ us.toArray))).objs.size = s.heap.objs.size + 1 := by rw [Heap.size_update, size_push']
  show wpAny _ _ _ _ _ { s with heap := copyHeap s.heap us }
  rw [sz]
  refine wpAny_bind (wpAny_holding (wpAny_call_entry_kw slot_list_sort ⟨_, copyHeap_at s.heap us, rfl⟩ entry_list_sort ?z (args_list_sort _)))
  case z =>
    show wpAny (model prog w) A.in1.in1 (Builtin.«list.sort» ⟨[.ref (s.heap.objs.size + 1)], []⟩) _ _ _
    refine wpAny_mono (list_sort_vals (s := { s with heap := copyHeap s.heap us }) (copyHeap_at s.heap us) S hz (P := fun f s' => f = .done (.ret .none) ∧ Q (.ref (s.heap.objs.size + 1)) s') ⟨rfl, k⟩) (fun f s' hf => ?_) fun _ _ e => e
    obtain ⟨rfl, hq⟩ := hf
    exact ⟨_, rfl, wpAny_pure ⟨_, rfl, hq⟩⟩
theorem sort_tup_data {β : Type} {vs : List Value} {bs : List β} {enc : β → PyData} {R : Value → β → Prop} {t : Addr} {Q : Value → Shared → Prop} (ht : s.heap.IsTuple t vs.toArray) (e : EachIs R vs bs) (er : EachIs (fun v b => ∃ as, Reads s.heap v (enc b) as) vs bs)
    (hal : AllAlike (bs.map enc)) (hk : Sortable (bs.map enc)) (hz : bs.length ≤ sizeLine) (hu : ∀ b, b ∈ bs → A.units + 2 + (enc b).depth < cLine)
    (k : ∀ out, out.length = bs.length → EachIs R out (bs.mergeSort (dataLe false enc)) → Q (.ref (s.heap.objs.size + 1)) { s with heap := sortedAll s.heap vs (List.toArray out) }) : wpAny (model prog w) A (call (.builtin "sorted") [.ref t]) Q E s := by
  have e2 : EachIs (fun v b => ∃ as, Reads (sortingHeap (copyHeap s.heap vs) (s.heap.objs.size + 1) vs) v (enc b) as) vs bs := er.mono fun _ _ ⟨as, r⟩ => ⟨as, PyProof.Rows.Reads.keeps (fun _ _ => sorting_copy_old) r⟩
  refine sort_tup ht (SortsAt.data (s := { s with heap := sortingHeap (copyHeap s.heap vs) (s.heap.objs.size + 1) vs }) (each_map (R := fun v d => ∃ as, Reads (sortingHeap (copyHeap s.heap vs) (s.heap.objs.size + 1) vs) v d as) enc e2) hal hk (bound_map hu)) (by rw [e.length]; exact hz) ?_
  exact k _ (by rw [sortVals_length false rfl]; exact e.length) (sortVals_data false e e2 hal)
end
end EngS
end
section
set_option Elab.async false
set_option linter.all false
set_option maxRecDepth 100000
set_option maxHeartbeats 1000000
/-! EngC5: built-in calls. -/
namespace Eng
open PySem PySem.Spec PyProof.Rows L2
section
variable {K : PySem.W.Frag} {H : Hp} {ok : Addr → Prop}
theorem RO.one {d : D} {vs : List V} (h : ROs K H ok [d] vs) : ∃ v, vs = [v] ∧ RO K H ok d v := by
  cases h with
  | cons h1 h2 => cases h2; exact ⟨_, rfl, h1⟩
theorem RO.two {d e : D} {vs : List V} (h : ROs K H ok [d, e] vs) : ∃ v w, vs = [v, w] ∧ RO K H ok d v ∧ RO K H ok e w := by
  cases h with
  | cons h1 h2 => obtain ⟨w, rfl, h⟩ := RO.one h2; exact ⟨_, _, rfl, h1, h⟩
theorem elemsP_elems {d : D} {xs : List D} (h : elemsP d = some xs) : elems d = some xs := by
  cases d <;> simp [elemsP] at h <;> exact congrArg some h
theorem RO.elemsP {d : D} {v : V} {ds : List D} (h : RO K H ok d v) (e : elemsP d = some ds) : ∃ a vs, v = .ref a ∧ ((d = .list ds ∧ H a = some (.lst vs)) ∨ (d = .tuple ds ∧ SqT K H a vs)) ∧ Reps K H ok ds vs := by
  cases d <;> simp [Eng.elemsP] at e
  · subst e
    obtain ⟨a, vs, rfl, ha, ra⟩ := h.lst
    exact ⟨a, vs, rfl, .inl ⟨rfl, ha⟩, ra⟩
  · subst e
    obtain ⟨a, vs, rfl, ha, ra⟩ := h.tup
    exact ⟨a, vs, rfl, .inr ⟨rfl, ha⟩, ra⟩
theorem sq_of {d : D} {ds : List D} {a : Addr} {vs : List V} (h : (d = .list ds ∧ H a = some (.lst vs)) ∨ (d = .tuple ds ∧ SqT K H a vs)) : SqL K H a vs ∨ SqT K H a vs := h.elim (fun h => .inl (.inl (.inl h.2))) fun h => .inr h.2
end
section
variable {prog : Program} {w : World} {A : Around} {E : Value → Shared → Prop} {s : Shared}
/-- sum of a tuple of ints -/
theorem sum_rawT {l : Addr} {its : List Value} {ns : List Int} {Q : Value → Shared → Prop} (hh : A.handled = none) (hl : s.heap.IsTuple l its.toArray) (hi : IntsAre its ns)
    (h : ∀ h' tk t', (∀ b o, s.heap.get? b = some o → h'.get? b = some o) → Q (.int ns.sum t') { s with heap := h', toks := tk }) : wpAny (model prog w) A (call (.builtin "sum") [.ref l]) Q E s := by
  have hlt : l < s.heap.objs.size := by obtain ⟨_, e, _⟩ := hl; exact Heap.lt_size e
  have at_ : ∀ {its : List Value} {ns : List Int}, IntsAre its ns → ∀ (i : Nat) (v : Value), its[i]? = some v → ∃ t, v = .int (ns.getD i 0) t := by
    intro its ns hi
    induction hi with
    | nil => intro i v e; simp at e
    | cons n t h ih =>
      intro i v e
      cases i with
      | zero => simp at e; subst e; exact ⟨t, rfl⟩
      | succ i => simpa using ih i v (by simpa using e)
  have hlen := hi.length
  refine call_sum_walkG (wpAny_pyIter_tuple hl ?_)
  refine ⟨s.heap.objs.size, [s.heap.objs.size, l], [s.heap.objs.size], _, _, _, fun i => ns.getD i 0, rfl, Walks.tuple (A := A.in1) hh _ l (Nat.ne_of_lt hlt) its.toArray, ⟨⟨_, Heap.get?_push_size _ rfl, rfl, rfl⟩, hl.push _⟩, fun b hb => ?_, fun i v hv => at_ hi i v (by simpa using hv), fun h' tk t' hk => ?_⟩
  · show b < (s.heap.push _).objs.size
    rw [Heap.size_push]
    rcases List.mem_cons.mp hb with rfl | hb
    · exact Nat.lt_succ_self _
    · rcases List.mem_cons.mp hb with rfl | hb
      · exact Nat.lt_succ_of_lt hlt
      · cases hb
  · have e : preSum (fun i => ns.getD i 0) its.toArray.size = ns.sum := by
      rw [preSum_list (h := fun v => match v with | .int i => i | _ => 0) (ns.map V.int) (fun i => ns.getD i 0) (fun i x hx => ?_) its.toArray.size (by simp; omega)]
      · rw [List.take_of_length_le (by simp; omega), List.map_map]
        congr 1
        exact List.map_id ns
      · rw [List.getElem?_map] at hx
        cases q : ns[i]? with
        | none => rw [q] at hx; cases hx
        | some n =>
          rw [q] at hx
          cases hx
          simp [q]
    rw [e]
    exact h h' tk t' fun b o eb => hk b o (fun hb => absurd (Heap.lt_size eb) ((List.mem_singleton.mp hb) ▸ Nat.lt_irrefl _)) (Heap.get?_push_of_some _ eb)
end
section
variable {X : Cx}
theorem c_len : CallR X (.builtin "len") (rDc X.K dLen) := by
  intro pins s σ H vs us Q I r h
  obtain ⟨ok, ds, z, hn, rs, hz, q⟩ := h
  unfold dLen at hz
  split at hz <;> try (cases hz; done)
  obtain ⟨xs, hx, rfl⟩ := Option.map_eq_some_iff.mp hz
  obtain ⟨v, rfl, rd⟩ := RO.one rs
  obtain ⟨a, ws, rfl, ha, ra⟩ := rd.elems hx
  have := q (.int ws.length) H (Same.refl _) (by rw [ra.length]; exact .int _)
  exact call_len_seq pins s σ H _ us Q I r ⟨a, ws, rfl, ha, this⟩
theorem c_sum (hc : X.calm = true) : CallR X (.builtin "sum") (rDc X.K dSum) := by
  intro pins s σ H vs us Q I r h
  obtain ⟨ok, ds, z, hn, rs, hz, q⟩ := h
  unfold dSum at hz
  split at hz <;> try (cases hz; done)
  obtain ⟨xs, hx, hz⟩ := Option.bind_eq_some_iff.mp hz
  obtain ⟨ns, hns, rfl⟩ := Option.map_eq_some_iff.mp hz
  obtain ⟨v, rfl, rd⟩ := RO.one rs
  obtain ⟨a, ws, rfl, ha, ra⟩ := rd.elemsP hx
  obtain ⟨rfl, _⟩ := ra.ofInts hns
  have qq := q (.int ns.sum) H (Same.refl _) (.int _)
  rcases ha with ⟨_, ha⟩ | ⟨_, ha⟩
  · exact cr_sum hc pins s σ H _ us Q I r ⟨a, ns, rfl, .inl (.inl ha), qq⟩
  · obtain ⟨its, rv, p, hz⟩ := I.tuple ha
    rw [Vals.ref1 r]
    exact sum_rawT (I.ok.hd hc) (show s.heap.IsTuple a its.toArray from p) rv.ints fun h' tk t' hk => ⟨.int _, H, I.kept (t' := tk) hk, ⟨_, rfl⟩, qq⟩
theorem c_all (hc : X.calm = true) : CallR X (.builtin "all") (rDc X.K dAll) := by
  intro pins s σ H vs us Q I r h
  obtain ⟨ok, ds, z, hn, rs, hz, q⟩ := h
  unfold dAll at hz
  split at hz <;> try (cases hz; done)
  obtain ⟨bs, hb, rfl⟩ := Option.map_eq_some_iff.mp hz
  obtain ⟨v, rfl, rd⟩ := RO.one rs
  obtain ⟨a, ws, rfl, ha, ra⟩ := rd.lst
  have := ra.ofBls hb
  subst this
  exact cr_all hc pins s σ H _ us Q I r ⟨a, bs, rfl, .inl (.inl ha), q _ H (Same.refl _) (.bl _)⟩
theorem c_any (hc : X.calm = true) : CallR X (.builtin "any") (rDc X.K dAny) := by
  intro pins s σ H vs us Q I r h
  obtain ⟨ok, ds, z, hn, rs, hz, q⟩ := h
  unfold dAny at hz
  split at hz <;> try (cases hz; done)
  obtain ⟨bs, hb, rfl⟩ := Option.map_eq_some_iff.mp hz
  obtain ⟨v, rfl, rd⟩ := RO.one rs
  obtain ⟨a, ws, rfl, ha, ra⟩ := rd.lst
  have := ra.ofBls hb
  subst this
  exact cr_any hc pins s σ H _ us Q I r ⟨a, bs, rfl, .inl (.inl ha), q _ H (Same.refl _) (.bl _)⟩
theorem c_abs : CallR X (.builtin "abs") (rDc X.K dAbs) := by
  intro pins s σ H vs us Q I r h
  obtain ⟨ok, ds, z, hn, rs, hz, q⟩ := h
  unfold dAbs at hz
  split at hz <;> try (cases hz; done)
  simp only [Option.some.injEq] at hz
  subst hz
  obtain ⟨v, rfl, rd⟩ := RO.one rs
  have := rd.int
  subst this
  exact call_abs pins s σ H _ us Q I r ⟨_, rfl, q _ H (Same.refl _) (.int _)⟩
theorem c_max2 (hc : X.calm = true) : CallR X (.builtin "max") (rDc X.K dMax2) := by
  intro pins s σ H vs us Q I r h
  obtain ⟨ok, ds, z, hn, rs, hz, q⟩ := h
  unfold dMax2 at hz
  split at hz <;> try (cases hz; done)
  simp only [Option.some.injEq] at hz
  subst hz
  obtain ⟨v, w, rfl, rd, re⟩ := RO.two rs
  have := rd.int
  subst this
  have := re.int
  subst this
  exact call_max2 hc pins s σ H _ us Q I r ⟨_, _, rfl, q _ H (Same.refl _) (.int _)⟩
theorem c_min2 (hc : X.calm = true) : CallR X (.builtin "min") (rDc X.K dMin2) := by
  intro pins s σ H vs us Q I r h
  obtain ⟨ok, ds, z, hn, rs, hz, q⟩ := h
  unfold dMin2 at hz
  split at hz <;> try (cases hz; done)
  simp only [Option.some.injEq] at hz
  subst hz
  obtain ⟨v, w, rfl, rd, re⟩ := RO.two rs
  have := rd.int
  subst this
  have := re.int
  subst this
  exact call_min2 hc pins s σ H _ us Q I r ⟨_, _, rfl, q _ H (Same.refl _) (.int _)⟩
theorem c_int : CallR X (.type "int") (rDc X.K dInt) := by
  intro pins s σ H vs us Q I r h
  obtain ⟨ok, ds, z, hn, rs, hz, q⟩ := h
  unfold dInt at hz
  split at hz <;> try (cases hz; done)
  · simp only [Option.some.injEq] at hz
    subst hz
    obtain ⟨v, rfl, rd⟩ := RO.one rs
    have := rd.int
    subst this
    exact call_int1 pins s σ H _ us Q I r (.inl ⟨_, rfl, q _ H (Same.refl _) (.int _)⟩)
  · simp only [Option.some.injEq] at hz
    subst hz
    obtain ⟨v, rfl, rd⟩ := RO.one rs
    have := rd.bl
    subst this
    exact call_int1 pins s σ H _ us Q I r (.inr ⟨_, rfl, q _ H (Same.refl _) (.int _)⟩)
theorem c_tuple : CallR X (.type "tuple") (rDc X.K dTuple) := by
  intro pins s σ H vs us Q I r h
  obtain ⟨ok, ds, z, hn, rs, hz, q⟩ := h
  unfold dTuple at hz
  split at hz <;> try (cases hz; done)
  obtain ⟨xs, hx, rfl⟩ := Option.map_eq_some_iff.mp hz
  obtain ⟨v, rfl, rd⟩ := RO.one rs
  obtain ⟨a, ws, rfl, ha, ra⟩ := rd.elemsP hx
  rcases ha with ⟨_, ha⟩ | ⟨_, ha⟩
  · exact call_tuple_of pins s σ H _ us Q I r ⟨a, ws, rfl, .inl ⟨.inl (.inl ha), fun l hl => q _ _ (same_new hl) (.newT hl ra)⟩⟩
  · exact call_tuple_of pins s σ H _ us Q I r ⟨a, ws, rfl, .inr ⟨ha, q _ _ (Same.refl _) (.oldT ha ra)⟩⟩
theorem c_list : CallR X (.type "list") (rDc X.K dList) := by
  intro pins s σ H vs us Q I r h
  obtain ⟨ok, ds, z, hn, rs, hz, q⟩ := h
  unfold dList at hz
  split at hz <;> try (cases hz; done)
  obtain ⟨xs, hx, rfl⟩ := Option.map_eq_some_iff.mp hz
  obtain ⟨v, rfl, rd⟩ := RO.one rs
  obtain ⟨a, ws, rfl, ha, ra⟩ := rd.elemsP hx
  exact call_list_of pins s σ H _ us Q I r ⟨a, ws, rfl, sq_of ha, fun l hl => q _ _ (same_new hl) (.newL hl ra)⟩
theorem sortI_perm (ns : List Int) : (sortI ns).Perm ns := List.mergeSort_perm ns _
theorem sortI_sorted (ns : List Int) : (sortI ns).Pairwise (· ≤ ·) := by
  have := List.pairwise_mergeSort (le := fun (a b : Int) => decide (a ≤ b)) (fun a b c h1 h2 => by simp at *; omega) (fun a b => by simp; omega) ns
  exact this.imp fun h => by simpa using h
theorem sorted_unique {a b : List Int} (ha : a.Pairwise (· ≤ ·)) (hb : b.Pairwise (· ≤ ·)) (p : a.Perm b) : a = b := p.eq_of_pairwise (fun x y _ _ h1 h2 => by omega) ha hb
theorem pairsD_eq : ∀ {xs : List D} {ps : List (Int × Int)}, pairsD xs = some ps → xs = ps.map encP
  | [], ps, h => by simp only [pairsD, Option.some.injEq] at h; subst h; rfl
  | x :: xs, ps, h => by
    unfold pairsD at h
    split at h
    · rename_i e
      cases e
    · rename_i a b r e
      cases e
      obtain ⟨qs, hq, rfl⟩ := Option.map_eq_some_iff.mp h
      rw [pairsD_eq hq]
      rfl
    · cases h
theorem each_of_reps {K : PySem.W.Frag} {H : Hp} {ok : Addr → Prop} : ∀ {ps : List (Int × Int)} {ws : List V} {us : List Value}, Reps K H ok (ps.map encP) ws → Vals ws us → PySem.W.EachIs (fun (v : Value) (p : Int × Int) => ∃ w, RelV w v ∧ Rep K H ok (encP p) w) us ps
  | [], _, _, .nil, .nil => .nil
  | _ :: _, _, _, .cons r rs, .cons v vs => .cons ⟨_, v, r⟩ (each_of_reps rs vs)
theorem reps_of_each {K : PySem.W.Frag} {H : Hp} {ok : Addr → Prop} : ∀ {ps : List (Int × Int)} {us : List Value}, PySem.W.EachIs (fun (v : Value) (p : Int × Int) => ∃ w, RelV w v ∧ Rep K H ok (encP p) w) us ps → ∃ ws, Vals ws us ∧ Reps K H ok (ps.map encP) ws
  | [], _, .nil => ⟨[], .nil, .nil⟩
  | _ :: _, _, .cons ⟨w, h1, h2⟩ t => let ⟨ws, g1, g2⟩ := reps_of_each t; ⟨w :: ws, .cons h1 g1, .cons h2 g2⟩
/-- of a list -/
theorem c_sortedL (hu : X.A.units + 80 < cLine) {s : Shared} {pins : List (Addr × Obj)} {σ : L2.St} {H : Hp} {vs : List V} {us : List Value} {Q : VK} (I : Inv X pins σ H s) (r : Vals vs us) {ok : Addr → Prop} {xs : List D} {z : D} (hn : Okn H ok) (rs : ROs X.K H ok [.list xs] vs) (hz : dSorted [.list xs] = some z) (q : ∀ v H', Same H H' → RN X.K ok H H' z v → Q v H') : wpAny (model X.prog X.w) X.A (call (.builtin "sorted") us) (EP X pins σ Q) X.xe s := by
  unfold dSorted at hz
  simp only at hz
  split at hz
  · rename_i ns hb
    cases hz
    obtain ⟨v, rfl, rd⟩ := RO.one rs
    obtain ⟨a, ws, rfl, ha, ra⟩ := rd.lst
    obtain ⟨rfl, _⟩ := ra.ofInts hb
    refine cr_sortedI pins s σ H _ us Q I r ⟨a, ns, rfl, .inl (.inl ha), fun ns' p h1 h2 hp => ?_⟩
    have e : ns' = sortI ns := sorted_unique h2 (sortI_sorted ns) (h1.trans (sortI_perm ns).symm)
    subst e
    exact q _ _ (same_new hp) (.newL hp (.ints _))
  · obtain ⟨ps, hb, rfl⟩ := Option.map_eq_some_iff.mp hz
    obtain ⟨v, rfl, rd⟩ := RO.one rs
    obtain ⟨a, ws, rfl, ha, ra⟩ := rd.lst
    rw [pairsD_eq hb] at ra
    obtain ⟨its, rv, pl, hz'⟩ := I.list (show SqL X.K H a ws from .inl (.inl ha))
    rw [Vals.ref1 r]
    have e1 := each_of_reps ra rv
    have er : PySem.W.EachIs (fun (v : Value) (p : Int × Int) => ∃ as, Reads s.heap v (encP p) as) its ps := e1.mono fun v p ⟨w, h1, h2⟩ => Dp.reads I (encP p) w v (Rep.dp (encP p) w rfl h2) h1
    have hL : ps.length ≤ sizeLine := by
      have := ra.length
      rw [List.length_map] at this
      omega
    refine PySem.W.sorted_data (bs := ps) (enc := encP) pl.isList e1 er (PySem.W.AllAlike.of fun b b' => rfl) (PySem.W.Sortable.tuples fun b => ⟨_, _, rfl⟩) hL (fun b _ => ?_) fun out hlen ho => ?_
    · have : (encP b).depth ≤ 2 := by show (PyData.tuple [.int b.1, .int b.2]).depth ≤ 2; simp [PyData.depth, PyData.depthAll]
      omega
    · have hle : PySem.W.dataLe false encP = leP := PySem.W.dataLe_ii (β := Int × Int) Prod.fst Prod.snd
      rw [hle] at ho
      obtain ⟨ws', g1, g2⟩ := reps_of_each ho
      obtain ⟨ep, he'⟩ := PyProof.Rows.sortedAll_at s.heap its out.toArray
      have hln : ws'.length ≤ sizeLine := by rw [g1.length, hlen]; exact hL
      have hp : H (s.heap.objs.size + 1) = none := I.hok.fresh (Nat.le_succ _)
      exact ⟨.ref _, upd H (s.heap.objs.size + 1) (.lst ws'), I.laid (t' := s.toks) (fun _ _ => PyProof.Rows.sortedAll_old) (Nat.le_succ _) ⟨hln, out, ep, g1, he'⟩, rfl, q _ _ (same_new hp) (.newL hp g2)⟩
theorem c_sorted (hu : X.A.units + 80 < cLine) : CallR X (.builtin "sorted") (rDc X.K dSorted) := by
  intro pins s σ H vs us Q I r h
  obtain ⟨ok, ds, z, hn, rs, hz, q⟩ := h
  cases ds with
  | nil => cases hz
  | cons d ds =>
    cases ds with
    | cons _ _ => cases d <;> cases hz
    | nil =>
      cases d with
      | list xs => exact c_sortedL hu I r hn rs hz q
      | tuple xs =>
        obtain ⟨ps, hb, rfl⟩ := Option.map_eq_some_iff.mp (show (pairsD xs).map (fun ps => PyData.list ((sortP ps).map encP)) = some z from hz)
        obtain ⟨v, rfl, rd⟩ := RO.one rs
        obtain ⟨a, ws, rfl, ha, ra⟩ := rd.tup
        rw [pairsD_eq hb] at ra
        obtain ⟨its, rv, pl, hz'⟩ := I.tuple ha
        have pl : s.heap.IsTuple a its.toArray := pl
        rw [Vals.ref1 r]
        have e1 := each_of_reps ra rv
        have er : PySem.W.EachIs (fun (v : Value) (p : Int × Int) => ∃ as, Reads s.heap v (encP p) as) its ps := e1.mono fun v p ⟨w, h1, h2⟩ => Dp.reads I (encP p) w v (Rep.dp (encP p) w rfl h2) h1
        have hL : ps.length ≤ sizeLine := by
          have := ra.length
          rw [List.length_map] at this
          omega
        refine EngS.sort_tup_data (bs := ps) (enc := encP) pl e1 er (PySem.W.AllAlike.of fun b b' => rfl) (PySem.W.Sortable.tuples fun b => ⟨_, _, rfl⟩) hL (fun b _ => ?_) fun out hlen ho => ?_
        · have : (encP b).depth ≤ 2 := by show (PyData.tuple [.int b.1, .int b.2]).depth ≤ 2; simp [PyData.depth, PyData.depthAll]
          omega
        · have hle : PySem.W.dataLe false encP = leP := PySem.W.dataLe_ii (β := Int × Int) Prod.fst Prod.snd
          rw [hle] at ho
          obtain ⟨ws', g1, g2⟩ := reps_of_each ho
          obtain ⟨ep, he'⟩ := PyProof.Rows.sortedAll_at s.heap its out.toArray
          have hln : ws'.length ≤ sizeLine := by rw [g1.length, hlen]; exact hL
          have hp : H (s.heap.objs.size + 1) = none := I.hok.fresh (Nat.le_succ _)
          exact ⟨.ref _, upd H (s.heap.objs.size + 1) (.lst ws'), I.laid (t' := s.toks) (fun _ _ => PyProof.Rows.sortedAll_old) (Nat.le_succ _) ⟨hln, out, ep, g1, he'⟩, rfl, q _ _ (same_new hp) (.newL hp g2)⟩
      | _ => cases hz
theorem c_isqrt : CallR X (.builtin "math.isqrt") (rDc X.K dIsqrt) := by
  intro pins s σ H vs us Q I r h
  obtain ⟨ok, ds, z, hn, rs, hz, q⟩ := h
  unfold dIsqrt at hz
  split at hz <;> try (cases hz; done)
  simp only [Option.ite_none_right_eq_some, Option.some.injEq, Bool.and_eq_true, decide_eq_true_eq] at hz
  obtain ⟨⟨h0, h1⟩, rfl⟩ := hz
  obtain ⟨v, rfl, rd⟩ := RO.one rs
  have := rd.int
  subst this
  obtain ⟨u, rfl, ru⟩ := vals1 r
  obtain ⟨t, rfl⟩ := ru
  exact PySem.W.mg_isqrt h0 h1 ⟨.int _, H, I.tok _, ⟨_, rfl⟩, q _ H (Same.refl _) (.int _)⟩
/-! ### isinstance -/
def tyN : D → String
  | .none => "NoneType"
  | .bool _ => "bool"
  | .int _ => "int"
  | .str _ => "str"
  | .tuple _ => "tuple"
  | _ => "list"
theorem tyX {K : PySem.W.Frag} {H : Hp} {ok : Addr → Prop} {d : D} {v : V} (r : RO K H ok d v) (hd : ∀ kv, d ≠ .dict kv) : TyX K H v (.type (tyN d)) := by
  cases d with
  | none => have := r.non; subst this; exact .base .non
  | bool b => have := r.bl; subst this; exact .base (.bl b)
  | int i => have := r.int; subst this; exact .base (.int i)
  | str x => have := r.str; subst this; exact .base (.str x)
  | list xs => obtain ⟨a, vs, rfl, ha, ra⟩ := r.lst; exact .base (.lst ha)
  | tuple xs =>
    obtain ⟨a, vs, rfl, ha, ra⟩ := r.tup
    rcases ha with (ha | ⟨o, ha⟩) | ⟨o, its, n, h1, h2, _⟩
    · exact .base (.tup ha)
    · exact .fTuple ha
    · exact .kTuple h1 h2
  | dict kv => exact absurd rfl (hd kv)
end
end Eng
end
section
set_option Elab.async false
set_option linter.all false
set_option maxRecDepth 100000
set_option maxHeartbeats 1000000
/-! EngC6: max, min of one argument; isinstance; the table of built-ins by name. -/
namespace Eng
open PySem PySem.Spec PyProof.Rows L2
section
variable {X : Cx}
theorem reads_ints {h : Heap} : ∀ {us : List Value} {ns : List Int}, IntsAre us ns → ∃ as, ReadsAll h us (ns.map PyData.int) as
  | _, _, .nil => ⟨_, .nil⟩
  | _, _, .cons n t hi => let ⟨_, r⟩ := reads_ints hi; ⟨_, .cons (.int n t) r⟩
theorem alike_ints (ns : List Int) : PySem.W.AlikeAll (ns.map PyData.int) := by
  refine ⟨fun x hx y hy => ?_, fun x hx => ?_⟩
  · obtain ⟨a, _, rfl⟩ := List.mem_map.mp hx
    obtain ⟨b, _, rfl⟩ := List.mem_map.mp hy
    rfl
  · obtain ⟨a, _, rfl⟩ := List.mem_map.mp hx
    intro e; cases e
theorem depth_ints : ∀ ns : List Int, PyData.depthAll (ns.map PyData.int) ≤ 1
  | [] => by simp [PyData.depthAll]
  | n :: ns => by
    have := depth_ints ns
    simp only [List.map_cons, PyData.depthAll, PyData.depth]
    omega
theorem c_max1 (hu : X.A.units + 80 < cLine) (hc : X.calm = true) : CallR X (.builtin "max") (rDc X.K dMax1) := by
  intro pins s σ H vs us Q I r h
  obtain ⟨ok, ds, z, hn, rs, hz, q⟩ := h
  unfold dMax1 at hz
  split at hz <;> try (cases hz; done)
  obtain ⟨xs, hx, hz⟩ := Option.bind_eq_some_iff.mp hz
  obtain ⟨ns, hns, hz⟩ := Option.bind_eq_some_iff.mp hz
  obtain ⟨m, hm, rfl⟩ := Option.map_eq_some_iff.mp hz
  obtain ⟨v, rfl, rd⟩ := RO.one rs
  obtain ⟨a, ws, rfl, ha, ra⟩ := rd.elemsP hx
  obtain ⟨rfl, _⟩ := ra.ofInts hns
  cases ns with
  | nil => simp [maxI] at hm
  | cons n ns =>
    simp only [maxI, Option.some.injEq] at hm
    subst hm
    have qq := q _ H (Same.refl _) (.int _)
    have hd : X.A.units + 1 + PyData.depthAll ((n :: ns).map PyData.int) < cLine := by
      have := depth_ints (n :: ns)
      omega
    rw [Vals.ref1 r]
    have fin : ∀ {v : Value} {h' : Heap} {tk : Nat} {bs : List Addr}, Reads h' v (PySem.W.maxD (.int n) (ns.map .int)) bs → (∀ b o, s.heap.get? b = some o → h'.get? b = some o) → EP X pins σ Q v { s with heap := h', toks := tk } := fun {v h' tk bs} rr hk => by
      rw [PySem.W.maxD_ints] at rr
      cases rr
      exact ⟨.int _, H, I.kept (t' := tk) hk, ⟨_, rfl⟩, qq⟩
    rcases ha with ⟨_, ha⟩ | ⟨_, ha⟩
    · obtain ⟨its, rv, p, hz⟩ := I.list (.inl (.inl ha))
      obtain ⟨as, r1⟩ := reads_ints (h := s.heap) rv.ints
      exact PySem.W.max_list_data (I.ok.hd hc) p.isList r1 (alike_ints (n :: ns)) hd fun i v h' tk bs _ rr hk => fin rr hk
    · obtain ⟨its, rv, p, hz⟩ := I.tuple ha
      obtain ⟨as, r1⟩ := reads_ints (h := s.heap) rv.ints
      exact PySem.W.max_tuple_data (I.ok.hd hc) (show s.heap.IsTuple a its.toArray from p) r1 (alike_ints (n :: ns)) hd fun i v h' tk bs _ rr hk => fin rr hk
theorem c_min1 (hu : X.A.units + 80 < cLine) (hc : X.calm = true) : CallR X (.builtin "min") (rDc X.K dMin1) := by
  intro pins s σ H vs us Q I r h
  obtain ⟨ok, ds, z, hn, rs, hz, q⟩ := h
  unfold dMin1 at hz
  split at hz <;> try (cases hz; done)
  obtain ⟨xs, hx, hz⟩ := Option.bind_eq_some_iff.mp hz
  obtain ⟨ns, hns, hz⟩ := Option.bind_eq_some_iff.mp hz
  obtain ⟨m, hm, rfl⟩ := Option.map_eq_some_iff.mp hz
  obtain ⟨v, rfl, rd⟩ := RO.one rs
  obtain ⟨a, ws, rfl, ha, ra⟩ := rd.elemsP hx
  obtain ⟨rfl, _⟩ := ra.ofInts hns
  cases ns with
  | nil => simp [minI] at hm
  | cons n ns =>
    simp only [minI, Option.some.injEq] at hm
    subst hm
    have qq := q _ H (Same.refl _) (.int _)
    have hd : X.A.units + 1 + PyData.depthAll ((n :: ns).map PyData.int) < cLine := by
      have := depth_ints (n :: ns)
      omega
    rw [Vals.ref1 r]
    have fin : ∀ {v : Value} {h' : Heap} {tk : Nat} {bs : List Addr}, Reads h' v (PySem.W.minD (.int n) (ns.map .int)) bs → (∀ b o, s.heap.get? b = some o → h'.get? b = some o) → EP X pins σ Q v { s with heap := h', toks := tk } := fun {v h' tk bs} rr hk => by
      rw [PySem.W.minD_ints] at rr
      cases rr
      exact ⟨.int _, H, I.kept (t' := tk) hk, ⟨_, rfl⟩, qq⟩
    rcases ha with ⟨_, ha⟩ | ⟨_, ha⟩
    · obtain ⟨its, rv, p, hz⟩ := I.list (.inl (.inl ha))
      obtain ⟨as, r1⟩ := reads_ints (h := s.heap) rv.ints
      exact PySem.W.min_list_data (I.ok.hd hc) p.isList r1 (alike_ints (n :: ns)) hd fun i v h' tk bs _ rr hk => fin rr hk
    · obtain ⟨its, rv, p, hz⟩ := I.tuple ha
      obtain ⟨as, r1⟩ := reads_ints (h := s.heap) rv.ints
      exact PySem.W.min_tuple_data (I.ok.hd hc) (show s.heap.IsTuple a its.toArray from p) r1 (alike_ints (n :: ns)) hd fun i v h' tk bs _ rr hk => fin rr hk
/-! ### isinstance(e, T) -/
theorem kits : ∀ t ∈ ["NoneType", "bool", "int", "str", "tuple", "list"], kitB t "int" = some (t == "int" || t == "bool") ∧ kitB t "bool" = some (t == "bool") ∧ kitB t "tuple" = some (t == "tuple") ∧ kitB t "str" = some (t == "str") := by decide +kernel
theorem tyN_mem (d : D) : tyN d ∈ ["NoneType", "bool", "int", "str", "tuple", "list"] := by cases d <;> simp [tyN]
def rIsD (K : PySem.W.Frag) (p : D → Bool) (T : String) : List V → Hp → VK → Prop := fun vs H Q => ∃ ok d v, vs = [v, .ty T] ∧ RO K H ok d v ∧ Q (.bl (p d)) H
theorem isD_of {p : D → Bool} {T : String} (hp : ∀ d : D, (∀ kv, d ≠ .dict kv) → kitB (tyN d) T = some (p d)) : CallR X (.builtin "isinstance") (fun vs H Q => ∃ ok d v, vs = [v, .ty T] ∧ RO X.K H ok d v ∧ (∀ kv, d ≠ .dict kv) ∧ Q (.bl (p d)) H) := by
  intro pins s σ H vs us Q I r h
  obtain ⟨ok, d, v, rfl, rd, hd, q⟩ := h
  exact call_isi pins s σ H _ us Q I r ⟨v, .ty T, _, _, p d, rfl, .ty T, tyX rd hd, kit_ty (hp d hd), q⟩
theorem isInt_kit (d : D) (hd : ∀ kv, d ≠ .dict kv) : kitB (tyN d) "int" = some (isIntD d) := by
  rw [(kits _ (tyN_mem d)).1]
  cases d <;> first | rfl | exact absurd rfl (hd _)
theorem isBool_kit (d : D) (hd : ∀ kv, d ≠ .dict kv) : kitB (tyN d) "bool" = some (isBoolD d) := by
  rw [(kits _ (tyN_mem d)).2.1]
  cases d <;> first | rfl | exact absurd rfl (hd _)
theorem isTuple_kit (d : D) (hd : ∀ kv, d ≠ .dict kv) : kitB (tyN d) "tuple" = some (isTupleD d) := by
  rw [(kits _ (tyN_mem d)).2.2.1]
  cases d <;> first | rfl | exact absurd rfl (hd _)
theorem isStr_kit (d : D) (hd : ∀ kv, d ≠ .dict kv) : kitB (tyN d) "str" = some (isStrD d) := by
  rw [(kits _ (tyN_mem d)).2.2.2]
  cases d <;> first | rfl | exact absurd rfl (hd _)
end
end Eng
end
section
set_option Elab.async false
set_option linter.all false
set_option maxRecDepth 100000
set_option maxHeartbeats 2000000
/-! EngD: the static look (which lists are one's own), and which PySem.Expr an E stands for. -/
namespace Eng
open PySem PySem.Spec PyProof.Rows L2

/-- grades: N new, A told (no list of one's own within), O a list of one's own -/
inductive Gr where
  | N | A | O
  deriving DecidableEq
def isA : Option Gr → Bool
  | some .N => true
  | some .A => true
  | _ => false
def isR : Option Gr → Bool
  | some _ => true
  | none => false
def joinG : Option Gr → Option Gr → Option Gr
  | some .N, some .N => some .N
  | some .O, some _ => some .O
  | some _, some .O => some .O
  | some _, some _ => some .A
  | _, _ => none
def offs (τ : List Bool) : List Nat → List Bool
  | [] => τ
  | i :: r => (offs τ r).set i false
def iff' (b : Bool) (g : Gr) : Option Gr := if b then some g else none
mutual
def gr (τ : List Bool) : E → Option Gr
  | .var i => if τ.getD i false then some .O else some .A
  | .cst d => iff' (flatD d) .N
  | .glo _ d => iff' (flatD d) .N
  | .bin _ a b => iff' (isR (gr τ a) && isR (gr τ b)) .N
  | .neg a => iff' (isR (gr τ a)) .N
  | .not a => iff' (isR (gr τ a)) .N
  | .and a b => iff' (isA (gr τ a) && isA (gr τ b)) .A
  | .or a b => iff' (isA (gr τ a) && isA (gr τ b)) .A
  | .cmp _ a b => iff' (isR (gr τ a) && isR (gr τ b)) .N
  | .chain _ _ a b c => iff' (isR (gr τ a) && isR (gr τ b) && isR (gr τ c)) .N
  | .ite c a b => if isR (gr τ c) then joinG (gr τ a) (gr τ b) else none
  | .tup es => iff' (grA τ es) .N
  | .lst es => iff' (grA τ es) .N
  | .idx a i => iff' (isR (gr τ a) && isR (gr τ i)) .A
  | .sl a lo hi => iff' (isR (gr τ a) && grR τ lo && grR τ hi) .N
  | .rev a => iff' (isR (gr τ a)) .N
  | .call _ bor es => iff' (if bor then grR τ es else grA τ es) .N
  | .bi _ es => iff' (grR τ es) .N
  | .comp _ own it cond elt => iff' (isR (gr τ it) && grR (offs τ (own.map (·.2))) cond && isA (gr (offs τ (own.map (·.2))) elt)) .N
  | .comp2 _ _ own it it' cond elt => iff' (isR (gr τ it) && isA (gr (offs τ (own.map (·.2))) it') && grR (offs τ (own.map (·.2))) cond && isA (gr (offs τ (own.map (·.2))) elt)) .N
def grA (τ : List Bool) : List E → Bool
  | [] => true
  | e :: es => isA (gr τ e) && grA τ es
def grR (τ : List Bool) : List E → Bool
  | [] => true
  | e :: es => isR (gr τ e) && grR τ es
end

/-- the text's facts: the names by slot; the defs that may be called, with how many arguments; which local names' cells are the block's own -/
structure Info where
  N : List Str
  G : List (Str × Nat)
  C : List (Str × Int) := []
  isq : Bool := false
def visB (sc : Scope) (x : Str) : Bool := match sc.names.lookup x with
  | some .local => true
  | some .cell => true
  | some .free => true
  | _ => false
def glB (sc : Scope) (x : Str) : Bool := match sc.names.lookup x with
  | some .globalImplicit => true
  | _ => false
/-- a name that may be stored: fb tells which cells are the block's own -/
def locB (fb : Str → Bool) (sc : Scope) (x : Str) : Bool := match sc.names.lookup x with
  | some .local => true
  | some .cell => fb x
  | _ => false
def okNm (x : Str) : Bool := !(x == ("__debug__" : Str)) && !(x == ("__classdict__" : Str))
def nmB (I : Info) (sc : Scope) (i : Nat) : Expr → Bool
  | .Name x _ => decide (I.N[i]? = some x) && visB sc x && okNm x
  | _ => false
def cstB : D → Expr → Bool
  | .none, .Constant .none _ _ => true
  | .bool b, .Constant (.bool c) _ _ => b == c
  | .int i, .Constant (.int j) _ _ => decide (i = j)
  | .str x, .Constant (.str y) _ _ => decide (x = y)
  | _, _ => false
def biNm : Bi → Str
  | .len => "len" | .sum => "sum" | .all => "all" | .any => "any" | .abs => "abs" | .max1 => "max" | .min1 => "min" | .max2 => "max" | .min2 => "min"
  | .int => "int" | .tuple => "tuple" | .list => "list" | .sorted => "sorted" | .sortedRev => "sorted" | .sortedSet => "sorted"
  | .isInt => "isinstance" | .isBool => "isinstance" | .isTuple => "isinstance" | .isStr => "isinstance" | .isqrt => "isqrt"
  | .range => "range" | .enumerate => "enumerate" | .zip => "zip" | .reversed => "reversed"
def isTy : Bi → Option Str
  | .isInt => some "int" | .isBool => some "bool" | .isTuple => some "tuple" | .isStr => some "str"
  | _ => none
/-- called as any function is -/
def plainBi : Bi → Bool
  | .len => true | .sum => true | .all => true | .any => true | .abs => true | .max1 => true | .min1 => true | .max2 => true | .min2 => true
  | .int => true | .tuple => true | .list => true | .sorted => true | .isqrt => true
  | _ => false
mutual
/-- a target -/
def mT (I : Info) (fb : Str → Bool) (sc : Scope) : Tg → Expr → Bool
  | .one i, e => match e with
    | .Name x _ => decide (I.N[i]? = some x) && locB fb sc x
    | _ => false
  | .many ts, e => match e with
    | .Tuple es _ _ => mTs I fb sc ts es
    | _ => false
def mTs (I : Info) (fb : Str → Bool) (sc : Scope) : List Tg → List Expr → Bool
  | [], es => es.isEmpty
  | t :: ts, es => match es with
    | e :: es => mT I fb sc t e && mTs I fb sc ts es
    | [] => false
end
def isTup : Expr → Bool
  | .Tuple _ _ _ => true
  | _ => false
def notSet : Expr → Bool
  | .Set _ _ _ => false
  | _ => true
def fbOf (scope : Scope) (x : Str) : Bool := scope.names.lookup x == some .cell
/-- es of a call of the global name x -/
def callB (sc : Scope) (x : Str) : Expr → List Expr
  | .Call (.Name y _) es [] _ => if decide (y = x) && glB sc y then es else []
  | _ => []
/-- walked as it is -/
def simpleIt : E → Bool
  | .bi .enumerate _ => false
  | .bi .zip _ => false
  | .bi .reversed _ => false
  | _ => true
mutual
/-- md: where it is walked, the walk's target; else none -/
def mE (I : Info) (md : Option Expr) (sc : Scope) : E → Expr → Bool
  | .var i, e => nmB I sc i e
  | .cst d, e => cstB d e
  | .glo x d, e => match e with
    | .Name y _ => decide (x = y) && glB sc y && okNm y && (match d with
      | .int i => I.C.contains (x, i)
      | _ => false)
    | _ => false
  | .bin o a b, e => match e with
    | .BinOp a' o' b' _ => decide (o' = opOf o) && mE I none sc a a' && mE I none sc b b'
    | _ => false
  | .neg a, e => match e with
    | .UnaryOp .USub a' _ => mE I none sc a a'
    | _ => false
  | .not a, e => match e with
    | .UnaryOp .Not a' _ => mE I none sc a a'
    | _ => false
  | .and a b, e => match e with
    | .BoolOp .And (x :: y :: r) p => mE I none sc a x && mE I none sc b (match r with | [] => y | _ => .BoolOp .And (y :: r) p)
    | _ => false
  | .or a b, e => match e with
    | .BoolOp .Or (x :: y :: r) p => mE I none sc a x && mE I none sc b (match r with | [] => y | _ => .BoolOp .Or (y :: r) p)
    | _ => false
  | .cmp o a b, e => match e with
    | .Compare a' [o'] [b'] _ => decide (o' = copOf o) && notSet b' && mE I none sc a a' && mE I none sc b b'
    | _ => false
  | .chain o p a b c, e => match e with
    | .Compare a' [o', p'] [b', c'] _ => decide (o' = copOf o) && decide (p' = copOf p) && notSet c' && mE I none sc a a' && mE I none sc b b' && mE I none sc c c'
    | _ => false
  | .ite c a b, e => match e with
    | .IfExp c' a' b' _ => mE I none sc c c' && mE I none sc a a' && mE I none sc b b'
    | _ => false
  | .tup es, e => match e with
    | .Tuple es' _ _ => mEs I sc es es'
    | _ => false
  | .lst es, e => match e with
    | .List es' _ => mEs I sc es es'
    | _ => false
  | .idx a i, e => match e with
    | .Subscript a' i' _ => mE I none sc a a' && mE I none sc i i'
    | _ => false
  | .sl a lo hi, e => match e with
    | .Subscript a' (.Slice lo' hi' none _) _ => mE I none sc a a' && mEs I sc lo lo'.toList && mEs I sc hi hi'.toList
    | _ => false
  | .rev a, e => match e with
    | .Subscript a' (.Slice none none (some (.UnaryOp .USub (.Constant (.int 1) _ _) _)) _) _ => mE I none sc a a'
    | _ => false
  | .call f _ es, e => match e with
    | .Call (.Name x _) es' [] _ => decide (I.G[f]? = some (x, es.length)) && glB sc x && okNm x && mEs I sc es es'
    | _ => false
  | .bi b es, e => match e with
    | .Call (.Name x _) es' [] _ => decide (x = biNm b) && glB sc x && !es.isEmpty && (match isTy b with
        | some T => (match es' with
          | [a, .Name y _] => decide (y = T) && glB sc y && mEs I sc es [a]
          | _ => false)
        | none => ((plainBi b && (I.isq || !decide (b = .isqrt))) || (match md with
            | none => false
            | some tg => (match b with
              | .range => Nat.ble es.length 3
              | .enumerate => decide (es.length = 1) && isTup tg
              | .zip => decide (es.length = 2) && isTup tg
              | .reversed => decide (es.length = 1)
              | _ => false))) && mEs I sc es es')
    | _ => false
  | .comp tg own it cond elt, e => match e with
    | .ListComp elt' [⟨tg', iter, ifs, a⟩] scope _ => decide (a = 0) && blkC I.N sc scope own && mE I (some tg') sc it iter && mT I (fbOf scope) (relS scope sc) tg tg' && (tgSlots tg).all (fun i => (own.map (·.2)).contains i)
        && Nat.ble cond.length 1 && mEs I (relS scope sc) cond ifs && mE I none (relS scope sc) elt elt'
    | _ => false
  | .comp2 tg tg1 own it it1 cond elt, e => match e with
    | .ListComp elt' [⟨tg', iter, [], a⟩, ⟨tg1', iter1, ifs, a1⟩] scope _ => decide (a = 0) && decide (a1 = 0) && blkC I.N sc scope own && mE I (some tg') sc it iter && mT I (fbOf scope) (relS scope sc) tg tg' && (tgSlots tg).all (fun i => (own.map (·.2)).contains i)
        && simpleIt it1 && mE I (some tg1') (relS scope sc) it1 iter1 && mT I (fbOf scope) (relS scope sc) tg1 tg1' && (tgSlots tg1).all (fun i => (own.map (·.2)).contains i)
        && Nat.ble cond.length 1 && mEs I (relS scope sc) cond ifs && mE I none (relS scope sc) elt elt'
    | _ => false
def mEs (I : Info) (sc : Scope) : List E → List Expr → Bool
  | [], es => es.isEmpty
  | m :: ms, es => match es with
    | e :: es => mE I none sc m e && mEs I sc ms es
    | [] => false
end
end Eng
end
section
set_option Elab.async false
set_option linter.all false
set_option maxRecDepth 100000
set_option maxHeartbeats 2000000
/-! EngE: what an E reads, and that PySem's expressions do so: case by case. -/
namespace Eng
open PySem PySem.Spec PyProof.Rows L2

/-- allowed, and no list of one's own -/
abbrev okF (ok F : Addr → Prop) : Addr → Prop := fun b => ok b ∧ ¬ F b
def GR (g : Gr) (K : PySem.W.Frag) (ok : Addr → Prop) (H H' : Hp) (d : D) (v : V) : Prop := match g with
  | .N => RN K ok H H' d v
  | .A => Rep K H' ok d v
  | .O => RO K H' ok d v
/-- a def's promise by its meaning -/
def spD (K : PySem.W.Frag) (n : Nat) (sem : List D → Option D) : Sp := fun vs H Q _ => ∃ ok ds d, Okn H ok ∧ Reps K H ok ds vs ∧ ds.length = n ∧ sem ds = some d ∧ ∀ v H', Same H H' → RN K ok H H' d v → Q v H'
def FnAt (X : Cx) (sem : List D → Option D) (x : Str) (n : Nat) : Prop :=
  ∃ (f : Addr) (fd : FuncData) (ps : List Str) (k : Nat), X.mg x = some (.ref f) ∧ PySem.W.keepIn X.K (.ref f) = true ∧ Binds X.K fd ps [] ∧ FnOk X.prog X.w X.K X.mg X.base CX0 k f fd ps (spD X.K n sem) ∧ Room k X.A
/-- a context that the text's facts fit -/
structure CxF (I : Info) (Γ : Fs) (fb : Str → Bool) (sc : Scope) (X : Cx) : Prop where
  sc : X.env.scope = sc
  N : X.N = I.N
  nd : I.N.Nodup
  calm : X.calm = true
  fn : ∀ x, fb x = true → X.fn x = true
  un : X.A.units + 100 < cLine
  fns : ∀ f x n, I.G[f]? = some (x, n) → FnAt X (Γ f) x n
  blt : ∀ b : Bi, b ≠ .isqrt → X.mg (biNm b) = none
  ty : ∀ x : Str, x = "bool" ∨ x = "str" ∨ x = "set" → X.mg x = none
  con : ∀ x i, (x, i) ∈ I.C → ∃ t, X.mg x = some (.int i t)
  isq : I.isq = true → X.mg "isqrt" = some (.builtin "math.isqrt")
/-- what an expression reads -/
def tE (K : PySem.W.Frag) (Γ : Fs) (m : E) : TE := fun σV H Q => ∃ H0 ok τ F σD g d, SR K H0 ok τ F H σV σD ∧ gr τ m = some g ∧ ev Γ m σD = some d ∧ ∀ v H', Same H H' → GR g K (okF ok F) H H' d v → Q v H'
def tTr (K : PySem.W.Frag) (Γ : Fs) (m : E) : TT := fun σV H Q => ∃ H0 ok τ F σD g d b, SR K H0 ok τ F H σV σD ∧ gr τ m = some g ∧ ev Γ m σD = some d ∧ truth d = some b ∧ ∀ H', Same H H' → Q b H'
/-- arguments -/
def tEs (K : PySem.W.Frag) (Γ : Fs) (ms : List E) : TA := fun σV H Q => ∃ H0 ok τ F σD ds, SR K H0 ok τ F H σV σD ∧ grR τ ms = true ∧ evs Γ ms σD = some ds ∧ ∀ vs H', Same H H' → ROs K H' (okF ok F) ds vs → (grA τ ms = true → Reps K H' (okF ok F) ds vs) → Q vs H'
section
variable {K : PySem.W.Frag} {H0 H H1 H' : Hp} {ok F : Addr → Prop} {τ : List Bool} {σV : L2.St} {σD : Sg} {Γ : Fs} {m : E} {ms : List E} {g : Gr} {d : D} {v : V}
theorem SR.okn' (R : SR K H0 ok τ F H σV σD) : Okn H (okF ok F) := fun b e => ⟨R.okn b (R.same.free e), fun f => by
  obtain ⟨_, vs, h⟩ := R.own b f
  rw [e] at h; cases h⟩
theorem GR.ro (h : GR g K ok H H' d v) : RO K H' ok d v := by
  cases g with
  | N => exact RN.ro h
  | A => exact .inr h
  | O => exact h
theorem GR.rep (hn : Okn H ok) (ha : isA (some g) = true) (h : GR g K ok H H' d v) : Rep K H' ok d v := by
  cases g with
  | N => exact RN.rep hn h
  | A => exact h
  | O => cases ha
theorem GR.same0 (s : Same H H1) (h : GR g K ok H1 H' d v) : GR g K ok H H' d v := by
  cases g with
  | N => exact RN.same0 s h
  | A => exact h
  | O => exact h
theorem RO.frz {ok' : Addr → Prop} (h : RO K H ok d v) : Rep K H (fun _ => True) d v := by
  rcases h with ⟨ds, a, vs, rfl, rfl, h, r⟩ | h
  · exact .lst h trivial (r.weak fun _ _ => trivial)
  · exact h.weak fun _ _ => trivial
theorem ROs.frz {ds : List D} {vs : List V} (h : ROs K H ok ds vs) : Reps K H (fun _ => True) ds vs := by
  induction h with
  | nil => exact .nil
  | cons h _ ih => exact .cons (h.frz (ok' := fun _ => True)) ih
theorem tE.mk {Q : VK} (R : SR K H0 ok τ F H σV σD) (hg : gr τ m = some g) (hd : ev Γ m σD = some d) (q : ∀ v H', Same H H' → GR g K (okF ok F) H H' d v → Q v H') : tE K Γ m σV H Q := ⟨H0, ok, τ, F, σD, g, d, R, hg, hd, q⟩
theorem tEs.mk {Q : List V → Hp → Prop} {ds : List D} (R : SR K H0 ok τ F H σV σD) (hg : grR τ ms = true) (hd : evs Γ ms σD = some ds) (q : ∀ vs H', Same H H' → ROs K H' (okF ok F) ds vs → (grA τ ms = true → Reps K H' (okF ok F) ds vs) → Q vs H') : tEs K Γ ms σV H Q := ⟨H0, ok, τ, F, σD, ds, R, hg, hd, q⟩
theorem iff'_some {b : Bool} {g h : Gr} (e : iff' b g = some h) : b = true ∧ g = h := by
  unfold iff' at e
  split at e
  · rename_i hb
    exact ⟨hb, Option.some.inj e⟩
  · cases e
theorem isR_some {o : Option Gr} (h : isR o = true) : ∃ g, o = some g := by
  cases o with
  | none => cases h
  | some g => exact ⟨g, rfl⟩
theorem isA_R {o : Option Gr} (h : isA o = true) : isR o = true := by
  cases o with
  | none => cases h
  | some g => rfl
end
theorem _root_.L2.PE.engImp {X : Cx} {e : Expr} {t t' : TE} (h : PE X e t) (i : ∀ σ H Q, t' σ H Q → t σ H Q) : PE X e t' := ⟨fun pins s σ H Q I q => h.run pins s σ H Q I (i σ H Q q)⟩
theorem _root_.L2.PT.engImp {X : Cx} {e : Expr} {t t' : TT} (h : PT X e t) (i : ∀ σ H Q, t' σ H Q → t σ H Q) : PT X e t' := ⟨fun pins s σ H Q I q => h.run pins s σ H Q I (i σ H Q q)⟩
theorem _root_.L2.PW.engImp {X : Cx} {e : Expr} {t t' : TT} (h : PW X e t) (i : ∀ σ H Q, t' σ H Q → t σ H Q) : PW X e t' := ⟨fun wh pins s σ H Q I q => h.run wh pins s σ H Q I (i σ H Q q)⟩
theorem _root_.L2.PA.engImp {X : Cx} {e : List Expr} {t t' : TA} (h : PA X e t) (i : ∀ σ H Q, t' σ H Q → t σ H Q) : PA X e t' := ⟨fun pos pins s σ H Q I q => h.run pos pins s σ H Q I (i σ H Q q)⟩
theorem _root_.L2.PI.engImp {X : Cx} {tg e : Expr} {t t' : TI} (h : PI X tg e t) (i : ∀ σ H Q, t' σ H Q → t σ H Q) : PI X tg e t' := ⟨fun pins s σ H Q I q => h.run pins s σ H Q I (i σ H Q q)⟩

section
variable {I : Info} {Γ : Fs} {fb : Str → Bool} {sc : Scope} {X : Cx}
theorem vis_of {x : Str} (h : visB sc x = true) : Vis sc x := by
  unfold visB at h
  unfold Vis
  split at h <;> simp_all
theorem gl_of {x : Str} (c : CxF I Γ fb sc X) (h : glB sc x = true) : Gl X x := by
  unfold glB at h
  unfold Gl Env.kindOf
  rw [c.sc]
  split at h <;> simp_all
theorem okNm_of {x : Str} (h : okNm x = true) : (x == ("__debug__" : Str)) = false ∧ (x == ("__classdict__" : Str)) = false := by
  unfold okNm at h
  rw [Bool.and_eq_true] at h
  exact ⟨by simpa using h.1, by simpa using h.2⟩
theorem l_var {i : Nat} {e : Expr} (c : CxF I Γ fb sc X) (h : nmB I sc i e = true) : PE X e (tE X.K Γ (.var i)) := by
  unfold nmB at h
  split at h
  · rename_i x pos
    rw [Bool.and_eq_true, Bool.and_eq_true] at h
    obtain ⟨⟨h1, h2⟩, h3⟩ := h
    refine (pe_var (i := i) (by rw [c.N]; exact of_decide_eq_true h1) (by rw [c.sc]; exact vis_of h2) (okNm_of h3).1 (okNm_of h3).2).engImp fun σ H Q q => ?_
    obtain ⟨H0, ok, τ, F, σD, g, d, R, hg, hd, q⟩ := q
    simp only [ev, Option.bind_eq_some_iff] at hd
    obtain ⟨o, ho, hd⟩ := hd
    simp only [id] at hd
    subst hd
    obtain ⟨v, hv, rv⟩ := R.val i d ho
    refine ⟨v, hv, q v H (Same.refl _) ?_⟩
    simp only [gr] at hg
    cases ht : τ.getD i false with
    | true =>
      rw [ht] at hg rv
      simp only [if_true, Option.some.injEq] at hg
      subst hg
      rcases rv with ⟨_, a, vs, ds, e1, e2, f, h, r⟩ | ⟨r, _⟩
      · exact .inl ⟨ds, a, vs, e1, e2, h, r⟩
      · exact .inr r
    | false =>
      rw [ht] at hg rv
      simp only [Bool.false_eq_true, if_false, Option.some.injEq] at hg
      subst hg
      rcases rv with ⟨z, _⟩ | ⟨r, _⟩
      · cases z
      · exact r
  · cases h
theorem l_cst {d : D} {e : Expr} (h : cstB d e = true) : PE X e (tE X.K Γ (.cst d)) := by
  have fin : ∀ {v : V} {σ : L2.St} {H : Hp} {Q : VK}, (∀ K H ok, Rep K H ok d v) → (∀ ds, d ≠ .list ds) → tE X.K Γ (.cst d) σ H Q → tC v σ H Q := fun {v σ H Q} hr hl q => by
    obtain ⟨H0, ok, τ, F, σD, g, d', R, hg, hd, q⟩ := q
    simp only [ev, Option.some.injEq] at hd
    subst hd
    have := (iff'_some hg).2
    subst this
    exact q v H (Same.refl _) (.inr ⟨hl, hr _ _ _⟩)
  unfold cstB at h
  split at h
  · exact pe_non.engImp fun σ H Q q => fin (fun _ _ _ => .non) (fun _ z => nomatch z) q
  · rename_i b c _ _
    have : b = c := by simpa using h
    subst this
    exact pe_bl.engImp fun σ H Q q => fin (fun _ _ _ => .bl _) (fun _ z => nomatch z) q
  · rename_i i j _ _
    have : i = j := by simpa using h
    subst this
    exact pe_int.engImp fun σ H Q q => fin (fun _ _ _ => .int _) (fun _ z => nomatch z) q
  · rename_i x y _ _
    have : x = y := by simpa using h
    subst this
    exact pe_str.engImp fun σ H Q q => fin (fun _ _ _ => .str _) (fun _ z => nomatch z) q
  · cases h
theorem l_glo {x : Str} {i : Int} {pos : Pos} (c : CxF I Γ fb sc X) (h1 : glB sc x = true) (h2 : okNm x = true) (h3 : (x, i) ∈ I.C) : PE X (.Name x pos) (tE X.K Γ (.glo x (.int i))) := by
  obtain ⟨t, hm⟩ := c.con x i h3
  refine (pe_glob (v := .int i) (gl_of c h1) hm ⟨t, rfl⟩ (okNm_of h2).1).engImp fun σ H Q q => ?_
  obtain ⟨H0, ok, τ, F, σD, g, d', R, hg, hd, q⟩ := q
  simp only [ev, Option.some.injEq] at hd
  subst hd
  have := (iff'_some hg).2
  subst this
  exact q _ H (Same.refl _) (RN.int i)
/-- two expressions and a rule of N -/
theorem l_two {f : D → D → Option D} {a b m : E} {e : Expr} (hp : PE X e (tOp (rD2 X.K f) (tE X.K Γ a) (tE X.K Γ b))) (hg : ∀ τ g, gr τ m = some g → isR (gr τ a) = true ∧ isR (gr τ b) = true ∧ g = .N)
    (he : ∀ σD d, ev Γ m σD = some d → ∃ x y, ev Γ a σD = some x ∧ ev Γ b σD = some y ∧ f x y = some d) : PE X e (tE X.K Γ m) := by
  refine hp.engImp fun σ H Q q => ?_
  obtain ⟨H0, ok, τ, F, σD, g, d, R, h1, h2, q⟩ := q
  obtain ⟨ga, gb, rfl⟩ := hg τ g h1
  obtain ⟨x, y, hx, hy, hz⟩ := he σD d h2
  obtain ⟨ga, hga⟩ := isR_some ga
  obtain ⟨gb, hgb⟩ := isR_some gb
  refine tE.mk R hga hx fun v H1 s1 rv => tE.mk (R.grow s1) hgb hy fun w H2 s2 rw_ => ?_
  exact ⟨_, x, y, d, ((R.grow s1).grow s2).okn', rv.ro.same s2, rw_.ro, hz, fun z H' s3 rz => q z H' (s1.trans (s2.trans s3)) (RN.same0 (s1.trans s2) rz)⟩
theorem l_bin {o : Bop} {a b : E} {a' b' : Expr} {pos : Pos} (ha : PE X a' (tE X.K Γ a)) (hb : PE X b' (tE X.K Γ b)) : PE X (.BinOp a' (opOf o) b' pos) (tE X.K Γ (.bin o a b)) := by
  refine l_two (f := bin o) (pe_op (op_bin o) ha hb) (fun τ g h => ?_) fun σD d h => ?_
  · obtain ⟨h1, h2⟩ := iff'_some h
    rw [Bool.and_eq_true] at h1
    exact ⟨h1.1, h1.2, h2.symm⟩
  · simp only [ev, Option.bind_eq_some_iff] at h
    obtain ⟨x, hx, y, hy, hz⟩ := h
    exact ⟨x, y, hx, hy, hz⟩
theorem op_cmpV (hu : X.A.units + 80 < cLine) (o : Cop) : OpR X (compareOp (copOf o)) (rD2 X.K fun d e => (cmp o d e).map .bool) := by
  intro pins s σ H x y v u Q I rx ry h
  obtain ⟨ok, d, e, z, hn, rd, re, hz, q⟩ := h
  obtain ⟨b, hb, rfl⟩ := Option.map_eq_some_iff.mp hz
  exact op_cmp hu o pins s σ H x y v u Q I rx ry ⟨ok, d, e, b, rd, re, hb, q _ H (Same.refl _) (.bl b)⟩
theorem mark_of {o : Cop} {b : Expr} (h : notSet b = true) : behindInMarks (copOf o) b = false := by
  cases b <;> first | rfl | cases h
theorem l_cmp {o : Cop} {a b : E} {a' b' : Expr} {pos : Pos} (c : CxF I Γ fb sc X) (hs : notSet b' = true) (ha : PE X a' (tE X.K Γ a)) (hb : PE X b' (tE X.K Γ b)) : PE X (.Compare a' [copOf o] [b'] pos) (tE X.K Γ (.cmp o a b)) := by
  refine l_two (f := fun d e => (cmp o d e).map .bool) (pe_cmpR (op_cmpV (by have := c.un; omega) o) ha hb (mark_of hs)) (fun τ g h => ?_) fun σD d h => ?_
  · obtain ⟨h1, h2⟩ := iff'_some h
    rw [Bool.and_eq_true] at h1
    exact ⟨h1.1, h1.2, h2.symm⟩
  · simp only [ev, Option.bind_eq_some_iff] at h
    obtain ⟨x, hx, y, hy, hz⟩ := h
    exact ⟨x, y, hx, hy, hz⟩
end
end Eng
end
section
set_option Elab.async false
set_option linter.all false
set_option maxRecDepth 100000
set_option maxHeartbeats 2000000
/-! EngE2: more cases. -/
namespace Eng
open PySem PySem.Spec PyProof.Rows L2
section
variable {I : Info} {Γ : Fs} {fb : Str → Bool} {sc : Scope} {X : Cx}
/-- unpack a reading -/
theorem grN2 {b : Bool} {g : Gr} (e : iff' b .N = some g) : b = true ∧ g = .N := let ⟨h1, h2⟩ := iff'_some e; ⟨h1, h2.symm⟩
theorem l_neg {a : E} {a' : Expr} {pos : Pos} (ha : PE X a' (tE X.K Γ a)) : PE X (.UnaryOp .USub a' pos) (tE X.K Γ (.neg a)) := by
  refine (pe_un un_neg ha).engImp fun σ H Q q => ?_
  obtain ⟨H0, ok, τ, F, σD, g, d, R, h1, h2, q⟩ := q
  obtain ⟨ga, rfl⟩ := grN2 h1
  obtain ⟨ga, hga⟩ := isR_some ga
  simp only [ev, Option.bind_eq_some_iff] at h2
  obtain ⟨x, hx, hz⟩ := h2
  split at hz
  · simp only [Option.some.injEq] at hz
    subst hz
    refine tE.mk R hga hx fun v H1 s1 rv => ?_
    have := rv.ro.int
    subst this
    exact ⟨_, rfl, q _ H1 s1 (RN.int _)⟩
  · cases hz
theorem l_not {a : E} {a' : Expr} {pos : Pos} (ha : PE X a' (tE X.K Γ a)) : PE X (.UnaryOp .Not a' pos) (tE X.K Γ (.not a)) := by
  refine (pe_notT ha).engImp fun σ H Q q => ?_
  obtain ⟨H0, ok, τ, F, σD, g, d, R, h1, h2, q⟩ := q
  obtain ⟨ga, rfl⟩ := grN2 h1
  obtain ⟨ga, hga⟩ := isR_some ga
  simp only [ev, Option.bind_eq_some_iff] at h2
  obtain ⟨x, hx, hz⟩ := h2
  obtain ⟨b, hb, rfl⟩ := Option.map_eq_some_iff.mp hz
  exact tE.mk R hga hx fun v H1 s1 rv => ⟨b, truth_ok hb rv.ro, q _ H1 s1 (RN.bl _)⟩
theorem l_and {a b : E} {a' b' : Expr} {r : List Expr} {pos : Pos} (ha : PE X a' (tE X.K Γ a)) (hb : PE X (.BoolOp .And (b' :: r) pos) (tE X.K Γ b)) : PE X (.BoolOp .And (a' :: b' :: r) pos) (tE X.K Γ (.and a b)) := by
  refine (pe_andT ha hb).engImp fun σ H Q q => ?_
  obtain ⟨H0, ok, τ, F, σD, g, d, R, h1, h2, q⟩ := q
  have hgg := iff'_some h1
  clear h1
  obtain ⟨h1, rfl⟩ := hgg
  rw [Bool.and_eq_true] at h1
  obtain ⟨ga, hga⟩ := isR_some (isA_R h1.1)
  obtain ⟨gb, hgb⟩ := isR_some (isA_R h1.2)
  simp only [ev, Option.bind_eq_some_iff] at h2
  obtain ⟨x, hx, c, hc, hz⟩ := h2
  refine tE.mk R hga hx fun v H1 s1 rv => ⟨c, truth_ok hc rv.ro, ?_⟩
  have hn := R.okn'
  cases c with
  | true =>
    simp only [if_true] at hz ⊢
    exact tE.mk (R.grow s1) hgb hz fun w H2 s2 rw_ => q w H2 (s1.trans s2) (rw_.rep (hn.same s1) (hgb ▸ h1.2))
  | false =>
    simp only [Bool.false_eq_true, if_false, Option.some.injEq] at hz ⊢
    subst hz
    exact q v H1 s1 (rv.rep hn (hga ▸ h1.1))
theorem l_or {a b : E} {a' b' : Expr} {r : List Expr} {pos : Pos} (ha : PE X a' (tE X.K Γ a)) (hb : PE X (.BoolOp .Or (b' :: r) pos) (tE X.K Γ b)) : PE X (.BoolOp .Or (a' :: b' :: r) pos) (tE X.K Γ (.or a b)) := by
  refine (pe_orT ha hb).engImp fun σ H Q q => ?_
  obtain ⟨H0, ok, τ, F, σD, g, d, R, h1, h2, q⟩ := q
  have hgg := iff'_some h1
  clear h1
  obtain ⟨h1, rfl⟩ := hgg
  rw [Bool.and_eq_true] at h1
  obtain ⟨ga, hga⟩ := isR_some (isA_R h1.1)
  obtain ⟨gb, hgb⟩ := isR_some (isA_R h1.2)
  simp only [ev, Option.bind_eq_some_iff] at h2
  obtain ⟨x, hx, c, hc, hz⟩ := h2
  refine tE.mk R hga hx fun v H1 s1 rv => ⟨c, truth_ok hc rv.ro, ?_⟩
  have hn := R.okn'
  cases c with
  | false =>
    simp only [Bool.false_eq_true, if_false] at hz ⊢
    exact tE.mk (R.grow s1) hgb hz fun w H2 s2 rw_ => q w H2 (s1.trans s2) (rw_.rep (hn.same s1) (hgb ▸ h1.2))
  | true =>
    simp only [if_true, Option.some.injEq] at hz ⊢
    subst hz
    exact q v H1 s1 (rv.rep hn (hga ▸ h1.1))
theorem lmark {o p : Cop} {b c : Expr} (h : notSet c = true) : lastMarks [copOf o, copOf p] [b, c] = false := by
  show behindInMarks (copOf p) c = false
  exact mark_of h
theorem l_chain {o p : Cop} {a b c : E} {a' b' c' : Expr} {pos : Pos} (cx : CxF I Γ fb sc X) (hs : notSet c' = true) (ha : PE X a' (tE X.K Γ a)) (hb : PE X b' (tE X.K Γ b)) (hc : PE X c' (tE X.K Γ c)) : PE X (.Compare a' [copOf o, copOf p] [b', c'] pos) (tE X.K Γ (.chain o p a b c)) := by
  have hu : X.A.units + 80 < cLine := by have := cx.un; omega
  refine (pe_chain (op_cmp hu o) (op_cmp hu p) ha hb hc (lmark hs)).engImp fun σ H Q q => ?_
  obtain ⟨H0, ok, τ, F, σD, g, d, R, h1, h2, q⟩ := q
  have hgg := grN2 h1
  clear h1
  obtain ⟨h1, rfl⟩ := hgg
  rw [Bool.and_eq_true, Bool.and_eq_true] at h1
  obtain ⟨ga, hga⟩ := isR_some h1.1.1
  obtain ⟨gb, hgb⟩ := isR_some h1.1.2
  obtain ⟨gc, hgc⟩ := isR_some h1.2
  simp only [ev, Option.bind_eq_some_iff] at h2
  obtain ⟨x, hx, y, hy, r, hr, hz⟩ := h2
  refine tE.mk R hga hx fun v H1 s1 rv => tE.mk (R.grow s1) hgb hy fun w H2 s2 rw_ => ?_
  refine ⟨_, x, y, r, rv.ro.same s2, rw_.ro, hr, r, rfl, ?_⟩
  cases r with
  | false =>
    simp only [Bool.false_eq_true, if_false, Option.some.injEq] at hz ⊢
    subst hz
    exact q _ H2 (s1.trans s2) (RN.bl _)
  | true =>
    simp only [if_true] at hz ⊢
    obtain ⟨z, hz1, hz2⟩ := Option.bind_eq_some_iff.mp hz
    obtain ⟨k, hk, rfl⟩ := Option.map_eq_some_iff.mp hz2
    refine tE.mk ((R.grow s1).grow s2) hgc hz1 fun u H3 s3 ru => ?_
    exact ⟨_, y, z, k, rw_.ro.same s3, ru.ro, hk, q _ H3 (s1.trans (s2.trans s3)) (RN.bl _)⟩
/-! ### tests -/
theorem lt_truth {m : E} {e : Expr} (ha : PE X e (tE X.K Γ m)) (he : ∀ whole, isTrue e X.env whole = (do let v ← whole; standAt e.pos; holding [v] (truthy v))) : PT X e (tTr X.K Γ m) := by
  refine (pt_truth ha he).engImp fun σ H Q q => ?_
  obtain ⟨H0, ok, τ, F, σD, g, d, b, R, h1, h2, h3, q⟩ := q
  exact tE.mk R h1 h2 fun v H1 s1 rv => ⟨b, truth_ok h3 rv.ro, q H1 s1⟩
theorem lt_not {a : E} {a' : Expr} {pos : Pos} (ha : PT X a' (tTr X.K Γ a)) : PT X (.UnaryOp .Not a' pos) (tTr X.K Γ (.not a)) := by
  refine (pt_not ha).engImp fun σ H Q q => ?_
  obtain ⟨H0, ok, τ, F, σD, g, d, b, R, h1, h2, h3, q⟩ := q
  obtain ⟨ga, rfl⟩ := grN2 h1
  obtain ⟨ga, hga⟩ := isR_some ga
  simp only [ev, Option.bind_eq_some_iff] at h2
  obtain ⟨x, hx, hz⟩ := h2
  obtain ⟨k, hb, rfl⟩ := Option.map_eq_some_iff.mp hz
  simp only [truth, Option.some.injEq] at h3
  subst h3
  exact ⟨H0, ok, τ, F, σD, ga, x, k, R, hga, hx, hb, fun H1 s1 => q H1 s1⟩
theorem lw_and {a b : E} {a' b' : Expr} {r : List Expr} {pos : Pos} (ha : PT X a' (tTr X.K Γ a)) (hb : PW X (.BoolOp .And (b' :: r) pos) (tTr X.K Γ b)) : PW X (.BoolOp .And (a' :: b' :: r) pos) (tTr X.K Γ (.and a b)) := by
  refine (pw_and ha hb).engImp fun σ H Q q => ?_
  obtain ⟨H0, ok, τ, F, σD, g, d, t, R, h1, h2, h3, q⟩ := q
  have hgg := iff'_some h1
  clear h1
  obtain ⟨h1, rfl⟩ := hgg
  rw [Bool.and_eq_true] at h1
  obtain ⟨ga, hga⟩ := isR_some (isA_R h1.1)
  obtain ⟨gb, hgb⟩ := isR_some (isA_R h1.2)
  simp only [ev, Option.bind_eq_some_iff] at h2
  obtain ⟨x, hx, c, hc, hz⟩ := h2
  refine ⟨H0, ok, τ, F, σD, ga, x, c, R, hga, hx, hc, fun H1 s1 => ?_⟩
  cases c with
  | true =>
    simp only [if_true] at hz ⊢
    exact ⟨H0, ok, τ, F, σD, gb, d, t, R.grow s1, hgb, hz, h3, fun H2 s2 => q H2 (s1.trans s2)⟩
  | false =>
    simp only [Bool.false_eq_true, if_false, Option.some.injEq] at hz ⊢
    subst hz
    rw [hc] at h3
    cases h3
    exact q H1 s1
theorem lw_or {a b : E} {a' b' : Expr} {r : List Expr} {pos : Pos} (ha : PT X a' (tTr X.K Γ a)) (hb : PW X (.BoolOp .Or (b' :: r) pos) (tTr X.K Γ b)) : PW X (.BoolOp .Or (a' :: b' :: r) pos) (tTr X.K Γ (.or a b)) := by
  refine (pw_or ha hb).engImp fun σ H Q q => ?_
  obtain ⟨H0, ok, τ, F, σD, g, d, t, R, h1, h2, h3, q⟩ := q
  have hgg := iff'_some h1
  clear h1
  obtain ⟨h1, rfl⟩ := hgg
  rw [Bool.and_eq_true] at h1
  obtain ⟨ga, hga⟩ := isR_some (isA_R h1.1)
  obtain ⟨gb, hgb⟩ := isR_some (isA_R h1.2)
  simp only [ev, Option.bind_eq_some_iff] at h2
  obtain ⟨x, hx, c, hc, hz⟩ := h2
  refine ⟨H0, ok, τ, F, σD, ga, x, c, R, hga, hx, hc, fun H1 s1 => ?_⟩
  cases c with
  | false =>
    simp only [Bool.false_eq_true, if_false] at hz ⊢
    exact ⟨H0, ok, τ, F, σD, gb, d, t, R.grow s1, hgb, hz, h3, fun H2 s2 => q H2 (s1.trans s2)⟩
  | true =>
    simp only [if_true, Option.some.injEq] at hz ⊢
    subst hz
    rw [hc] at h3
    cases h3
    exact q H1 s1
theorem lt_cmp {o : Cop} {a b : E} {a' b' : Expr} {pos : Pos} (cx : CxF I Γ fb sc X) (hs : notSet b' = true) (ha : PE X a' (tE X.K Γ a)) (hb : PE X b' (tE X.K Γ b)) : PT X (.Compare a' [copOf o] [b'] pos) (tTr X.K Γ (.cmp o a b)) := by
  refine (pt_cmpR (op_cmp (by have := cx.un; omega) o) ha hb (mark_of hs)).engImp fun σ H Q q => ?_
  obtain ⟨H0, ok, τ, F, σD, g, d, t, R, h1, h2, h3, q⟩ := q
  have hgg := grN2 h1
  clear h1
  obtain ⟨h1, rfl⟩ := hgg
  rw [Bool.and_eq_true] at h1
  obtain ⟨ga, hga⟩ := isR_some h1.1
  obtain ⟨gb, hgb⟩ := isR_some h1.2
  simp only [ev, Option.bind_eq_some_iff] at h2
  obtain ⟨x, hx, y, hy, hz⟩ := h2
  obtain ⟨k, hk, rfl⟩ := Option.map_eq_some_iff.mp hz
  simp only [truth, Option.some.injEq] at h3
  subst h3
  refine tE.mk R hga hx fun v H1 s1 rv => tE.mk (R.grow s1) hgb hy fun w H2 s2 rw_ => ?_
  exact ⟨_, x, y, k, rv.ro.same s2, rw_.ro, hk, k, rfl, q H2 (s1.trans s2)⟩
theorem lt_chain {o p : Cop} {a b c : E} {a' b' c' : Expr} {pos : Pos} (cx : CxF I Γ fb sc X) (hs : notSet c' = true) (ha : PE X a' (tE X.K Γ a)) (hb : PE X b' (tE X.K Γ b)) (hc : PE X c' (tE X.K Γ c)) : PT X (.Compare a' [copOf o, copOf p] [b', c'] pos) (tTr X.K Γ (.chain o p a b c)) := by
  have hu : X.A.units + 80 < cLine := by have := cx.un; omega
  refine (pt_chain (op_cmp hu o) (op_cmp hu p) ha hb hc (lmark hs)).engImp fun σ H Q q => ?_
  obtain ⟨H0, ok, τ, F, σD, g, d, t, R, h1, h2, h3, q⟩ := q
  have hgg := grN2 h1
  clear h1
  obtain ⟨h1, rfl⟩ := hgg
  rw [Bool.and_eq_true, Bool.and_eq_true] at h1
  obtain ⟨ga, hga⟩ := isR_some h1.1.1
  obtain ⟨gb, hgb⟩ := isR_some h1.1.2
  obtain ⟨gc, hgc⟩ := isR_some h1.2
  simp only [ev, Option.bind_eq_some_iff] at h2
  obtain ⟨x, hx, y, hy, r, hr, hz⟩ := h2
  refine tE.mk R hga hx fun v H1 s1 rv => tE.mk (R.grow s1) hgb hy fun w H2 s2 rw_ => ?_
  refine ⟨_, x, y, r, rv.ro.same s2, rw_.ro, hr, r, rfl, ?_⟩
  cases r with
  | false =>
    simp only [Bool.false_eq_true, if_false, Option.some.injEq] at hz ⊢
    subst hz
    simp only [truth, Option.some.injEq] at h3
    subst h3
    exact ⟨_, rfl, q H2 (s1.trans s2)⟩
  | true =>
    simp only [if_true] at hz ⊢
    obtain ⟨z, hz1, hz2⟩ := Option.bind_eq_some_iff.mp hz
    obtain ⟨k, hk, rfl⟩ := Option.map_eq_some_iff.mp hz2
    simp only [truth, Option.some.injEq] at h3
    subst h3
    refine tE.mk ((R.grow s1).grow s2) hgc hz1 fun u H3 s3 ru => ?_
    exact ⟨_, y, z, k, rw_.ro.same s3, ru.ro, hk, k, rfl, q H3 (s1.trans (s2.trans s3))⟩
theorem lt_ite {c a b : E} {c' a' b' : Expr} {pos : Pos} (hc : PT X c' (tTr X.K Γ c)) (ha : PT X a' (tTr X.K Γ a)) (hb : PT X b' (tTr X.K Γ b)) : PT X (.IfExp c' a' b' pos) (tTr X.K Γ (.ite c a b)) := by
  refine ⟨fun pins s σ H Q J q => ?_⟩
  obtain ⟨H0, ok, τ, F, σD, g, d, t, R, h1, h2, h3, q⟩ := q
  simp only [gr] at h1
  split at h1
  · rename_i hcr
    obtain ⟨gc, hgc⟩ := isR_some hcr
    have hab : isR (gr τ a) = true ∧ isR (gr τ b) = true := by
      cases e1 : gr τ a with
      | none => rw [e1] at h1; simp [joinG] at h1
      | some x =>
        cases e2 : gr τ b with
        | none => rw [e1, e2] at h1; cases x <;> simp [joinG] at h1
        | some y => exact ⟨rfl, rfl⟩
    obtain ⟨ga, hga⟩ := isR_some hab.1
    obtain ⟨gb, hgb⟩ := isR_some hab.2
    simp only [ev, Option.bind_eq_some_iff] at h2
    obtain ⟨x, hx, k, hk, hz⟩ := h2
    refine isTrue_IfExp (thn (hc.run pins s σ H (fun c1 H1 => c1 = k ∧ Same H H1) J ⟨H0, ok, τ, F, σD, gc, x, k, R, hgc, hx, hk, fun H1 s1 => ⟨rfl, s1⟩⟩) fun c1 s1 ⟨H1, J1, e1, sm⟩ => ?_)
    subst e1
    cases c1 with
    | true =>
      simp only [if_true] at hz ⊢
      exact ha.run pins s1 σ H1 Q J1 ⟨H0, ok, τ, F, σD, ga, d, t, R.grow sm, hga, hz, h3, fun H2 s2 => q H2 (sm.trans s2)⟩
    | false =>
      simp only [Bool.false_eq_true, if_false] at hz ⊢
      exact hb.run pins s1 σ H1 Q J1 ⟨H0, ok, τ, F, σD, gb, d, t, R.grow sm, hgb, hz, h3, fun H2 s2 => q H2 (sm.trans s2)⟩
  · cases h1
theorem joinG_some {K : PySem.W.Frag} {ok : Addr → Prop} {H H' : Hp} {x y : Option Gr} {g : Gr} (h : joinG x y = some g) : ∃ gx gy, x = some gx ∧ y = some gy ∧ (∀ d v, Okn H ok → GR gx K ok H H' d v → GR g K ok H H' d v) ∧ ∀ d v, Okn H ok → GR gy K ok H H' d v → GR g K ok H H' d v := by
  cases x with
  | none => simp [joinG] at h
  | some gx =>
    cases y with
    | none => cases gx <;> simp [joinG] at h
    | some gy =>
      refine ⟨gx, gy, rfl, rfl, fun d v hn r => ?_, fun d v hn r => ?_⟩
      · cases gx <;> cases gy <;> simp [joinG] at h <;> subst h <;> first | exact r | exact RN.rep hn r | exact RN.ro r | exact .inr r | exact r.ro
      · cases gx <;> cases gy <;> simp [joinG] at h <;> subst h <;> first | exact r | exact RN.rep hn r | exact RN.ro r | exact .inr r | exact r.ro
theorem l_ite {c a b : E} {c' a' b' : Expr} {pos : Pos} (hc : PT X c' (tTr X.K Γ c)) (ha : PE X a' (tE X.K Γ a)) (hb : PE X b' (tE X.K Γ b)) : PE X (.IfExp c' a' b' pos) (tE X.K Γ (.ite c a b)) := by
  refine (pe_ifExp hc ha hb).engImp fun σ H Q q => ?_
  obtain ⟨H0, ok, τ, F, σD, g, d, R, h1, h2, q⟩ := q
  simp only [gr] at h1
  split at h1
  · rename_i hcr
    obtain ⟨gc, hgc⟩ := isR_some hcr
    simp only [ev, Option.bind_eq_some_iff] at h2
    obtain ⟨x, hx, k, hk, hz⟩ := h2
    refine ⟨H0, ok, τ, F, σD, gc, x, k, R, hgc, hx, hk, fun H1 s1 => ?_⟩
    obtain ⟨ga, gb, hga, hgb, _⟩ := joinG_some (K := X.K) (ok := okF ok F) (H := H1) (H' := H1) h1
    cases k with
    | true =>
      simp only [if_true] at hz ⊢
      refine tE.mk (R.grow s1) hga hz fun v H2 s2 rv => q v H2 (s1.trans s2) ?_
      obtain ⟨ga', gb', e1, e2, f1, _⟩ := joinG_some (K := X.K) (ok := okF ok F) (H := H) (H' := H2) h1
      rw [hga] at e1; cases e1
      exact f1 d v R.okn' (rv.same0 s1)
    | false =>
      simp only [Bool.false_eq_true, if_false] at hz ⊢
      refine tE.mk (R.grow s1) hgb hz fun v H2 s2 rv => q v H2 (s1.trans s2) ?_
      obtain ⟨ga', gb', e1, e2, _, f2⟩ := joinG_some (K := X.K) (ok := okF ok F) (H := H) (H' := H2) h1
      rw [hgb] at e2; cases e2
      exact f2 d v R.okn' (rv.same0 s1)
  · cases h1
/-! ### arguments, displays -/
theorem l_nil : PA X [] (tEs X.K Γ []) := by
  refine pa_nil.engImp fun σ H Q q => ?_
  obtain ⟨H0, ok, τ, F, σD, ds, R, h1, h2, q⟩ := q
  simp only [evs, Option.some.injEq] at h2
  subst h2
  exact q [] H (Same.refl _) .nil fun _ => .nil
theorem l_cons {a : E} {as : List E} {a' : Expr} {as' : List Expr} (ha : PE X a' (tE X.K Γ a)) (hs : PA X as' (tEs X.K Γ as)) (hst : starEach (a' :: as') X.env = (false, eval a' X.env) :: starEach as' X.env) : PA X (a' :: as') (tEs X.K Γ (a :: as)) := by
  refine (pa_cons ha hs hst).engImp fun σ H Q q => ?_
  obtain ⟨H0, ok, τ, F, σD, ds, R, h1, h2, q⟩ := q
  simp only [grR, Bool.and_eq_true] at h1
  obtain ⟨ga, hga⟩ := isR_some h1.1
  simp only [evs, Option.bind_eq_some_iff] at h2
  obtain ⟨x, hx, hz⟩ := h2
  obtain ⟨xs, hxs, rfl⟩ := Option.map_eq_some_iff.mp hz
  refine tE.mk R hga hx fun v H1 s1 rv => tEs.mk (R.grow s1) h1.2 hxs fun vs H2 s2 rs ra => q _ H2 (s1.trans s2) (.cons (rv.ro.same s2) rs) fun hA => ?_
  simp only [grA, Bool.and_eq_true] at hA
  exact .cons ((rv.rep R.okn' (hga ▸ hA.1)).same s2) (ra hA.2)
theorem l_tup {es : List E} {es' : List Expr} {k : Nat} {pos : Pos} (h : PA X es' (tEs X.K Γ es)) (hAR : ∀ τ, grA τ es = true → grR τ es = true) : PE X (.Tuple es' k pos) (tE X.K Γ (.tup es)) := by
  refine (pe_tup h).engImp fun σ H Q q => ?_
  obtain ⟨H0, ok, τ, F, σD, g, d, R, h1, h2, q⟩ := q
  have hgg := grN2 h1
  clear h1
  obtain ⟨h1, rfl⟩ := hgg
  simp only [ev, Option.bind_eq_some_iff] at h2
  obtain ⟨xs, hxs, hz⟩ := h2
  simp only [Option.ite_none_right_eq_some, Option.some.injEq] at hz
  obtain ⟨hl, rfl⟩ := hz
  refine tEs.mk R (hAR τ h1) hxs fun vs H1 s1 _ ra => ?_
  have r := ra h1
  exact ⟨by rw [r.length]; exact lenOk_le hl, fun p hp => q _ _ (s1.trans (same_new hp)) (RN.same0 s1 (.newT hp r))⟩
theorem l_lst {es : List E} {es' : List Expr} {pos : Pos} (h : PA X es' (tEs X.K Γ es)) (hAR : ∀ τ, grA τ es = true → grR τ es = true) : PE X (.List es' pos) (tE X.K Γ (.lst es)) := by
  refine (pe_lst h).engImp fun σ H Q q => ?_
  obtain ⟨H0, ok, τ, F, σD, g, d, R, h1, h2, q⟩ := q
  have hgg := grN2 h1
  clear h1
  obtain ⟨h1, rfl⟩ := hgg
  simp only [ev, Option.bind_eq_some_iff] at h2
  obtain ⟨xs, hxs, hz⟩ := h2
  simp only [Option.ite_none_right_eq_some, Option.some.injEq] at hz
  obtain ⟨hl, rfl⟩ := hz
  refine tEs.mk R (hAR τ h1) hxs fun vs H1 s1 _ ra => ?_
  have r := ra h1
  exact ⟨by rw [r.length]; exact lenOk_le hl, fun p hp => q _ _ (s1.trans (same_new hp)) (RN.same0 s1 (.newL hp r))⟩
theorem grA_R (τ : List Bool) : ∀ es : List E, grA τ es = true → grR τ es = true
  | [], _ => rfl
  | e :: es, h => by
    simp only [grA, Bool.and_eq_true] at h
    simp only [grR, Bool.and_eq_true]
    exact ⟨isA_R h.1, grA_R τ es h.2⟩
/-! ### subscripts -/
theorem l_idx {a i : E} {a' i' : Expr} {pos : Pos} (ha : PE X a' (tE X.K Γ a)) (hi : PE X i' (tE X.K Γ i)) (hs : PlainIx i') : PE X (.Subscript a' i' pos) (tE X.K Γ (.idx a i)) := by
  refine (pe_ix ix_D ha hi hs).engImp fun σ H Q q => ?_
  obtain ⟨H0, ok, τ, F, σD, g, d, R, h1, h2, q⟩ := q
  have hgg := iff'_some h1
  clear h1
  obtain ⟨h1, rfl⟩ := hgg
  rw [Bool.and_eq_true] at h1
  obtain ⟨ga, hga⟩ := isR_some h1.1
  obtain ⟨gb, hgb⟩ := isR_some h1.2
  simp only [ev, Option.bind_eq_some_iff] at h2
  obtain ⟨x, hx, y, hy, hz⟩ := h2
  refine tE.mk R hga hx fun v H1 s1 rv => tE.mk (R.grow s1) hgb hy fun w H2 s2 rw_ => ?_
  exact ⟨_, x, y, d, rv.ro.same s2, rw_.ro, hz, fun z rz => q z H2 (s1.trans s2) rz⟩
theorem l_rev {a : E} {a' : Expr} {k : Nat} {p1 p2 p3 pos : Pos} (ha : PE X a' (tE X.K Γ a)) : PE X (.Subscript a' (.Slice none none (some (.UnaryOp .USub (.Constant (.int 1) k p1) p2)) p3) pos) (tE X.K Γ (.rev a)) := by
  refine (pe_revD ha).engImp fun σ H Q q => ?_
  obtain ⟨H0, ok, τ, F, σD, g, d, R, h1, h2, q⟩ := q
  obtain ⟨ga, rfl⟩ := grN2 h1
  obtain ⟨ga, hga⟩ := isR_some ga
  simp only [ev, Option.bind_eq_some_iff] at h2
  obtain ⟨x, hx, hz⟩ := h2
  refine tE.mk R hga hx fun v H1 s1 rv => ⟨_, x, d, (R.grow s1).okn', rv.ro, hz, fun w H2 s2 rw_ => q w H2 (s1.trans s2) (RN.same0 s1 rw_)⟩
end
end Eng
end
section
set_option Elab.async false
set_option linter.all false
set_option maxRecDepth 100000
set_option maxHeartbeats 2000000
/-! EngE3: slices, calls, what is walked. -/
namespace Eng
open PySem PySem.Spec PyProof.Rows L2
section
variable {I : Info} {Γ : Fs} {fb : Str → Bool} {sc : Scope} {X : Cx}
/-! ### slices -/
def tO (K : PySem.W.Frag) (Γ : Fs) : List E → TO
  | [] => tNoPart
  | [a] => tPart (tE K Γ a)
  | _ => fun _ _ _ => False
theorem l_sl {a : E} {lo hi : List E} {a' : Expr} {lo' hi' : Option Expr} {p2 pos : Pos} (ha : PE X a' (tE X.K Γ a)) (hl : PO X lo' (tO X.K Γ lo)) (hh : PO X hi' (tO X.K Γ hi)) : PE X (.Subscript a' (.Slice lo' hi' none p2) pos) (tE X.K Γ (.sl a lo hi)) := by
  refine (pe_slice sl_D ha hl hh).engImp fun σ H Q q => ?_
  obtain ⟨H0, ok, τ, F, σD, g, d, R, h1, h2, q⟩ := q
  have hgg := grN2 h1
  clear h1
  obtain ⟨h1, rfl⟩ := hgg
  rw [Bool.and_eq_true, Bool.and_eq_true] at h1
  obtain ⟨ga, hga⟩ := isR_some h1.1.1
  simp only [ev, Option.bind_eq_some_iff] at h2
  obtain ⟨x, hx, l, hl1, h, hh1, hz⟩ := h2
  refine tE.mk R hga hx fun v H1 s1 rv => ?_
  -- the parts
  have part : ∀ {es : List E} {ds : List D} {H1 : Hp} {P : Option Int → Hp → Prop}, SR X.K H0 ok τ F H1 σ σD → grR τ es = true → evs Γ es σD = some ds → ((ds = [] ∧ ∀ H2, Same H1 H2 → P none H2) ∨ ∃ i : Int, ds = [.int i] ∧ ∀ H2, Same H1 H2 → P (some i) H2) → tO X.K Γ es σ H1 P := fun {es ds H1 P} R1 hg he hp => by
    match es, hg, he with
    | [], _, he =>
      simp only [evs, Option.some.injEq] at he
      subst he
      rcases hp with ⟨_, hp⟩ | ⟨i, z, _⟩
      · exact hp H1 (Same.refl _)
      · cases z
    | [e], hg, he =>
      simp only [grR, Bool.and_eq_true] at hg
      obtain ⟨ge, hge⟩ := isR_some hg.1
      simp only [evs, Option.bind_eq_some_iff, Option.map_some, Option.some.injEq] at he
      obtain ⟨y, hy, rfl⟩ := he
      rcases hp with ⟨z, _⟩ | ⟨i, z, hp⟩
      · cases z
      · cases z
        refine tE.mk R1 hge hy fun w H2 s2 rw_ => ?_
        exact ⟨i, rw_.ro.int, hp H2 s2⟩
    | e :: e' :: r, hg, he =>
      simp only [evs, Option.bind_eq_some_iff, Option.map_eq_some_iff] at he
      obtain ⟨y, _, ys, ⟨y', _, ys', _, rfl⟩, rfl⟩ := he
      rcases hp with ⟨z, _⟩ | ⟨i, z, _⟩ <;> cases z
  have fin : ∀ (o p : Option Int) (H2 H3 : Hp), slD x o p = some d → Same H1 H2 → Same H2 H3 → rDs X.K v o p H3 Q := fun o p H2 H3 hd s2 s3 =>
    ⟨_, x, d, (((R.grow s1).grow s2).grow s3).okn', (rv.ro.same s2).same s3, hd, fun w H4 s4 rw_ => q w H4 (((s1.trans s2).trans s3).trans s4) (RN.same0 ((s1.trans s2).trans s3) rw_)⟩
  split at hz
  · exact part (R.grow s1) h1.1.2 hl1 (.inl ⟨rfl, fun H2 s2 => part ((R.grow s1).grow s2) h1.2 hh1 (.inl ⟨rfl, fun H3 s3 => fin none none H2 H3 hz s2 s3⟩)⟩)
  · exact part (R.grow s1) h1.1.2 hl1 (.inr ⟨_, rfl, fun H2 s2 => part ((R.grow s1).grow s2) h1.2 hh1 (.inl ⟨rfl, fun H3 s3 => fin _ none H2 H3 hz s2 s3⟩)⟩)
  · exact part (R.grow s1) h1.1.2 hl1 (.inl ⟨rfl, fun H2 s2 => part ((R.grow s1).grow s2) h1.2 hh1 (.inr ⟨_, rfl, fun H3 s3 => fin none _ H2 H3 hz s2 s3⟩)⟩)
  · exact part (R.grow s1) h1.1.2 hl1 (.inr ⟨_, rfl, fun H2 s2 => part ((R.grow s1).grow s2) h1.2 hh1 (.inr ⟨_, rfl, fun H3 s3 => fin _ _ H2 H3 hz s2 s3⟩)⟩)
  · cases hz
/-! ### calls of defs -/
theorem flat_rn {K : PySem.W.Frag} {H H' : Hp} {ok ok' : Addr → Prop} {d : D} {v : V} (hf : flatB d = true) (h : RN K ok H H' d v) : RN K ok' H H' d v := by
  rcases h with ⟨ds, a, vs, rfl, rfl, h0, h, r⟩ | ⟨hn, r⟩
  · exact .inl ⟨ds, a, vs, rfl, rfl, h0, h, r.pur _ _ hf⟩
  · refine .inr ⟨hn, ?_⟩
    have hp : pur d = true := by
      cases d with
      | list xs => exact absurd rfl (hn xs)
      | _ => exact hf
    exact r.pur _ _ hp
theorem l_call {f : Nat} {bor : Bool} {es : List E} {x : Str} {p pos : Pos} {es' : List Expr} (c : CxF I Γ fb sc X) (h1 : I.G[f]? = some (x, es.length)) (h2 : glB sc x = true) (h3 : okNm x = true) (hl : es'.length = es.length) (ha : PA X es' (tEs X.K Γ es))
    (hst : ∀ a r, es' = a :: r → starEach (a :: r) X.env = (false, eval a X.env) :: starEach r X.env ∧ (backTo pos (starEach r X.env)).any (·.1) = false) : PE X (.Call (.Name x p) es' [] pos) (tE X.K Γ (.call f bor es)) := by
  obtain ⟨fa, fd, ps, k, hm, hk, hb, G, hr⟩ := c.fns f x _ h1
  have key : ∀ {t : TA}, (∀ σ H Q, tEs X.K Γ es σ H Q → t σ H Q) → ∀ σ H Q, tE X.K Γ (.call f bor es) σ H Q → tCall (spD X.K es.length (Γ f)) [] E0 t σ H Q := fun {t} ht σ H Q q => by
    obtain ⟨H0, ok, τ, F, σD, g, d, R, hg, h2, q⟩ := q
    have hgg := grN2 hg
    clear hg
    obtain ⟨hg, rfl⟩ := hgg
    simp only [ev, Option.bind_eq_some_iff] at h2
    obtain ⟨xs, hxs, r, hr, hz⟩ := h2
    simp only [Option.ite_none_right_eq_some, Option.some.injEq] at hz
    obtain ⟨hbf, rfl⟩ := hz
    have hlen : xs.length = es.length := by
      have : ∀ {es : List E} {ds : List D}, evs Γ es σD = some ds → ds.length = es.length := by
        intro es
        induction es with
        | nil => intro ds h; simp only [evs, Option.some.injEq] at h; subst h; rfl
        | cons e es ih =>
          intro ds h
          simp only [evs, Option.bind_eq_some_iff, Option.map_eq_some_iff] at h
          obtain ⟨y, _, ys, hy, rfl⟩ := h
          simp [ih hy]
      exact this hxs
    have hgR : grR τ es = true := by
      cases bor with
      | true => exact hg
      | false => exact grA_R τ es hg
    refine ht σ H _ (tEs.mk R hgR hxs fun vs H1 s1 rs ra => ?_)
    rw [List.append_nil]
    cases bor with
    | true =>
      refine ⟨fun _ => True, xs, r, fun _ _ => trivial, rs.frz, hlen, hr, fun v H2 s2 rv => q v H2 (s1.trans s2) (RN.same0 s1 ?_)⟩
      exact flat_rn (by simpa using hbf) rv
    | false => exact ⟨_, xs, r, (R.grow s1).okn', ra hg, hlen, hr, fun v H2 s2 rv => q v H2 (s1.trans s2) (RN.same0 s1 rv)⟩
  cases es' with
  | nil =>
    have e0 : es = [] := List.eq_nil_of_length_eq_zero hl.symm
    subst e0
    refine (pe_call0 G hr (gl_of c h2) hm hk hb .nil pass0 (okNm_of h3).1).engImp (key fun σ H Q q => ?_)
    obtain ⟨H0, ok, τ, F, σD, ds, R, h1, h2, q⟩ := q
    simp only [evs, Option.some.injEq] at h2
    subst h2
    exact q [] H (Same.refl _) .nil fun _ => .nil
  | cons a r => exact (pe_call G hr (gl_of c h2) hm hk hb .nil pass0 ha (okNm_of h3).1 (hst a r rfl).1 (hst a r rfl).2).engImp (key fun _ _ _ q => q)
/-! ### built-in calls -/
theorem bi_key {K : PySem.W.Frag} {b : Bi} {es : List E} {r : List V → Hp → VK → Prop} (hr : ∀ vs H Q, rDc K (biD b) vs H Q → r vs H Q) : ∀ σ H Q, tE K Γ (.bi b es) σ H Q → tCB r (tEs K Γ es) σ H Q := fun σ H Q q => by
  obtain ⟨H0, ok, τ, F, σD, g, d, R, hg, h2, q⟩ := q
  have hgg := grN2 hg
  clear hg
  obtain ⟨hg, rfl⟩ := hgg
  simp only [ev, Option.bind_eq_some_iff] at h2
  obtain ⟨xs, hxs, hz⟩ := h2
  refine tEs.mk R hg hxs fun vs H1 s1 rs ra => hr _ _ _ ⟨_, xs, d, (R.grow s1).okn', rs, hz, fun v H2 s2 rv => q v H2 (s1.trans s2) (RN.same0 s1 rv)⟩
theorem l_bi {b : Bi} {es : List E} {p pos : Pos} {a : Expr} {as : List Expr} (c : CxF I Γ fb sc X) (h2 : glB sc (biNm b) = true) (h3 : plainBi b = true) (h4 : b = .isqrt → I.isq = true) (ha : PA X (a :: as) (tEs X.K Γ es))
    (hst : starEach (a :: as) X.env = (false, eval a X.env) :: starEach as X.env) (hbk : (backTo pos (starEach as X.env)).any (·.1) = false) : PE X (.Call (.Name (biNm b) p) (a :: as) [] pos) (tE X.K Γ (.bi b es)) := by
  have hu : X.A.units + 80 < cLine := by have := c.un; omega
  have gl := gl_of c h2
  have bi : ∀ {r : List V → Hp → VK → Prop} {id : String}, CallR X (.builtin id) r → (∀ vs H Q, rDc X.K (biD b) vs H Q → r vs H Q) → X.mg (biNm b) = none → bootBuiltins (biNm b) = some (.builtin id) → biNm b ≠ "__name__" → (biNm b == ("__debug__" : Str)) = false → PE X (.Call (.Name (biNm b) p) (a :: as) [] pos) (tE X.K Γ (.bi b es)) := fun {r id} hc hr hm hv hn hd =>
    (pe_callB hc gl hm hv ha hn hd hst hbk).engImp (bi_key hr)
  have ty : ∀ {r : List V → Hp → VK → Prop} {id : String}, CallR X (.type id) r → (∀ vs H Q, rDc X.K (biD b) vs H Q → r vs H Q) → X.mg (biNm b) = none → bootBuiltins (biNm b) = some (.type id) → biNm b ≠ "__name__" → (biNm b == ("__debug__" : Str)) = false → PE X (.Call (.Name (biNm b) p) (a :: as) [] pos) (tE X.K Γ (.bi b es)) := fun {r id} hc hr hm hv hn hd =>
    (pe_callTy hc gl hm hv ha hn hd hst hbk).engImp (bi_key hr)
  cases b with
  | len => exact bi c_len (fun _ _ _ q => q) (c.blt _ (by decide)) PySem.boot_len (by decide +kernel) (by decide +kernel)
  | sum => exact bi (c_sum c.calm) (fun _ _ _ q => q) (c.blt _ (by decide)) (by decide +kernel) (by decide +kernel) (by decide +kernel)
  | all => exact bi (c_all c.calm) (fun _ _ _ q => q) (c.blt _ (by decide)) (by decide +kernel) (by decide +kernel) (by decide +kernel)
  | any => exact bi (c_any c.calm) (fun _ _ _ q => q) (c.blt _ (by decide)) (by decide +kernel) (by decide +kernel) (by decide +kernel)
  | abs => exact bi c_abs (fun _ _ _ q => q) (c.blt _ (by decide)) (by decide +kernel) (by decide +kernel) (by decide +kernel)
  | max1 => exact bi (c_max1 hu c.calm) (fun _ _ _ q => q) (c.blt _ (by decide)) (by decide +kernel) (by decide +kernel) (by decide +kernel)
  | min1 => exact bi (c_min1 hu c.calm) (fun _ _ _ q => q) (c.blt _ (by decide)) (by decide +kernel) (by decide +kernel) (by decide +kernel)
  | max2 => exact bi (c_max2 c.calm) (fun _ _ _ q => q) (c.blt _ (by decide)) (by decide +kernel) (by decide +kernel) (by decide +kernel)
  | min2 => exact bi (c_min2 c.calm) (fun _ _ _ q => q) (c.blt _ (by decide)) (by decide +kernel) (by decide +kernel) (by decide +kernel)
  | int => exact ty c_int (fun _ _ _ q => q) (c.blt _ (by decide)) (by decide +kernel) (by decide +kernel) (by decide +kernel)
  | tuple => exact ty c_tuple (fun _ _ _ q => q) (c.blt _ (by decide)) (by decide +kernel) (by decide +kernel) (by decide +kernel)
  | list => exact ty c_list (fun _ _ _ q => q) (c.blt _ (by decide)) (by decide +kernel) (by decide +kernel) (by decide +kernel)
  | sorted => exact bi (c_sorted hu) (fun _ _ _ q => q) (c.blt _ (by decide)) (by decide +kernel) (by decide +kernel) (by decide +kernel)
  | isqrt => exact (pe_callBfun c_isqrt gl (c.isq (h4 rfl)) ha (by decide +kernel) hst hbk).engImp (bi_key fun _ _ _ q => q)
  | _ => cases h3
end
end Eng
end
section
set_option Elab.async false
set_option linter.all false
set_option maxRecDepth 100000
set_option maxHeartbeats 2000000
/-! EngE4: isinstance. -/
namespace Eng
open PySem PySem.Spec PyProof.Rows L2
section
variable {I : Info} {Γ : Fs} {fb : Str → Bool} {sc : Scope} {X : Cx}
theorem l_isi0 {m : E} {b : Bi} {pr : D → Bool} {T : String} {a' : Expr} {p pT pos : Pos} (c : CxF I Γ fb sc X) (hb : biD b = dIs pr) (h2 : glB sc "isinstance" = true) (hg : glB sc (T : Str) = true) (hm : X.mg (T : Str) = none) (hv : bootBuiltins (T : Str) = some (.type T)) (hn : (T : Str) ≠ "__name__") (hd : ((T : Str) == ("__debug__" : Str)) = false)
    (hp : ∀ d : D, (∀ kv, d ≠ .dict kv) → kitB (tyN d) T = some (pr d)) (ha : PE X a' (tE X.K Γ m)) (hst : starEach [a', .Name (T : Str) pT] X.env = (false, eval a' X.env) :: starEach [.Name (T : Str) pT] X.env) :
    PE X (.Call (.Name "isinstance" p) [a', .Name (T : Str) pT] [] pos) (tE X.K Γ (.bi b [m])) := by
  have hmi : X.mg "isinstance" = none := c.blt .isInt (by decide)
  have h1 : PA X [.Name (T : Str) pT] (tCons (tC (.ty T)) tNil) := pa_cons (pe_bltn (v := .ty T) (gl_of c hg) hm hv rfl hn hd) pa_nil rfl
  have h2' : PA X [a', .Name (T : Str) pT] (tCons (tE X.K Γ m) (tCons (tC (.ty T)) tNil)) := pa_cons ha h1 hst
  have := pe_callB (pos := pos) (p := p) (isD_of hp) (gl_of c h2) hmi PyProof.Rows.boot_isinstance h2' (by decide) (by decide) hst rfl
  refine this.engImp fun σ H Q q => ?_
  obtain ⟨H0, ok, τ, F, σD, g, d, R, h1, h2, q⟩ := q
  have hgg := grN2 h1
  clear h1
  obtain ⟨h1, rfl⟩ := hgg
  simp only [grR, Bool.and_eq_true] at h1
  obtain ⟨ga, hga⟩ := isR_some h1.1
  simp only [ev, evs, Option.bind_eq_some_iff, Option.map_some, Option.some.injEq] at h2
  obtain ⟨xs, ⟨x, hx, rfl⟩, hz⟩ := h2
  rw [hb] at hz
  unfold dIs at hz
  split at hz
  · cases hz
  · rename_i y hy e
    simp only [List.cons.injEq, and_true] at e
    subst e
    simp only [Option.some.injEq] at hz
    subst hz
    refine tE.mk R hga hx fun v H1 s1 rv => ?_
    exact ⟨_, x, v, rfl, rv.ro, fun kv z => hy kv z, q _ H1 s1 (RN.bl _)⟩
  · cases hz
theorem l_isi {m : E} {b : Bi} {T : Str} {a' : Expr} {p pT pos : Pos} (c : CxF I Γ fb sc X) (hT : isTy b = some T) (h2 : glB sc "isinstance" = true) (hg : glB sc T = true) (ha : PE X a' (tE X.K Γ m))
    (hst : starEach [a', .Name T pT] X.env = (false, eval a' X.env) :: starEach [.Name T pT] X.env) : PE X (.Call (.Name "isinstance" p) [a', .Name T pT] [] pos) (tE X.K Γ (.bi b [m])) := by
  cases b with
  | isInt =>
    obtain rfl := Option.some.inj hT
    exact l_isi0 (T := "int") c rfl h2 hg (c.blt .int (by decide)) (by decide +kernel) (by decide +kernel) (by decide +kernel) isInt_kit ha hst
  | isBool =>
    obtain rfl := Option.some.inj hT
    exact l_isi0 (T := "bool") c rfl h2 hg (c.ty _ (.inl rfl)) (by decide +kernel) (by decide +kernel) (by decide +kernel) isBool_kit ha hst
  | isTuple =>
    obtain rfl := Option.some.inj hT
    exact l_isi0 (T := "tuple") c rfl h2 hg (c.blt .tuple (by decide)) (by decide +kernel) (by decide +kernel) (by decide +kernel) isTuple_kit ha hst
  | isStr =>
    obtain rfl := Option.some.inj hT
    exact l_isi0 (T := "str") c rfl h2 hg (c.ty _ (.inr (.inl rfl))) (by decide +kernel) (by decide +kernel) (by decide +kernel) isStr_kit ha hst
  | _ => cases hT
end
end Eng
end
section
set_option Elab.async false
set_option linter.all false
set_option maxRecDepth 100000
set_option maxHeartbeats 2000000
/-! EngE5: what is walked: lists, tuples, ranges. -/
namespace Eng
open PySem PySem.Spec PyProof.Rows L2
section
variable {I : Info} {Γ : Fs} {fb : Str → Bool} {sc : Scope} {X : Cx}
/-- a walk of the data xs: while G stands; its lists as; what it draws from (bs as ws) -/
structure ItOk (K : PySem.W.Frag) (ok : Addr → Prop) (al : Prop) (J : It) (H : Hp) (xs : List D) : Prop where
  ex : ∃ (G : Hp → Prop) (as : List Addr) (bs : List D) (ws : List V) (Y : Nat → Hp → V → Hp → Prop), Walk J xs.length G Y ∧ G H ∧ (∀ a ∈ as, ∃ vs, H a = some (.lst vs)) ∧ (al → ∀ a ∈ as, ok a) ∧ Reps K H ok bs ws ∧
    (∀ H', (∀ b vs, SqT K H b vs → SqT K H' b vs) → (∀ a ∈ as, H' a = H a) → G H') ∧
    ∀ (ok' : Addr → Prop) (H1 : Hp), G H1 → Reps K H1 ok' bs ws → ∀ i v H2, i < xs.length → Y i H1 v H2 → Same H1 H2 ∧ ∃ d, xs[i]? = some d ∧ Rep K H2 ok' d v
/-- no list of one's own is walked -/
def itA (τ : List Bool) : E → Bool
  | .bi .range _ => true
  | .bi .enumerate es => grA τ es
  | .bi .zip es => grA τ es
  | .bi .reversed es => grA τ es
  | m => isA (gr τ m)
def tI (K : PySem.W.Frag) (Γ : Fs) (m : E) : TI := fun σV H R => ∃ H0 ok τ F σD g d xs, SR K H0 ok τ F H σV σD ∧ gr τ m = some g ∧ ev Γ m σD = some d ∧ elemsP d = some xs ∧ ∀ J H', Same H H' → ItOk K (okF ok F) (itA τ m = true) J H' xs → R J H'
theorem pi_seq {tg l : Expr} {tl : TE} (hl : PE X l tl) : PI X tg l (fun σ H R => tl σ H fun x H1 => ∃ a, x = .ref a ∧ (((∃ xs, SqL X.K H1 a xs) ∧ R (Itl X.K a) H1) ∨ ((∃ xs, SqT X.K H1 a xs) ∧ R (Itt X.K a) H1))) := by
  refine ⟨fun pins s σ H R I h => ?_⟩
  refine thn (hl.run pins s σ H _ I h) fun v s1 ⟨x, H1, I1, r1, q1⟩ => ?_
  obtain ⟨a, e, q1⟩ := q1
  subst e
  cases r1
  rcases q1 with ⟨⟨xs, hq⟩, q⟩ | ⟨⟨xs, hq⟩, q⟩
  · obtain ⟨its, rv, p, hz⟩ := I1.list hq
    refine wpAny_pyIter_list p.isList ?_
    refine ⟨s1.heap.objs.size, [s1.heap.objs.size], _, _, H1, rfl, I1.kept (t' := s1.toks) fun b o e => Heap.get?_push_of_some _ e, turn_list a _, ⟨_, Heap.get?_push_size _ rfl, rfl, rfl⟩, fun b hb => ?_, q⟩
    have e : b = s1.heap.objs.size := by simpa using hb
    subst e
    exact I1.fpOk (Nat.le_refl _) (I1.hok.fresh (Nat.le_refl _))
  · obtain ⟨its, rv, p, hz⟩ := I1.tuple hq
    refine wpAny_pyIter_tuple (show s1.heap.IsTuple a its.toArray from p) ?_
    refine ⟨s1.heap.objs.size, [s1.heap.objs.size], _, _, H1, rfl, I1.kept (t' := s1.toks) fun b o e => Heap.get?_push_of_some _ e, turn_tuple a _, ⟨_, Heap.get?_push_size _ rfl, rfl, rfl⟩, fun b hb => ?_, q⟩
    have e : b = s1.heap.objs.size := by simpa using hb
    subst e
    exact I1.fpOk (Nat.le_refl _) (I1.hok.fresh (Nat.le_refl _))
theorem at_list {K : PySem.W.Frag} {ok' : Addr → Prop} {H1 : Hp} {bs : List D} {ws : List V} (r : Reps K H1 ok' bs ws) {i : Nat} {v : V} (h : ws[i]? = some v) : ∃ d, bs[i]? = some d ∧ Rep K H1 ok' d v := r.getV h
theorem it_list {K : PySem.W.Frag} {ok : Addr → Prop} {al : Prop} {H : Hp} {a : Addr} {xs : List D} {vs : List V} (ha : H a = some (.lst vs)) (hal : al → ok a) (r : Reps K H ok xs vs) : ItOk K ok al (Itl K a) H xs := by
  have w : Walk (Itl K a) xs.length (fun H => H a = some (.lst vs)) (YAt vs) := by
    rw [← r.length]
    exact (walk_list (K := K) (a := a) (xs := vs)).mono (fun H h => .inl (.inl h)) fun _ _ _ _ _ _ y => y
  exact ⟨fun H => H a = some (.lst vs), [a], xs, vs, YAt vs, w, ha, fun b hb => ⟨vs, (List.mem_singleton.mp hb) ▸ ha⟩, fun z b hb => (List.mem_singleton.mp hb) ▸ hal z, r, fun H' _ he => (he a (by simp)).trans ha, fun ok' H1 hG r1 i v H2 hi hy => by
    obtain ⟨rfl, hv⟩ := hy
    exact ⟨Same.refl _, at_list r1 hv⟩⟩
theorem it_tup {K : PySem.W.Frag} {ok : Addr → Prop} {al : Prop} {H : Hp} {a : Addr} {xs : List D} {vs : List V} (ha : SqT K H a vs) (r : Reps K H ok xs vs) : ItOk K ok al (Itt K a) H xs := by
  have w : Walk (Itt K a) xs.length (fun H => SqT K H a vs) (YAt vs) := by
    rw [← r.length]
    exact walk_tup (K := K) (a := a) (xs := vs)
  exact ⟨fun H => SqT K H a vs, [], xs, vs, YAt vs, w, ha, fun b hb => absurd hb (by simp), fun z b hb => absurd hb (by simp), r, fun H' ht _ => ht _ _ ha, fun ok' H1 hG r1 i v H2 hi hy => by
    obtain ⟨rfl, hv⟩ := hy
    exact ⟨Same.refl _, at_list r1 hv⟩⟩
/-- any list or tuple -/
theorem l_seq {m : E} {e tg : Expr} (hm : PE X e (tE X.K Γ m)) (hi : ∀ τ, itA τ m = isA (gr τ m)) : PI X tg e (tI X.K Γ m) := by
  refine (pi_seq hm).engImp fun σ H R q => ?_
  obtain ⟨H0, ok, τ, F, σD, g, d, xs, R1, hg, hd, hx, q⟩ := q
  refine tE.mk R1 hg hd fun v H1 s1 rv => ?_
  have ro := rv.ro
  obtain ⟨a, vs, rfl, ha, ra⟩ := ro.elemsP hx
  rcases ha with ⟨e, ha⟩ | ⟨_, ha⟩
  · refine ⟨a, rfl, .inl ⟨⟨vs, .inl (.inl ha)⟩, q _ H1 s1 (it_list ha (fun z => ?_) ra)⟩⟩
    rw [hi, hg] at z
    have rr := rv.rep R1.okn' z
    subst e
    obtain ⟨b, ws, e, _, h, _⟩ := rr.list
    cases e
    exact h
  · exact ⟨a, rfl, .inr ⟨⟨vs, ha⟩, q _ H1 s1 (it_tup ha ra)⟩⟩
/-! range -/
theorem small62_ok {i : Int} (h : small62 i = true) : -(2 ^ 62) ≤ i ∧ i < 2 ^ 62 := by
  unfold small62 at h
  rw [Bool.and_eq_true] at h
  exact ⟨of_decide_eq_true h.1, of_decide_eq_true h.2⟩
theorem rngUp_get (lo : Int) (n i : Nat) (h : i < n) : (rngUp lo n)[i]? = some (PyData.int (lo + i)) := by
  unfold rngUp
  rw [List.getElem?_map, List.getElem?_range h]
  rfl
theorem rngBy_get (lo c : Int) (n i : Nat) (h : i < n) : (rngBy lo c n)[i]? = some (PyData.int (lo + i * c)) := by
  unfold rngBy
  rw [List.getElem?_map, List.getElem?_range h]
  rfl
theorem it_range {K : PySem.W.Frag} {ok : Addr → Prop} {al : Prop} {H : Hp} (lo : Int) (n : Nat) : ItOk K ok al (Itr lo n) H (rngUp lo n) := by
  have hl : (rngUp lo n).length = n := by simp [rngUp]
  exact ⟨fun _ => True, [], [], [], YFn fun i => .int (lo + i), by rw [hl]; exact walk_range, trivial, fun b hb => absurd hb (by simp), fun z b hb => absurd hb (by simp), .nil, fun _ _ _ => trivial, fun ok' H1 hG r1 i v H2 hi hy => by
    obtain ⟨rfl, rfl⟩ := hy
    exact ⟨Same.refl _, _, rngUp_get lo n i (by rw [hl] at hi; exact hi), .int _⟩⟩
theorem it_rangeC {K : PySem.W.Frag} {ok : Addr → Prop} {al : Prop} {H : Hp} (lo c : Int) (n : Nat) : ItOk K ok al (Itc lo c n) H (rngBy lo c n) := by
  have hl : (rngBy lo c n).length = n := by simp [rngBy]
  exact ⟨fun _ => True, [], [], [], YFn fun i => .int (lo + (i : Nat) * c), by rw [hl]; exact walk_rangeC, trivial, fun b hb => absurd hb (by simp), fun z b hb => absurd hb (by simp), .nil, fun _ _ _ => trivial, fun ok' H1 hG r1 i v H2 hi hy => by
    obtain ⟨rfl, rfl⟩ := hy
    exact ⟨Same.refl _, _, rngBy_get lo c n i (by rw [hl] at hi; exact hi), .int _⟩⟩
theorem rngOk_ok {a b : Int} (h : rngOk a b = true) : (-(2 ^ 62) ≤ a ∧ a < 2 ^ 62) ∧ (-(2 ^ 62) ≤ b ∧ b < 2 ^ 62) := by
  unfold rngOk at h
  rw [Bool.and_eq_true, Bool.and_eq_true] at h
  exact ⟨small62_ok h.1.1, small62_ok h.1.2⟩
theorem ItOk.al {K : PySem.W.Frag} {ok : Addr → Prop} {al : Prop} {J : It} {H : Hp} {xs : List D} (h : ItOk K ok True J H xs) : ItOk K ok al J H xs := by
  obtain ⟨G, as, bs, ws, Y, a1, a2, a3, a4, a5⟩ := h
  exact ⟨G, as, bs, ws, Y, a1, a2, a3, fun _ => a4 trivial, a5⟩
theorem evs_length {es : List E} {σD : Sg} : ∀ {ds : List D}, evs Γ es σD = some ds → ds.length = es.length := by
  induction es with
  | nil => intro ds h; simp only [evs, Option.some.injEq] at h; subst h; rfl
  | cons e es ih =>
    intro ds h
    simp only [evs, Option.bind_eq_some_iff, Option.map_eq_some_iff] at h
    obtain ⟨x, _, xs, h, rfl⟩ := h
    simp [ih h]
/-- the reading of a walked range -/
theorem tI.range {es : List E} {K : PySem.W.Frag} {σ : L2.St} {H : Hp} {R : It → Hp → Prop} (q : tI K Γ (.bi .range es) σ H R) {r : List V → Hp → Prop}
    (hr : ∀ (ok : Addr → Prop) (ds : List D) (vs : List V) (H1 : Hp) (xs : List D), Same H H1 → ROs K H1 ok ds vs → ds.length = es.length → dRange ds = some (.list xs) → (∀ J, ItOk K ok True J H1 xs → R J H1) → r vs H1) : tEs K Γ es σ H r := by
  obtain ⟨H0, ok, τ, F, σD, g, d, xs, R1, hg, hd, hx, q⟩ := q
  have hgg := grN2 hg
  clear hg
  obtain ⟨hg, rfl⟩ := hgg
  simp only [ev, Option.bind_eq_some_iff] at hd
  obtain ⟨ds, hds, hz⟩ := hd
  have hdl : d = .list xs := by
    have : ∃ ys, d = .list ys := by
      simp only [biD] at hz
      unfold dRange at hz
      split at hz
      · simp only [Option.ite_none_right_eq_some, Option.some.injEq] at hz; exact ⟨_, hz.2.symm⟩
      · simp only [Option.ite_none_right_eq_some, Option.some.injEq] at hz; exact ⟨_, hz.2.symm⟩
      · simp only [Option.ite_none_right_eq_some, Option.some.injEq] at hz; exact ⟨_, hz.2.symm⟩
      · cases hz
    obtain ⟨ys, rfl⟩ := this
    simp only [elemsP, Option.some.injEq] at hx
    rw [hx]
  subst hdl
  have hln : ds.length = es.length := evs_length hds
  refine tEs.mk R1 hg hds fun vs H1 s1 rs _ => hr _ ds vs H1 xs s1 rs hln hz fun J hJ => q J H1 s1 hJ.al
theorem l_range1 {a : E} {a' tg : Expr} {p pos : Pos} (c : CxF I Γ fb sc X) (h2 : glB sc "range" = true) (ha : PA X [a'] (tEs X.K Γ [a])) (hst : starEach [a'] X.env = [(false, eval a' X.env)]) :
    PI X tg (.Call (.Name "range" p) [a'] [] pos) (tI X.K Γ (.bi .range [a])) := by
  refine (pi_range1 (gl_of c h2) (c.blt .range (by decide)) ha hst).engImp fun σ H R q => q.range fun ok ds vs H1 xs s1 rs hl hz hR => ?_
  match ds, hl, hz, rs with
  | [d], _, hz, rs =>
    obtain ⟨v, rfl, rd⟩ := RO.one rs
    cases d with
    | int n =>
      obtain rfl := rd.int
      simp only [dRange, Option.ite_none_right_eq_some, Option.some.injEq, PyData.list.injEq] at hz
      obtain ⟨h1, rfl⟩ := hz
      have hh := rngOk_ok h1
      exact ⟨n, rfl, hh.2.1, hh.2.2, hR _ (by have := it_range (K := X.K) (ok := ok) (al := True) (H := H1) 0 (n - 0).toNat; simpa using this)⟩
    | _ => cases hz
theorem l_range2 {a b : E} {a' b' tg : Expr} {p pos : Pos} (c : CxF I Γ fb sc X) (h2 : glB sc "range" = true) (ha : PA X [a', b'] (tEs X.K Γ [a, b])) (hst : starEach [a', b'] X.env = [(false, eval a' X.env), (false, eval b' X.env)])
    (hst2 : starEach [b'] X.env = [(false, eval b' X.env)]) : PI X tg (.Call (.Name "range" p) [a', b'] [] pos) (tI X.K Γ (.bi .range [a, b])) := by
  refine (pi_range2 (gl_of c h2) (c.blt .range (by decide)) ha hst hst2).engImp fun σ H R q => q.range fun ok ds vs H1 xs s1 rs hl hz hR => ?_
  match ds, hl, hz, rs with
  | [d, e], _, hz, rs =>
    obtain ⟨v, w, rfl, rd, re⟩ := RO.two rs
    cases d with
    | int n =>
      cases e with
      | int k =>
        obtain rfl := rd.int
        obtain rfl := re.int
        simp only [dRange, Option.ite_none_right_eq_some, Option.some.injEq, PyData.list.injEq] at hz
        obtain ⟨h1, rfl⟩ := hz
        have hh := rngOk_ok h1
        exact ⟨n, k, rfl, ⟨hh.1.1, hh.1.2, hh.2.1, hh.2.2⟩, hR _ (it_range _ _)⟩
      | _ => cases hz
    | _ => cases hz
theorem RO.three {K : PySem.W.Frag} {H : Hp} {ok : Addr → Prop} {d e f : D} {vs : List V} (h : ROs K H ok [d, e, f] vs) : ∃ u v w, vs = [u, v, w] ∧ RO K H ok d u ∧ RO K H ok e v ∧ RO K H ok f w := by
  cases h with
  | cons a h =>
    cases h with
    | cons b h =>
      cases h with
      | cons c h => cases h; exact ⟨_, _, _, rfl, a, b, c⟩
theorem l_range3 {a b e : E} {a' b' e' tg : Expr} {p pos : Pos} (c : CxF I Γ fb sc X) (h2 : glB sc "range" = true) (ha : PA X [a', b', e'] (tEs X.K Γ [a, b, e])) (hst : starEach [a', b', e'] X.env = (false, eval a' X.env) :: starEach [b', e'] X.env)
    (hpl : (backTo pos (starEach [b', e'] X.env)).any (·.1) = false) : PI X tg (.Call (.Name "range" p) [a', b', e'] [] pos) (tI X.K Γ (.bi .range [a, b, e])) := by
  refine (pi_range3 (gl_of c h2) (c.blt .range (by decide)) ha hst hpl).engImp fun σ H R q => q.range fun ok ds vs H1 xs s1 rs hl hz hR => ?_
  match ds, hl, hz, rs with
  | [d, e, f], _, hz, rs =>
    obtain ⟨u, v, w, rfl, rd, re, rf⟩ := RO.three rs
    cases d with
    | int n =>
      cases e with
      | int k =>
        cases f with
        | int j =>
          obtain rfl := rd.int
          obtain rfl := re.int
          obtain rfl := rf.int
          simp only [dRange, Option.ite_none_right_eq_some, Option.some.injEq, PyData.list.injEq] at hz
          obtain ⟨h1, rfl⟩ := hz
          unfold rng3Ok at h1
          simp only [Bool.and_eq_true, decide_eq_true_eq, Bool.not_eq_true', decide_eq_false_iff_not] at h1
          obtain ⟨⟨⟨⟨⟨a1, a2⟩, a3⟩, a4⟩, a5⟩, a6⟩ := h1
          exact ⟨n, k, j, _, rfl, ⟨a3, Nat.le_of_ble_eq_true a4, a5, (Int.toNat_of_nonneg a6).symm⟩, hR _ (it_rangeC _ _ _)⟩
        | _ => cases hz
      | _ => cases hz
    | _ => cases hz
end
end Eng
end
section
set_option Elab.async false
set_option linter.all false
set_option maxRecDepth 100000
set_option maxHeartbeats 2000000
/-! EngT: enumerate of a tuple. -/
namespace EngT
open PySem
open PySem.Sem (wp)
open AutoSeq1 (wpAny_loadPart')
open PySem.Spec PyProof.Rows
theorem draws_tup {prog : Program} {w : World} {A : Around} (hh : A.handled = none) (it l : Addr) (hne : l ≠ it) (items : Array Value) :
    Draws prog w A it [it, l] items.size (fun i v => items[i]? = some v) (fun i h => h.IsTupleIter it l i ∧ h.IsTuple l items) where
  live := fun _ _ st => let ⟨o, ho, _⟩ := st.1; ⟨o, ho⟩
  frame := fun _ _ _ st hk => ⟨st.1.at fun o e => hk it (by simp) o e, let ⟨o, e, r⟩ := st.2; ⟨o, hk l (by simp) o e, r⟩⟩
  item := fun i s Q E hi st hQ => by
    refine RZ.nextOf_tuple_item st.1 st.2 (x := items[i]) (by simp [hi]) fun h' hit' hs' => ?_
    exact hQ _ h' s.toks (by simp [hi]) ⟨hit', st.2.extBut hs'.extBut hne⟩ hs'
  done := fun s Q E st hE => RZ.nextOf_tuple_end hh st.1 st.2 (by simp) hE
set_option maxHeartbeats 4000000 in
theorem meets_enumerate_newT (l : Addr) (items : Array Value) (n : Nat) (dct : Option Addr) (sl : Array (Option Value)) :
    Meets (Builtin.«enumerate.__new__» ⟨[.type "enumerate", .ref l], []⟩) (fun _ R s => s.heap.get? l = some { cls := .type "tuple", dict := dct, data := .seq items n, slots := sl } ∧
      R (.ok (.ret (.ref (s.heap.push { cls := .type "tuple_iterator", data := .fields #[.ref l, .int 0 0] }).objs.size)))
        { s with heap := (s.heap.push { cls := .type "tuple_iterator", data := .fields #[.ref l, .int 0 0] }).push { cls := .type "enumerate", data := .fields #[.none, .bool false, .ref s.heap.objs.size, rawInt 0, .none, .none] } }) :=
  .of_wp fun prog w A R s h => by
    obtain ⟨hp, g, d, tk, os⟩ := s; obtain ⟨hl, h⟩ := h
    have hsub := sub_enumerate
    have hL : Heap.IsTuple (Shared.heap ⟨hp, g, d, tk, os⟩) l items := ⟨_, hl, rfl, n, rfl⟩
    wp_walk using wpAny_loadPart' hl
    refine wpAny_stack_any fun st => wpAny_pure ?_
    split
    · rename_i c _ _ _ _ _
      cases (c == Value.type "enumerate")
      · wp_walk using wpAny_loadPart' hl, wpAny_pyIter_tuple hL
        exact ⟨_, rfl, h⟩
      · wp_walk using wpAny_loadPart' hl, wpAny_pyIter_tuple hL
        exact ⟨_, rfl, h⟩
    · wp_walk using wpAny_loadPart' hl, wpAny_pyIter_tuple hL
      exact ⟨_, rfl, h⟩
section
variable {prog : Program} {w : World} {A : Around} {E : Value → Shared → Prop} {s : Shared}
theorem call_enumerate_tup {l : Addr} {items : Array Value} {Q : Value → Shared → Prop} (hL : s.heap.IsTuple l items)
    (h : ∀ h', IsEnum h' (s.heap.objs.size + 1) s.heap.objs.size 0 .none → h'.IsTupleIter s.heap.objs.size l 0 → h'.objs.size = s.heap.objs.size + 2 →
      (∀ b o, s.heap.get? b = some o → h'.get? b = some o) → Q (.ref (s.heap.objs.size + 1)) { s with heap := h' }) :
    wpAny (model prog w) A (call (.type "enumerate") [.ref l]) Q E s := by
  obtain ⟨⟨c, dct, dt, sl⟩, hl, hc, n, hd⟩ := hL
  replace hc : c = .type "tuple" := hc
  replace hd : dt = .seq items n := hd
  subst hc hd
  refine callType_new F.called_enumerate (by decide) (F.typeCall_enumerate_1 _) (F.newCall_enumerate_1 _) (fun obj => F.args_object_init_2 obj _) F.entry_enumerate_new
    (meets_enumerate_newT l items n dct sl) ⟨hl, ?_⟩
  have hz : (s.heap.push { cls := .type "tuple_iterator", data := .fields #[.ref l, .int 0 0] }).objs.size = s.heap.objs.size + 1 := Heap.size_push ..
  show _ ∧ _
  rw [hz]
  have he : IsEnum ((s.heap.push { cls := .type "tuple_iterator", data := .fields #[.ref l, .int 0 0] }).push
      { cls := .type "enumerate", data := .fields #[.none, .bool false, .ref s.heap.objs.size, rawInt 0, .none, .none] }) (s.heap.objs.size + 1) s.heap.objs.size 0 .none := by
    have := Heap.get?_push_size (s.heap.push { cls := .type "tuple_iterator", data := .fields #[.ref l, .int 0 0] })
      (o := { cls := .type "enumerate", data := .fields #[.none, .bool false, .ref s.heap.objs.size, rawInt 0, .none, .none] }) rfl
    rw [hz] at this; exact this
  refine ⟨⟨_, he, rfl⟩, h _ he ⟨_, Heap.get?_push_of_some _ (Heap.get?_push_size _ rfl), rfl, rfl⟩ (by rw [Heap.size_push, hz]) fun b o x => Heap.get?_push_of_some _ (Heap.get?_push_of_some _ x)⟩
theorem pyNext_enumT_item {e it l : Addr} {i : Nat} {items : Array Value} {x old : Value} {Q : Option Value → Shared → Prop} (hh : A.handled = none)
    (he : IsEnum s.heap e it i old) (hit : s.heap.IsTupleIter it l i) (hl : s.heap.IsTuple l items) (hx : items[i]? = some x) (hne : e ≠ it) (hel : e ≠ l) (hli : l ≠ it)
    (hQ : ∀ h' tk, IsEnumOut h' e it ((i : Int) + 1) x s.heap.objs.size → h'.IsTupleIter it l (i + 1) →
      h'.get? s.heap.objs.size = some { cls := .type "tuple", data := .seq #[.int i tk, x] } → h'.objs.size = s.heap.objs.size + 1 →
      (∀ b o, b ≠ e → b ≠ it → s.heap.get? b = some o → h'.get? b = some o) → Q (some (.ref s.heap.objs.size)) { s with heap := h', toks := tk + 1 }) :
    wpAny (model prog w) A (pyNext (.ref e)) Q E s := by
  have hT : s.TypeIs (.ref e) "enumerate" := ⟨_, he, rfl⟩
  have hlt : i < items.size := (Array.getElem?_eq_some_iff.mp hx).1
  unfold pyNext
  exact wpAny_bind (wpAny_attempt (wpAny_callSpecial?_slot (name := Str.ofString "__next__") hT F.slot_enumerate_next
    (wpAny_call_entry F.slot_enumerate_next hT F.entry_enumerate_next
      (enumerate_next_itemD (draws_tup (A := A.in1) (by exact hh) it l hli items) he ⟨hit, hl⟩ hlt hne (by simp [hne, hel]) fun y h' tk hy a b c d k => by
        rw [hx] at hy
        cases hy
        exact wpAny_pure (hQ h' tk a b.1 c d k)) (F.args_enumerate_next_1 _))))
theorem pyNext_enumT_end {e it l : Addr} {i : Nat} {items : Array Value} {old : Value} {Q : Option Value → Shared → Prop} (hh : A.handled = none)
    (he : IsEnum s.heap e it i old) (hit : s.heap.IsTupleIter it l i) (hl : s.heap.IsTuple l items) (hx : items[i]? = none)
    (hQ : ∀ h', Heap.ExtBut it s.heap h' → Q none { s with heap := h' }) : wpAny (model prog w) A (pyNext (.ref e)) Q E s := by
  have hT : s.TypeIs (.ref e) "enumerate" := ⟨_, he, rfl⟩
  unfold pyNext
  refine wpAny_bind (wpAny_attempt (wpAny_callSpecial?_slot (name := Str.ofString "__next__") hT F.slot_enumerate_next
    (wpAny_call_entry F.slot_enumerate_next hT F.entry_enumerate_next ?_ (F.args_enumerate_next_1 _))))
  show wpAny _ _ (field (.ref e) 2 >>= _) _ _ _
  refine wpAny_bind (wpAny_field he rfl (x := .ref it) rfl ?_)
  refine wpAny_bind (RZ.nextOf_tuple_end hh hit hl hx fun h' x he' hx' => ?_)
  obtain ⟨o, ho, hc⟩ := hx'
  refine wpAny_bind (wpAny_isInstance (T := "StopIteration") (b := true) ⟨o, ho, hc⟩ isSubtype_stop ?_)
  exact wpAny_pure (hQ _ he')
end
end EngT
namespace L2
open PySem PySem.Spec PyProof.Rows
def IteT (K : PySem.W.Frag) (a : Addr) : It :=
  ⟨fun i H => ∃ (xs : List V) (x : V), SqT K H a xs ∧ xs[i]? = some x, fun i H v H' => ∃ T x, v = .ref T ∧ H T = none ∧ H' = upd H T (.tup [.int (i : Nat), x]) ∧ ∀ xs, SqT K H a xs → xs[i]? = some x, fun i H => ∃ xs : List V, SqT K H a xs ∧ xs.length ≤ i⟩
theorem turn_enumT {P : Program} {w : World} {K : PySem.W.Frag} {elts : List Expr} {kk : Nat} {tpos : Pos} (a e it : Addr) :
    Turn P w K (.Tuple elts kk tpos) (IteT K a) [e, it] e (fun i h => (∃ old, IsEnum h e it ((i : Nat) : Int) old) ∧ h.IsTupleIter it a i ∧ e ≠ it) where
  mem := by simp
  obj := fun i h st b hb => by
    obtain ⟨⟨old, he⟩, ⟨o, ho, hc, hd⟩, _⟩ := st
    have e' : b = e ∨ b = it := by simpa using hb
    rcases e' with z | z
    · rw [z]; exact ⟨_, he, fun v q => nomatch q⟩
    · rw [z]; exact ⟨o, ho, fun v q => by rw [hd] at q; cases q⟩
  keep := fun i h h' st k => let ⟨⟨old, he⟩, hi, hne⟩ := st; ⟨⟨old, k e (by simp) _ he⟩, hi.at fun o q => k it (by simp) o q, hne⟩
  item := by
    intro X hP hw hK hc i pins s σ H E I hf st hg
    subst hP hw hK
    obtain ⟨⟨old, he⟩, hit, hne⟩ := st
    obtain ⟨xs, x, hq, hx⟩ := hg
    obtain ⟨its, rv, p, _⟩ := I.tuple hq
    have p : s.heap.IsTuple a its.toArray := p
    obtain ⟨u, hu, ru⟩ := rv.get hx
    have hel : e < s.heap.objs.size := Heap.lt_size he
    have hil : it < s.heap.objs.size := by obtain ⟨_, q, _⟩ := hit; exact Heap.lt_size q
    have hea : e ≠ a := fun z => by
      obtain ⟨o, ho, hc', _⟩ := p
      rw [← z, he] at ho
      rw [← Option.some.inj ho] at hc'
      exact absurd (Value.type.inj hc') (by decide)
    have hai : a ≠ it := fun z => by
      obtain ⟨o, ho, hc', _⟩ := p
      obtain ⟨o2, ho2, hc2, _⟩ := hit
      rw [z, ho2] at ho
      rw [← Option.some.inj ho, hc2] at hc'
      exact absurd (Value.type.inj hc') (by decide)
    refine EngT.pyNext_enumT_item (I.ok.hd hc) he hit p (x := u) (by simpa using hu) hne hea hai fun h' tk ho hit' hT hsz hk => ?_
    refine ⟨_, rfl, wpAny_letOwnedTupleGo_enum (s := { s with heap := h', toks := tk + 1 }) ho fun h'' he' sb => ?_⟩
    have hT2 : h''.get? s.heap.objs.size = some { cls := .type "tuple", data := .seq #[.int i tk, u] } := (sb.2 _ (Nat.ne_of_gt hel)).trans hT
    have new : ObjOk X.prog X.w (upd H s.heap.objs.size (.tup [.int (i : Nat), x])) h'' s.heap.objs.size (.tup [.int (i : Nat), x]) :=
      ⟨by show 2 ≤ sizeLine; decide, [.int i tk, u], .cons ⟨_, rfl⟩ (.cons ru .nil), ⟨_, hT2, rfl, _, rfl⟩⟩
    have I1 : Inv X pins σ (upd H s.heap.objs.size (.tup [.int (i : Nat), x])) { s with heap := h'', toks := tk + 1 } :=
      I.turnedNew (ch := [e, it]) (fun b ob hb q => (sb.2 b (fun z => hb (by simp [z]))).trans (hk b ob (fun z => hb (by simp [z])) (fun z => hb (by simp [z])) q)) hf (Nat.le_refl _) new
    refine ⟨.ref s.heap.objs.size, _, I1, rfl, ⟨_, x, rfl, I.hok.fresh (Nat.le_refl _), rfl, fun ys hy => ?_⟩, ⟨⟨u, ?_⟩, hit'.at fun o q => (sb.2 it (Ne.symm hne)).trans q, hne⟩, fun b hb => ?_⟩
    · rw [I.tuple_inj hy hq]; exact hx
    · have e1 : ((i + 1 : Nat) : Int) = (i : Int) + 1 := by omega
      rw [e1]; exact he'
    · have hb' : b < s.heap.objs.size := by
        have e' : b = e ∨ b = it := by simpa using hb
        rcases e' with z | z
        · rw [z]; exact hel
        · rw [z]; exact hil
      rw [upd_ne (Nat.ne_of_lt hb')]
      exact (hf b hb).1
  done := by
    intro X hP hw hK hc i pins s σ H E I hf st hg
    subst hP hw hK
    obtain ⟨⟨old, he⟩, hit, hne⟩ := st
    obtain ⟨xs, hq, hx⟩ := hg
    obtain ⟨its, rv, p, _⟩ := I.tuple hq
    have p : s.heap.IsTuple a its.toArray := p
    obtain ⟨f0, f1, f2, f3, f4, f5⟩ := hf it (by simp)
    have hl := rv.length
    exact EngT.pyNext_enumT_end (I.ok.hd hc) he hit p (by simp; omega) fun h' eb => ⟨rfl, I.turned (t' := s.toks) (fun b o hb q => eb b o hb q) f0 f1 f3 f4 f5⟩
  self := fun A i s Q E st h => let ⟨⟨_, he⟩, _⟩ := st; wpAny_pyIter_enum he h
/-- enumerate of a list or a tuple -/
def iEnumA (K : PySem.W.Frag) (ta : TA) : TI := fun σ H R => ta σ H fun vs H1 => ∃ a xs, vs = [.ref a] ∧ ((SqL K H1 a xs ∧ R (Ite K a) H1) ∨ (SqT K H1 a xs ∧ R (IteT K a) H1))
theorem pi_enumA {X : Cx} {e : Expr} {ta : TA} {p pos tpos : Pos} {elts : List Expr} {kk : Nat} (hg : Gl X "enumerate") (hm : X.mg "enumerate" = none) (ha : PA X [e] ta) (hs : starEach [e] X.env = [(false, eval e X.env)] := by rfl) :
    PI X (.Tuple elts kk tpos) (.Call (.Name "enumerate" p) [e] [] pos) (iEnumA X.K ta) := by
  refine ⟨fun pins s σ H R I h => ?_⟩
  refine Call_ (ld_blt I hg hm boot_enumerate (PyProof.Rows.callWith_type1 (thn (ha.run pos pins s σ H _ I h) fun us s1 ⟨vs, H1, I1, r1, q1⟩ => ?_) hs rfl))
  obtain ⟨a, xs, ex, q⟩ := q1
  subst ex
  cases r1 with
  | cons r rr =>
    cases rr
    cases r
    have hfp : ∀ b ∈ [s1.heap.objs.size + 1, s1.heap.objs.size], FpOk X pins H1 b := fun b hb => by
      have e' : b = s1.heap.objs.size + 1 ∨ b = s1.heap.objs.size := by simpa using hb
      have hle : s1.heap.objs.size ≤ b := by
        rcases e' with z | z
        · rw [z]; exact Nat.le_add_right _ _
        · rw [z]; exact Nat.le_refl _
      exact I1.fpOk hle (I1.hok.fresh hle)
    rcases q with ⟨hq, q⟩ | ⟨hq, q⟩
    · obtain ⟨its, rv, p', hz⟩ := I1.list hq
      refine call_enumerate_list p'.isList fun h' he hit hsz hk => wpAny_pyIter_enum he ?_
      have I2 : Inv X pins σ H1 { s1 with heap := h' } := I1.kept (t' := s1.toks) hk
      exact ⟨s1.heap.objs.size + 1, [s1.heap.objs.size + 1, s1.heap.objs.size], _, _, H1, rfl, I2, turn_enum a (s1.heap.objs.size + 1) s1.heap.objs.size, ⟨⟨.none, he⟩, hit, Nat.succ_ne_self _⟩, hfp, q⟩
    · obtain ⟨its, rv, p', _⟩ := I1.tuple hq
      refine EngT.call_enumerate_tup (show s1.heap.IsTuple a its.toArray from p') fun h' he hit hsz hk => wpAny_pyIter_enum he ?_
      have I2 : Inv X pins σ H1 { s1 with heap := h' } := I1.kept (t' := s1.toks) hk
      exact ⟨s1.heap.objs.size + 1, [s1.heap.objs.size + 1, s1.heap.objs.size], _, _, H1, rfl, I2, turn_enumT a (s1.heap.objs.size + 1) s1.heap.objs.size, ⟨⟨.none, he⟩, hit, Nat.succ_ne_self _⟩, hfp, q⟩
theorem walk_enumT {K : PySem.W.Frag} {a : Addr} {xs : List V} : Walk (IteT K a) xs.length (fun H => SqT K H a xs) (YPair (fun i => some (.int (i : Nat))) (fun i => xs[i]?)) := by
  refine ⟨fun i _ hi q => ⟨xs, xs[i], q, by simp [hi]⟩, fun _ q => ⟨xs, q, Nat.le_refl _⟩, fun i H v H' _ q y => ?_⟩
  obtain ⟨T, x, h1, h2, h3, h4⟩ := y
  exact ⟨T, .int (i : Nat), x, h1, h2, h3, rfl, h4 xs q⟩
theorem walk_revT {K : PySem.W.Frag} {a : Addr} {xs : List V} : Walk (RT.ItvT K a xs.length) xs.length (fun H => SqT K H a xs) (fun i H x H' => H' = H ∧ xs[xs.length - 1 - i]? = some x) :=
  ⟨fun i _ hi q => ⟨hi, xs, xs[xs.length - 1 - i]'(by omega), q, by simp⟩, fun _ q => Nat.le_refl _, fun _ _ _ _ _ q y => ⟨y.1, y.2 xs q⟩⟩
theorem walk_zipT {K : PySem.W.Frag} {a b : Addr} {xs ys : List V} {n : Nat} (hn : n = min xs.length ys.length) : Walk (RZ.ItzT K a b) n (fun H => SqT K H a xs ∧ SqT K H b ys) (YPair (fun i => xs[i]?) (fun i => ys[i]?)) := by
  subst hn
  refine ⟨fun i _ hi q => ?_, fun _ q => ⟨xs, ys, q.1, q.2, by omega⟩, fun i H v H' _ q y => ?_⟩
  · have h1 : i < xs.length := by omega
    have h2 : i < ys.length := by omega
    exact ⟨xs, ys, xs[i], ys[i], q.1, q.2, by simp [h1], by simp [h2]⟩
  · obtain ⟨T, x, z, h1, h2, h3, h4, h5⟩ := y
    exact ⟨T, x, z, h1, h2, h3, h4 xs q.1, h5 ys q.2⟩
end L2
end
section
set_option Elab.async false
set_option linter.all false
set_option maxRecDepth 100000
set_option maxHeartbeats 2000000
/-! EngE6: what is walked: zip, reversed, enumerate. -/
namespace Eng
open PySem PySem.Spec PyProof.Rows L2
section
variable {I : Info} {Γ : Fs} {fb : Str → Bool} {sc : Scope} {X : Cx}
/-- the place of a walked sequence -/
def SqW (K : PySem.W.Frag) (H : Hp) (l : Bool) (a : Addr) (vs : List V) : Prop := match l with
  | true => H a = some (.lst vs)
  | false => SqT K H a vs
theorem SqW.keep {K : PySem.W.Frag} {H H' : Hp} {l : Bool} {a : Addr} {vs : List V} (h : SqW K H l a vs) (ht : ∀ b vs, SqT K H b vs → SqT K H' b vs) (he : l = true → H' a = H a) : SqW K H' l a vs := by
  cases l with
  | true => exact (he rfl).trans h
  | false => exact ht _ _ h
theorem seq_of {K : PySem.W.Frag} {H : Hp} {ok : Addr → Prop} {d : D} {v : V} {xs : List D} (ro : RO K H ok d v) (hx : elemsP d = some xs) : ∃ a vs l, v = .ref a ∧ SqW K H l a vs ∧ Reps K H ok xs vs ∧ (l = true → d = .list xs) := by
  obtain ⟨a, vs, rfl, ha, ra⟩ := ro.elemsP hx
  rcases ha with ⟨e, ha⟩ | ⟨_, ha⟩
  · exact ⟨a, vs, true, rfl, ha, ra, fun _ => e⟩
  · exact ⟨a, vs, false, rfl, ha, ra, fun z => nomatch z⟩
/-- the reading of a walked call of es -/
theorem tI.args {b : Bi} {es : List E} {K : PySem.W.Frag} {σ : L2.St} {H : Hp} {R : It → Hp → Prop} (q : tI K Γ (.bi b es) σ H R) {r : List V → Hp → Prop}
    (hr : ∀ (ok : Addr → Prop) (al : Prop) (ds : List D) (vs : List V) (H1 : Hp) (d : D) (xs : List D), Same H H1 → ROs K H1 ok ds vs → (al → Reps K H1 ok ds vs) → ds.length = es.length → biD b ds = some d → elemsP d = some xs → (∀ J H2, Same H1 H2 → ItOk K ok al J H2 xs → R J H2) → r vs H1)
    (hb : ∀ τ, itA τ (.bi b es) = grA τ es) : tEs K Γ es σ H r := by
  obtain ⟨H0, ok, τ, F, σD, g, d, xs, R1, hg, hd, hx, q⟩ := q
  have hgg := grN2 hg
  clear hg
  obtain ⟨hg, rfl⟩ := hgg
  simp only [ev, Option.bind_eq_some_iff] at hd
  obtain ⟨ds, hds, hz⟩ := hd
  have hln : ds.length = es.length := evs_length hds
  refine tEs.mk R1 hg hds fun vs H1 s1 rs rr => hr _ (grA τ es = true) ds vs H1 d xs s1 rs rr hln hz hx fun J H2 s2 hJ => q J H2 (s1.trans s2) ?_
  rw [hb τ]
  exact hJ
theorem own_of {K : PySem.W.Frag} {H : Hp} {ok : Addr → Prop} {xs : List D} {a : Addr} (r : Rep K H ok (.list xs) (.ref a)) : ok a := by
  obtain ⟨b, vs, e, _, h, _⟩ := r.list
  cases e; exact h
/-! reversed -/
theorem it_rev {K : PySem.W.Frag} {ok : Addr → Prop} {al : Prop} {H : Hp} {a : Addr} {xs : List D} {vs : List V} {l : Bool} (ha : SqW K H l a vs) (hal : l = true → al → ok a) (r : Reps K H ok xs vs) : ItOk K ok al (match l with | true => Itv K a vs.length | false => RT.ItvT K a vs.length) H xs.reverse := by
  have hl : xs.reverse.length = vs.length := by rw [List.length_reverse, r.length]
  have key : ∀ {ok' : Addr → Prop} {H1 : Hp}, Reps K H1 ok' xs vs → ∀ {i : Nat} {v : V}, i < xs.reverse.length → vs[vs.length - 1 - i]? = some v → ∃ d, xs.reverse[i]? = some d ∧ Rep K H1 ok' d v := fun {ok' H1} r1 {i v} hi hv => by
    obtain ⟨d, hd, rd⟩ := r1.getV hv
    refine ⟨d, ?_, rd⟩
    have := r1.length
    rw [List.length_reverse] at hi
    rw [List.getElem?_reverse hi, ← this]
    exact hd
  cases l with
  | true =>
    have w : Walk (Itv K a vs.length) xs.reverse.length (fun H => H a = some (.lst vs)) (fun i H x H' => H' = H ∧ vs[vs.length - 1 - i]? = some x) := by
      rw [hl]
      exact (walk_rev (K := K) (a := a) (xs := vs)).mono (fun H h => .inl (.inl h)) fun _ _ _ _ _ _ y => y
    exact ⟨fun H => H a = some (.lst vs), [a], xs, vs, _, w, ha, fun b hb => ⟨vs, (List.mem_singleton.mp hb) ▸ ha⟩, fun z b hb => (List.mem_singleton.mp hb) ▸ hal rfl z, r, fun H' _ he => (he a (by simp)).trans ha, fun ok' H1 hG r1 i v H2 hi hy => by
      obtain ⟨rfl, hv⟩ := hy
      exact ⟨Same.refl _, key r1 hi hv⟩⟩
  | false =>
    have w : Walk (RT.ItvT K a vs.length) xs.reverse.length (fun H => SqT K H a vs) (fun i H x H' => H' = H ∧ vs[vs.length - 1 - i]? = some x) := by
      rw [hl]
      exact walk_revT
    exact ⟨fun H => SqT K H a vs, [], xs, vs, _, w, ha, fun b hb => absurd hb (by simp), fun z b hb => absurd hb (by simp), r, fun H' ht _ => ht _ _ ha, fun ok' H1 hG r1 i v H2 hi hy => by
      obtain ⟨rfl, hv⟩ := hy
      exact ⟨Same.refl _, key r1 hi hv⟩⟩
/-! new pairs -/
theorem pair_rep {K : PySem.W.Frag} {ok' : Addr → Prop} {H1 : Hp} {T : Addr} {x y : V} {d e : D} (hT : H1 T = none) (rx : Rep K H1 ok' d x) (ry : Rep K H1 ok' e y) : Same H1 (upd H1 T (.tup [x, y])) ∧ Rep K (upd H1 T (.tup [x, y])) ok' (.tuple [d, e]) (.ref T) := by
  have s : Same H1 (upd H1 T (.tup [x, y])) := same_new hT
  exact ⟨s, .tup (.inl (.inl (L2.upd_same))) (.cons (rx.same s) (.cons (ry.same s) .nil))⟩
/-- pairs by two ways of getting -/
theorem it_pairs {K : PySem.W.Frag} {ok : Addr → Prop} {al : Prop} {J : It} {H : Hp} {n : Nat} {G : Hp → Prop} {f g : Nat → Option V} {as : List Addr} {bs : List D} {ws : List V} {zs : List D} (w : Walk J n G (YPair f g)) (hn : zs.length = n) (h0 : G H) (ha : ∀ a ∈ as, ∃ vs, H a = some (.lst vs)) (hal : al → ∀ a ∈ as, ok a)
    (r : Reps K H ok bs ws) (hk : ∀ H', (∀ b vs, SqT K H b vs → SqT K H' b vs) → (∀ a ∈ as, H' a = H a) → G H')
    (hv : ∀ (ok' : Addr → Prop) (H1 : Hp), Reps K H1 ok' bs ws → ∀ i x y, i < n → f i = some x → g i = some y → ∃ d e, zs[i]? = some (.tuple [d, e]) ∧ Rep K H1 ok' d x ∧ Rep K H1 ok' e y) : ItOk K ok al J H zs :=
  ⟨G, as, bs, ws, YPair f g, by rw [hn]; exact w, h0, ha, hal, r, hk, fun ok' H1 hG r1 i v H2 hi hy => by
    obtain ⟨T, x, y, rfl, hT, rfl, hx, hy⟩ := hy
    obtain ⟨d, e, hz, rx, ry⟩ := hv ok' H1 r1 i x y (hn ▸ hi) hx hy
    obtain ⟨s, rr⟩ := pair_rep hT rx ry
    exact ⟨s, _, hz, rr⟩⟩
theorem enumD_len (xs : List D) : (enumD xs).length = xs.length := by simp [enumD]
theorem enumD_get {xs : List D} {i : Nat} {d : D} (h : xs[i]? = some d) : (enumD xs)[i]? = some (.tuple [.int (i : Nat), d]) := by
  unfold enumD
  have hi : i < xs.length := by
    rcases Nat.lt_or_ge i xs.length with q | q
    · exact q
    · rw [List.getElem?_eq_none q] at h; cases h
  rw [List.getElem?_zipWith, List.getElem?_range hi, h]
theorem zipD_len (xs ys : List D) : (zipD xs ys).length = min xs.length ys.length := by simp [zipD]
theorem zipD_get {xs ys : List D} {i : Nat} {d e : D} (h : xs[i]? = some d) (h' : ys[i]? = some e) : (zipD xs ys)[i]? = some (.tuple [d, e]) := by
  unfold zipD
  rw [List.getElem?_zipWith, h, h']
theorem it_enum {K : PySem.W.Frag} {ok : Addr → Prop} {al : Prop} {H : Hp} {a : Addr} {xs : List D} {vs : List V} {l : Bool} (ha : SqW K H l a vs) (hal : l = true → al → ok a) (r : Reps K H ok xs vs) : ItOk K ok al (match l with | true => Ite K a | false => IteT K a) H (enumD xs) := by
  have hl : (enumD xs).length = vs.length := by rw [enumD_len, r.length]
  have key : ∀ (ok' : Addr → Prop) (H1 : Hp), Reps K H1 ok' xs vs → ∀ (i : Nat) (x y : V), i < vs.length → some (V.int (i : Nat)) = some x → vs[i]? = some y → ∃ d e, (enumD xs)[i]? = some (.tuple [d, e]) ∧ Rep K H1 ok' d x ∧ Rep K H1 ok' e y := fun ok' H1 r1 i x y hi hx hy => by
    obtain ⟨d, hd, rd⟩ := r1.getV hy
    cases hx
    exact ⟨.int (i : Nat), d, enumD_get hd, .int _, rd⟩
  cases l with
  | true =>
    exact it_pairs ((walk_enum (K := K) (a := a) (xs := vs)).mono (G' := fun H => H a = some (.lst vs)) (fun H h => .inl (.inl h)) fun _ _ _ _ _ _ y => y) hl ha (as := [a]) (fun b hb => ⟨vs, (List.mem_singleton.mp hb) ▸ ha⟩) (fun z b hb => (List.mem_singleton.mp hb) ▸ hal rfl z) r (fun H' _ he => (he a (by simp)).trans ha) key
  | false =>
    exact it_pairs (walk_enumT (K := K) (a := a) (xs := vs)) hl ha (as := []) (fun b hb => absurd hb (by simp)) (fun z b hb => absurd hb (by simp)) r (fun H' ht _ => ht _ _ ha) key
theorem it_zip {K : PySem.W.Frag} {ok : Addr → Prop} {al : Prop} {H : Hp} {a b : Addr} {xs ys : List D} {vs ws : List V} {l : Bool} (ha : SqW K H l a vs) (hb : SqW K H l b ws) (hal : l = true → al → ok a) (hbl : l = true → al → ok b) (r : Reps K H ok xs vs) (r' : Reps K H ok ys ws) :
    ItOk K ok al (match l with | true => Itz K a b | false => RZ.ItzT K a b) H (zipD xs ys) := by
  have hl : (zipD xs ys).length = min vs.length ws.length := by rw [zipD_len, r.length, r'.length]
  have key : ∀ (ok' : Addr → Prop) (H1 : Hp), Reps K H1 ok' (xs ++ ys) (vs ++ ws) → ∀ (i : Nat) (x y : V), i < min vs.length ws.length → vs[i]? = some x → ws[i]? = some y → ∃ d e, (zipD xs ys)[i]? = some (.tuple [d, e]) ∧ Rep K H1 ok' d x ∧ Rep K H1 ok' e y := fun ok' H1 r1 i x y hi hx hy => by
    have e1 : xs.length = vs.length := r.length.symm
    have q1 : Reps K H1 ok' xs vs := by
      have := r1.take xs.length
      rw [List.take_left' rfl, List.take_left' r.length] at this
      exact this
    have q2 : Reps K H1 ok' ys ws := by
      have := r1.drop xs.length
      rw [List.drop_left' rfl, List.drop_left' r.length] at this
      exact this
    obtain ⟨d, hd, rd⟩ := q1.getV hx
    obtain ⟨e, he, re⟩ := q2.getV hy
    exact ⟨d, e, zipD_get hd he, rd, re⟩
  cases l with
  | true =>
    exact it_pairs ((walk_zip (K := K) (a := a) (b := b) (xs := vs) (ys := ws) rfl).mono (G' := fun H => H a = some (.lst vs) ∧ H b = some (.lst ws)) (fun H h => ⟨.inl (.inl h.1), .inl (.inl h.2)⟩) fun _ _ _ _ _ _ y => y) hl ⟨ha, hb⟩ (as := [a, b])
      (fun c hc => by rcases List.mem_cons.mp hc with rfl | hc
                      · exact ⟨vs, ha⟩
                      · exact ⟨ws, (List.mem_singleton.mp hc) ▸ hb⟩)
      (fun z c hc => by rcases List.mem_cons.mp hc with rfl | hc
                        · exact hal rfl z
                        · exact (List.mem_singleton.mp hc) ▸ hbl rfl z) (r.append r') (fun H' _ he => ⟨(he a (by simp)).trans ha, (he b (by simp)).trans hb⟩) key
  | false =>
    exact it_pairs (walk_zipT (K := K) (a := a) (b := b) (xs := vs) (ys := ws) rfl) hl ⟨ha, hb⟩ (as := []) (fun b hb => absurd hb (by simp)) (fun z b hb => absurd hb (by simp)) (r.append r') (fun H' ht _ => ⟨ht _ _ ha, ht _ _ hb⟩) key
theorem ROs.one_rep {K : PySem.W.Frag} {H : Hp} {ok : Addr → Prop} {d : D} {v : V} (h : Reps K H ok [d] [v]) : Rep K H ok d v := by
  cases h with
  | cons r _ => exact r
theorem l_enum {m : E} {a' : Expr} {p pos : Pos} {elts : List Expr} {kk : Nat} {tpos : Pos} (c : CxF I Γ fb sc X) (h2 : glB sc "enumerate" = true) (ha : PA X [a'] (tEs X.K Γ [m])) (hst : starEach [a'] X.env = [(false, eval a' X.env)]) :
    PI X (.Tuple elts kk tpos) (.Call (.Name "enumerate" p) [a'] [] pos) (tI X.K Γ (.bi .enumerate [m])) := by
  refine (pi_enumA (gl_of c h2) (c.blt .enumerate (by decide)) ha hst).engImp fun σ H R q => q.args (fun ok al ds vs H1 d xs s1 rs rr hl hz hx hR => ?_) fun τ => rfl
  match ds, hl, hz, rs, rr with
  | [e], _, hz, rs, rr =>
    obtain ⟨v, rfl, rd⟩ := RO.one rs
    simp only [biD, dEnum, Option.map_eq_some_iff] at hz
    obtain ⟨ys, hy, rfl⟩ := hz
    simp only [elemsP, Option.some.injEq] at hx
    subst hx
    obtain ⟨a, us, l, rfl, ha, ra, hl⟩ := seq_of rd hy
    have it := it_enum (al := al) ha (fun z q => own_of ((hl z) ▸ ROs.one_rep (rr q))) ra
    cases l with
    | true => exact ⟨a, us, rfl, .inl ⟨.inl (.inl ha), hR _ _ (Same.refl _) it⟩⟩
    | false => exact ⟨a, us, rfl, .inr ⟨ha, hR _ _ (Same.refl _) it⟩⟩
theorem l_zip {m n : E} {a' b' : Expr} {p pos : Pos} {elts : List Expr} {kk : Nat} {tpos : Pos} (c : CxF I Γ fb sc X) (h2 : glB sc "zip" = true) (ha : PA X [a', b'] (tEs X.K Γ [m, n])) (hst : starEach [a', b'] X.env = (false, eval a' X.env) :: starEach [b'] X.env)
    (hpl : (backTo pos (starEach [b'] X.env)).any (·.1) = false) : PI X (.Tuple elts kk tpos) (.Call (.Name "zip" p) [a', b'] [] pos) (tI X.K Γ (.bi .zip [m, n])) := by
  refine (RZ.pi_zipA (gl_of c h2) (c.blt .zip (by decide)) ha hst hpl).engImp fun σ H R q => q.args (fun ok al ds vs H1 d xs s1 rs rr hl hz hx hR => ?_) fun τ => rfl
  match ds, hl, hz, rs, rr with
  | [e, f], _, hz, rs, rr =>
    obtain ⟨v, w, rfl, rd, re⟩ := RO.two rs
    have fin : ∀ (l : Bool) (es fs : List D), elemsP e = some es → elemsP f = some fs → d = .list (zipD es fs) → (∀ a us l', v = V.ref a → SqW X.K H1 l' a us → (l' = true → e = .list es) → l' = l) → True := fun _ _ _ _ _ _ _ => trivial
    clear fin
    have rep2 : al → Rep X.K H1 ok e v ∧ Rep X.K H1 ok f w := fun q => by
      cases rr q with
      | cons r1 r2 => exact ⟨r1, ROs.one_rep r2⟩
    simp only [biD] at hz
    unfold dZip at hz
    split at hz
    · rename_i es fs e1
      simp only [List.cons.injEq, and_true] at e1
      obtain ⟨rfl, rfl⟩ := e1
      cases hz
      simp only [elemsP, Option.some.injEq] at hx
      subst hx
      obtain ⟨a, us, rfl, ha, ra⟩ := rd.lst
      obtain ⟨b, ws, rfl, hb, rb⟩ := re.lst
      have it := it_zip (al := al) (l := true) ha hb (fun _ q => own_of (rep2 q).1) (fun _ q => own_of (rep2 q).2) ra rb
      exact ⟨a, b, us, ws, rfl, .inl ⟨.inl (.inl ha), .inl (.inl hb), hR _ _ (Same.refl _) it⟩⟩
    · rename_i es fs e1
      simp only [List.cons.injEq, and_true] at e1
      obtain ⟨rfl, rfl⟩ := e1
      cases hz
      simp only [elemsP, Option.some.injEq] at hx
      subst hx
      obtain ⟨a, us, rfl, ha, ra⟩ := rd.tup
      obtain ⟨b, ws, rfl, hb, rb⟩ := re.tup
      have it := it_zip (al := al) (l := false) ha hb (fun z => nomatch z) (fun z => nomatch z) ra rb
      exact ⟨a, b, us, ws, rfl, .inr ⟨ha, hb, hR _ _ (Same.refl _) it⟩⟩
    · cases hz
theorem l_reversed {m : E} {a' tg : Expr} {p pos : Pos} (c : CxF I Γ fb sc X) (h2 : glB sc "reversed" = true) (ha : PE X a' (tE X.K Γ m)) (hst : starEach [a'] X.env = [(false, eval a' X.env)]) :
    PI X tg (.Call (.Name "reversed" p) [a'] [] pos) (tI X.K Γ (.bi .reversed [m])) := by
  refine (RT.pi_revA (gl_of c h2) (c.blt .reversed (by decide)) ha hst).engImp fun σ H R q => ?_
  obtain ⟨H0, ok, τ, F, σD, g, d, xs, R1, hg, hd, hx, q⟩ := q
  have hgg := grN2 hg
  clear hg
  obtain ⟨hg, rfl⟩ := hgg
  simp only [grR, Bool.and_eq_true] at hg
  obtain ⟨ga, hga⟩ := isR_some hg.1
  simp only [ev, evs, Option.bind_eq_some_iff, Option.map_some, Option.some.injEq] at hd
  obtain ⟨ds, ⟨e, he, rfl⟩, hz⟩ := hd
  simp only [biD, dRev, Option.map_eq_some_iff] at hz
  obtain ⟨ys, hy, rfl⟩ := hz
  simp only [elemsP, Option.some.injEq] at hx
  subst hx
  refine tE.mk R1 hga he fun v H1 s1 rv => ?_
  obtain ⟨a, us, l, rfl, ha, ra, hl⟩ := seq_of rv.ro hy
  have it := it_rev (al := itA τ (.bi .reversed [m]) = true) ha (fun z y => by
    simp only [itA, grA, Bool.and_eq_true] at y
    rw [hga] at y
    exact own_of ((hl z) ▸ rv.rep R1.okn' y.1)) ra
  cases l with
  | true => exact ⟨a, us, rfl, .inl ⟨.inl (.inl ha), q _ _ s1 it⟩⟩
  | false => exact ⟨a, us, rfl, .inr ⟨ha, q _ _ s1 it⟩⟩
end
end Eng
end
section
set_option Elab.async false
set_option linter.all false
set_option maxRecDepth 100000
set_option maxHeartbeats 2000000
/-! EngE7: targets; the situation changed: names forgotten, a new list, a list written. -/
namespace Eng
open PySem PySem.Spec PyProof.Rows L2
section
variable {K : PySem.W.Frag} {H0 H H' : Hp} {ok F : Addr → Prop} {τ : List Bool} {σV : L2.St} {σD : Sg}
theorem getD_set_ne {i j : Nat} {b : Bool} (h : i ≠ j) (τ : List Bool) : (τ.set i b).getD j false = τ.getD j false := by
  simp only [List.getD_eq_getElem?_getD, List.getElem?_set_ne h]
theorem getD_set_false {i : Nat} (τ : List Bool) : (τ.set i false).getD i false = false := by
  simp only [List.getD_eq_getElem?_getD]
  by_cases h : i < τ.length
  · rw [List.getElem?_set_self h]; rfl
  · rw [List.getElem?_eq_none (by simpa using h)]; rfl
theorem offs_out {i : Nat} : ∀ {vs : List Nat}, i ∉ vs → (offs τ vs).getD i false = τ.getD i false
  | [], _ => rfl
  | v :: vs, h => by
    unfold offs
    simp only [List.mem_cons, not_or] at h
    rw [getD_set_ne (fun e => h.1 e.symm), offs_out h.2]
theorem offs_in {i : Nat} : ∀ {vs : List Nat}, i ∈ vs → (offs τ vs).getD i false = false
  | v :: vs, h => by
    unfold offs
    by_cases e : v = i
    · subst e; exact getD_set_false _
    · rw [getD_set_ne e]
      exact offs_in ((List.mem_cons.mp h).resolve_left fun q => e q.symm)
theorem wipeD_length (σ : Sg) : ∀ vs : List Nat, (wipeD σ vs).length = σ.length
  | [] => rfl
  | v :: vs => by unfold wipeD; rw [List.length_set, wipeD_length σ vs]
theorem wipeD_some {σ : Sg} {i : Nat} {x : D} : ∀ {vs : List Nat}, (wipeD σ vs)[i]? = some (some x) → σ[i]? = some (some x) ∧ i ∉ vs
  | [], h => ⟨h, by simp⟩
  | v :: vs, h => by
    unfold wipeD at h
    by_cases hi : v = i
    · subst hi
      by_cases hv : v < (wipeD σ vs).length
      · rw [List.getElem?_set_self hv] at h; cases h
      · rw [List.getElem?_eq_none (by simpa using hv)] at h; cases h
    · rw [List.getElem?_set_ne hi] at h
      obtain ⟨h1, h2⟩ := wipeD_some h
      exact ⟨h1, by simp only [List.mem_cons, not_or]; exact ⟨fun e => hi e.symm, h2⟩⟩
theorem SR.wipe (R : SR K H0 ok τ F H σV σD) (vs : List Nat) : SR K H0 ok (offs τ vs) F H (L2.wipe σV vs) (wipeD σD vs) := by
  refine ⟨R.same, R.okn, R.own, by rw [wipe_length, wipeD_length, R.len], fun i d h => ?_, fun i j a f h1 h2 h3 h4 => ?_⟩
  · obtain ⟨h1, h2⟩ := wipeD_some h
    obtain ⟨v, h3, h4⟩ := R.val i d h1
    exact ⟨v, by rw [wipe_out h2]; exact h3, by rw [offs_out h2]; exact h4⟩
  · obtain ⟨ds, h3⟩ := h3
    obtain ⟨es, h4⟩ := h4
    exact R.uniq i j a f (wipe_some h1).1 (wipe_some h2).1 ⟨ds, (wipeD_some h3).1⟩ ⟨es, (wipeD_some h4).1⟩
/-- another list of one's own, no slot's -/
theorem SR.addF {p : Addr} {ys : List V} (R : SR K H0 ok τ F H σV σD) (n : H p = none) : SR K H0 ok τ (fun b => F b ∨ b = p) (upd H p (.lst ys)) σV σD := by
  have s : Same H (upd H p (.lst ys)) := same_new n
  have w : ∀ b, (okF ok F) b ∧ b ≠ p → okF ok (fun b => F b ∨ b = p) b := fun b h => ⟨h.1.1, fun z => z.elim h.1.2 h.2⟩
  refine ⟨R.same.trans s, R.okn, fun a f => ?_, R.len, fun i d h => ?_, fun i j a f h1 h2 h3 h4 => ?_⟩
  · rcases f with f | rfl
    · exact ⟨(R.own a f).1, (R.own a f).2.imp fun vs h => s _ _ h⟩
    · exact ⟨R.same.free n, ys, upd_same⟩
  · obtain ⟨v, h1, h2⟩ := R.val i d h
    refine ⟨v, h1, ?_⟩
    rcases h2 with ⟨e, a, vs, ds, e1, e2, f, h, r⟩ | h
    · exact .inl ⟨e, a, vs, ds, e1, e2, .inl f, s _ _ h, ((r.old n).weak w).same s⟩
    · exact .inr ⟨((h.1.old n).weak w).same s, h.2⟩
  · have no : ∀ k : Nat, σV[k]? = some (some (V.ref p)) → (∃ ds, σD[k]? = some (some (.list ds))) → False := fun k hk ⟨ds, hd⟩ => by
      obtain ⟨v, h1, h2⟩ := R.val k _ hd
      rw [hk] at h1
      cases h1
      rcases h2 with ⟨_, a, vs, es, _, e2, _, h, _⟩ | h
      · cases e2
        rw [n] at h; cases h
      · obtain ⟨a, vs, e, h, _⟩ := h.1.list
        cases e
        rw [n] at h; cases h
    rcases f with f | rfl
    · exact R.uniq i j a f h1 h2 h3 h4
    · exact (no i h1 h3).elim
/-- a list of one's own that no slot holds is written -/
theorem SR.wr0 {p : Addr} {xs ys : List V} (R : SR K H0 ok τ F H σV σD) (f : F p) (h : H p = some (.lst xs)) (no : ∀ i : Nat, σV[i]? = some (some (V.ref p)) → (∃ ds, σD[i]? = some (some (.list ds))) → False) : SR K H0 ok τ F (upd H p (.lst ys)) σV σD := by
  have w : ∀ b, (okF ok F) b → b ≠ p := fun b h e => h.2 (e ▸ f)
  refine ⟨fun b o e => ?_, R.okn, fun a fa => ?_, R.len, fun i d hd => ?_, R.uniq⟩
  · have : b ≠ p := fun z => by rw [z, (R.own p f).1] at e; cases e
    rw [upd_ne this]; exact R.same b o e
  · by_cases e : a = p
    · subst e; exact ⟨(R.own a fa).1, ys, upd_same⟩
    · obtain ⟨h1, vs, h2⟩ := R.own a fa
      exact ⟨h1, vs, by rw [upd_ne e]; exact h2⟩
  · obtain ⟨v, h1, h2⟩ := R.val i d hd
    refine ⟨v, h1, ?_⟩
    rcases h2 with ⟨e, a, vs, ds, rfl, rfl, fa, h', r⟩ | h'
    · have : a ≠ p := fun z => no i (z ▸ h1) ⟨ds, hd⟩
      exact .inl ⟨e, a, vs, ds, rfl, rfl, fa, by rw [upd_ne this]; exact h', r.upd h w⟩
    · exact .inr ⟨h'.1.upd h w, h'.2⟩
/-- a slot takes a datum that none writes -/
theorem SR.setA {i : Nat} {d : D} {v : V} (R : SR K H0 ok τ F H σV σD) (t : τ.getD i false = false) (r : Rep K H (okF ok F) d v) : SR K H0 ok τ F H (σV.set i (some v)) (σD.set i (some d)) := by
  refine ⟨R.same, R.okn, R.own, by rw [List.length_set, List.length_set, R.len], fun j e h => ?_, fun j k a f h1 h2 h3 h4 => ?_⟩
  · by_cases hij : i = j
    · subst hij
      by_cases hi : i < σD.length
      · rw [List.getElem?_set_self hi] at h
        cases h
        exact ⟨v, List.getElem?_set_self (R.len ▸ hi), .inr ⟨r, fun z => by rw [t] at z; cases z⟩⟩
      · rw [List.getElem?_eq_none (by simpa using hi)] at h; cases h
    · rw [List.getElem?_set_ne hij] at h
      obtain ⟨w, h1, h2⟩ := R.val j e h
      exact ⟨w, by rw [List.getElem?_set_ne hij]; exact h1, h2⟩
  · have no : ∀ k : Nat, (σV.set i (some v))[k]? = some (some (V.ref a)) → (∃ ds, (σD.set i (some d))[k]? = some (some (.list ds))) → i ≠ k := fun k hk ⟨ds, hd⟩ e => by
      subst e
      by_cases hi : i < σD.length
      · rw [List.getElem?_set_self hi] at hd
        rw [List.getElem?_set_self (R.len ▸ hi)] at hk
        cases hd; cases hk
        obtain ⟨b, vs, e, _, hb, _⟩ := r.list
        cases e
        exact hb.2 f
      · rw [List.getElem?_eq_none (by simpa using hi)] at hd; cases hd
    have n1 := no j h1 h3
    have n2 := no k h2 h4
    rw [List.getElem?_set_ne n1] at h1
    rw [List.getElem?_set_ne n2] at h2
    obtain ⟨ds, h3⟩ := h3
    obtain ⟨es, h4⟩ := h4
    rw [List.getElem?_set_ne n1] at h3
    rw [List.getElem?_set_ne n2] at h4
    exact R.uniq j k a f h1 h2 ⟨ds, h3⟩ ⟨es, h4⟩
theorem wipe_set {σ : L2.St} {i : Nat} {x : Option V} : ∀ {vs : List Nat}, i ∈ vs → L2.wipe (σ.set i x) vs = L2.wipe σ vs
  | v :: vs, h => by
    have key : ∀ ws : List Nat, i ∈ ws ∨ L2.wipe (σ.set i x) ws = (L2.wipe σ ws).set i x := fun ws => by
      induction ws with
      | nil => exact .inr rfl
      | cons w ws ih =>
        by_cases e : i = w
        · exact .inl (by simp [e])
        · rcases ih with ih | ih
          · exact .inl (by simp [ih])
          · right
            unfold L2.wipe
            rw [ih, List.set_comm _ _ e]
    unfold L2.wipe
    by_cases hv : i ∈ vs
    · rw [wipe_set hv]
    · have e : v = i := ((List.mem_cons.mp h).resolve_right hv).symm
      subst e
      rw [(key vs).resolve_left hv, List.set_set]
end
/-! ### targets -/
mutual
def gT (K : PySem.W.Frag) : Tg → TG
  | .one i => gName i
  | .many ts => gTup K ts.length (gTs K ts)
def gTs (K : PySem.W.Frag) : List Tg → TGs
  | [] => gNil
  | t :: ts => gCons (gT K t) (gTs K ts)
end
section
variable {I : Info} {Γ : Fs} {fb : Str → Bool} {sc : Scope} {X : Cx}
theorem mTs_each (env : Env) : ∀ {ts : List Tg} {es : List Expr}, mTs I fb sc ts es = true → (assignEach es env).length = ts.length ∧ (assignEach es env).findIdx? (·.1) = none
  | [], [], _ => ⟨rfl, rfl⟩
  | t :: ts, e :: es, h => by
    simp only [mTs, Bool.and_eq_true] at h
    obtain ⟨h1, h2⟩ := mTs_each env h.2
    have st : assignEach (e :: es) env = (false, assign e env) :: assignEach es env := by
      cases t with
      | one i => cases e <;> first | rfl | (simp [mT] at h)
      | many us => cases e <;> first | rfl | (simp [mT] at h)
    rw [st]
    refine ⟨by simp [h1], ?_⟩
    rw [List.findIdx?_cons]
    simp [h2]
  | [], _ :: _, h => by simp [mTs] at h
  | _ :: _, [], h => by simp [mTs] at h
theorem loc_of {x : Str} (c : CxF I Γ fb sc X) (h : locB fb sc x = true) : L2.Loc X.env.scope x ∧ (X.fn x = true ∨ X.env.scope.names.lookup x = some .local) := by
  rw [c.sc]
  unfold locB at h
  unfold L2.Loc
  split at h
  · rename_i e; exact ⟨.inl e, .inr e⟩
  · rename_i e; exact ⟨.inr e, .inl (c.fn x h)⟩
  · cases h
mutual
theorem l_tg (c : CxF I Γ fb sc X) : ∀ {t : Tg} {e : Expr}, mT I fb sc t e = true → PG X e (gT X.K t)
  | .one i, e, h => by
    simp only [mT] at h
    split at h
    · rename_i x pos
      rw [Bool.and_eq_true] at h
      have hl := loc_of c h.2
      unfold gT
      exact pg_name (by rw [c.N]; exact c.nd) (by rw [c.N]; exact of_decide_eq_true h.1) hl.1 hl.2
    · cases h
  | .many ts, e, h => by
    simp only [mT] at h
    split at h
    · rename_i es k pos
      unfold gT
      have q := mTs_each (I := I) (fb := fb) (sc := sc) X.env h
      exact pg_tup c.calm (l_tgs c h) q.1 q.2
    · cases h
theorem l_tgs (c : CxF I Γ fb sc X) : ∀ {ts : List Tg} {es : List Expr}, mTs I fb sc ts es = true → PGs X es (gTs X.K ts)
  | [], [], _ => by unfold gTs; exact pgs_nil
  | t :: ts, e :: es, h => by
    simp only [mTs, Bool.and_eq_true] at h
    unfold gTs
    refine pgs_cons (l_tg c h.1) (l_tgs c h.2) ?_
    cases t with
    | one i => cases e <;> first | rfl | (simp [mT] at h)
    | many us => cases e <;> first | rfl | (simp [mT] at h)
  | [], _ :: _, h => by simp [mTs] at h
  | _ :: _, [], h => by simp [mTs] at h
end
section
variable {K : PySem.W.Frag} {H0 H H' : Hp} {ok F : Addr → Prop} {τ : List Bool}
mutual
theorem put_ok : ∀ {t : Tg} {d : D} {v : V} {σV : L2.St} {σD σD' : Sg} {Q : L2.St → Hp → Prop}, SR K H0 ok τ F H σV σD → (∀ i ∈ tgSlots t, τ.getD i false = false) → Rep K H (okF ok F) d v → put t d σD = some σD' →
    (∀ σV', SR K H0 ok τ F H σV' σD' → (∀ vs, (∀ i ∈ tgSlots t, i ∈ vs) → L2.wipe σV' vs = L2.wipe σV vs) → Q σV' H) → gT K t v σV H Q
  | .one i, d, v, σV, σD, σD', Q, R, ht, r, hp, q => by
    simp only [put, Option.some.injEq] at hp
    subst hp
    unfold gT gName
    exact q _ (R.setA (ht i (by simp [tgSlots])) r) fun vs h => wipe_set (h i (by simp [tgSlots]))
  | .many ts, .tuple ds, v, σV, σD, σD', Q, R, ht, r, hp, q => by
    simp only [put] at hp
    obtain ⟨a, vs, rfl, ha, rs⟩ := r.tuple
    unfold gT gTup
    have hlen : ds.length = ts.length := by
      clear q R ht rs ha r
      induction ts generalizing ds σD with
      | nil => cases ds with
        | nil => rfl
        | cons => simp [puts] at hp
      | cons t ts ih => cases ds with
        | nil => simp [puts] at hp
        | cons d ds =>
          simp only [puts, Option.bind_eq_some_iff] at hp
          obtain ⟨σ1, _, h2⟩ := hp
          simp [ih _ _ h2]
    exact ⟨a, vs, rfl, ha, by rw [rs.length, hlen], puts_ok R ht rs hp q⟩
  | .many _, .none, _, _, _, _, _, _, _, _, hp, _ => by cases hp
  | .many _, .bool _, _, _, _, _, _, _, _, _, hp, _ => by cases hp
  | .many _, .int _, _, _, _, _, _, _, _, _, hp, _ => by cases hp
  | .many _, .str _, _, _, _, _, _, _, _, _, hp, _ => by cases hp
  | .many _, .list _, _, _, _, _, _, _, _, _, hp, _ => by cases hp
  | .many _, .dict _, _, _, _, _, _, _, _, _, hp, _ => by cases hp
theorem puts_ok : ∀ {ts : List Tg} {ds : List D} {vs : List V} {σV : L2.St} {σD σD' : Sg} {Q : L2.St → Hp → Prop}, SR K H0 ok τ F H σV σD → (∀ i ∈ tgSlotss ts, τ.getD i false = false) → Reps K H (okF ok F) ds vs → puts ts ds σD = some σD' →
    (∀ σV', SR K H0 ok τ F H σV' σD' → (∀ vs, (∀ i ∈ tgSlotss ts, i ∈ vs) → L2.wipe σV' vs = L2.wipe σV vs) → Q σV' H) → gTs K ts vs σV H Q
  | [], [], vs, σV, σD, σD', Q, R, ht, r, hp, q => by
    simp only [puts, Option.some.injEq] at hp
    subst hp
    cases r
    unfold gTs gNil
    exact ⟨rfl, q _ R fun _ _ => rfl⟩
  | t :: ts, d :: ds, vs, σV, σD, σD', Q, R, ht, r, hp, q => by
    simp only [puts, Option.bind_eq_some_iff] at hp
    obtain ⟨σ1, h1, h2⟩ := hp
    cases r with
    | cons r rs =>
      unfold gTs gCons
      refine ⟨_, _, rfl, put_ok R (fun i hi => ht i (by simp [tgSlotss, hi])) r h1 fun σV1 R1 w1 => ?_⟩
      exact puts_ok R1 (fun i hi => ht i (by simp [tgSlotss, hi])) rs h2 fun σV2 R2 w2 => q σV2 R2 fun ws hw => (w2 ws fun i hi => hw i (by simp [tgSlotss, hi])).trans (w1 ws fun i hi => hw i (by simp [tgSlotss, hi]))
  | [], _ :: _, _, _, _, _, _, _, _, _, hp, _ => by cases hp
  | _ :: _, [], _, _, _, _, _, _, _, _, hp, _ => by cases hp
end
end
end
end Eng
end
section
set_option Elab.async false
set_option linter.all false
set_option maxRecDepth 100000
set_option maxHeartbeats 2000000
/-! EngE8: comprehensions. -/
namespace Eng
open PySem PySem.Spec PyProof.Rows L2
section
variable {I : Info} {Γ : Fs} {fb : Str → Bool} {sc : Scope} {X : Cx}
theorem CxF.blk (c : CxF I Γ fb sc X) (scope : Scope) (s : Shared) (H : Hp) (C : Addr) (cl : List (Str × Addr)) (fp : List Addr) : CxF I Γ (fbOf scope) (relS scope sc) (X.blk s H scope (compEnvC scope cl C X.env) fp) where
  sc := by
    show relabel scope X.env = relS scope sc
    rw [← c.sc]
    rfl
  N := c.N
  nd := c.nd
  calm := c.calm
  fn := fun x h => h
  un := c.un
  fns := c.fns
  blt := c.blt
  ty := c.ty
  con := c.con
  isq := c.isq
/-- a clause's tests -/
def tTs (K : PySem.W.Frag) (Γ : Fs) : List E → TT
  | [] => tYes
  | [c] => tTr K Γ c
  | _ => fun _ _ _ => False
/-- one turn of a comprehension -/
def turnC (Γ : Fs) (tg : Tg) (vs : List Nat) (cond : List E) (elt : E) (σ : Sg) (x : D) : Option (Option D) :=
  (put tg x (wipeD σ vs)).bind fun σ' => (evs Γ cond σ').bind fun cs => match cs with
    | [] => (ev Γ elt σ').map some
    | [c] => (truth c).bind fun t => if t then (ev Γ elt σ').map some else some none
    | _ => none
theorem compL_len {f : D → Option (Option D)} : ∀ {xs rs : List D}, compL f xs = some rs → rs.length ≤ xs.length
  | [], rs, h => by simp only [compL, Option.some.injEq] at h; subst h; simp
  | x :: xs, rs, h => by
    simp only [compL, Option.bind_eq_some_iff, Option.map_eq_some_iff] at h
    obtain ⟨r, _, rs', h2, rfl⟩ := h
    have := compL_len h2
    cases r with
    | none => simp; omega
    | some y => simp; omega
theorem wipe_wipe (σ : L2.St) (us : List Nat) : L2.wipe (L2.wipe σ us) us = L2.wipe σ us := by
  refine List.ext_getElem? fun j => ?_
  by_cases hj : j ∈ us
  · have out : ∀ (ρ : L2.St), ρ.length = σ.length → (L2.wipe ρ us)[j]? = (if j < σ.length then some none else none) := fun ρ hρ => by
      have key : ∀ ts : List Nat, j ∈ ts → (L2.wipe ρ ts)[j]? = (if j < σ.length then some none else none) := fun ts => by
        induction ts with
        | nil => intro h; cases h
        | cons t ts ih =>
          intro h
          unfold L2.wipe
          by_cases e : t = j
          · subst e
            split
            · rename_i hl
              exact List.getElem?_set_self (by rw [wipe_length, hρ]; exact hl)
            · rename_i hl
              exact List.getElem?_eq_none (by rw [List.length_set, wipe_length, hρ]; omega)
          · rw [List.getElem?_set_ne e]
            exact ih ((List.mem_cons.mp h).resolve_left fun q => e q.symm)
      exact key us hj
    rw [out _ (wipe_length _ _), out _ rfl]
  · rw [wipe_out hj]
mutual
theorem put_out {i : Nat} : ∀ {t : Tg} {d : D} {σ σ' : Sg}, i ∉ tgSlots t → put t d σ = some σ' → σ'[i]? = σ[i]?
  | .one j, d, σ, σ', h, hp => by
    simp only [put, Option.some.injEq] at hp
    subst hp
    exact List.getElem?_set_ne fun e => h (by simp [tgSlots, e])
  | .many ts, .tuple ds, σ, σ', h, hp => by
    simp only [put] at hp
    exact puts_out (by simpa [tgSlots] using h) hp
  | .many _, .none, _, _, _, hp => by cases hp
  | .many _, .bool _, _, _, _, hp => by cases hp
  | .many _, .int _, _, _, _, hp => by cases hp
  | .many _, .str _, _, _, _, hp => by cases hp
  | .many _, .list _, _, _, _, hp => by cases hp
  | .many _, .dict _, _, _, _, hp => by cases hp
theorem puts_out {i : Nat} : ∀ {ts : List Tg} {ds : List D} {σ σ' : Sg}, i ∉ tgSlotss ts → puts ts ds σ = some σ' → σ'[i]? = σ[i]?
  | [], [], σ, σ', _, hp => by cases hp; rfl
  | t :: ts, d :: ds, σ, σ', h, hp => by
    simp only [puts, Option.bind_eq_some_iff] at hp
    obtain ⟨σ1, h1, h2⟩ := hp
    simp only [tgSlotss, List.mem_append, not_or] at h
    exact (puts_out h.2 h2).trans (put_out h.1 h1)
  | [], _ :: _, _, _, _, hp => by cases hp
  | _ :: _, [], _, _, _, hp => by cases hp
end
theorem comp_imp {tg : Tg} {own : List (Str × Nat)} {it : E} {cond : List E} {elt : E} (hsl : ∀ i ∈ tgSlots tg, i ∈ own.map (·.2)) :
    ∀ σ H Q, tE X.K Γ (.comp tg own it cond elt) σ H Q → tLc (tI X.K Γ it) (gT X.K tg) (tTs X.K Γ cond) (tE X.K Γ elt) (own.map (·.2)) σ H Q := fun σ H Q q => by
  obtain ⟨H0, ok, τ, F, σD, g, d, R, hg, hd, q⟩ := q
  have hgg := grN2 hg
  clear hg
  obtain ⟨hg, rfl⟩ := hgg
  simp only [Bool.and_eq_true] at hg
  obtain ⟨⟨hgi, hgc⟩, hge⟩ := hg
  obtain ⟨gi, hgi⟩ := isR_some hgi
  simp only [ev, Option.bind_eq_some_iff] at hd
  obtain ⟨dx, hdx, xs, hxs, hd⟩ := hd
  simp only [Option.ite_none_right_eq_some, Option.map_eq_some_iff] at hd
  obtain ⟨hln, rs, hrs, rfl⟩ := hd
  have hrs : compL (turnC Γ tg (own.map (·.2)) cond elt σD) xs = some rs := hrs
  refine ⟨H0, ok, τ, F, σD, gi, dx, xs, R, hgi, hdx, hxs, fun J H1 s1 hJ => ?_⟩
  intro D hD
  obtain ⟨G, as, bs, ws, Y, w, hG1, has, _, rb, hk, hy⟩ := hJ.ex
  let vs := own.map (·.2)
  let F' : Addr → Prop := fun b => F b ∨ b = D
  -- the situation within
  have R1 : SR X.K H0 ok (offs τ vs) F' (upd H1 D (.lst [])) (L2.wipe σ vs) (wipeD σD vs) := ((R.grow s1).wipe vs).addF hD
  have wk : ∀ b, (okF ok F) b ∧ b ≠ D → okF ok F' b := fun b h => ⟨h.1.1, fun z => z.elim h.1.2 h.2⟩
  have noD : ∀ {H' : Hp}, Same H1 H' → ∀ i : Nat, (L2.wipe σ vs)[i]? = some (some (V.ref D)) → (∃ ds, (wipeD σD vs)[i]? = some (some (.list ds))) → False := fun {H'} s' i hi ⟨ds, hd⟩ => by
    obtain ⟨v, h1, h2⟩ := ((R.grow s1).wipe vs).val i _ hd
    rw [hi] at h1
    cases h1
    rcases h2 with ⟨_, a, us, es, _, e2, _, h, _⟩ | h
    · cases e2
      rw [hD] at h; cases h
    · obtain ⟨a, us, e, h, _⟩ := h.1.list
      cases e
      rw [hD] at h; cases h
  let Pv : Nat → Hp → Prop := fun i H' => Same H1 H' ∧ SR X.K H0 ok (offs τ vs) F' H' (L2.wipe σ vs) (wipeD σD vs) ∧ ∃ acc ds rest, H' D = some (.lst acc) ∧ Reps X.K H' (okF ok F') ds acc ∧ compL (turnC Γ tg vs cond elt σD) (xs.drop i) = some rest ∧ rs = ds ++ rest ∧ ds.length ≤ i
  have okn' : ∀ {H' : Hp} {σV' : L2.St} {σD' : Sg}, SR X.K H0 ok (offs τ vs) F' H' σV' σD' → Okn H' (okF ok F') := fun r => r.okn'
  have GH : ∀ i H', i ≤ xs.length → Pv i H' → G H' := fun i H' _ p => hk H' (fun b us h => sqT_same p.1 h) fun a ha => by
    obtain ⟨us, h⟩ := has a ha
    rw [h, p.1 _ _ h]
  refine lc_it w Pv ⟨same_new hD, R1, [], [], rs, upd_same, .nil, by simpa using hrs, rfl, Nat.le_refl _⟩ GH (fun i x H' H2 hlt p yy => ?_) fun H' p => ?_
  · obtain ⟨sp, Rp, acc, ds, rest, hDp, ra, hrest, hrs2, hdl⟩ := p
    have rb' : Reps X.K H' (okF ok F') bs ws := ((rb.old hD).weak wk).same sp
    obtain ⟨s2, dy, hdy, ry⟩ := hy _ H' (GH i H' (by omega) ⟨sp, Rp, acc, ds, rest, hDp, ra, hrest, hrs2, hdl⟩) rb' i x H2 hlt yy
    have hcons : xs.drop i = dy :: xs.drop (i + 1) := by
      rw [List.getElem?_eq_getElem hlt] at hdy
      cases hdy
      exact List.drop_eq_getElem_cons hlt
    rw [hcons] at hrest
    simp only [compL, Option.bind_eq_some_iff, Option.map_eq_some_iff] at hrest
    obtain ⟨r, hr, rest', hrest', hcat⟩ := hrest
    unfold turnC at hr
    simp only [Option.bind_eq_some_iff] at hr
    obtain ⟨σ', hput, cs, hcs, hr⟩ := hr
    have R2 := Rp.grow s2
    refine put_ok R2 (fun j hj => offs_in (hsl j hj)) ry hput fun σV' R3 hw => ?_
    have hw2 : L2.wipe σV' vs = L2.wipe σ vs := by
      rw [hw vs fun j hj => hsl j hj]
      exact wipe_wipe σ vs
    refine ⟨hw2, ?_⟩
    -- the elements' turn
    have elem : ∀ (H3 : Hp), Same H2 H3 → ∀ y, ev Γ elt σ' = some y → r = some y → tE X.K Γ elt σV' H3 fun z H4 => ∃ acc, H4 D = some (.lst acc) ∧ acc.length < sizeLine ∧ Pv (i + 1) (upd H4 D (.lst (acc ++ [z]))) := fun H3 s3 y hy hry => by
      obtain ⟨ge, hge'⟩ := isR_some (isA_R hge)
      refine tE.mk (R3.grow s3) hge' hy fun z H4 s4 rz => ?_
      have R4 := (Rp.grow s2).grow (s3.trans s4)
      have rz' : Rep X.K H4 (okF ok F') y z := rz.rep (R3.grow s3).okn' (hge' ▸ hge)
      have hD4 : H4 D = some (.lst acc) := s4 _ _ (s3 _ _ (s2 _ _ hDp))
      have ra4 : Reps X.K H4 (okF ok F') ds acc := ra.same (s2.trans (s3.trans s4))
      have nD : ∀ b, okF ok F' b → b ≠ D := fun b h e => h.2 (.inr e)
      have hal : acc.length = ds.length := ra4.length
      refine ⟨acc, hD4, ?_, ?_, ?_, acc ++ [z], ds ++ [y], rest', upd_same, (ra4.append (.one rz')).upd hD4 nD, hrest', ?_, ?_⟩
      · rw [sizeLine_eq, hal]
        have := Nat.le_of_ble_eq_true hln
        unfold SL at this
        omega
      · intro b o e
        have : b ≠ D := fun z => by rw [z, hD] at e; cases e
        rw [upd_ne this]
        exact s4 _ _ (s3 _ _ (s2 _ _ (sp _ _ e)))
      · exact R4.wr0 (.inr rfl) hD4 fun j hj hl => noD sp j hj hl
      · rw [hrs2, ← hcat, hry]
        simp
      · simp; omega
    match cond, hgc, hcs, hr with
    | [], _, hcs, hr =>
      simp only [evs, Option.some.injEq] at hcs
      subst hcs
      simp only [Option.map_eq_some_iff] at hr
      obtain ⟨y, hy, rfl⟩ := hr
      exact elem H2 (Same.refl _) y hy rfl
    | [c0], hgc, hcs, hr =>
      simp only [evs, Option.bind_eq_some_iff, Option.map_some, Option.some.injEq] at hcs
      obtain ⟨k, hk, rfl⟩ := hcs
      simp only [Option.bind_eq_some_iff] at hr
      obtain ⟨t, ht, hr⟩ := hr
      simp only [grR, Bool.and_eq_true] at hgc
      obtain ⟨gc, hgc⟩ := isR_some hgc.1
      refine ⟨H0, ok, _, F', σ', gc, k, t, R3, hgc, hk, ht, fun H3 s3 => ?_⟩
      cases t with
      | true =>
        simp only [if_true] at hr
        rw [if_pos rfl]
        simp only [Option.map_eq_some_iff] at hr
        obtain ⟨y, hy, rfl⟩ := hr
        exact elem H3 s3 y hy rfl
      | false =>
        simp only [Bool.false_eq_true, if_false, Option.some.injEq] at hr
        subst hr
        rw [if_neg (by decide)]
        refine ⟨sp.trans (s2.trans s3), Rp.grow (s2.trans s3), acc, ds, rest', s3 _ _ (s2 _ _ hDp), ra.same (s2.trans s3), hrest', ?_, by omega⟩
        rw [hrs2, ← hcat]
    | c0 :: c1 :: r0, _, hcs, hr =>
      simp only [evs, Option.bind_eq_some_iff, Option.map_eq_some_iff] at hcs
      obtain ⟨k, _, ks, ⟨k', _, ks', _, rfl⟩, rfl⟩ := hcs
      cases hr
  · obtain ⟨sp, Rp, acc, ds, rest, hDp, ra, hrest, hrs2, hdl⟩ := p
    rw [List.drop_length] at hrest
    simp only [compL, Option.some.injEq] at hrest
    subst hrest
    rw [List.append_nil] at hrs2
    subst hrs2
    refine q _ H' (s1.trans sp) (.inl ⟨_, D, acc, rfl, rfl, s1.free hD, hDp, ra.weak fun b h => ⟨⟨h.1, fun z => h.2 (.inl z)⟩, fun z => h.2 (.inr z)⟩⟩)
theorem l_comp {tg : Tg} {own : List (Str × Nat)} {it : E} {cond : List E} {elt : E} {elt' tg' iter : Expr} {ifs : List Expr} {scope : Scope} {pos : Pos} (c : CxF I Γ fb sc X) (hb : blkC I.N sc scope own = true) (hi : PI X tg' iter (tI X.K Γ it))
    (hs : ∀ x, foldedSetIterable iter X.env x = pure x) (htg : mT I (fbOf scope) (relS scope sc) tg tg' = true) (hsl : ∀ i ∈ tgSlots tg, i ∈ own.map (·.2))
    (ht : ∀ (s : Shared) (H : Hp) (C : Addr) (cl : List (Str × Addr)) (fp : List Addr), PTs (X.blk s H scope (compEnvC scope cl C X.env) fp) ifs (tTs X.K Γ cond))
    (he : ∀ (s : Shared) (H : Hp) (C : Addr) (cl : List (Str × Addr)) (fp : List Addr), PE (X.blk s H scope (compEnvC scope cl C X.env) fp) elt' (tE X.K Γ elt)) :
    PE X (.ListComp elt' [⟨tg', iter, ifs, 0⟩] scope pos) (tE X.K Γ (.comp tg own it cond elt)) := by
  have bo : BlkOk X.N X.env.scope scope own := by rw [c.N, c.sc]; exact blkOk_by hb
  exact (pe_lc (pos := pos) (own := own) (g := gT X.K tg) c.calm (by rw [c.N]; exact c.nd) hi bo (fun s H C cl fp => l_tg (c.blk scope s H C cl fp) htg) ht he hs).engImp (comp_imp hsl)
/-- name = [..] on one line -/
theorem ps_comp {tg : Tg} {own : List (Str × Nat)} {it : E} {cond : List E} {elt : E} {elt' tg' iter : Expr} {ifs : List Expr} {scope : Scope} {pos py spos : Pos} {i : Nat} {y : Str} (c : CxF I Γ fb sc X) (hy : I.N[i]? = some y) (hyl : sc.names.lookup y = some .local)
    (hsw : swapsWith (.ListComp elt' [⟨tg', iter, ifs, 0⟩] scope pos) (some (.Name y py)) spos.line X.env = pure true) (hb : blkC I.N sc scope own = true) (hi : PI X tg' iter (tI X.K Γ it))
    (hs : ∀ x, foldedSetIterable iter X.env x = pure x) (htg : mT I (fbOf scope) (relS scope sc) tg tg' = true) (hsl : ∀ i ∈ tgSlots tg, i ∈ own.map (·.2))
    (ht : ∀ (s : Shared) (H : Hp) (C : Addr) (cl : List (Str × Addr)) (fp : List Addr), PTs (X.blk s H scope (compEnvC scope cl C X.env) fp) ifs (tTs X.K Γ cond))
    (he : ∀ (s : Shared) (H : Hp) (C : Addr) (cl : List (Str × Addr)) (fp : List Addr), PE (X.blk s H scope (compEnvC scope cl C X.env) fp) elt' (tE X.K Γ elt)) :
    PS X (.Assign [.Name y py] (.ListComp elt' [⟨tg', iter, ifs, 0⟩] scope pos) spos) (tAsg (tE X.K Γ (.comp tg own it cond elt)) (gName i)) := by
  have bo : BlkOk X.N X.env.scope scope own := by rw [c.N, c.sc]; exact blkOk_by hb
  have h := ps_setLc (i := i) (own := own) (g := gT X.K tg) c.calm (by rw [c.N]; exact c.nd) (by rw [c.N]; exact hy) (by rw [c.sc]; exact hyl) hsw hi bo (fun s H C cl fp => l_tg (c.blk scope s H C cl fp) htg) ht he hs
  exact ⟨fun pins s σ H D I q => h.run pins s σ H D I (comp_imp hsl σ H _ q)⟩
end
end Eng
end
section
set_option Elab.async false
set_option linter.all false
set_option maxRecDepth 100000
set_option maxHeartbeats 2000000
/-! EngE9: comprehensions of two clauses. -/
namespace Eng
open PySem PySem.Spec PyProof.Rows L2
section
variable {I : Info} {Γ : Fs} {fb : Str → Bool} {sc : Scope} {X : Cx}
theorem walk_body {J : It} {n : Nat} {G : Hp → Prop} {Y : Nat → Hp → V → Hp → Prop} (w : Walk J n G Y) {Bd : V → Hp → (Hp → Prop) → Prop} {Qd : Hp → Prop} {H0 : Hp} (Pv : Nat → Hp → Prop) (h0 : Pv 0 H0) (hG : ∀ i H, i ≤ n → Pv i H → G H)
    (hs : ∀ i x H H', i < n → Pv i H → Y i H x H' → Bd x H' (Pv (i + 1))) (hd : ∀ H, Pv n H → Qd H) :
    ∃ W : Nat → Nat → Hp → Prop, (∃ m, W 0 m H0) ∧ ∀ i m H, W i m H → (J.stop i H ∧ Qd H) ∨ (J.go i H ∧ ∃ Nx : Hp → Prop, (∀ H', Nx H' → ∃ m', m' < m ∧ W (i + 1) m' H') ∧ ∀ x H', J.yld i H x H' → Bd x H' Nx) := by
  refine ⟨fun i m H => m = n - i ∧ i ≤ n ∧ Pv i H, ⟨n, by simp, Nat.zero_le _, h0⟩, ?_⟩
  rintro i m H ⟨rfl, hi, p⟩
  have q := hG i H hi p
  by_cases hlt : i < n
  · exact .inr ⟨w.goes i H hlt q, Pv (i + 1), fun H' p' => ⟨n - (i + 1), by omega, rfl, hlt, p'⟩, fun x H' y => hs i x H H' hlt p (w.yields i H x H' hlt q y)⟩
  · have e : i = n := by omega
    subst e
    exact .inl ⟨w.stops H q, hd H p⟩
theorem SR.retype {K : PySem.W.Frag} {H0 H : Hp} {ok F : Addr → Prop} {τ τ' : List Bool} {σV : L2.St} {σD : Sg} (R : SR K H0 ok τ F H σV σD) (h : ∀ i, τ'.getD i false = τ.getD i false) : SR K H0 ok τ' F H σV σD :=
  ⟨R.same, R.okn, R.own, R.len, fun i d e => by rw [h i]; exact R.val i d e, R.uniq⟩
theorem offs2 {τ : List Bool} {vs us : List Nat} (h : ∀ i ∈ us, i ∈ vs) (i : Nat) : (offs τ vs).getD i false = (offs (offs τ vs) us).getD i false := by
  by_cases e : i ∈ us
  · rw [offs_in e, offs_in (h i e)]
  · rw [offs_out e]
/-- the inner turns of one outer turn -/
def turnI (Γ : Fs) (tg1 : Tg) (cond : List E) (elt : E) (σ' : Sg) (y : D) : Option (Option D) := turnC Γ tg1 (tgSlots tg1) cond elt σ' y
def turnO (Γ : Fs) (tg tg1 : Tg) (vs : List Nat) (it1 : E) (cond : List E) (elt : E) (σ : Sg) (x : D) : Option (List D) :=
  (put tg x (wipeD σ vs)).bind fun σ' => (ev Γ it1 σ').bind fun d' => (elemsP d').bind fun ys => compL (turnI Γ tg1 cond elt σ') ys
theorem itA_simple {τ : List Bool} {m : E} (h : simpleIt m = true) (hA : isA (gr τ m) = true) : itA τ m = true := by
  cases m with
  | bi b es => cases b <;> first | exact hA | rfl | (cases h; done)
  | _ => exact hA
theorem comp2_imp {tg tg1 : Tg} {own : List (Str × Nat)} {it it1 : E} {cond : List E} {elt : E} (hsl : ∀ i ∈ tgSlots tg, i ∈ own.map (·.2)) (hsl1 : ∀ i ∈ tgSlots tg1, i ∈ own.map (·.2)) (hsi : simpleIt it1 = true) :
    ∀ σ H Q, tE X.K Γ (.comp2 tg tg1 own it it1 cond elt) σ H Q → tLc2 (tI X.K Γ it) (gT X.K tg) tYes (tI X.K Γ it1) (gT X.K tg1) (tTs X.K Γ cond) (tE X.K Γ elt) (own.map (·.2)) (tgSlots tg1) σ H Q := fun σ H Q q => by
  obtain ⟨H0, ok, τ, F, σD, g, d, R, hg, hd, q⟩ := q
  have hgg := grN2 hg
  clear hg
  obtain ⟨hg, rfl⟩ := hgg
  simp only [Bool.and_eq_true] at hg
  obtain ⟨⟨⟨hgi, hg1⟩, hgc⟩, hge⟩ := hg
  obtain ⟨gi, hgi⟩ := isR_some hgi
  obtain ⟨g1, hg1'⟩ := isR_some (isA_R hg1)
  simp only [ev, Option.bind_eq_some_iff] at hd
  obtain ⟨dx, hdx, xs, hxs, rs, hrs, hd⟩ := hd
  simp only [Option.ite_none_right_eq_some, Option.some.injEq] at hd
  obtain ⟨hln, rfl⟩ := hd
  have hrs : comp2L (turnO Γ tg tg1 (own.map (·.2)) it1 cond elt σD) xs = some rs := hrs
  refine ⟨H0, ok, τ, F, σD, gi, dx, xs, R, hgi, hdx, hxs, fun J H1 s1 hJ => ?_⟩
  intro D hD
  obtain ⟨G, as, bs, ws, Y, w, hG1, has, _, rb, hk, hy⟩ := hJ.ex
  let vs := own.map (·.2)
  let F' : Addr → Prop := fun b => F b ∨ b = D
  have R1 : SR X.K H0 ok (offs τ vs) F' (upd H1 D (.lst [])) (L2.wipe σ vs) (wipeD σD vs) := ((R.grow s1).wipe vs).addF hD
  have wk : ∀ b, (okF ok F) b ∧ b ≠ D → okF ok F' b := fun b h => ⟨h.1.1, fun z => z.elim h.1.2 h.2⟩
  have noD : ∀ i : Nat, (L2.wipe σ vs)[i]? = some (some (V.ref D)) → (∃ ds, (wipeD σD vs)[i]? = some (some (.list ds))) → False := fun i hi ⟨ds, hd⟩ => by
    obtain ⟨v, h1, h2⟩ := ((R.grow s1).wipe vs).val i _ hd
    rw [hi] at h1
    cases h1
    rcases h2 with ⟨_, a, us, es, _, e2, _, h, _⟩ | h
    · cases e2
      rw [hD] at h; cases h
    · obtain ⟨a, us, e, h, _⟩ := h.1.list
      cases e
      rw [hD] at h; cases h
  have nD : ∀ b, okF ok F' b → b ≠ D := fun b h e => h.2 (.inr e)
  have sUp : ∀ {Ha : Hp} {ys : List V}, Same H1 Ha → Same H1 (upd Ha D (.lst ys)) := fun {Ha ys} s b o e => by
    have : b ≠ D := fun z => by rw [z, hD] at e; cases e
    rw [upd_ne this]
    exact s b o e
  let Pv : Nat → Hp → Prop := fun i H' => Same H1 H' ∧ SR X.K H0 ok (offs τ vs) F' H' (L2.wipe σ vs) (wipeD σD vs) ∧ ∃ acc ds rest, H' D = some (.lst acc) ∧ Reps X.K H' (okF ok F') ds acc ∧ comp2L (turnO Γ tg tg1 vs it1 cond elt σD) (xs.drop i) = some rest ∧ rs = ds ++ rest
  have GH : ∀ i H', i ≤ xs.length → Pv i H' → G H' := fun i H' _ p => hk H' (fun b us h => sqT_same p.1 h) fun a ha => by
    obtain ⟨us, h⟩ := has a ha
    rw [h, p.1 _ _ h]
  refine walk_body w Pv ⟨same_new hD, R1, [], [], rs, upd_same, .nil, by simpa using hrs, rfl⟩ GH (fun i x H' H2 hlt p yy => ?_) fun H' p => ?_
  · have hGp := GH i H' (by omega) p
    obtain ⟨sp, Rp, acc, ds, rest, hDp, ra, hrest, hrs2⟩ := p
    have rb' : Reps X.K H' (okF ok F') bs ws := ((rb.old hD).weak wk).same sp
    obtain ⟨s2, dy, hdy, ry⟩ := hy _ H' hGp rb' i x H2 hlt yy
    have hcons : xs.drop i = dy :: xs.drop (i + 1) := by
      rw [List.getElem?_eq_getElem hlt] at hdy
      cases hdy
      exact List.drop_eq_getElem_cons hlt
    rw [hcons] at hrest
    simp only [comp2L, Option.bind_eq_some_iff, Option.map_eq_some_iff] at hrest
    obtain ⟨r, hr, rest', hrest', hcat⟩ := hrest
    unfold turnO at hr
    simp only [Option.bind_eq_some_iff] at hr
    obtain ⟨σ', hput, d', hd', ys, hys, hr⟩ := hr
    refine put_ok (Rp.grow s2) (fun j hj => offs_in (hsl j hj)) ry hput fun σV' R3 hw => ?_
    refine ⟨(hw vs fun j hj => hsl j hj).trans (wipe_wipe σ vs), ?_⟩
    unfold tYes
    dsimp only
    rw [if_pos rfl]
    refine ⟨H0, ok, _, F', σ', g1, d', ys, R3, hg1', hd', hys, fun J1 H4 s4 hJ1 => ?_⟩
    obtain ⟨G1, as1, bs1, ws1, Y1, w1, hG4, has1, hal1, rb1, hk1, hy1⟩ := hJ1.ex
    have hal1 := hal1 (itA_simple hsi hg1)
    have noD' : ∀ j : Nat, σV'[j]? = some (some (V.ref D)) → (∃ es, σ'[j]? = some (some (.list es))) → False := fun j hj hl => by
      -- the block's slots hold what none writes
      obtain ⟨es, hl⟩ := hl
      obtain ⟨u, hu1, hu2⟩ := R3.val j _ hl
      rw [hj] at hu1
      cases hu1
      rcases hu2 with ⟨e, a, us, es', _, e2, _, _, _⟩ | h
      · -- an old slot
        by_cases hjv : j ∈ vs
        · rw [offs_in hjv] at e; cases e
        · have h1 : (L2.wipe σ vs)[j]? = some (some (V.ref D)) := by
            have := hw vs fun j hj => hsl j hj
            rw [← wipe_wipe σ vs, ← this, wipe_out hjv]
            exact hj
          exact noD j h1 ⟨es, (put_out (fun z => hjv (hsl j z)) hput).symm.trans hl⟩
      · exact nD _ (own_of h.1) rfl
    -- within: the inner turns
    let Pi : Nat → Hp → Prop := fun j Hw => Same H1 Hw ∧ (∀ a ∈ as1, Hw a = H4 a) ∧ (∀ b us, SqT X.K H4 b us → SqT X.K Hw b us) ∧ Reps X.K Hw (okF ok F') bs1 ws1 ∧ SR X.K H0 ok (offs τ vs) F' Hw (L2.wipe σ vs) (wipeD σD vs) ∧ SR X.K H0 ok (offs τ vs) F' Hw σV' σ' ∧ ∃ acc ds rest1, Hw D = some (.lst acc) ∧ Reps X.K Hw (okF ok F') ds acc ∧ compL (turnI Γ tg1 cond elt σ') (ys.drop j) = some rest1 ∧ rs = ds ++ (rest1 ++ rest')
    have sH4 : Same H' H4 := s2.trans s4
    refine walk_body w1 Pi ⟨sp.trans sH4, fun _ _ => rfl, fun _ _ h => h, rb1, Rp.grow sH4, R3.grow s4, acc, ds, r, sH4 _ _ hDp, ra.same sH4, by simpa using hr, by rw [hrs2, ← hcat]⟩ (fun j Hw _ p => hk1 Hw p.2.2.1 p.2.1) (fun j y Hw H5 hlt1 p yy1 => ?_) fun Hw p => ?_
    · obtain ⟨a1, a2, a3, a4, a5, a6, acc, ds, rest1, b1, b2, b3, b4⟩ := p
      have hGw : G1 Hw := hk1 Hw a3 a2
      obtain ⟨s5, dz, hdz, rz⟩ := hy1 _ Hw hGw a4 j y H5 hlt1 yy1
      have hcons1 : ys.drop j = dz :: ys.drop (j + 1) := by
        rw [List.getElem?_eq_getElem hlt1] at hdz
        cases hdz
        exact List.drop_eq_getElem_cons hlt1
      rw [hcons1] at b3
      simp only [compL, Option.bind_eq_some_iff, Option.map_eq_some_iff] at b3
      obtain ⟨r2, hr2, rest2, hrest2, hcat2⟩ := b3
      unfold turnI turnC at hr2
      simp only [Option.bind_eq_some_iff] at hr2
      obtain ⟨σ2, hput2, cs, hcs, hr2⟩ := hr2
      have R5 : SR X.K H0 ok (offs τ vs) F' H5 (L2.wipe σV' (tgSlots tg1)) (wipeD σ' (tgSlots tg1)) := ((a6.grow s5).wipe (tgSlots tg1)).retype fun i => offs2 hsl1 i
      refine put_ok R5 (fun j hj => offs_in (hsl1 j hj)) rz hput2 fun σV2 R6 hw2 => ?_
      refine ⟨(hw2 (tgSlots tg1) fun j hj => hj).trans (wipe_wipe σV' (tgSlots tg1)), ?_⟩
      have keep : ∀ (H7 : Hp), Same H5 H7 → Reps X.K H7 (okF ok F') ds acc → compL (turnI Γ tg1 cond elt σ') (ys.drop (j + 1)) = some rest2 → rs = ds ++ (rest2 ++ rest') → H7 D = some (.lst acc) → Pi (j + 1) H7 := fun H7 s7 c1 c2 c3 c4 =>
        ⟨a1.trans (s5.trans s7), fun a ha => by obtain ⟨us, h⟩ := has1 a ha; rw [h]; exact s7 _ _ (s5 _ _ ((a2 a ha).trans h)), fun b us h => sqT_same (s5.trans s7) (a3 b us h), a4.same (s5.trans s7), a5.grow (s5.trans s7), a6.grow (s5.trans s7), acc, ds, rest2, c4, c1, c2, c3⟩
      have elem : ∀ (H3 : Hp), Same H5 H3 → ∀ y, ev Γ elt σ2 = some y → r2 = some y → tE X.K Γ elt σV2 H3 fun z H7 => ∃ acc, H7 D = some (.lst acc) ∧ acc.length < sizeLine ∧ Pi (j + 1) (upd H7 D (.lst (acc ++ [z]))) := fun H3 s3 y hy hry => by
        obtain ⟨ge, hge'⟩ := isR_some (isA_R hge)
        refine tE.mk (R6.grow s3) hge' hy fun z H7 s7 rz => ?_
        have rz' : Rep X.K H7 (okF ok F') y z := rz.rep (R6.grow s3).okn' (hge' ▸ hge)
        have sA : Same Hw H7 := s5.trans (s3.trans s7)
        have hD7 : H7 D = some (.lst acc) := sA _ _ b1
        have ra7 : Reps X.K H7 (okF ok F') ds acc := b2.same sA
        have hal : acc.length = ds.length := ra7.length
        refine ⟨acc, hD7, ?_, sUp (a1.trans sA), fun a ha => ?_, fun b us h => sqT_upd hD7 (sqT_same sA (a3 b us h)), (a4.same sA).upd hD7 nD, (a5.grow sA).wr0 (.inr rfl) hD7 noD, (a6.grow sA).wr0 (.inr rfl) hD7 noD', acc ++ [z], ds ++ [y], rest2, upd_same, (ra7.append (.one rz')).upd hD7 nD, hrest2, ?_⟩
        · rw [sizeLine_eq, hal]
          have h9 := Nat.le_of_ble_eq_true hln
          unfold SL at h9
          rw [b4, ← hcat2, hry] at h9
          simp at h9
          omega
        · obtain ⟨us, h⟩ := has1 a ha
          rw [upd_ne (nD a (hal1 a ha)), h]
          exact sA _ _ ((a2 a ha).trans h)
        · rw [b4, ← hcat2, hry]
          simp
      match cond, hgc, hcs, hr2 with
      | [], _, hcs, hr2 =>
        simp only [evs, Option.some.injEq] at hcs
        subst hcs
        simp only [Option.map_eq_some_iff] at hr2
        obtain ⟨y, hy, rfl⟩ := hr2
        exact elem H5 (Same.refl _) y hy rfl
      | [c0], hgc, hcs, hr2 =>
        simp only [evs, Option.bind_eq_some_iff, Option.map_some, Option.some.injEq] at hcs
        obtain ⟨k, hk, rfl⟩ := hcs
        simp only [Option.bind_eq_some_iff] at hr2
        obtain ⟨t, ht, hr2⟩ := hr2
        simp only [grR, Bool.and_eq_true] at hgc
        obtain ⟨gc, hgc⟩ := isR_some hgc.1
        refine ⟨H0, ok, _, F', σ2, gc, k, t, R6, hgc, hk, ht, fun H3 s3 => ?_⟩
        cases t with
        | true =>
          simp only [if_true] at hr2
          rw [if_pos rfl]
          simp only [Option.map_eq_some_iff] at hr2
          obtain ⟨y, hy, rfl⟩ := hr2
          exact elem H3 s3 y hy rfl
        | false =>
          simp only [Bool.false_eq_true, if_false, Option.some.injEq] at hr2
          subst hr2
          rw [if_neg (by decide)]
          exact keep H3 s3 (b2.same (s5.trans s3)) hrest2 (by rw [b4, ← hcat2]) (s3 _ _ (s5 _ _ b1))
      | c0 :: c1 :: r0, _, hcs, hr2 =>
        simp only [evs, Option.bind_eq_some_iff, Option.map_eq_some_iff] at hcs
        obtain ⟨k, _, ks, ⟨k', _, ks', _, rfl⟩, rfl⟩ := hcs
        cases hr2
    · obtain ⟨a1, _, _, _, a5, _, acc, ds, rest1, b1, b2, b3, b4⟩ := p
      rw [List.drop_length] at b3
      simp only [compL, Option.some.injEq] at b3
      subst b3
      exact ⟨a1, a5, acc, ds, rest', b1, b2, hrest', by rw [b4, List.nil_append]⟩
  · obtain ⟨sp, Rp, acc, ds, rest, hDp, ra, hrest, hrs2⟩ := p
    rw [List.drop_length] at hrest
    simp only [comp2L, Option.some.injEq] at hrest
    subst hrest
    rw [List.append_nil] at hrs2
    subst hrs2
    exact q _ H' (s1.trans sp) (.inl ⟨_, D, acc, rfl, rfl, s1.free hD, hDp, ra.weak fun b h => ⟨⟨h.1, fun z => h.2 (.inl z)⟩, fun z => h.2 (.inr z)⟩⟩)
theorem l_comp2 {tg tg1 : Tg} {own : List (Str × Nat)} {it it1 : E} {cond : List E} {elt : E} {elt' tg' iter tg1' iter1 : Expr} {ifs : List Expr} {scope : Scope} {pos : Pos} (c : CxF I Γ fb sc X) (hb : blkC I.N sc scope own = true) (hi : PI X tg' iter (tI X.K Γ it))
    (hs : ∀ x, foldedSetIterable iter X.env x = pure x) (htg : mT I (fbOf scope) (relS scope sc) tg tg' = true) (hsl : ∀ i ∈ tgSlots tg, i ∈ own.map (·.2)) (hsi : simpleIt it1 = true)
    (hi1 : ∀ (s : Shared) (H : Hp) (C : Addr) (cl : List (Str × Addr)) (fp : List Addr), PI (X.blk s H scope (compEnvC scope cl C X.env) fp) tg1' iter1 (tI X.K Γ it1))
    (hs1 : ∀ env x, foldedSetIterable iter1 env x = pure x) (htg1 : mT I (fbOf scope) (relS scope sc) tg1 tg1' = true) (hsl1 : ∀ i ∈ tgSlots tg1, i ∈ own.map (·.2))
    (ht : ∀ (s : Shared) (H : Hp) (C : Addr) (cl : List (Str × Addr)) (fp : List Addr), PTs (X.blk s H scope (compEnvC scope cl C X.env) fp) ifs (tTs X.K Γ cond))
    (he : ∀ (s : Shared) (H : Hp) (C : Addr) (cl : List (Str × Addr)) (fp : List Addr), PE (X.blk s H scope (compEnvC scope cl C X.env) fp) elt' (tE X.K Γ elt)) :
    PE X (.ListComp elt' [⟨tg', iter, [], 0⟩, ⟨tg1', iter1, ifs, 0⟩] scope pos) (tE X.K Γ (.comp2 tg tg1 own it it1 cond elt)) := by
  have bo : BlkOk X.N X.env.scope scope own := by rw [c.N, c.sc]; exact blkOk_by hb
  exact (pe_lc2 (pos := pos) (own := own) (g := gT X.K tg) (g1 := gT X.K tg1) c.calm (by rw [c.N]; exact c.nd) hi bo hsl1 (fun s H C cl fp => l_tg (c.blk scope s H C cl fp) htg) (fun _ _ _ _ _ => pts_nil) hi1 (fun s H C cl fp => l_tg (c.blk scope s H C cl fp) htg1) ht he hs hs1).engImp (comp2_imp hsl hsl1 hsi)
/-- name = [..] on one line -/
theorem ps_comp2 {tg tg1 : Tg} {own : List (Str × Nat)} {it it1 : E} {cond : List E} {elt : E} {elt' tg' iter tg1' iter1 : Expr} {ifs : List Expr} {scope : Scope} {pos py spos : Pos} {i : Nat} {y : Str} (c : CxF I Γ fb sc X) (hy : I.N[i]? = some y) (hyl : sc.names.lookup y = some .local)
    (hsw : swapsWith (.ListComp elt' [⟨tg', iter, [], 0⟩, ⟨tg1', iter1, ifs, 0⟩] scope pos) (some (.Name y py)) spos.line X.env = pure true) (hb : blkC I.N sc scope own = true) (hi : PI X tg' iter (tI X.K Γ it))
    (hs : ∀ x, foldedSetIterable iter X.env x = pure x) (htg : mT I (fbOf scope) (relS scope sc) tg tg' = true) (hsl : ∀ i ∈ tgSlots tg, i ∈ own.map (·.2)) (hsi : simpleIt it1 = true)
    (hi1 : ∀ (s : Shared) (H : Hp) (C : Addr) (cl : List (Str × Addr)) (fp : List Addr), PI (X.blk s H scope (compEnvC scope cl C X.env) fp) tg1' iter1 (tI X.K Γ it1))
    (hs1 : ∀ env x, foldedSetIterable iter1 env x = pure x) (htg1 : mT I (fbOf scope) (relS scope sc) tg1 tg1' = true) (hsl1 : ∀ i ∈ tgSlots tg1, i ∈ own.map (·.2))
    (ht : ∀ (s : Shared) (H : Hp) (C : Addr) (cl : List (Str × Addr)) (fp : List Addr), PTs (X.blk s H scope (compEnvC scope cl C X.env) fp) ifs (tTs X.K Γ cond))
    (he : ∀ (s : Shared) (H : Hp) (C : Addr) (cl : List (Str × Addr)) (fp : List Addr), PE (X.blk s H scope (compEnvC scope cl C X.env) fp) elt' (tE X.K Γ elt)) :
    PS X (.Assign [.Name y py] (.ListComp elt' [⟨tg', iter, [], 0⟩, ⟨tg1', iter1, ifs, 0⟩] scope pos) spos) (tAsg (tE X.K Γ (.comp2 tg tg1 own it it1 cond elt)) (gName i)) := by
  have bo : BlkOk X.N X.env.scope scope own := by rw [c.N, c.sc]; exact blkOk_by hb
  have h := ps_setLc2 (i := i) (own := own) (g := gT X.K tg) (g1 := gT X.K tg1) (vs1 := tgSlots tg1) (tt := tYes) c.calm (by rw [c.N]; exact c.nd) (by rw [c.N]; exact hy) (by rw [c.sc]; exact hyl) hsw hi bo hsl1 (fun s H C cl fp => l_tg (c.blk scope s H C cl fp) htg) (fun _ _ _ _ _ => pts_nil) hi1 (fun s H C cl fp => l_tg (c.blk scope s H C cl fp) htg1) ht he hs hs1
  exact ⟨fun pins s σ H D I q => h.run pins s σ H D I (comp2_imp hsl hsl1 hsi σ H _ q)⟩
end
end Eng
end
section
set_option Elab.async false
set_option linter.all false
set_option maxRecDepth 100000
set_option maxHeartbeats 2000000
/-! EngF: every expression that mE matches does what E means. -/
namespace Eng
open PySem PySem.Spec PyProof.Rows L2
section
variable {I : Info} {Γ : Fs}
def plainE : Expr → Bool
  | .Starred _ _ => false
  | .Set _ _ _ => false
  | .Slice _ _ _ _ => false
  | _ => true
theorem mE_plain {md : Option Expr} {sc : Scope} {m : E} {e : Expr} (h : mE I md sc m e = true) : plainE e = true := by
  cases e with
  | Starred v p => cases m <;> simp [mE, nmB, cstB] at h
  | Set a b c => cases m <;> simp [mE, nmB, cstB] at h
  | Slice a b c d => cases m <;> simp [mE, nmB, cstB] at h
  | _ => rfl
theorem star_of {e : Expr} (h : plainE e = true) (r : List Expr) (env : Env) : starEach (e :: r) env = (false, eval e env) :: starEach r env := by
  cases e <;> first | rfl | cases h
theorem fold_of {e : Expr} (h : plainE e = true) (env : Env) (x : Value) : foldedSetIterable e env x = pure x := by
  cases e <;> first | rfl | cases h
theorem pix_of {e : Expr} (h : plainE e = true) : PlainIx e := by
  intro o i
  cases e <;> first | rfl | cases h
theorem set_of {e : Expr} (h : plainE e = true) : notSet e = true := by
  cases e <;> first | rfl | cases h
theorem mEs_len {sc : Scope} : ∀ {ms : List E} {es : List Expr}, mEs I sc ms es = true → es.length = ms.length
  | [], [], _ => rfl
  | [], _ :: _, h => by simp [mEs] at h
  | _ :: _, [], h => by simp [mEs] at h
  | m :: ms, e :: es, h => by
    simp only [mEs, Bool.and_eq_true] at h
    simp [mEs_len h.2]
theorem mEs_star {sc : Scope} (env : Env) : ∀ {ms : List E} {es : List Expr}, mEs I sc ms es = true → (starEach es env).any (·.1) = false ∧ ∀ a r, es = a :: r → starEach (a :: r) env = (false, eval a env) :: starEach r env
  | [], [], _ => ⟨rfl, fun a r h => nomatch h⟩
  | [], _ :: _, h => by simp [mEs] at h
  | _ :: _, [], h => by simp [mEs] at h
  | m :: ms, e :: es, h => by
    simp only [mEs, Bool.and_eq_true] at h
    have s := star_of (mE_plain h.1) es env
    refine ⟨?_, fun a r h => by cases h; exact s⟩
    rw [s]
    simp only [List.any_cons, Bool.false_or]
    exact (mEs_star env h.2).1
theorem back_any {p : Pos} {l : List (Bool × Sem Value)} (h : l.any (·.1) = false) : (backTo p l).any (·.1) = false := by
  unfold backTo
  rw [List.any_map]
  exact h
def isBO : Expr → Bool
  | .BoolOp _ _ _ => true
  | _ => false
/-- an expression told: as a value, as a test -/
structure S0 (X : Cx) (Γ : Fs) (m : E) (e : Expr) : Prop where
  pe : PE X e (tE X.K Γ m)
  pt : PT X e (tTr X.K Γ m)
  pw : isBO e = true → PW X e (tTr X.K Γ m)
theorem S0.mk' {X : Cx} {m : E} {e : Expr} (pe : PE X e (tE X.K Γ m)) (hb : isBO e = false) (he : ∀ whole, isTrue e X.env whole = (do let v ← whole; standAt e.pos; holding [v] (truthy v))) : S0 X Γ m e :=
  ⟨pe, lt_truth pe he, fun h => by rw [hb] at h; cases h⟩
theorem seqI {X : Cx} {m : E} {e tg : Expr} (h : PE X e (tE X.K Γ m)) (hm : match m with | .bi _ _ => False | _ => True) : PI X tg e (tI X.K Γ m) := by
  refine l_seq h fun τ => ?_
  cases m <;> first | rfl | cases hm
theorem mE_md {md md' : Option Expr} {sc : Scope} {m : E} {e : Expr} (h : mE I md sc m e = true) (hm : match m with | .bi _ _ => False | _ => True) : mE I md' sc m e = true := by
  cases m <;> first | (cases hm; done) | (unfold mE at h ⊢; exact h)
local macro_rules | `(tactic| decreasing_tactic) => `(tactic| (simp_wf; first | (apply Prod.Lex.left; simp; omega) | (apply Prod.Lex.right; omega)))
mutual
theorem snd0 : ∀ (m : E) {fb : Str → Bool} {sc : Scope} {X : Cx} {e : Expr}, CxF I Γ fb sc X → mE I none sc m e = true → S0 X Γ m e
  | .var i, fb, sc, X, e, c, h => by
    unfold mE at h
    have h' := h
    unfold nmB at h'
    split at h'
    · exact .mk' (l_var c h) rfl fun _ => rfl
    · cases h'
  | .cst d, fb, sc, X, e, c, h => by
    unfold mE at h
    have h' := h
    unfold cstB at h'
    split at h' <;> first | exact .mk' (l_cst h) rfl (fun _ => rfl) | cases h'
  | .glo x d, fb, sc, X, e, c, h => by
    unfold mE at h
    split at h
    · simp only [Bool.and_eq_true, decide_eq_true_eq] at h
      obtain ⟨⟨⟨rfl, h2⟩, h3⟩, h4⟩ := h
      split at h4
      · exact .mk' (l_glo c h2 h3 (by simpa using h4)) rfl fun _ => rfl
      · cases h4
    · cases h
  | .bin o a b, fb, sc, X, e, c, h => by
    unfold mE at h
    split at h
    · simp only [Bool.and_eq_true, decide_eq_true_eq] at h
      obtain ⟨⟨rfl, h2⟩, h3⟩ := h
      exact .mk' (l_bin (snd0 a c h2).pe (snd0 b c h3).pe) rfl fun _ => rfl
    · cases h
  | .neg a, fb, sc, X, e, c, h => by
    unfold mE at h
    split at h
    · exact .mk' (l_neg (snd0 a c h).pe) rfl fun _ => rfl
    · cases h
  | .not a, fb, sc, X, e, c, h => by
    unfold mE at h
    split at h
    · exact ⟨l_not (snd0 a c h).pe, lt_not (snd0 a c h).pt, fun z => nomatch z⟩
    · cases h
  | .and a b, fb, sc, X, e, c, h => by
    unfold mE at h
    split at h
    · rename_i x y r p
      simp only [Bool.and_eq_true] at h
      obtain ⟨h1, h2⟩ := h
      have ha := snd0 a c h1
      have hb := snd0 b c h2
      cases r with
      | nil =>
        have w := lw_and (pos := p) ha.pt (pw_and1 hb.pt)
        exact ⟨l_and ha.pe (pe_one hb.pe), w.pt, fun _ => w⟩
      | cons z r =>
        have w := lw_and (pos := p) ha.pt (hb.pw rfl)
        exact ⟨l_and ha.pe hb.pe, w.pt, fun _ => w⟩
    · cases h
  | .or a b, fb, sc, X, e, c, h => by
    unfold mE at h
    split at h
    · rename_i x y r p
      simp only [Bool.and_eq_true] at h
      obtain ⟨h1, h2⟩ := h
      have ha := snd0 a c h1
      have hb := snd0 b c h2
      cases r with
      | nil =>
        have w := lw_or (pos := p) ha.pt (pw_or1 hb.pt)
        exact ⟨l_or ha.pe (pe_one hb.pe), w.pt, fun _ => w⟩
      | cons z r =>
        have w := lw_or (pos := p) ha.pt (hb.pw rfl)
        exact ⟨l_or ha.pe hb.pe, w.pt, fun _ => w⟩
    · cases h
  | .cmp o a b, fb, sc, X, e, c, h => by
    unfold mE at h
    split at h
    · simp only [Bool.and_eq_true, decide_eq_true_eq] at h
      obtain ⟨⟨⟨rfl, h1⟩, h2⟩, h3⟩ := h
      exact ⟨l_cmp c h1 (snd0 a c h2).pe (snd0 b c h3).pe, lt_cmp c h1 (snd0 a c h2).pe (snd0 b c h3).pe, fun z => nomatch z⟩
    · cases h
  | .chain o p a b d, fb, sc, X, e, c, h => by
    unfold mE at h
    split at h
    · simp only [Bool.and_eq_true, decide_eq_true_eq] at h
      obtain ⟨⟨⟨⟨⟨rfl, rfl⟩, h1⟩, h2⟩, h3⟩, h4⟩ := h
      exact ⟨l_chain c h1 (snd0 a c h2).pe (snd0 b c h3).pe (snd0 d c h4).pe, lt_chain c h1 (snd0 a c h2).pe (snd0 b c h3).pe (snd0 d c h4).pe, fun z => nomatch z⟩
    · cases h
  | .ite k a b, fb, sc, X, e, c, h => by
    unfold mE at h
    split at h
    · simp only [Bool.and_eq_true] at h
      obtain ⟨⟨h1, h2⟩, h3⟩ := h
      exact ⟨l_ite (snd0 k c h1).pt (snd0 a c h2).pe (snd0 b c h3).pe, lt_ite (snd0 k c h1).pt (snd0 a c h2).pt (snd0 b c h3).pt, fun z => nomatch z⟩
    · cases h
  | .tup es, fb, sc, X, e, c, h => by
    unfold mE at h
    split at h
    · exact .mk' (l_tup (sndS es c h) fun τ => grA_R τ es) rfl fun _ => rfl
    · cases h
  | .lst es, fb, sc, X, e, c, h => by
    unfold mE at h
    split at h
    · exact .mk' (l_lst (sndS es c h) fun τ => grA_R τ es) rfl fun _ => rfl
    · cases h
  | .idx a i, fb, sc, X, e, c, h => by
    unfold mE at h
    split at h
    · simp only [Bool.and_eq_true] at h
      exact .mk' (l_idx (snd0 a c h.1).pe (snd0 i c h.2).pe (pix_of (mE_plain h.2))) rfl fun _ => rfl
    · cases h
  | .sl a lo hi, fb, sc, X, e, c, h => by
    unfold mE at h
    split at h
    · rename_i a' lo' hi' p2 pos
      simp only [Bool.and_eq_true] at h
      obtain ⟨⟨h1, h2⟩, h3⟩ := h
      have ho : ∀ (os : List E) (o' : Option Expr), mEs I sc os o'.toList = true → (∀ k ∈ os, ∀ e, mE I none sc k e = true → S0 X Γ k e) → PO X o' (tO X.K Γ os) := fun os o' hq hk => by
        cases o' with
        | none =>
          cases os with
          | nil => exact po_none
          | cons o os => simp [mEs] at hq
        | some o' =>
          cases os with
          | nil => simp [mEs] at hq
          | cons o os =>
            cases os with
            | cons _ _ => simp [mEs] at hq
            | nil =>
              simp only [Option.toList, mEs, Bool.and_eq_true] at hq
              exact po_some (hk o (by simp) _ hq.1).pe
      exact .mk' (l_sl (snd0 a c h1).pe (ho lo lo' h2 fun k hk e he => snd0 k c he) (ho hi hi' h3 fun k hk e he => snd0 k c he)) rfl fun _ => rfl
    · cases h
  | .rev a, fb, sc, X, e, c, h => by
    unfold mE at h
    split at h
    · exact .mk' (l_rev (snd0 a c h).pe) rfl fun _ => rfl
    · cases h
  | .call f bor es, fb, sc, X, e, c, h => by
    unfold mE at h
    split at h
    · simp only [Bool.and_eq_true, decide_eq_true_eq] at h
      obtain ⟨⟨⟨h1, h2⟩, h3⟩, h4⟩ := h
      refine .mk' (l_call c h1 h2 h3 (mEs_len h4) (sndS es c h4) fun a r e => ?_) rfl fun _ => rfl
      have hs := mEs_star X.env h4
      refine ⟨hs.2 a r e, back_any ?_⟩
      have := hs.1
      rw [e, hs.2 a r e, List.any_cons, Bool.false_or] at this
      exact this
    · cases h
  | .bi b es, fb, sc, X, e, c, h => by
    unfold mE at h
    split at h
    · rename_i x p es' pos
      simp only [Bool.and_eq_true, decide_eq_true_eq] at h
      obtain ⟨⟨⟨rfl, h2⟩, h3⟩, h4⟩ := h
      refine .mk' ?_ rfl fun _ => rfl
      cases hT : isTy b with
      | some T =>
        rw [hT] at h4
        simp only at h4
        split at h4
        · rename_i a y py
          simp only [Bool.and_eq_true, decide_eq_true_eq] at h4
          obtain ⟨⟨rfl, h5⟩, h6⟩ := h4
          cases es with
          | nil => simp [mEs] at h6
          | cons k es =>
            cases es with
            | cons _ _ => simp [mEs] at h6
            | nil =>
              simp only [mEs, Bool.and_eq_true] at h6
              have hn : biNm b = "isinstance" := by cases b <;> first | rfl | cases hT
              rw [hn] at h2 ⊢
              exact l_isi c hT h2 h5 (snd0 k c h6.1).pe (star_of (mE_plain h6.1) _ _)
        · cases h4
      | none =>
        rw [hT] at h4
        simp only [Bool.or_false, Bool.and_eq_true] at h4
        obtain ⟨⟨h5, h6⟩, h7⟩ := h4
        cases es' with
        | nil =>
          have := mEs_len h7
          cases es with
          | nil => cases h3
          | cons _ _ => cases this
        | cons a as =>
          have hs := mEs_star X.env h7
          refine l_bi c h2 h5 (fun z => ?_) (sndS es c h7) (hs.2 a as rfl) (back_any ?_)
          · rw [z] at h6; simpa using h6
          · have := hs.1
            rw [hs.2 a as rfl, List.any_cons, Bool.false_or] at this
            exact this
    · cases h
  | .comp tg own it cond elt, fb, sc, X, e, c, h => by
    unfold mE at h
    split at h
    · rename_i elt' tg' iter ifs a scope pos
      simp only [Bool.and_eq_true, decide_eq_true_eq] at h
      obtain ⟨⟨⟨⟨⟨⟨⟨rfl, h1⟩, h2⟩, h3⟩, h4⟩, h5⟩, h6⟩, h7⟩ := h
      have hall : ∀ i ∈ tgSlots tg, i ∈ own.map (·.2) := fun i hi => by
        have := List.all_eq_true.mp h4 i hi
        simpa using this
      have hk : ∀ k ∈ cond, ∀ {fb : Str → Bool} {sc : Scope} {X : Cx} {e : Expr}, CxF I Γ fb sc X → mE I none sc k e = true → S0 X Γ k e := fun k hk {fb sc X e} c h => snd0 k c h
      refine .mk' (l_comp c h1 (sndI it tg' c h2) (fun x => fold_of (mE_plain h2) _ x) h3 hall (fun s H C cl fp => ?_) fun s H C cl fp => (snd0 elt (c.blk scope s H C cl fp) h7).pe) rfl fun _ => rfl
      match cond, ifs, h5, h6, hk with
      | [], [], _, _, hk => exact pts_nil
      | [k], [k'], _, h6, hk =>
        simp only [mEs, Bool.and_eq_true] at h6
        exact pts_one (hk k (by simp) (c.blk scope s H C cl fp) h6.1).pt
      | [], _ :: _, _, h6, hk => simp [mEs] at h6
      | [_], [], _, h6, hk => simp [mEs] at h6
      | [_], _ :: _ :: _, _, h6, hk => simp [mEs] at h6
      | _ :: _ :: _, _, h5, _, hk => exact absurd (Nat.le_of_ble_eq_true h5) (by simp)
    · cases h
  | .comp2 tg tg1 own it it1 cond elt, fb, sc, X, e, c, h => by
    unfold mE at h
    split at h
    · rename_i elt' tg' iter a tg1' iter1 ifs a1 scope pos
      simp only [Bool.and_eq_true, decide_eq_true_eq] at h
      obtain ⟨⟨⟨⟨⟨⟨⟨⟨⟨⟨⟨⟨rfl, rfl⟩, h1⟩, h2⟩, h3⟩, h4⟩, g1⟩, g2⟩, g3⟩, g4⟩, h5⟩, h6⟩, h7⟩ := h
      have hall : ∀ i ∈ tgSlots tg, i ∈ own.map (·.2) := fun i hi => by
        have := List.all_eq_true.mp h4 i hi
        simpa using this
      have hall1 : ∀ i ∈ tgSlots tg1, i ∈ own.map (·.2) := fun i hi => by
        have := List.all_eq_true.mp g4 i hi
        simpa using this
      have hk : ∀ k ∈ cond, ∀ {fb : Str → Bool} {sc : Scope} {X : Cx} {e : Expr}, CxF I Γ fb sc X → mE I none sc k e = true → S0 X Γ k e := fun k hk {fb sc X e} c h => snd0 k c h
      refine .mk' (l_comp2 c h1 (sndI it tg' c h2) (fun x => fold_of (mE_plain h2) _ x) h3 hall g1 (fun s H C cl fp => sndI it1 tg1' (c.blk scope s H C cl fp) g2) (fun env x => fold_of (mE_plain g2) env x) g3 hall1 (fun s H C cl fp => ?_) fun s H C cl fp => (snd0 elt (c.blk scope s H C cl fp) h7).pe) rfl fun _ => rfl
      match cond, ifs, h5, h6, hk with
      | [], [], _, _, hk => exact pts_nil
      | [k], [k'], _, h6, hk =>
        simp only [mEs, Bool.and_eq_true] at h6
        exact pts_one (hk k (by simp) (c.blk scope s H C cl fp) h6.1).pt
      | [], _ :: _, _, h6, hk => simp [mEs] at h6
      | [_], [], _, h6, hk => simp [mEs] at h6
      | [_], _ :: _ :: _, _, h6, hk => simp [mEs] at h6
      | _ :: _ :: _, _, h5, _, hk => exact absurd (Nat.le_of_ble_eq_true h5) (by simp)
    · cases h
termination_by m => (sizeOf m, 0)
theorem sndS : ∀ (ms : List E) {fb : Str → Bool} {sc : Scope} {X : Cx} {es : List Expr}, CxF I Γ fb sc X → mEs I sc ms es = true → PA X es (tEs X.K Γ ms)
  | [], fb, sc, X, es, c, h => by
    cases es with
    | nil => exact l_nil
    | cons _ _ => simp [mEs] at h
  | m :: ms, fb, sc, X, es, c, h => by
    cases es with
    | nil => simp [mEs] at h
    | cons e es =>
      simp only [mEs, Bool.and_eq_true] at h
      exact l_cons (snd0 m c h.1).pe (sndS ms c h.2) (star_of (mE_plain h.1) _ _)
termination_by ms => (sizeOf ms, 0)
theorem sndI : ∀ (m : E) (tg : Expr) {fb : Str → Bool} {sc : Scope} {X : Cx} {e : Expr}, CxF I Γ fb sc X → mE I (some tg) sc m e = true → PI X tg e (tI X.K Γ m)
  | .bi b es, tg, fb, sc, X, e, c, h => by
    have plain : mE I none sc (.bi b es) e = true → (∀ τ, itA τ (.bi b es) = isA (gr τ (.bi b es))) → PI X tg e (tI X.K Γ (.bi b es)) := fun h' hi => l_seq (snd0 (.bi b es) c h').pe hi
    have ihS : ∀ {es' : List Expr}, mEs I sc es es' = true → PA X es' (tEs X.K Γ es) := fun h => sndS es c h
    have ih0 : ∀ k ∈ es, ∀ {e : Expr}, mE I none sc k e = true → S0 X Γ k e := fun k hk e h => snd0 k c h
    unfold mE at h
    split at h
    · rename_i x p es' pos
      simp only [Bool.and_eq_true, decide_eq_true_eq] at h
      obtain ⟨⟨⟨rfl, h2⟩, h3⟩, h4⟩ := h
      cases hT : isTy b with
      | some T =>
        refine plain ?_ fun τ => by cases b <;> first | rfl | cases hT
        unfold mE
        simp only [Bool.and_eq_true, decide_eq_true_eq]
        refine ⟨⟨⟨trivial, h2⟩, h3⟩, ?_⟩
        rw [hT] at h4 ⊢
        exact h4
      | none =>
        cases hpb : plainBi b with
        | true =>
          refine plain ?_ fun τ => by cases b <;> first | rfl | cases hpb
          rw [hT] at h4
          simp only [hpb, Bool.true_and, Bool.and_eq_true, Bool.or_eq_true] at h4
          unfold mE
          simp only [Bool.and_eq_true, decide_eq_true_eq]
          refine ⟨⟨⟨trivial, h2⟩, h3⟩, ?_⟩
          rw [hT]
          simp only [hpb, Bool.true_and, Bool.or_false, Bool.and_eq_true]
          refine ⟨?_, h4.2⟩
          rcases h4.1 with h5 | h5
          · simpa using h5
          · cases b <;> first | cases h5 | (cases hpb; done) | rfl
        | false =>
          rw [hT] at h4
          simp only [hpb, Bool.false_and, Bool.false_or, Bool.and_eq_true] at h4
          obtain ⟨h5, h6⟩ := h4
          cases b with
          | range =>
            simp only at h5
            match es, es', h3, h5, h6 with
            | [], _, h3, _, _ => cases h3
            | [k], [k'], _, _, h6 =>
              have hs := mEs_star X.env h6
              exact l_range1 c h2 (ihS h6) (hs.2 _ _ rfl)
            | [k, l], [k', l'], _, _, h6 =>
              have hs := mEs_star X.env h6
              have ha := ihS h6
              have h8 := mEs_len h6
              simp only [mEs, Bool.and_eq_true] at h6
              have hq := star_of (mE_plain h6.2.1) [] X.env
              exact l_range2 c h2 ha (by rw [hs.2 _ _ rfl, hq]; rfl) hq
            | [k, l, j], [k', l', j'], _, _, h6 =>
              have hs := mEs_star X.env h6
              refine l_range3 c h2 (ihS h6) (hs.2 _ _ rfl) (back_any ?_)
              have := hs.1
              rw [hs.2 _ _ rfl, List.any_cons, Bool.false_or] at this
              exact this
            | _ :: _ :: _ :: _ :: _, _, _, h5, _ => exact absurd (Nat.le_of_ble_eq_true h5) (by simp)
            | [_], [], _, _, h6 => simp [mEs] at h6
            | [_], _ :: _ :: _, _, _, h6 => simp [mEs] at h6
            | [_, _], [], _, _, h6 => simp [mEs] at h6
            | [_, _], [_], _, _, h6 => simp [mEs] at h6
            | [_, _], _ :: _ :: _ :: _, _, _, h6 => simp [mEs] at h6
            | [_, _, _], [], _, _, h6 => simp [mEs] at h6
            | [_, _, _], [_], _, _, h6 => simp [mEs] at h6
            | [_, _, _], [_, _], _, _, h6 => simp [mEs] at h6
            | [_, _, _], _ :: _ :: _ :: _ :: _, _, _, h6 => simp [mEs] at h6
          | enumerate =>
            simp only [Bool.and_eq_true, decide_eq_true_eq] at h5
            match es, es', h5.1, h6 with
            | [k], [k'], _, h6 =>
              have hs := mEs_star X.env h6
              have ht := h5.2
              cases tg <;> first | (cases ht; done) | exact l_enum c h2 (ihS h6) (hs.2 _ _ rfl)
            | [_], [], _, h6 => simp [mEs] at h6
            | [_], _ :: _ :: _, _, h6 => simp [mEs] at h6
          | zip =>
            simp only [Bool.and_eq_true, decide_eq_true_eq] at h5
            match es, es', h5.1, h6 with
            | [k, l], [k', l'], _, h6 =>
              have hs := mEs_star X.env h6
              have ht := h5.2
              have hb : (backTo pos (starEach [l'] X.env)).any (·.1) = false := by
                refine back_any ?_
                have := hs.1
                rw [hs.2 _ _ rfl, List.any_cons, Bool.false_or] at this
                exact this
              cases tg <;> first | (cases ht; done) | exact l_zip c h2 (ihS h6) (hs.2 _ _ rfl) hb
            | [_, _], [], _, h6 => simp [mEs] at h6
            | [_, _], [_], _, h6 => simp [mEs] at h6
            | [_, _], _ :: _ :: _ :: _, _, h6 => simp [mEs] at h6
          | reversed =>
            simp only [decide_eq_true_eq] at h5
            match es, es', h5, h6 with
            | [k], [k'], _, h6 =>
              simp only [mEs, Bool.and_eq_true] at h6
              exact l_reversed c h2 (ih0 k (by simp) h6.1).pe (star_of (mE_plain h6.1) _ _)
            | [_], [], _, h6 => simp [mEs] at h6
            | [_], _ :: _ :: _, _, h6 => simp [mEs] at h6
          | _ => cases h5
    · cases h
  | .var i, tg, fb, sc, X, e, c, h => seqI (snd0 (.var i) c (mE_md h trivial)).pe trivial
  | .cst i, tg, fb, sc, X, e, c, h => seqI (snd0 (.cst i) c (mE_md h trivial)).pe trivial
  | .glo i d, tg, fb, sc, X, e, c, h => seqI (snd0 (.glo i d) c (mE_md h trivial)).pe trivial
  | .bin o a b, tg, fb, sc, X, e, c, h => seqI (snd0 (.bin o a b) c (mE_md h trivial)).pe trivial
  | .neg i, tg, fb, sc, X, e, c, h => seqI (snd0 (.neg i) c (mE_md h trivial)).pe trivial
  | .not i, tg, fb, sc, X, e, c, h => seqI (snd0 (.not i) c (mE_md h trivial)).pe trivial
  | .and i j, tg, fb, sc, X, e, c, h => seqI (snd0 (.and i j) c (mE_md h trivial)).pe trivial
  | .or i j, tg, fb, sc, X, e, c, h => seqI (snd0 (.or i j) c (mE_md h trivial)).pe trivial
  | .cmp o i j, tg, fb, sc, X, e, c, h => seqI (snd0 (.cmp o i j) c (mE_md h trivial)).pe trivial
  | .chain o p i j k, tg, fb, sc, X, e, c, h => seqI (snd0 (.chain o p i j k) c (mE_md h trivial)).pe trivial
  | .ite i j k, tg, fb, sc, X, e, c, h => seqI (snd0 (.ite i j k) c (mE_md h trivial)).pe trivial
  | .tup es, tg, fb, sc, X, e, c, h => seqI (snd0 (.tup es) c (mE_md h trivial)).pe trivial
  | .lst es, tg, fb, sc, X, e, c, h => seqI (snd0 (.lst es) c (mE_md h trivial)).pe trivial
  | .idx i j, tg, fb, sc, X, e, c, h => seqI (snd0 (.idx i j) c (mE_md h trivial)).pe trivial
  | .sl i j k, tg, fb, sc, X, e, c, h => seqI (snd0 (.sl i j k) c (mE_md h trivial)).pe trivial
  | .rev i, tg, fb, sc, X, e, c, h => seqI (snd0 (.rev i) c (mE_md h trivial)).pe trivial
  | .call f bor es, tg, fb, sc, X, e, c, h => seqI (snd0 (.call f bor es) c (mE_md h trivial)).pe trivial
  | .comp a b d f g, tg, fb, sc, X, e, c, h => seqI (snd0 (.comp a b d f g) c (mE_md h trivial)).pe trivial
  | .comp2 a b d f g i j, tg, fb, sc, X, e, c, h => seqI (snd0 (.comp2 a b d f g i j) c (mE_md h trivial)).pe trivial
termination_by m => (sizeOf m, 1)
end
end
end Eng
end
section
set_option Elab.async false
set_option linter.all false
set_option maxRecDepth 100000
set_option maxHeartbeats 2000000
/-! EngG: the situation changed by a statement; the look at statements. -/
namespace Eng
open PySem PySem.Spec PyProof.Rows L2
section
variable {K : PySem.W.Frag} {H0 H H' : Hp} {ok F F' : Addr → Prop} {τ τ' : List Bool} {σV : L2.St} {σD : Sg}
/-- what is not one's own stays, and stays so -/
def Evo (F : Addr → Prop) (H : Hp) (F' : Addr → Prop) (H' : Hp) : Prop := ∀ b o, H b = some o → ¬ F b → H' b = some o ∧ ¬ F' b
theorem Evo.refl (F : Addr → Prop) (H : Hp) : Evo F H F H := fun _ _ e f => ⟨e, f⟩
theorem Evo.same (s : Same H H') (f : ∀ b, F' b → F b) : Evo F H F' H' := fun b o e n => ⟨s b o e, fun z => n (f b z)⟩
theorem Evo.trans {F'' : Addr → Prop} {H'' : Hp} (e : Evo F H F' H') (e' : Evo F' H' F'' H'') : Evo F H F'' H'' := fun b o h n => let ⟨h1, n1⟩ := e b o h n; e' b o h1 n1
theorem Evo.sqT (e : Evo F H F' H') (R : SR K H0 ok τ F H σV σD) {b : Addr} {vs : List V} (h : SqT K H b vs) : SqT K H' b vs := by
  refine h.elim (fun h => .inl ?_) .inr
  have nf : ∀ o, H b = some o → (∀ xs, o ≠ .lst xs) → ¬ F b := fun o ho hn f => by
    obtain ⟨_, xs, h⟩ := R.own b f
    rw [ho] at h
    exact hn xs (Option.some.inj h)
  rcases h with h | ⟨o, h⟩
  · exact .inl (e _ _ h (nf _ h fun xs z => nomatch z)).1
  · exact .inr ⟨o, (e _ _ h (nf _ h fun xs z => nomatch z)).1⟩
theorem Evo.sqF (e : Evo F H F' H') (R : SR K H0 ok τ F H σV σD) {b : Addr} {vs : List V} (h : SqF K H b vs) : SqF K H' b vs := by
  refine h.elim (fun ⟨o, h⟩ => .inl ⟨o, (e _ _ h fun f => ?_).1⟩) .inr
  obtain ⟨_, xs, h'⟩ := R.own b f
  rw [h] at h'
  cases h'
theorem Evo.rep (e : Evo F H F' H') (R : SR K H0 ok τ F H σV σD) {d : D} {v : V} (h : Rep K H (okF ok F) d v) : Rep K H' (okF ok F') d v :=
  Rep.mono (fun _ _ => e.sqT R) (fun _ _ => e.sqF R) (fun a vs o h => let ⟨h1, n⟩ := e a _ h o.2; ⟨⟨o.1, n⟩, h1⟩) d v h
theorem Evo.reps (e : Evo F H F' H') (R : SR K H0 ok τ F H σV σD) {ds : List D} {vs : List V} (h : Reps K H (okF ok F) ds vs) : Reps K H' (okF ok F') ds vs :=
  Reps.mono (fun _ _ => e.sqT R) (fun _ _ => e.sqF R) (fun a vs o h => let ⟨h1, n⟩ := e a _ h o.2; ⟨⟨o.1, n⟩, h1⟩) ds vs h
def leB (t τ : List Bool) : Bool := (List.range t.length).all fun i => !t.getD i false || τ.getD i false
theorem leB_of {t τ : List Bool} (h : leB t τ = true) (i : Nat) (e : t.getD i false = true) : τ.getD i false = true := by
  have hi : i < t.length := by
    rcases Nat.lt_or_ge i t.length with q | q
    · exact q
    · rw [List.getD_eq_getElem?_getD, List.getElem?_eq_none q] at e; cases e
  have := List.all_eq_true.mp h i (List.mem_range.mpr hi)
  rw [e] at this
  simpa using this
/-- lists of one's own are given up -/
theorem SR.weaken (R : SR K H0 ok τ F H σV σD) (h : ∀ i, τ'.getD i false = true → τ.getD i false = true) : ∃ F', SR K H0 ok τ' F' H σV σD ∧ (∀ b, F' b → F b) := by
  let F' : Addr → Prop := fun a => F a ∧ ∃ i, τ'.getD i false = true ∧ σV[i]? = some (some (V.ref a)) ∧ ∃ ds, σD[i]? = some (some (.list ds))
  have w : ∀ b, okF ok F b → okF ok F' b := fun b h => ⟨h.1, fun z => h.2 z.1⟩
  refine ⟨F', ⟨R.same, R.okn, fun a f => R.own a f.1, R.len, fun i d hd => ?_, fun i j a f => R.uniq i j a f.1⟩, fun b z => z.1⟩
  obtain ⟨v, h1, h2⟩ := R.val i d hd
  refine ⟨v, h1, ?_⟩
  rcases h2 with ⟨e, a, vs, ds, rfl, rfl, f, h', r⟩ | ⟨h', n⟩
  · cases ht : τ'.getD i false with
    | true => exact .inl ⟨rfl, a, vs, ds, rfl, rfl, ⟨f, i, ht, h1, ds, hd⟩, h', r.weak w⟩
    | false =>
      refine .inr ⟨.lst h' ⟨R.okn a (R.own a f).1, fun z => ?_⟩ (r.weak w), fun z => nomatch z⟩
      obtain ⟨_, j, hj, hj1, es, hj2⟩ := z
      have := R.uniq i j a f h1 hj1 ⟨ds, hd⟩ ⟨es, hj2⟩
      rw [this, hj] at ht
      cases ht
  · refine .inr ⟨h'.weak w, fun z => n (h i z)⟩
/-- a slot takes a new value -/
theorem SR.setN {i : Nat} {d : D} {v : V} (R : SR K H0 ok τ F H σV σD) (s : Same H H') (hi : i < τ.length) (r : RN K (okF ok F) H H' d v) : ∃ F', SR K H0 ok (τ.set i true) F' H' (σV.set i (some v)) (σD.set i (some d)) ∧ Evo F H F' H' := by
  have ht : (τ.set i true).getD i false = true := by rw [List.getD_eq_getElem?_getD, List.getElem?_set_self hi]; rfl
  have R' := R.grow s
  rcases r with ⟨ds, p, vs, rfl, rfl, n, h, r⟩ | ⟨nl, r⟩
  · let F' : Addr → Prop := fun b => F b ∨ b = p
    have w : ∀ b, (okF ok F) b ∧ b ≠ p → okF ok F' b := fun b h => ⟨h.1.1, fun z => z.elim h.1.2 h.2⟩
    have no : ∀ k : Nat, σV[k]? = some (some (V.ref p)) → (∃ ds, σD[k]? = some (some (.list ds))) → False := fun k hk ⟨ds, hd⟩ => by
      obtain ⟨v, h1, h2⟩ := R.val k _ hd
      rw [hk] at h1
      cases h1
      rcases h2 with ⟨_, a, vs, es, _, e2, _, h, _⟩ | h
      · cases e2
        rw [n] at h; cases h
      · obtain ⟨a, vs, e, h, _⟩ := h.1.list
        cases e
        rw [n] at h; cases h
    refine ⟨F', ⟨R'.same, R.okn, fun a f => ?_, by rw [List.length_set, List.length_set, R.len], fun j e hj => ?_, fun j k a f h1 h2 h3 h4 => ?_⟩, fun b o e nf => ⟨s b o e, fun z => z.elim nf fun z => by rw [z, n] at e; cases e⟩⟩
    · rcases f with f | rfl
      · exact R'.own a f
      · exact ⟨R.same.free n, vs, h⟩
    · by_cases hij : i = j
      · subst hij
        by_cases hi : i < σD.length
        · rw [List.getElem?_set_self hi] at hj
          cases hj
          exact ⟨_, List.getElem?_set_self (R.len ▸ hi), .inl ⟨ht, p, vs, ds, rfl, rfl, .inr rfl, h, r.weak w⟩⟩
        · rw [List.getElem?_eq_none (by simpa using hi)] at hj; cases hj
      · rw [List.getElem?_set_ne hij] at hj
        obtain ⟨u, h1, h2⟩ := R.val j e hj
        refine ⟨u, by rw [List.getElem?_set_ne hij]; exact h1, ?_⟩
        rw [getD_set_ne hij]
        rcases h2 with ⟨e, a, us, es, e1, e2, f, h, r⟩ | h
        · exact .inl ⟨e, a, us, es, e1, e2, .inl f, s _ _ h, ((r.old n).weak w).same s⟩
        · exact .inr ⟨((h.1.old n).weak w).same s, h.2⟩
    · have key : ∀ k : Nat, (σV.set i (some (V.ref p)))[k]? = some (some (V.ref a)) → (∃ es, (σD.set i (some (PyData.list ds)))[k]? = some (some (.list es))) → (k = i ∧ a = p) ∨ (k ≠ i ∧ a ≠ p ∧ σV[k]? = some (some (V.ref a)) ∧ ∃ es, σD[k]? = some (some (.list es))) := fun k hk hd => by
        by_cases e : i = k
        · subst e
          obtain ⟨es, hd⟩ := hd
          by_cases hi : i < σD.length
          · rw [List.getElem?_set_self (R.len ▸ hi)] at hk
            cases hk
            exact .inl ⟨rfl, rfl⟩
          · rw [List.getElem?_eq_none (by simpa using hi)] at hd; cases hd
        · rw [List.getElem?_set_ne e] at hk
          rw [List.getElem?_set_ne e] at hd
          exact .inr ⟨fun z => e z.symm, fun z => no k (z ▸ hk) hd, hk, hd⟩
      rcases key j h1 h3 with ⟨e1, e2⟩ | ⟨e1, e2, e3, e4⟩
      · rcases key k h2 h4 with ⟨e1', e2'⟩ | ⟨e1', e2', _, _⟩
        · rw [e1, e1']
        · exact absurd e2 e2'
      · rcases key k h2 h4 with ⟨e1', e2'⟩ | ⟨e1', e2', e3', e4'⟩
        · exact absurd e2' e2
        · exact R.uniq j k a (f.resolve_right e2) e3 e3' e4 e4'
  · refine ⟨F, ⟨R'.same, R.okn, R'.own, by rw [List.length_set, List.length_set, R.len], fun j e hj => ?_, fun j k a f h1 h2 h3 h4 => ?_⟩, Evo.same s fun _ z => z⟩
    · by_cases hij : i = j
      · subst hij
        by_cases hi : i < σD.length
        · rw [List.getElem?_set_self hi] at hj
          cases hj
          exact ⟨_, List.getElem?_set_self (R.len ▸ hi), .inr ⟨r, fun _ => nl⟩⟩
        · rw [List.getElem?_eq_none (by simpa using hi)] at hj; cases hj
      · rw [List.getElem?_set_ne hij] at hj
        obtain ⟨u, h1, h2⟩ := R'.val j e hj
        exact ⟨u, by rw [List.getElem?_set_ne hij]; exact h1, by rw [getD_set_ne hij]; exact h2⟩
    · have key : ∀ k : Nat, (σV.set i (some v))[k]? = some (some (V.ref a)) → (∃ es, (σD.set i (some d))[k]? = some (some (.list es))) → σV[k]? = some (some (V.ref a)) ∧ ∃ es, σD[k]? = some (some (.list es)) := fun k hk hd => by
        by_cases e : i = k
        · subst e
          obtain ⟨es, hd⟩ := hd
          by_cases hi : i < σD.length
          · rw [List.getElem?_set_self hi] at hd
            cases hd
            exact absurd rfl (nl es)
          · rw [List.getElem?_eq_none (by simpa using hi)] at hd; cases hd
        · rw [List.getElem?_set_ne e] at hk
          rw [List.getElem?_set_ne e] at hd
          exact ⟨hk, hd⟩
      obtain ⟨q1, q2⟩ := key j h1 h3
      obtain ⟨q3, q4⟩ := key k h2 h4
      exact R.uniq j k a f q1 q3 q2 q4
/-- the list of one's own at slot i -/
theorem SR.slot {i : Nat} {ds : List D} (R : SR K H0 ok τ F H σV σD) (t : τ.getD i false = true) (hd : σD[i]? = some (some (.list ds))) : ∃ a vs, σV[i]? = some (some (.ref a)) ∧ F a ∧ H a = some (.lst vs) ∧ Reps K H (okF ok F) ds vs := by
  obtain ⟨v, h1, h2⟩ := R.val i _ hd
  rcases h2 with ⟨_, a, vs, es, e1, rfl, f, h, r⟩ | ⟨_, n⟩
  · cases e1
    exact ⟨a, vs, h1, f, h, r⟩
  · exact absurd rfl (n t ds)
/-- a list of one's own is written -/
theorem SR.wr {i : Nat} {a : Addr} {ds es : List D} {us vs : List V} (R : SR K H0 ok τ F H σV σD) (t : τ.getD i false = true) (hd : σD[i]? = some (some (.list ds))) (hv : σV[i]? = some (some (.ref a))) (f : F a) (h : H a = some (.lst us)) (r : Reps K H (okF ok F) es vs) :
    SR K H0 ok τ F (upd H a (.lst vs)) σV (σD.set i (some (.list es))) ∧ Evo F H F (upd H a (.lst vs)) := by
  have w : ∀ b, (okF ok F) b → b ≠ a := fun b h e => h.2 (e ▸ f)
  have hi : i < σD.length := by
    rcases Nat.lt_or_ge i σD.length with q | q
    · exact q
    · rw [List.getElem?_eq_none q] at hd; cases hd
  refine ⟨⟨fun b o e => ?_, R.okn, fun b fb => ?_, by rw [List.length_set, R.len], fun j d hj => ?_, fun j k b fb h1 h2 h3 h4 => ?_⟩, fun b o e nf => ⟨?_, nf⟩⟩
  · have : b ≠ a := fun z => by rw [z, (R.own a f).1] at e; cases e
    rw [upd_ne this]; exact R.same b o e
  · by_cases e : b = a
    · subst e; exact ⟨(R.own b fb).1, vs, upd_same⟩
    · obtain ⟨h1, vs', h2⟩ := R.own b fb
      exact ⟨h1, vs', by rw [upd_ne e]; exact h2⟩
  · by_cases hij : i = j
    · subst hij
      rw [List.getElem?_set_self hi] at hj
      cases hj
      exact ⟨_, hv, .inl ⟨t, a, vs, es, rfl, rfl, f, upd_same, r.upd h w⟩⟩
    · rw [List.getElem?_set_ne hij] at hj
      obtain ⟨v, h1, h2⟩ := R.val j d hj
      refine ⟨v, h1, ?_⟩
      rcases h2 with ⟨e, b, xs, ys, rfl, rfl, fb, h', r'⟩ | ⟨h', n⟩
      · have : b ≠ a := fun z => hij (R.uniq i j a f hv (z ▸ h1) ⟨ds, hd⟩ ⟨ys, hj⟩)
        exact .inl ⟨e, b, xs, ys, rfl, rfl, fb, by rw [upd_ne this]; exact h', r'.upd h w⟩
      · exact .inr ⟨h'.upd h w, n⟩
  · have key : ∀ k : Nat, (∃ zs, (σD.set i (some (PyData.list es)))[k]? = some (some (.list zs))) → ∃ zs, σD[k]? = some (some (.list zs)) := fun k ⟨zs, hz⟩ => by
      by_cases e : i = k
      · subst e; exact ⟨ds, hd⟩
      · rw [List.getElem?_set_ne e] at hz
        exact ⟨zs, hz⟩
    exact R.uniq j k b fb h1 h2 (key j h3) (key k h4)
  · have : b ≠ a := fun z => nf (z ▸ f)
    rw [upd_ne this]; exact e
end
/-! ### the look at statements -/
def fresh? : Option Gr → Bool
  | some .N => true
  | _ => false
def gset (τ : List Bool) : List (Nat × Option Gr) → List Bool
  | [] => τ
  | (i, g) :: r => gset (τ.set i (fresh? g)) r
def ownB (τ : List Bool) (x : Nat) : Bool := τ.getD x false
def isVarOwn (τ : List Bool) : E → Bool
  | .var i => τ.getD i false
  | _ => false
def andL (τ τ' : List Bool) : List Bool := List.zipWith and τ τ'
mutual
def noMut : S → Bool
  | .setIx _ _ _ => false
  | .augIx _ _ _ _ => false
  | .swapIx _ _ _ _ _ _ => false
  | .app _ _ => false
  | .ext _ _ => false
  | .ite _ a b => noMuts a && noMuts b
  | .loop _ _ _ b => noMuts b
  | .wh _ _ b => noMuts b
  | _ => true
def noMuts : List S → Bool
  | [] => true
  | s :: ss => noMut s && noMuts ss
end
mutual
/-- τl: what must hold at break and continue -/
def ck (τl : Option (List Bool)) : S → List Bool → Option (List Bool)
  | .asg (.one i) e, τ => match gr τ e with
    | some .N => if Nat.blt i τ.length then some (τ.set i true) else none
    | some .A => some (τ.set i false)
    | _ => none
  | .asg (.many ts) e, τ => if isA (gr τ e) then some (offs τ (tgSlotss ts)) else none
  | .par is es, τ => if grA τ es && is.all (fun i => Nat.blt i τ.length) && decide (is.length = es.length) && decide is.Nodup then some (gset τ (is.zip (es.map (gr τ)))) else none
  | .setIx x i e, τ => if ownB τ x && isR (gr τ i) && isA (gr τ e) then some τ else none
  | .augIx x i o e, τ => if ownB τ x && isR (gr τ i) && isR (gr τ e) && decide (o ≠ .pow) then some τ else none
  | .swapIx x y i j e f, τ => if ownB τ x && ownB τ y && isR (gr τ i) && isR (gr τ j) && isA (gr τ e) && isA (gr τ f) then some τ else none
  | .aug x o e, τ => if isR (gr τ e) && decide (o ≠ .pow) then some (τ.set x false) else none
  | .app x e, τ => if ownB τ x && isA (gr τ e) then some τ else none
  | .ext x e, τ => if ownB τ x && isR (gr τ e) then some τ else none
  | .ret fr e, τ => if (if fr then fresh? (gr τ e) || isVarOwn τ e else isA (gr τ e)) then some τ else none
  | .ite c a b, τ => if isR (gr τ c) then (cks τl a τ).bind fun t => (cks τl b τ).map fun u => andL t u else none
  | .loop w tg it body, τ => if isR (gr (offs τ (w ++ tgSlots tg)) it) && (itA (offs τ (w ++ tgSlots tg)) it || noMuts body) then
      (cks (some (offs τ (w ++ tgSlots tg))) body (offs τ (w ++ tgSlots tg))).bind fun t => if leB (offs τ (w ++ tgSlots tg)) t then some (offs τ (w ++ tgSlots tg)) else none
    else none
  | .wh w c body, τ => if isR (gr (offs τ w) c) then (cks (some (offs τ w)) body (offs τ w)).bind fun t => if leB (offs τ w) t then some (offs τ w) else none else none
  | .brk, τ => τl.bind fun t => if leB t τ then some τ else none
  | .cont, τ => τl.bind fun t => if leB t τ then some τ else none
  | .pass, τ => some τ
  | .fre x, τ => some (τ.set x false)
def cks (τl : Option (List Bool)) : List S → List Bool → Option (List Bool)
  | [], τ => some τ
  | s :: ss, τ => (ck τl s τ).bind (cks τl ss)
end
theorem andL_le (τ τ' : List Bool) (i : Nat) (h : (andL τ τ').getD i false = true) : τ.getD i false = true ∧ τ'.getD i false = true := by
  unfold andL at h
  simp only [List.getD_eq_getElem?_getD, List.getElem?_zipWith] at h ⊢
  cases h1 : τ[i]? with
  | none => rw [h1] at h; simp at h
  | some a =>
    cases h2 : τ'[i]? with
    | none => rw [h1, h2] at h; simp at h
    | some b => rw [h1, h2] at h; simpa using h
theorem offs_le {τ : List Bool} {vs : List Nat} (i : Nat) (h : (offs τ vs).getD i false = true) : τ.getD i false = true := by
  by_cases e : i ∈ vs
  · rw [offs_in e] at h; cases h
  · rw [offs_out e] at h; exact h
theorem set_le {τ : List Bool} {x : Nat} (i : Nat) (h : (τ.set x false).getD i false = true) : τ.getD i false = true := by
  by_cases e : x = i
  · subst e; rw [getD_set_false] at h; cases h
  · rw [getD_set_ne e] at h; exact h
end Eng
end
section
set_option Elab.async false
set_option linter.all false
set_option maxRecDepth 100000
set_option maxHeartbeats 2000000
/-! EngH: statements: what each reads; which PySem.Stmt it stands for; the small ones. -/
namespace Eng
open PySem PySem.Spec PyProof.Rows L2
def swNone (sc : Scope) : Expr → Expr → Bool
  | .Tuple ts _ _, .Tuple vs _ _ => vs.all (foldedForSure 8) || ts.any (fun t => match t with
      | .Name x _ => !(sc.names.lookup x == some .local)
      | _ => true) || (!(ts.length == 2) && !(ts.length == 3))
  | .List _ _, _ => false
  | _, _ => true
theorem filterMap_lt {α β : Type} {f : α → Option β} : ∀ {l : List α} {z : α}, z ∈ l → f z = none → (l.filterMap f).length < l.length
  | a :: l, z, hz, hf => by
    rcases List.mem_cons.mp hz with rfl | hz
    · rw [List.filterMap_cons_none hf]
      exact Nat.lt_succ_of_le (List.length_filterMap_le f l)
    · have := filterMap_lt hz hf
      cases h : f a with
      | none => rw [List.filterMap_cons_none h]; exact Nat.lt_succ_of_lt this
      | some b => rw [List.filterMap_cons_some h]; exact Nat.succ_lt_succ this
theorem sw_none {env : Env} {sc : Scope} {t v : Expr} (hs : env.scope = sc) (h : swNone sc t v = true) : swappedStores [t] v env = pure none := by
  cases t with
  | Tuple ts k p =>
    cases v with
    | Tuple vs k2 p2 =>
      unfold swNone at h
      rw [Bool.or_eq_true, Bool.or_eq_true] at h
      unfold swappedStores
      dsimp only
      split
      · rfl
      · rename_i c1
        split
        · rfl
        · split
          · rfl
          · rename_i c3
            rcases h with (h | h) | h
            · simp only [h, if_true]
            · exfalso
              apply c3
              rw [Bool.or_eq_true]
              left
              rw [bne_iff_ne]
              intro e
              obtain ⟨z, hz, hb⟩ := List.any_eq_true.mp h
              have hne : (fun t : Expr => match t with | .Name id pos => if env.kindOf id == some .local && pos.line == (ts.head?.map (·.pos.line)).getD 0 then some id else none | _ => none) z = none := by
                cases z with
                | Name x p =>
                  have : (env.kindOf x == some .local) = false := by
                    unfold Env.kindOf
                    rw [hs]
                    simpa using hb
                  simp [this]
                | _ => rfl
              exact absurd e (Nat.ne_of_lt (filterMap_lt hz hne))
            · exfalso
              apply c1
              rw [Bool.or_eq_true, Bool.or_eq_true]
              left; left
              simpa using h
    | _ => rfl
  | List ts p => cases h
  | _ => cases v <;> rfl
theorem sw_some {env : Env} {sc : Scope} {x y : Str} {px py pt pt2 : Pos} {vs : List Expr} {kt k2 : Nat} (hs : env.scope = sc) (hk : sc.kind = .function) (hx : sc.names.lookup x = some .local) (hy : sc.names.lookup y = some .local) (hxy : x ≠ y) (hl : (py.line == px.line) = true)
    (hv : vs.length = 2) (hst : (vs.any fun | .Starred .. => true | _ => false) = false) (hf : vs.all (foldedForSure 8) = false) (hc : vs.all (constantsAlone 8) = false) :
    swappedStores [.Tuple [.Name x px, .Name y py] kt pt] (.Tuple vs k2 pt2) env = pure (some [x, y]) := by
  have kx : env.kindOf x = some .local := by unfold Env.kindOf; rw [hs]; exact hx
  have ky : env.kindOf y = some .local := by unfold Env.kindOf; rw [hs]; exact hy
  have hb : env.blockKind = .function := by unfold Env.blockKind; rw [hs, hk]; rfl
  unfold swappedStores
  have hl' : py.line = px.line := by simpa using hl
  have hyx : (y == x) = false := by simpa using fun e => hxy e.symm
  simp [hb, kx, ky, hst, hf, hc, hl', hv, hyx, Expr.pos, List.eraseDups, List.eraseDupsBy, List.eraseDupsBy.loop]
  intro z hz hh
  have := List.any_eq_false.mp hst z hz
  exact absurd hh this
theorem sw_some3 {env : Env} {sc : Scope} {x y z : Str} {px py pz pt pt2 : Pos} {vs : List Expr} {kt k2 : Nat} (hs : env.scope = sc) (hk : sc.kind = .function) (hx : sc.names.lookup x = some .local) (hy : sc.names.lookup y = some .local) (hz : sc.names.lookup z = some .local) (hxy : x ≠ y) (hxz : x ≠ z) (hyz : y ≠ z) (hl : (py.line == px.line) = true) (hl2 : (pz.line == px.line) = true)
    (hv : vs.length = 3) (hst : (vs.any fun | .Starred .. => true | _ => false) = false) (hf : vs.all (foldedForSure 8) = false) (hc : vs.all (constantsAlone 8) = false) :
    swappedStores [.Tuple [.Name x px, .Name y py, .Name z pz] kt pt] (.Tuple vs k2 pt2) env = pure (some [x, y, z]) := by
  have kx : env.kindOf x = some .local := by unfold Env.kindOf; rw [hs]; exact hx
  have ky : env.kindOf y = some .local := by unfold Env.kindOf; rw [hs]; exact hy
  have kz : env.kindOf z = some .local := by unfold Env.kindOf; rw [hs]; exact hz
  have hb : env.blockKind = .function := by unfold Env.blockKind; rw [hs, hk]; rfl
  unfold swappedStores
  have hl' : py.line = px.line := by simpa using hl
  have hl2' : pz.line = px.line := by simpa using hl2
  have hyx : (y == x) = false := by simpa using fun e => hxy e.symm
  have hzx : (z == x) = false := by simpa using fun e => hxz e.symm
  have hzy : (z == y) = false := by simpa using fun e => hyz e.symm
  simp [hb, kx, ky, kz, hst, hf, hc, hl', hl2', hv, hyx, hzx, hzy, Expr.pos, List.eraseDups, List.eraseDupsBy, List.eraseDupsBy.loop]
  intro w hw hh
  have := List.any_eq_false.mp hst w hw
  exact absurd hh this

theorem swW_none {v : Expr} {t : Option Expr} {l : Nat} {env : Env} (h : match v with | .ListComp _ _ _ _ => False | .SetComp _ _ _ _ => False | .DictComp _ _ _ _ _ => False | _ => True) : swapsWith v t l env = pure false := by
  cases v <;> first | rfl | cases h
/-- how one statement ends -/
def Ends1 (K : PySem.W.Frag) (H0 : Hp) (ok : Addr → Prop) (τl : Option (List Bool)) (τ' : List Bool) (nm : Bool) (F : Addr → Prop) (H : Hp) (D : Ends) : Fl → Prop
  | .nx σD' => ∀ F' σV' H', SR K H0 ok τ' F' H' σV' σD' → Evo F H F' H' → (nm = true → Same H H') → D.nx σV' H'
  | .rt d => ∀ v H', Same H0 H' → RN K ok H0 H' d v → D.rt v H'
  | .bk σD' => ∀ t F' σV' H', τl = some t → SR K H0 ok t F' H' σV' σD' → Evo F H F' H' → (nm = true → Same H H') → D.bk σV' H'
  | .ct σD' => ∀ t F' σV' H', τl = some t → SR K H0 ok t F' H' σV' σD' → Evo F H F' H' → (nm = true → Same H H') → D.ct σV' H'
/-- what a statement reads -/
def tS (K : PySem.W.Frag) (Γ : Fs) (W : Nat) (τl : Option (List Bool)) (τ τ' : List Bool) (s : S) : TS := fun D σV H => ∃ H0 ok F σD r, SR K H0 ok τ F H σV σD ∧ ex Γ W s σD = some r ∧ Ends1 K H0 ok τl τ' (noMut s) F H D r
def tSs (K : PySem.W.Frag) (Γ : Fs) (W : Nat) (τl : Option (List Bool)) (τ τ' : List Bool) (ss : List S) : TS := fun D σV H => ∃ H0 ok F σD r, SR K H0 ok τ F H σV σD ∧ exs Γ W ss σD = some r ∧ Ends1 K H0 ok τl τ' (noMuts ss) F H D r
theorem _root_.L2.PS.engImp {X : Cx} {e : Stmt} {t t' : TS} (h : PS X e t) (i : ∀ D σ H, t' D σ H → t D σ H) : PS X e t' := ⟨fun pins s σ H D I q => h.run pins s σ H D I (i D σ H q)⟩
theorem _root_.L2.PSs.engImp {X : Cx} {e : List Stmt} {t t' : TS} (h : PSs X e t) (i : ∀ D σ H, t' D σ H → t D σ H) : PSs X e t' := ⟨fun pins s σ H D I q => h.run pins s σ H D I (i D σ H q)⟩
section
variable {I : Info} {Γ : Fs} {fb : Str → Bool} {sc : Scope} {X : Cx} {W : Nat} {τl : Option (List Bool)} {τ τ' : List Bool}
def nmX (x : Nat) (I : Info) (sc : Scope) (e : Expr) : Bool := nmB I sc x e
theorem p_var {i : Nat} {e : Expr} (c : CxF I Γ fb sc X) (h : nmB I sc i e = true) : PE X e (tVar i) := by
  unfold nmB at h
  split at h
  · rename_i x pos
    rw [Bool.and_eq_true, Bool.and_eq_true] at h
    obtain ⟨⟨h1, h2⟩, h3⟩ := h
    exact pe_var (i := i) (by rw [c.N]; exact of_decide_eq_true h1) (by rw [c.sc]; exact vis_of h2) (okNm_of h3).1 (okNm_of h3).2
  · cases h
/-- o[i] of a list -/
def rGetL : V → V → Hp → VK → Prop := fun o i H Q => ∃ p xs k v, o = .ref p ∧ i = .int k ∧ H p = some (.lst xs) ∧ atI xs k = some v ∧ Q v H
theorem get_listL : PGet X rGetL := by
  intro pins s σ H o i ov iv Q I ro ri h
  obtain ⟨p, xs, k, z, rfl, rfl, hp, he, q⟩ := h
  cases ro
  obtain ⟨t, rfl⟩ := ri
  obtain ⟨its, r, pl, hz⟩ := I.list (show SqL X.K H p xs from .inl (.inl hp))
  obtain ⟨j, h1, h2, h3, h4, h5⟩ := atI_get he
  obtain ⟨w, ew, rw'⟩ := r.get h2
  have hl := r.length
  have hn := line63
  have fin : EP X pins σ Q w s := ⟨z, H, I, rw', q⟩
  by_cases h0 : 0 ≤ k
  · have hj : k.toNat = j := by
      rw [seqIndex_of h0 h5] at h1
      exact Option.some.inj h1
    exact wpAny_getItem_list pl.isList h0 (by omega) (by rw [hj]; simpa using ew) fin
  · have hj : (k + (its.toArray.size : Int)).toNat = j := by
      rw [seqIndex_neg (by omega) h4] at h1
      rw [List.size_toArray, ← hl]
      exact Option.some.inj h1
    exact wpAny_getItem_list_neg pl.isList (by omega) (by rw [List.size_toArray] <;> omega) (by omega) (by rw [hj]; simpa using ew) fin
theorem iop_int (o : Bop) : PIp X (opOf o) (fun x y H Q => ∃ i j z, x = .int i ∧ y = .int j ∧ binI o i j = some z ∧ (o ≠ .pow) ∧ Q (.int z) H) := iop_binI o
end
end Eng
end
section
set_option Elab.async false
set_option linter.all false
set_option maxRecDepth 100000
set_option maxHeartbeats 2000000
/-! EngH2: the small statements. -/
namespace Eng
open PySem PySem.Spec PyProof.Rows L2
section
variable {I : Info} {Γ : Fs} {fb : Str → Bool} {sc : Scope} {X : Cx} {W : Nat} {τl : Option (List Bool)} {τ τ' : List Bool}
theorem Ends1.nx {K : PySem.W.Frag} {H0 : Hp} {ok : Addr → Prop} {nm : Bool} {F : Addr → Prop} {H : Hp} {D : Ends} {σD' : Sg} (e : Ends1 K H0 ok τl τ' nm F H D (.nx σD')) {F' : Addr → Prop} {σV' : L2.St} {H' : Hp} (R : SR K H0 ok τ' F' H' σV' σD') (v : Evo F H F' H') (s : nm = true → Same H H') : D.nx σV' H' := e F' σV' H' R v s
/-- an assignment's reading, by the value -/
theorem asg_read {tg : Tg} {e : E} (hk : ck τl (.asg tg e) τ = some τ') : ∀ D σ H, tS X.K Γ W τl τ τ' (.asg tg e) D σ H → tAsg (tE X.K Γ e) (gT X.K tg) D σ H := fun D σ H q => by
  obtain ⟨H0, ok, F, σD, r, R, hx, q⟩ := q
  simp only [ex, Option.bind_eq_some_iff, Option.map_eq_some_iff] at hx
  obtain ⟨d, hd, σD', hp, rfl⟩ := hx
  cases tg with
  | one i =>
    simp only [ck] at hk
    split at hk
    · rename_i hg
      split at hk
      · rename_i hi
        cases hk
        simp only [put, Option.some.injEq] at hp
        subst hp
        refine tE.mk R hg hd fun v H1 s1 rv => ?_
        obtain ⟨F', R', ev⟩ := R.setN s1 (Nat.le_of_ble_eq_true hi) rv
        exact q.nx R' ev fun _ => s1
      · cases hk
    · rename_i hg
      cases hk
      refine tE.mk R hg hd fun v H1 s1 rv => ?_
      obtain ⟨F', R', hf⟩ := (R.grow s1).weaken (τ' := τ.set i false) fun j hj => set_le j hj
      simp only [put, Option.some.injEq] at hp
      subst hp
      have rv : Rep X.K H1 (okF ok F) d v := rv
      exact q.nx (R'.setA (getD_set_false τ) (rv.weak fun b h => ⟨h.1, fun z => h.2 (hf b z)⟩)) (Evo.same s1 hf) fun _ => s1
    · cases hk
  | many ts =>
    simp only [ck] at hk
    split at hk
    · rename_i hA
      cases hk
      obtain ⟨g, hg⟩ := isR_some (isA_R hA)
      refine tE.mk R hg hd fun v H1 s1 rv => ?_
      obtain ⟨F', R', hf⟩ := (R.grow s1).weaken (τ' := offs τ (tgSlotss ts)) fun j hj => offs_le j hj
      have rr : Rep X.K H1 (okF ok F) d v := rv.rep R.okn' (hg ▸ hA)
      exact put_ok (t := .many ts) R' (fun j hj => offs_in (by simpa [tgSlots] using hj)) (rr.weak fun b h => ⟨h.1, fun z => h.2 (hf b z)⟩) hp fun σV' R'' _ => q.nx R'' (Evo.same s1 hf) fun _ => s1
    · cases hk
theorem s_asg {tg : Tg} {e : E} {t v : Expr} {pos : Pos} (c : CxF I Γ fb sc X) (hk : ck τl (.asg tg e) τ = some τ') (ht : mT I fb sc tg t = true) (he : PE X v (tE X.K Γ e)) (hw : swNone sc t v = true)
    (hs : swapsWithSole [t] v pos.line X.env = pure false) : PS X (.Assign [t] v pos) (tS X.K Γ W τl τ τ' (.asg tg e)) := by
  have h1 : (assignEach [t] X.env).map (·.2) = [assign t X.env] := by
    cases tg with
    | one i => cases t <;> first | rfl | (simp [mT] at ht)
    | many us => cases t <;> first | rfl | (simp [mT] at ht)
  exact (ps_asg he (l_tg c ht) hs (sw_none c.sc hw) h1).engImp (asg_read hk)
theorem s_setIx {x : Nat} {i e : E} {o k v : Expr} {p pos : Pos} (c : CxF I Γ fb sc X) (hk : ck τl (.setIx x i e) τ = some τ') (hx : nmB I sc x o = true) (hi : PE X k (tE X.K Γ i)) (hp : plainE k = true) (he : PE X v (tE X.K Γ e)) (hw : swNone sc (.Subscript o k p) v = true) :
    PS X (.Assign [.Subscript o k p] v pos) (tS X.K Γ W τl τ τ' (.setIx x i e)) := by
  have hs : swapsWithSole [.Subscript o k p] v pos.line X.env = pure false := by
    cases v <;> rfl
  have ha : ∀ v, assign (.Subscript o k p) X.env v = (do
      let ov ← holding [v] (eval o X.env)
      let iv ← holding [v, ov] (eval k X.env)
      standAt p
      holding [v, ov, iv] (setItem ov iv v)
      release [v, ov, iv] []) := by
    intro v
    cases k <;> first | rfl | cases hp
  refine (ps_asg he (pg_sub (p_var c hx) hi set_list ha) hs (sw_none c.sc hw) rfl).engImp fun D σ H q => ?_
  obtain ⟨H0, ok, F, σD, r, R, hx, q⟩ := q
  simp only [ex, Option.bind_eq_some_iff, Option.map_eq_some_iff] at hx
  obtain ⟨d, hd, l, hl, kd, hkd, k', hk', l', hl', rfl⟩ := hx
  simp only [ck] at hk
  split at hk
  · rename_i hc
    simp only [Bool.and_eq_true] at hc
    obtain ⟨⟨h1, h2⟩, h3⟩ := hc
    cases hk
    obtain ⟨ge, hge⟩ := isR_some (isA_R h3)
    obtain ⟨gi, hgi⟩ := isR_some h2
    cases kd <;> simp only [asInt, reduceCtorEq, Option.some.injEq] at hk'
    subst hk'
    rename_i kk
    cases l <;> simp only [lset, reduceCtorEq, Option.map_eq_some_iff] at hl'
    rename_i ds
    obtain ⟨j, hj, rfl⟩ := hl'
    unfold get at hl
    simp only [Option.bind_eq_some_iff, id] at hl
    obtain ⟨_, hl, rfl⟩ := hl
    refine tE.mk R hge hd fun v H1 s1 rv => ?_
    have rr : Rep X.K H1 (okF ok F) d v := rv.rep R.okn' (hge ▸ h3)
    have R1 := R.grow s1
    obtain ⟨a, vs, hv, f, ha, ra⟩ := R1.slot h1 hl
    refine ⟨.ref a, hv, tE.mk R1 hgi hkd fun w H2 s2 rw_ => ?_⟩
    obtain rfl := rw_.ro.int
    have R2 := R1.grow s2
    refine ⟨a, vs, kk, j, rfl, rfl, s2 _ _ ha, by rw [(ra.length)]; exact hj, ?_⟩
    obtain ⟨R3, e3⟩ := R2.wr h1 hl hv f (s2 _ _ ha) ((ra.same s2).set (rr.same s2) j)
    exact q.nx R3 ((Evo.same (s1.trans s2) fun _ z => z).trans e3) fun z => nomatch z
  · cases hk
theorem s_augIx {x : Nat} {i e : E} {o : Bop} {ox k v : Expr} {p pos : Pos} (c : CxF I Γ fb sc X) (hk : ck τl (.augIx x i o e) τ = some τ') (hx : nmB I sc x ox = true) (hi : PE X k (tE X.K Γ i)) (hp : plainE k = true) (he : PE X v (tE X.K Γ e)) :
    PS X (.AugAssign (.Subscript ox k p) (opOf o) v pos) (tS X.K Γ W τl τ τ' (.augIx x i o e)) := by
  have ha : ∀ ov iv new, augStore k ov iv new = (do holding [new, ov, iv] (setItem ov iv new); release [new, ov, iv] []; pure .next) := by
    intro ov iv new
    cases k <;> first | rfl | cases hp
  refine (ps_augS (p_var c hx) hi get_listL he (iop_int o) set_list ha).engImp fun D σ H q => ?_
  obtain ⟨H0, ok, F, σD, r, R, hx, q⟩ := q
  simp only [ex, Option.bind_eq_some_iff, Option.map_eq_some_iff] at hx
  obtain ⟨l, hl, kd, hkd, k', hk', u, hu, ui, hui, y, hy, yi, hyi, z, hz, l', hl', rfl⟩ := hx
  simp only [ck] at hk
  split at hk
  · rename_i hc
    simp only [Bool.and_eq_true, decide_eq_true_eq] at hc
    obtain ⟨⟨⟨h1, h2⟩, h3⟩, h4⟩ := hc
    cases hk
    obtain ⟨ge, hge⟩ := isR_some h3
    obtain ⟨gi, hgi⟩ := isR_some h2
    cases kd <;> simp only [asInt, reduceCtorEq, Option.some.injEq] at hk'
    subst hk'
    cases u <;> simp only [asInt, reduceCtorEq, Option.some.injEq] at hui
    subst hui
    cases y <;> simp only [asInt, reduceCtorEq, Option.some.injEq] at hyi
    subst hyi
    rename_i kk ui yi
    cases l <;> simp only [lset, reduceCtorEq, Option.map_eq_some_iff] at hl'
    rename_i ds
    obtain ⟨j, hj, rfl⟩ := hl'
    unfold get at hl
    simp only [Option.bind_eq_some_iff, id] at hl
    obtain ⟨_, hl, rfl⟩ := hl
    obtain ⟨a, vs, hv, f, ha, ra⟩ := R.slot h1 hl
    refine ⟨.ref a, hv, tE.mk R hgi hkd fun w H1 s1 rw_ => ?_⟩
    obtain rfl := rw_.ro.int
    obtain ⟨uv, huv, ru⟩ := at_rep ra hu
    have := ru.int'
    subst this
    refine ⟨a, vs, kk, .int ui, rfl, rfl, s1 _ _ ha, huv, ?_⟩
    refine tE.mk (R.grow s1) hge hy fun w H2 s2 rw_ => ?_
    obtain rfl := rw_.ro.int
    refine ⟨ui, yi, z, rfl, rfl, hz, h4, ?_⟩
    have R2 := (R.grow s1).grow s2
    have s12 := s1.trans s2
    refine ⟨a, vs, kk, j, rfl, rfl, s12 _ _ ha, by rw [(ra.length)]; exact hj, ?_⟩
    obtain ⟨R3, e3⟩ := R2.wr h1 hl hv f (s12 _ _ ha) ((ra.same s12).set (.int z) j)
    exact q.nx R3 ((Evo.same s12 fun _ z => z).trans e3) fun z => nomatch z
  · cases hk
theorem s_aug {x : Nat} {e : E} {o : Bop} {y : Str} {v : Expr} {p pos : Pos} (c : CxF I Γ fb sc X) (hk : ck τl (.aug x o e) τ = some τ') (hN : I.N[x]? = some y) (hy : locB fb sc y = true) (he : PE X v (tE X.K Γ e)) :
    PS X (.AugAssign (.Name y p) (opOf o) v pos) (tS X.K Γ W τl τ τ' (.aug x o e)) := by
  have hl := loc_of c hy
  refine (ps_aug (by rw [c.N]; exact c.nd) (by rw [c.N]; exact hN) hl.1 he (iop_int o) hl.2).engImp fun D σ H q => ?_
  obtain ⟨H0, ok, F, σD, r, R, hx, q⟩ := q
  simp only [ex, Option.bind_eq_some_iff, Option.map_eq_some_iff] at hx
  obtain ⟨u, hu, ui, hui, y, hy, yi, hyi, z, hz, rfl⟩ := hx
  simp only [ck] at hk
  split at hk
  · rename_i hc
    simp only [Bool.and_eq_true, decide_eq_true_eq] at hc
    obtain ⟨h1, h2⟩ := hc
    cases hk
    obtain ⟨ge, hge⟩ := isR_some h1
    cases u <;> simp only [asInt, reduceCtorEq, Option.some.injEq] at hui
    subst hui
    cases y <;> simp only [asInt, reduceCtorEq, Option.some.injEq] at hyi
    subst hyi
    rename_i ui yi
    unfold get at hu
    simp only [Option.bind_eq_some_iff, id] at hu
    obtain ⟨_, hu, rfl⟩ := hu
    obtain ⟨v, hv, rv⟩ := R.val x _ hu
    have e1 : v = .int ui := by
      rcases rv with ⟨_, a, vs, ds, e, _⟩ | ⟨rv, _⟩
      · cases e
      · exact rv.int'
    subst e1
    refine ⟨.int ui, hv, tE.mk R hge hy fun w H1 s1 rw_ => ?_⟩
    obtain rfl := rw_.ro.int
    refine ⟨ui, yi, z, rfl, rfl, hz, h2, ?_⟩
    obtain ⟨F', R', hf⟩ := (R.grow s1).weaken (τ' := τ.set x false) fun j hj => set_le j hj
    exact q.nx (R'.setA (getD_set_false τ) (.int z)) (Evo.same s1 hf) fun _ => s1
  · cases hk
end
end Eng
end
section
set_option Elab.async false
set_option linter.all false
set_option maxRecDepth 100000
set_option maxHeartbeats 2000000
/-! EngH3: append, extend, return, pairs. -/
namespace Eng
open PySem PySem.Spec PyProof.Rows L2
section
variable {K : PySem.W.Frag} {H0 H H' : Hp} {ok F F' : Addr → Prop} {τ τ' : List Bool} {σV : L2.St} {σD : Sg}
theorem RepS.has {own : Bool} {ds : List D} {a : Addr} (h : RepS K H ok F own (.list ds) (.ref a)) : ∃ vs, H a = some (.lst vs) := by
  rcases h with ⟨_, b, vs, es, _, e, _, h, _⟩ | ⟨h, _⟩
  · cases e; exact ⟨vs, h⟩
  · obtain ⟨b, vs, e, h, _⟩ := h.list
    cases e; exact ⟨vs, h⟩
theorem RepS.evo {own : Bool} {d : D} {v : V} (h : RepS K H ok F own d v) (R : SR K H0 ok τ F H σV σD) (s : Same H H') (e : Evo F H F' H') (f : ∀ b, F b → F' b) : RepS K H' ok F' own d v := by
  rcases h with ⟨o, b, vs, es, e1, e2, fb, h, r⟩ | ⟨h, n⟩
  · exact .inl ⟨o, b, vs, es, e1, e2, f b fb, s _ _ h, e.reps R r⟩
  · exact .inr ⟨e.rep R h, n⟩
def flg : Gr → Bool
  | .N => true
  | _ => false
/-- a value that waits to be stored -/
theorem SR.pend {g : Gr} {d : D} {v : V} (R : SR K H0 ok τ F H σV σD) (s : Same H H') (hA : isA (some g) = true) (r : GR g K (okF ok F) H H' d v) :
    ∃ F', SR K H0 ok τ F' H' σV σD ∧ Evo F H F' H' ∧ (∀ b, F b → F' b) ∧ RepS K H' ok F' (flg g) d v ∧ ∀ a, v = .ref a → (∃ ds, d = .list ds) → F' a → H a = none := by
  cases g with
  | O => cases hA
  | A =>
    have r : Rep K H' (okF ok F) d v := r
    refine ⟨F, R.grow s, Evo.same s fun _ z => z, fun _ z => z, .inr ⟨r, fun z => nomatch z⟩, fun a e ⟨ds, hd⟩ f => ?_⟩
    subst e hd
    exact absurd f (own_of r).2
  | N =>
    have r : RN K (okF ok F) H H' d v := r
    rcases r with ⟨ds, p, vs, rfl, rfl, n, h, r⟩ | ⟨nl, r⟩
    · let F' : Addr → Prop := fun b => F b ∨ b = p
      have w : ∀ b, (okF ok F) b ∧ b ≠ p → okF ok F' b := fun b h => ⟨h.1.1, fun z => z.elim h.1.2 h.2⟩
      refine ⟨F', ⟨R.same.trans s, R.okn, fun a f => ?_, R.len, fun i e hi => ?_, fun i j a f h1 h2 h3 h4 => ?_⟩, fun b o e nf => ⟨s b o e, fun z => z.elim nf fun z => by rw [z, n] at e; cases e⟩, fun b z => .inl z, .inl ⟨rfl, p, vs, ds, rfl, rfl, .inr rfl, h, r.weak w⟩, fun a e _ _ => by cases e; exact n⟩
      · rcases f with f | rfl
        · exact (R.grow s).own a f
        · exact ⟨R.same.free n, vs, h⟩
      · obtain ⟨u, h1, h2⟩ := R.val i e hi
        refine ⟨u, h1, ?_⟩
        rcases h2 with ⟨e, a, us, es, e1, e2, f, h, r⟩ | h
        · exact .inl ⟨e, a, us, es, e1, e2, .inl f, s _ _ h, ((r.old n).weak w).same s⟩
        · exact .inr ⟨((h.1.old n).weak w).same s, h.2⟩
      · have no : ∀ k : Nat, σV[k]? = some (some (V.ref p)) → (∃ ds, σD[k]? = some (some (.list ds))) → False := fun k hk ⟨ds, hd⟩ => by
          obtain ⟨v, h1, h2⟩ := R.val k _ hd
          rw [hk] at h1
          cases h1
          obtain ⟨us, h⟩ := h2.has
          rw [n] at h; cases h
        rcases f with f | rfl
        · exact R.uniq i j a f h1 h2 h3 h4
        · exact (no i h1 h3).elim
    · exact ⟨F, R.grow s, Evo.same s fun _ z => z, fun _ z => z, .inr ⟨r, fun _ => nl⟩, fun a _ ⟨ds, hd⟩ _ => absurd hd (nl ds)⟩
/-- it is stored -/
theorem SR.setP {own : Bool} {i : Nat} {d : D} {v : V} (R : SR K H0 ok τ F H σV σD) (r : RepS K H ok F own d v) (hi : i < τ.length) (no : ∀ a, v = .ref a → (∃ ds, d = .list ds) → F a → ∀ k : Nat, σV[k]? = some (some (V.ref a)) → (∃ ds, σD[k]? = some (some (.list ds))) → False) :
    SR K H0 ok (τ.set i own) F H (σV.set i (some v)) (σD.set i (some d)) := by
  have ht : (τ.set i own).getD i false = own := by rw [List.getD_eq_getElem?_getD, List.getElem?_set_self hi]; rfl
  refine ⟨R.same, R.okn, R.own, by rw [List.length_set, List.length_set, R.len], fun j e hj => ?_, fun j k a f h1 h2 h3 h4 => ?_⟩
  · by_cases hij : i = j
    · subst hij
      by_cases hi : i < σD.length
      · rw [List.getElem?_set_self hi] at hj
        cases hj
        exact ⟨_, List.getElem?_set_self (R.len ▸ hi), by rw [ht]; exact r⟩
      · rw [List.getElem?_eq_none (by simpa using hi)] at hj; cases hj
    · rw [List.getElem?_set_ne hij] at hj
      obtain ⟨u, h1, h2⟩ := R.val j e hj
      exact ⟨u, by rw [List.getElem?_set_ne hij]; exact h1, by rw [getD_set_ne hij]; exact h2⟩
  · have key : ∀ k : Nat, (σV.set i (some v))[k]? = some (some (V.ref a)) → (∃ es, (σD.set i (some d))[k]? = some (some (.list es))) → (k = i ∧ v = .ref a ∧ ∃ ds, d = .list ds) ∨ (k ≠ i ∧ σV[k]? = some (some (V.ref a)) ∧ ∃ es, σD[k]? = some (some (.list es))) := fun k hk hd => by
      by_cases e : i = k
      · subst e
        obtain ⟨es, hd⟩ := hd
        by_cases hi : i < σD.length
        · rw [List.getElem?_set_self (R.len ▸ hi)] at hk
          rw [List.getElem?_set_self hi] at hd
          cases hk; cases hd
          exact .inl ⟨rfl, rfl, es, rfl⟩
        · rw [List.getElem?_eq_none (by simpa using hi)] at hd; cases hd
      · rw [List.getElem?_set_ne e] at hk
        rw [List.getElem?_set_ne e] at hd
        exact .inr ⟨fun z => e z.symm, hk, hd⟩
    rcases key j h1 h3 with ⟨e1, e2, e3⟩ | ⟨e1, e2, e3⟩
    · rcases key k h2 h4 with ⟨e1', _⟩ | ⟨e1', e2', e3'⟩
      · rw [e1, e1']
      · exact (no a e2 e3 f k e2' e3').elim
    · rcases key k h2 h4 with ⟨e1', e2', e3'⟩ | ⟨e1', e2', e3'⟩
      · exact (no a e2' e3' f j e2 e3).elim
      · exact R.uniq j k a f e2 e2' e3 e3'
/-- none holds what is fresh -/
theorem SR.none_holds (R : SR K H0 ok τ F H σV σD) {a : Addr} (n : H a = none) (k : Nat) (hk : σV[k]? = some (some (V.ref a))) : (∃ ds, σD[k]? = some (some (.list ds))) → False := fun ⟨ds, hd⟩ => by
  obtain ⟨v, h1, h2⟩ := R.val k _ hd
  rw [hk] at h1
  cases h1
  obtain ⟨us, h⟩ := h2.has
  rw [n] at h; cases h
end
section
variable {I : Info} {Γ : Fs} {fb : Str → Bool} {sc : Scope} {X : Cx} {W : Nat} {τl : Option (List Bool)} {τ τ' : List Bool}
theorem s_app {x : Nat} {e : E} {o v : Expr} {ap cp pos : Pos} (c : CxF I Γ fb sc X) (hk : ck τl (.app x e) τ = some τ') (hx : nmB I sc x o = true) (hp : plainE v = true) (hl : (ap.endLine == cp.line) = true) (he : PE X v (tE X.K Γ e)) (hbase : attributeBase o "append" X.env (eval o X.env) = eval o X.env) :
    PS X (.Expr (.Call (.Attribute o "append" ap) [v] [] cp) pos) (tS X.K Γ W τl τ τ' (.app x e)) := by
  have hst := star_of hp [] X.env
  have hfew : ((backTo cp (starEach [v] X.env)).all (fun x => !x.1) && (backToKw cp (keywordEach [] X.env)).all (fun x => x.1.isSome) && decide ([v].length + ([] : List Keyword).length + (if ([] : List Keyword).isEmpty then 0 else 1) < 30)) = true := by
    rw [hst]; rfl
  refine (ps_expr (pe_bm (T := "list") PySem.F.plainAttrs_list PySem.F.slot_list_append PySem.F.type_list_append mt_append (p_var c hx) (pa_cons he pa_nil hst) hbase hfew hl hst rfl) rfl).engImp fun D σ H q => ?_
  obtain ⟨H0, ok, F, σD, r, R, hx, q⟩ := q
  simp only [ex, Option.bind_eq_some_iff, Option.map_eq_some_iff] at hx
  obtain ⟨l, hl, d, hd, l', hl', rfl⟩ := hx
  simp only [ck] at hk
  split at hk
  · rename_i hc
    simp only [Bool.and_eq_true] at hc
    obtain ⟨h1, h3⟩ := hc
    cases hk
    obtain ⟨ge, hge⟩ := isR_some (isA_R h3)
    unfold lapp at hl'
    split at hl'
    · rename_i ds
      split at hl'
      · rename_i hlen
        cases hl'
        unfold get at hl
        simp only [Option.bind_eq_some_iff, id] at hl
        obtain ⟨_, hl, rfl⟩ := hl
        obtain ⟨a, vs, hv, f, ha, ra⟩ := R.slot h1 hl
        refine ⟨.ref a, hv, .inl ⟨rfl, vs, .inl (.inl ha)⟩, tE.mk R hge hd fun v H1 s1 rv => ?_⟩
        have rr : Rep X.K H1 (okF ok F) d v := rv.rep R.okn' (hge ▸ h3)
        refine ⟨a, vs, v, rfl, rfl, s1 _ _ ha, by rw [ra.length]; exact lenLt_lt hlen, ?_⟩
        obtain ⟨R3, e3⟩ := (R.grow s1).wr h1 hl hv f (s1 _ _ ha) ((ra.same s1).append (.one rr))
        exact q.nx R3 ((Evo.same s1 fun _ z => z).trans e3) fun z => nomatch z
      · cases hl'
    · cases hl'
  · cases hk
theorem s_ext {x : Nat} {e : E} {o v : Expr} {ap cp pos : Pos} (c : CxF I Γ fb sc X) (hk : ck τl (.ext x e) τ = some τ') (hx : nmB I sc x o = true) (hp : plainE v = true) (hl : (ap.endLine == cp.line) = true) (he : PE X v (tE X.K Γ e)) (hbase : attributeBase o "extend" X.env (eval o X.env) = eval o X.env) :
    PS X (.Expr (.Call (.Attribute o "extend" ap) [v] [] cp) pos) (tS X.K Γ W τl τ τ' (.ext x e)) := by
  have hst := star_of hp [] X.env
  have hfew : ((backTo cp (starEach [v] X.env)).all (fun x => !x.1) && (backToKw cp (keywordEach [] X.env)).all (fun x => x.1.isSome) && decide ([v].length + ([] : List Keyword).length + (if ([] : List Keyword).isEmpty then 0 else 1) < 30)) = true := by
    rw [hst]; rfl
  refine (ps_expr (pe_bm (T := "list") PySem.F.plainAttrs_list PySem.F.slot_list_extend PySem.F.type_list_extend mt_extend (p_var c hx) (pa_cons he pa_nil hst) hbase hfew hl hst rfl) rfl).engImp fun D σ H q => ?_
  obtain ⟨H0, ok, F, σD, r, R, hx, q⟩ := q
  simp only [ex, Option.bind_eq_some_iff, Option.map_eq_some_iff] at hx
  obtain ⟨l, hl, d, hd, l', hl', rfl⟩ := hx
  simp only [ck] at hk
  split at hk
  · rename_i hc
    simp only [Bool.and_eq_true] at hc
    obtain ⟨h1, h3⟩ := hc
    cases hk
    obtain ⟨ge, hge⟩ := isR_some h3
    unfold lext at hl'
    split at hl'
    · rename_i ds es
      split at hl'
      · rename_i hlen
        cases hl'
        unfold get at hl
        simp only [Option.bind_eq_some_iff, id] at hl
        obtain ⟨_, hl, rfl⟩ := hl
        obtain ⟨a, vs, hv, f, ha, ra⟩ := R.slot h1 hl
        refine ⟨.ref a, hv, .inl ⟨rfl, vs, .inl (.inl ha)⟩, tE.mk R hge hd fun v H1 s1 rv => ?_⟩
        obtain ⟨b, us, rfl, hb, rb⟩ := rv.ro.lst
        refine ⟨a, b, vs, us, rfl, rfl, s1 _ _ ha, hb, by rw [ra.length, rb.length]; exact lenOk_le hlen, ?_⟩
        obtain ⟨R3, e3⟩ := (R.grow s1).wr h1 hl hv f (s1 _ _ ha) ((ra.same s1).append rb)
        exact q.nx R3 ((Evo.same s1 fun _ z => z).trans e3) fun z => nomatch z
      · cases hl'
    · cases hl'
  · cases hk
theorem s_ret {fr : Bool} {e : E} {v : Expr} {pos : Pos} (c : CxF I Γ fb sc X) (hk : ck τl (.ret fr e) τ = some τ') (he : PE X v (tE X.K Γ e)) (hv : ∀ i, e = .var i → nmB I sc i v = true) : PS X (.Return (some v) pos) (tS X.K Γ W τl τ τ' (.ret fr e)) := by
  simp only [ck, Option.ite_none_right_eq_some, Option.some.injEq] at hk
  obtain ⟨hc, rfl⟩ := hk
  · by_cases ho : fr = true ∧ isVarOwn τ e = true
    · obtain ⟨rfl, ho⟩ := ho
      cases e with
      | var i =>
        refine (ps_ret (p_var c (hv i rfl))).engImp fun D σ H q => ?_
        obtain ⟨H0, ok, F, σD, r, R, hx, q⟩ := q
        simp only [ex, ev, Option.bind_eq_some_iff, Bool.true_or, if_true, Option.some.injEq] at hx
        obtain ⟨d, ⟨_, hd, hd2⟩, rfl⟩ := hx
        simp only [id] at hd2
        subst hd2
        obtain ⟨u, hu, ru⟩ := R.val i d hd
        refine ⟨u, hu, q u H R.same ?_⟩
        rcases ru with ⟨_, a, vs, ds, rfl, rfl, f, h, r⟩ | ⟨r, n⟩
        · exact .inl ⟨ds, a, vs, rfl, rfl, (R.own a f).1, h, r.weak fun b h => ⟨h.1, fun z => h.2 (z ▸ f)⟩⟩
        · exact .inr ⟨n ho, r.weak fun b h => h.1⟩
      | _ => cases ho
    · have hA : isA (gr τ e) = true := by
        cases fr with
        | true =>
          simp only [if_true, Bool.or_eq_true] at hc
          rcases hc with hc | hc
          · cases hg : gr τ e with
            | none => rw [hg] at hc; cases hc
            | some g => rw [hg] at hc; cases g <;> first | rfl | cases hc
          · exact absurd ⟨rfl, hc⟩ ho
        | false => simpa using hc
      obtain ⟨g, hg⟩ := isR_some (isA_R hA)
      refine (ps_ret he).engImp fun D σ H q => ?_
      obtain ⟨H0, ok, F, σD, r, R, hx, q⟩ := q
      simp only [ex, Option.bind_eq_some_iff, Option.ite_none_right_eq_some, Option.some.injEq] at hx
      obtain ⟨d, hd, hfl, rfl⟩ := hx
      refine tE.mk R hg hd fun u H1 s1 ru => q u H1 (R.same.trans s1) ?_
      cases g with
      | O => rw [hg] at hA; cases hA
      | N =>
        have ru : RN X.K (okF ok F) H H1 d u := ru
        rcases ru with ⟨ds, a, vs, rfl, rfl, n, h, r⟩ | ⟨n, r⟩
        · exact .inl ⟨ds, a, vs, rfl, rfl, R.same.free n, h, r.weak fun b h => ⟨h.1.1, h.2⟩⟩
        · exact .inr ⟨n, r.weak fun b h => h.1⟩
      | A =>
        have ru : Rep X.K H1 (okF ok F) d u := ru
        have hfr : fr = false := by
          cases fr with
          | false => rfl
          | true =>
            simp only [if_true, Bool.or_eq_true] at hc
            rw [hg] at hc
            rcases hc with hc | hc
            · cases hc
            · exact absurd ⟨rfl, hc⟩ ho
        subst hfr
        refine .inr ⟨fun ds e => ?_, ru.weak fun b h => h.1⟩
        subst e
        cases hfl
theorem s_par2 {i j : Nat} {a b : E} {x y : Str} {va vb : Expr} {px py pt pt2 pos : Pos} {kt k2 : Nat} (c : CxF I Γ fb sc X) (hk : ck τl (.par [i, j] [a, b]) τ = some τ') (hi : I.N[i]? = some x) (hj : I.N[j]? = some y)
    (hx : sc.names.lookup x = some .local) (hy : sc.names.lookup y = some .local) (ha : PE X va (tE X.K Γ a)) (hb : PE X vb (tE X.K Γ b)) (hpa : plainE va = true) (hpb : plainE vb = true)
    (hw : swappedStores [.Tuple [.Name x px, .Name y py] kt pt] (.Tuple [va, vb] k2 pt2) X.env = pure (some [x, y])) :
    PS X (.Assign [.Tuple [.Name x px, .Name y py] kt pt] (.Tuple [va, vb] k2 pt2) pos) (tS X.K Γ W τl τ τ' (.par [i, j] [a, b])) := by
  simp only [ck] at hk
  split at hk
  · rename_i hc
    cases hk
    simp only [Bool.and_eq_true, decide_eq_true_eq, grA, List.all_cons, List.all_nil, and_true] at hc
    obtain ⟨⟨⟨⟨hA, hB⟩, hi1, hj1⟩, _⟩, hnd⟩ := hc
    have hij : i ≠ j := by simpa using hnd
    refine (ps_par c.calm (by rw [c.N]; exact c.nd) (by rw [c.N]; exact hi) (by rw [c.N]; exact hj) hij (by rw [c.sc]; exact hx) (by rw [c.sc]; exact hy)
      (pa_cons ha (pa_cons hb pa_nil (star_of hpb _ _)) (star_of hpa _ _)) hw).engImp fun D σ H q => ?_
    obtain ⟨H0, ok, F, σD, r, R, hx, q⟩ := q
    simp only [ex, evs, Option.bind_eq_some_iff, Option.map_eq_some_iff, Option.some.injEq] at hx
    obtain ⟨ds, ⟨d1, hd1, ds', ⟨d2, hd2, _, rfl, rfl⟩, rfl⟩, σD', hp, rfl⟩ := hx
    simp only [List.map, puts, put, Option.bind_some, Option.some.injEq] at hp
    subst hp
    obtain ⟨g1, hg1⟩ := isR_some (isA_R hA)
    obtain ⟨g2, hg2⟩ := isR_some (isA_R hB)
    refine tE.mk R hg1 hd1 fun v1 H1 s1 r1 => ?_
    obtain ⟨F1, R1, e1, f1, p1, n1⟩ := R.pend s1 (hg1 ▸ hA) r1
    refine tE.mk R1 hg2 hd2 fun v2 H2 s2 r2 => ?_
    obtain ⟨F2, R2, e2, f2, p2, n2⟩ := R1.pend s2 (hg2 ▸ hB) r2
    refine ⟨v1, v2, rfl, ?_⟩
    have p1' := p1.evo R1 s2 e2 f2
    have Ra := R2.setP (i := i) p1' (Nat.le_of_ble_eq_true hi1) fun a e hl f k hk => R.none_holds (n1 a e hl (by
      subst e
      obtain ⟨ds, rfl⟩ := hl
      -- the address is known at H1
      rcases p1 with ⟨_, b, _, _, _, e, fb, _, _⟩ | ⟨h, _⟩
      · cases e; exact fb
      · rcases p1' with ⟨_, b, _, _, _, e, fb, _, _⟩ | ⟨h', _⟩
        · cases e
          obtain ⟨b', vs', e', hh, ho, _⟩ := h.list
          cases e'
          exact absurd f (e2 _ _ hh ho.2).2
        · exact absurd f (own_of h').2)) k hk
    have hfi : flg g1 = fresh? (gr τ a) := by rw [hg1]; cases g1 <;> rfl
    have hfj : flg g2 = fresh? (gr τ b) := by rw [hg2]; cases g2 <;> rfl
    have Rb := Ra.setP (i := j) p2 (by rw [List.length_set]; exact Nat.le_of_ble_eq_true hj1) fun a e hl f k hk hd => by
      by_cases hik : i = k
      · subst hik
        obtain ⟨ds, hd⟩ := hd
        by_cases hi2 : i < σD.length
        · rw [List.getElem?_set_self hi2] at hd
          rw [List.getElem?_set_self (R.len ▸ hi2)] at hk
          cases hd; cases hk
          obtain ⟨us, h⟩ := p1.has
          rw [n2 a e hl f] at h
          cases h
        · rw [List.getElem?_eq_none (by simpa using hi2)] at hd; cases hd
      · rw [List.getElem?_set_ne hik] at hk
        rw [List.getElem?_set_ne hik] at hd
        exact R1.none_holds (n2 a e hl f) k hk hd
    rw [hfi, hfj] at Rb
    exact q.nx Rb (e1.trans e2) fun _ => s1.trans s2
  · cases hk
end
end Eng
end
section
set_option Elab.async false
set_option linter.all false
set_option maxRecDepth 100000
set_option maxHeartbeats 2000000
/-! EngH4: sequences, if, for, while. -/
namespace Eng
open PySem PySem.Spec PyProof.Rows L2
section
variable {I : Info} {Γ : Fs} {fb : Str → Bool} {sc : Scope} {X : Cx} {W : Nat} {τl : Option (List Bool)} {τ τ' : List Bool}
section
variable {K : PySem.W.Frag} {H0 : Hp} {ok : Addr → Prop} {nm nm1 : Bool} {F F1 : Addr → Prop} {H H1 : Hp} {D D1 : Ends}
/-- later -/
theorem Ends1.later {r : Fl} (e : Ends1 K H0 ok τl τ' nm F H D r) (v : Evo F H F1 H1) (s : nm = true → nm1 = true ∧ Same H H1) : Ends1 K H0 ok τl τ' nm1 F1 H1 D r := by
  cases r with
  | nx σ => exact fun F' σV' H' R v' s' => e F' σV' H' R (v.trans v') fun z => (s z).2.trans (s' (s z).1)
  | rt d => exact e
  | bk σ => exact fun t F' σV' H' ht R v' s' => e t F' σV' H' ht R (v.trans v') fun z => (s z).2.trans (s' (s z).1)
  | ct σ => exact fun t F' σV' H' ht R v' s' => e t F' σV' H' ht R (v.trans v') fun z => (s z).2.trans (s' (s z).1)
end
theorem q_nil : PSs X [] (tSs X.K Γ W τl τ τ []) := by
  refine pss_nil.engImp fun D σ H q => ?_
  obtain ⟨H0, ok, F, σD, r, R, hx, q⟩ := q
  simp only [exs, Option.some.injEq] at hx
  subst hx
  exact q.nx R (Evo.refl _ _) fun _ => Same.refl _
theorem seq_read {s : S} {ss : List S} {τ1 : List Bool} : ∀ D σ H, tSs X.K Γ W τl τ τ' (s :: ss) D σ H → tSeq (tS X.K Γ W τl τ τ1 s) (tSs X.K Γ W τl τ1 τ' ss) D σ H := fun D σ H q => by
  obtain ⟨H0, ok, F, σD, r, R, hx, q⟩ := q
  simp only [exs, Option.bind_eq_some_iff] at hx
  obtain ⟨r1, hr1, hx⟩ := hx
  have nmA : noMuts (s :: ss) = true → noMut s = true ∧ noMuts ss = true := fun z => by
    simp only [noMuts, Bool.and_eq_true] at z; exact z
  refine ⟨H0, ok, F, σD, r1, R, hr1, ?_⟩
  cases r1 with
  | nx σ1 => exact fun F' σV' H' R' v s => ⟨H0, ok, F', σ1, r, R', hx, q.later v fun z => ⟨(nmA z).2, s (nmA z).1⟩⟩
  | rt d => cases hx; exact q
  | bk σ1 => cases hx; exact fun t F' σV' H' ht R' v s => q t F' σV' H' ht R' v fun z => s (nmA z).1
  | ct σ1 => cases hx; exact fun t F' σV' H' ht R' v s => q t F' σV' H' ht R' v fun z => s (nmA z).1
theorem q_cons {s : S} {ss : List S} {st : Stmt} {rest : List Stmt} {τ1 : List Bool} (h1 : PS X st (tS X.K Γ W τl τ τ1 s)) (h2 : PSs X rest (tSs X.K Γ W τl τ1 τ' ss)) : PSs X (st :: rest) (tSs X.K Γ W τl τ τ' (s :: ss)) := (pss_cons h1 h2).engImp seq_read
/-- a list of one's own is given up: no statement of the text -/
theorem q_fre {x : Nat} {ss : List S} {rest : List Stmt} (h2 : PSs X rest (tSs X.K Γ W τl (τ.set x false) τ' ss)) : PSs X rest (tSs X.K Γ W τl τ τ' (.fre x :: ss)) := by
  refine h2.engImp fun D σ H q => ?_
  obtain ⟨H0, ok, F, σD, r, R, hx, q⟩ := q
  simp only [exs, ex, Option.bind_some] at hx
  obtain ⟨F', R', hf⟩ := R.weaken (τ' := τ.set x false) fun j hj => set_le j hj
  refine ⟨H0, ok, F', σD, r, R', hx, q.later (Evo.same (Same.refl _) hf) fun z => ⟨?_, Same.refl _⟩⟩
  simp only [noMuts, Bool.and_eq_true] at z
  exact z.2
theorem s_brk {pos : Pos} (hk : ck τl .brk τ = some τ') : PS X (.Break pos) (tS X.K Γ W τl τ τ' .brk) := by
  refine ps_break.engImp fun D σ H q => ?_
  obtain ⟨H0, ok, F, σD, r, R, hx, q⟩ := q
  simp only [ex, Option.some.injEq] at hx
  subst hx
  simp only [ck, Option.bind_eq_some_iff, Option.ite_none_right_eq_some] at hk
  obtain ⟨t, ht, hle, _⟩ := hk
  obtain ⟨F', R', hf⟩ := R.weaken (τ' := t) (leB_of hle)
  exact q t F' σ H ht R' (Evo.same (Same.refl _) hf) fun _ => Same.refl _
theorem s_cont {pos : Pos} (hk : ck τl .cont τ = some τ') : PS X (.Continue pos) (tS X.K Γ W τl τ τ' .cont) := by
  refine ps_continue.engImp fun D σ H q => ?_
  obtain ⟨H0, ok, F, σD, r, R, hx, q⟩ := q
  simp only [ex, Option.some.injEq] at hx
  subst hx
  simp only [ck, Option.bind_eq_some_iff, Option.ite_none_right_eq_some] at hk
  obtain ⟨t, ht, hle, _⟩ := hk
  obtain ⟨F', R', hf⟩ := R.weaken (τ' := t) (leB_of hle)
  exact q t F' σ H ht R' (Evo.same (Same.refl _) hf) fun _ => Same.refl _
theorem s_pass {pos : Pos} (hk : ck τl .pass τ = some τ') : PS X (.Pass pos) (tS X.K Γ W τl τ τ' .pass) := by
  refine ps_pass.engImp fun D σ H q => ?_
  obtain ⟨H0, ok, F, σD, r, R, hx, q⟩ := q
  simp only [ex, Option.some.injEq] at hx
  subst hx
  cases hk
  exact q.nx R (Evo.refl _ _) fun _ => Same.refl _
theorem s_ite {c : E} {a b : List S} {c' : Expr} {a' b' : List Stmt} {pos : Pos} {t u : List Bool} (hg : isR (gr τ c) = true) (hc : PT X c' (tTr X.K Γ c)) (ha : PSs X a' (tSs X.K Γ W τl τ t a)) (hb : PSs X b' (tSs X.K Γ W τl τ u b)) :
    PS X (.If c' a' b' pos) (tS X.K Γ W τl τ (andL t u) (.ite c a b)) := by
  refine (ps_if hc ha hb).engImp fun D σ H q => ?_
  obtain ⟨H0, ok, F, σD, r, R, hx, q⟩ := q
  simp only [ex, Option.bind_eq_some_iff] at hx
  obtain ⟨x, hx1, k, hk, hx⟩ := hx
  obtain ⟨g, hg⟩ := isR_some hg
  have nmA : noMut (.ite c a b) = true → noMuts a = true ∧ noMuts b = true := fun z => by
    simp only [noMut, Bool.and_eq_true] at z; exact z
  refine ⟨H0, ok, τ, F, σD, g, x, k, R, hg, hx1, hk, fun H1 s1 => ?_⟩
  -- the ends, by a branch's own type
  have fin : ∀ {t' : List Bool} {nm : Bool}, (∀ i, (andL t u).getD i false = true → t'.getD i false = true) → (noMut (.ite c a b) = true → nm = true) → Ends1 X.K H0 ok τl t' nm F H1 D r := fun {t' nm} ht hn => by
    cases r with
    | nx σ' =>
      intro F' σV' H' R' v s
      obtain ⟨F'', R'', hf⟩ := R'.weaken ht
      exact q.nx R'' (((Evo.same s1 fun _ z => z).trans v).trans (Evo.same (Same.refl _) hf)) fun z => s1.trans (s (hn z))
    | rt d => exact q
    | bk σ' => exact fun t F' σV' H' ht R' v s => q t F' σV' H' ht R' ((Evo.same s1 fun _ z => z).trans v) fun z => s1.trans (s (hn z))
    | ct σ' => exact fun t F' σV' H' ht R' v s => q t F' σV' H' ht R' ((Evo.same s1 fun _ z => z).trans v) fun z => s1.trans (s (hn z))
  cases k with
  | true =>
    rw [if_pos rfl] at hx
    dsimp only
    rw [if_pos rfl]
    exact ⟨H0, ok, F, σD, r, R.grow s1, hx, fin (fun i h => (andL_le t u i h).1) fun z => (nmA z).1⟩
  | false =>
    rw [if_neg (by decide)] at hx
    dsimp only
    rw [if_neg (by decide)]
    exact ⟨H0, ok, F, σD, r, R.grow s1, hx, fin (fun i h => (andL_le t u i h).2) fun z => (nmA z).2⟩
/-- one turn of a for -/
def turnF (Γ : Fs) (W : Nat) (tg : Tg) (body : List S) (x : D) (σ : Sg) : Option Fl := (put tg x σ).bind fun σ' => exs Γ W body σ'
theorem s_loop {w : List Nat} {tg : Tg} {it : E} {body : List S} {tg' it' : Expr} {body' : List Stmt} {pos : Pos} {t : List Bool} (c : CxF I Γ fb sc X) (hp : PassesOwn (model X.prog X.w) X.A X.env X.xe) (hs : ∀ x, foldedSetIterable it' X.env x = pure x)
    (hg : isR (gr (offs τ (w ++ tgSlots tg)) it) = true) (hm : itA (offs τ (w ++ tgSlots tg)) it = true ∨ noMuts body = true) (ht : leB (offs τ (w ++ tgSlots tg)) t = true)
    (hi : PI X tg' it' (tI X.K Γ it)) (htg : PG X tg' (gT X.K tg)) (hb : PSs X body' (tSs X.K Γ W (some (offs τ (w ++ tgSlots tg))) (offs τ (w ++ tgSlots tg)) t body)) :
    PS X (.For tg' it' body' [] pos) (tS X.K Γ W τl τ (offs τ (w ++ tgSlots tg)) (.loop w tg it body)) := by
  refine (ps_for hp c.calm hi htg hb hs).engImp fun D σ H q => ?_
  obtain ⟨H0, ok, F, σD, r, R, hx, q⟩ := q
  simp only [ex, Option.bind_eq_some_iff] at hx
  obtain ⟨dx, hdx, xs, hxs, hx⟩ := hx
  have hx : loopL (turnF Γ W tg body) xs σD = some r := hx
  obtain ⟨g, hg⟩ := isR_some hg
  obtain ⟨Fa, Ra, hFa⟩ := R.weaken (τ' := offs τ (w ++ tgSlots tg)) fun j hj => offs_le j hj
  refine ⟨H0, ok, _, Fa, σD, g, dx, xs, Ra, hg, hdx, hxs, fun J H1 s1 hJ => ?_⟩
  obtain ⟨G, as, bs, ws, Y, wk, hG1, has, hal, rb, hk, hy⟩ := hJ.ex
  have R1 := Ra.grow s1
  let Pv : Nat → L2.St → Hp → Prop := fun i σV H' => ∃ F' σ', SR X.K H0 ok (offs τ (w ++ tgSlots tg)) F' H' σV σ' ∧ Evo Fa H1 F' H' ∧ (noMuts body = true → Same H1 H') ∧ loopL (turnF Γ W tg body) (xs.drop i) σ' = some r
  have GH : ∀ i σV H', i ≤ xs.length → Pv i σV H' → G H' := fun i σV H' _ ⟨F', σ', R', v, s, _⟩ => hk H' (fun b us h => v.sqT R1 h) fun a ha => by
    obtain ⟨us, h⟩ := has a ha
    rcases hm with hm | hm
    · rw [h, (v a _ h (hal hm a ha).2).1]
    · rw [h, s hm _ _ h]
  have tot : Evo F H Fa H1 := Evo.same s1 hFa
  refine for_it wk Pv ⟨Fa, σD, R1, Evo.refl _ _, fun _ => Same.refl _, by simpa using hx⟩ GH (fun i x σV H' H2 hlt p yy => ?_) fun σV H' p => ?_
  · have hGp := GH i σV H' (by omega) p
    obtain ⟨F', σ', R', v, s, hl⟩ := p
    obtain ⟨s2, d, hd, rd⟩ := hy _ H' hGp (v.reps R1 rb) i x H2 hlt yy
    have hcons : xs.drop i = d :: xs.drop (i + 1) := by
      rw [List.getElem?_eq_getElem hlt] at hd
      cases hd
      exact List.drop_eq_getElem_cons hlt
    rw [hcons] at hl
    simp only [loopL, Option.bind_eq_some_iff] at hl
    obtain ⟨r1, hr1, hl⟩ := hl
    unfold turnF at hr1
    simp only [Option.bind_eq_some_iff] at hr1
    obtain ⟨σ1, hput, hr1⟩ := hr1
    refine put_ok (R'.grow s2) (fun j hj => offs_in (List.mem_append_right _ hj)) rd hput fun σV' R2 _ => ?_
    refine ⟨H0, ok, F', σ1, r1, R2, hr1, ?_⟩
    have nmA : noMut (.loop w tg it body) = true → noMuts body = true := fun z => by simpa [noMut] using z
    have v2 : Evo Fa H1 F' H2 := v.trans (Evo.same s2 fun _ z => z)
    cases r1 with
    | nx σ2 =>
      intro F3 σV3 H3 R3 v3 s3
      obtain ⟨F4, R4, hf⟩ := R3.weaken (τ' := offs τ (w ++ tgSlots tg)) (leB_of ht)
      exact ⟨F4, σ2, R4, (v2.trans v3).trans (Evo.same (Same.refl _) hf), fun z => ((s z).trans s2).trans (s3 z), hl⟩
    | rt d' =>
      cases hl
      exact q
    | bk σ2 =>
      cases hl
      intro t' F3 σV3 H3 e R3 v3 s3
      cases e
      exact q.nx R3 ((tot.trans v2).trans v3) fun z => ((s1.trans (s (nmA z))).trans s2).trans (s3 (nmA z))
    | ct σ2 =>
      intro t' F3 σV3 H3 e R3 v3 s3
      cases e
      exact ⟨F3, σ2, R3, v2.trans v3, fun z => ((s z).trans s2).trans (s3 z), hl⟩
  · obtain ⟨F', σ', R', v, s, hl⟩ := p
    rw [List.drop_length] at hl
    simp only [loopL, Option.some.injEq] at hl
    subst hl
    exact q.nx R' (tot.trans v) fun z => s1.trans (s (by simpa [noMut] using z))
theorem s_wh {w : List Nat} {k : E} {body : List S} {k' : Expr} {body' : List Stmt} {pos : Pos} {t : List Bool} (hp : PassesOwn (model X.prog X.w) X.A X.env X.xe)
    (hg : isR (gr (offs τ w) k) = true) (ht : leB (offs τ w) t = true) (hc : PT X k' (tTr X.K Γ k)) (hb : PSs X body' (tSs X.K Γ W (some (offs τ w)) (offs τ w) t body)) :
    PS X (.While k' body' [] pos) (tS X.K Γ W τl τ (offs τ w) (.wh w k body)) := by
  refine (ps_while hp hc hb).engImp fun D σ H q => ?_
  obtain ⟨H0, ok, F, σD, r, R, hx, q⟩ := q
  simp only [ex] at hx
  obtain ⟨g, hg⟩ := isR_some hg
  obtain ⟨Fa, Ra, hFa⟩ := R.weaken (τ' := offs τ w) fun j hj => offs_le j hj
  have tot : Evo F H Fa H := Evo.same (Same.refl _) hFa
  have nmA : noMut (.wh w k body) = true → noMuts body = true := fun z => by simpa [noMut] using z
  let Wm : Nat → L2.St → Hp → Prop := fun m σV H' => ∃ F' σ', SR X.K H0 ok (offs τ w) F' H' σV σ' ∧ Evo Fa H F' H' ∧ (noMuts body = true → Same H H') ∧ whL (fun σ => (ev Γ k σ).bind truth) (fun σ => exs Γ W body σ) m σ' = some r
  refine ⟨Wm, ⟨W, Fa, σD, Ra, Evo.refl _ _, fun _ => Same.refl _, hx⟩, fun m σV H' p => ?_⟩
  obtain ⟨F', σ', R', v, s, hl⟩ := p
  cases m with
  | zero => simp [whL] at hl
  | succ m =>
    simp only [whL, Option.bind_eq_some_iff] at hl
    obtain ⟨b, ⟨d, hd, hb⟩, hl⟩ := hl
    refine ⟨H0, ok, _, F', σ', g, d, b, R', hg, hd, hb, fun H2 s2 => ?_⟩
    have v2 : Evo Fa H F' H2 := v.trans (Evo.same s2 fun _ z => z)
    cases b with
    | false =>
      rw [if_neg (by decide)] at hl
      dsimp only
      rw [if_neg (by decide)]
      cases hl
      exact q.nx (R'.grow s2) (tot.trans v2) fun z => (s (nmA z)).trans s2
    | true =>
      rw [if_pos rfl] at hl
      dsimp only
      rw [if_pos rfl]
      simp only [Option.bind_eq_some_iff] at hl
      obtain ⟨r1, hr1, hl⟩ := hl
      refine ⟨Wm m, fun σ' H' z => ⟨m, Nat.lt_succ_self m, z⟩, H0, ok, F', σ', r1, R'.grow s2, hr1, ?_⟩
      cases r1 with
      | nx σ2 =>
        intro F3 σV3 H3 R3 v3 s3
        obtain ⟨F4, R4, hf⟩ := R3.weaken (τ' := offs τ w) (leB_of ht)
        exact ⟨F4, σ2, R4, (v2.trans v3).trans (Evo.same (Same.refl _) hf), fun z => ((s z).trans s2).trans (s3 z), hl⟩
      | rt d' =>
        cases hl
        exact q
      | bk σ2 =>
        cases hl
        intro t' F3 σV3 H3 e R3 v3 s3
        cases e
        exact q.nx R3 ((tot.trans v2).trans v3) fun z => ((s (nmA z)).trans s2).trans (s3 (nmA z))
      | ct σ2 =>
        intro t' F3 σV3 H3 e R3 v3 s3
        cases e
        exact ⟨F3, σ2, R3, v2.trans v3, fun z => ((s z).trans s2).trans (s3 z), hl⟩
end
end Eng
end
section
set_option Elab.async false
set_option linter.all false
set_option maxRecDepth 100000
set_option maxHeartbeats 2000000
/-! EngP: several names at once, any number; lists of one's own among them. -/
namespace Eng
open PySem PySem.Spec PyProof.Rows L2
section
variable {K : PySem.W.Frag} {H0 H H' : Hp} {ok F F' : Addr → Prop} {τ τ' : List Bool} {σV : L2.St} {σD : Sg} {Γ : Fs}
def tAs (K : PySem.W.Frag) (Γ : Fs) : List E → TA
  | [] => tNil
  | e :: es => tCons (tE K Γ e) (tAs K Γ es)
/-- what waits: its reading; its address is new since H -/
def PendL (K : PySem.W.Frag) (ok : Addr → Prop) (τ : List Bool) (H H' : Hp) (F' : Addr → Prop) : List E → List D → List V → Prop
  | [], [], [] => True
  | e :: es, d :: ds, v :: vs => RepS K H' ok F' (fresh? (gr τ e)) d v ∧ (∀ a, v = .ref a → (∃ l, d = .list l) → F' a → H a = none) ∧
      (∀ a, v = .ref a → (∃ l, d = .list l) → F' a → ∀ (j : Nat) l, vs[j]? = some (.ref a) → ds[j]? = some (.list l) → False) ∧ PendL K ok τ H H' F' es ds vs
  | _, _, _ => False
theorem PendL.len : ∀ {es : List E} {ds : List D} {vs : List V}, PendL K ok τ H H' F' es ds vs → ds.length = es.length ∧ vs.length = es.length
  | [], [], [], _ => ⟨rfl, rfl⟩
  | e :: es, d :: ds, v :: vs, h => by
    obtain ⟨h1, h2⟩ := h.2.2.2.len
    exact ⟨by simp [h1], by simp [h2]⟩
  | [], _ :: _, _, h => h.elim
  | [], [], _ :: _, h => h.elim
  | _ :: _, [], _, h => h.elim
  | _ :: _, _ :: _, [], h => h.elim
theorem PendL.at : ∀ {es : List E} {ds : List D} {vs : List V}, PendL K ok τ H H' F' es ds vs → ∀ (j : Nat) a l, vs[j]? = some (.ref a) → ds[j]? = some (.list l) → F' a → H a = none
  | [], [], [], _, j, a, l, h, _, _ => by simp at h
  | e :: es, d :: ds, v :: vs, h, 0, a, l, hv, hd, f => by
    simp only [List.getElem?_cons_zero, Option.some.injEq] at hv hd
    exact h.2.1 a hv ⟨l, hd⟩ f
  | e :: es, d :: ds, v :: vs, h, j + 1, a, l, hv, hd, f => h.2.2.2.at j a l (by simpa using hv) (by simpa using hd) f
  | [], _ :: _, _, h, _, _, _, _, _, _ => h.elim
  | [], [], _ :: _, h, _, _, _, _, _, _ => h.elim
  | _ :: _, [], _, h, _, _, _, _, _, _ => h.elim
  | _ :: _, _ :: _, [], h, _, _, _, _, _, _ => h.elim
theorem PendL.back {H1 : Hp} (s : Same H1 H) : ∀ {es : List E} {ds : List D} {vs : List V}, PendL K ok τ H H' F' es ds vs → PendL K ok τ H1 H' F' es ds vs
  | [], [], [], _ => trivial
  | e :: es, d :: ds, v :: vs, h => ⟨h.1, fun a e l f => s.free (h.2.1 a e l f), h.2.2.1, h.2.2.2.back s⟩
  | [], _ :: _, _, h => h.elim
  | [], [], _ :: _, h => h.elim
  | _ :: _, [], _, h => h.elim
  | _ :: _, _ :: _, [], h => h.elim
theorem PendL.grow {H2 : Hp} (R : SR K H0 ok τ' F' H' σV σD) (s : Same H' H2) : ∀ {es : List E} {ds : List D} {vs : List V}, PendL K ok τ H H' F' es ds vs → PendL K ok τ H H2 F' es ds vs
  | [], [], [], _ => trivial
  | e :: es, d :: ds, v :: vs, h => ⟨h.1.evo R s (Evo.same s fun _ z => z) (fun _ z => z), h.2.1, h.2.2.1, h.2.2.2.grow R s⟩
  | [], _ :: _, _, h => h.elim
  | [], [], _ :: _, h => h.elim
  | _ :: _, [], _, h => h.elim
  | _ :: _, _ :: _, [], h => h.elim
theorem flg_fresh {g : Gr} {o : Option Gr} (h : o = some g) : flg g = fresh? o := by
  rw [h]; cases g <;> rfl
/-- one's own now, one's own then -/
theorem own_then {own : Bool} {d : D} {v : V} {H1 H2 : Hp} {F1 F2 : Addr → Prop} (p : RepS K H1 ok F1 own d v) (p' : RepS K H2 ok F2 own d v) (e2 : Evo F1 H1 F2 H2) {a : Addr} (hv : v = .ref a) (hl : ∃ l, d = .list l) (f : F2 a) : F1 a := by
  subst hv
  obtain ⟨ds, rfl⟩ := hl
  rcases p with ⟨_, b, _, _, _, e, fb, _, _⟩ | ⟨h, _⟩
  · cases e; exact fb
  · rcases p' with ⟨_, b, _, _, _, e, fb, _, _⟩ | ⟨h', _⟩
    · cases e
      obtain ⟨b', vs', e', hh, ho, _⟩ := h.list
      cases e'
      exact absurd f (e2 _ _ hh ho.2).2
    · exact absurd f (own_of h').2
theorem as_ok : ∀ (es : List E) {F : Addr → Prop} {H : Hp} {ds : List D} {Q : List V → Hp → Prop}, SR K H0 ok τ F H σV σD → grA τ es = true → evs Γ es σD = some ds →
    (∀ vs H' F', Same H H' → SR K H0 ok τ F' H' σV σD → Evo F H F' H' → (∀ b, F b → F' b) → PendL K ok τ H H' F' es ds vs → Q vs H') → tAs K Γ es σV H Q
  | [], F, H, ds, Q, R, hA, hd, q => by
    simp only [evs, Option.some.injEq] at hd
    subst hd
    exact q [] H F (Same.refl _) R (Evo.refl _ _) (fun _ z => z) trivial
  | e :: es, F, H, ds, Q, R, hA, hd, q => by
    simp only [evs, Option.bind_eq_some_iff, Option.map_eq_some_iff] at hd
    obtain ⟨d, hd, ds, hds, rfl⟩ := hd
    simp only [grA, Bool.and_eq_true] at hA
    obtain ⟨g, hg⟩ := isR_some (isA_R hA.1)
    refine tE.mk R hg hd fun v H1 s1 rv => ?_
    obtain ⟨F1, R1, e1, f1, p1, n1⟩ := R.pend s1 (hg ▸ hA.1) rv
    refine as_ok es R1 hA.2 hds fun vs H2 F2 s2 R2 e2 f2 pl => q (v :: vs) H2 F2 (s1.trans s2) R2 (e1.trans e2) (fun b z => f2 b (f1 b z)) ?_
    rw [flg_fresh hg] at p1
    have p1' := p1.evo R1 s2 e2 f2
    refine ⟨p1', fun a ev l f => n1 a ev l (own_then p1 p1' e2 ev l f), fun a ev l f j k hv hd => ?_, pl.back s1⟩
    have z := pl.at j a k hv hd f
    subst ev
    obtain ⟨l, rfl⟩ := l
    obtain ⟨us, h⟩ := p1.has
    rw [z] at h; cases h
def setV : List Nat → List V → L2.St → L2.St
  | i :: is, v :: vs, σ => setV is vs (σ.set i (some v))
  | _, _, σ => σ
def setD : List Nat → List D → Sg → Sg
  | i :: is, d :: ds, σ => setD is ds (σ.set i (some d))
  | _, _, σ => σ
theorem puts_set : ∀ {is : List Nat} {ds : List D} {σ σ' : Sg}, puts (is.map .one) ds σ = some σ' → σ' = setD is ds σ
  | [], [], σ, σ', h => by simpa [puts, setD] using h.symm
  | i :: is, d :: ds, σ, σ', h => by
    simp only [List.map_cons, puts, put, Option.bind_some] at h
    exact puts_set (is := is) (ds := ds) h
  | [], _ :: _, _, _, h => by cases h
  | _ :: _, [], _, _, h => by cases h
theorem setD_len : ∀ (is : List Nat) (ds : List D) (σ : Sg), (setD is ds σ).length = σ.length
  | i :: is, d :: ds, σ => by show (setD is ds (σ.set i (some d))).length = _; rw [setD_len, List.length_set]
  | [], _, _ => rfl
  | _ :: _, [], _ => rfl
/-- all are stored, the first first -/
theorem store_all : ∀ {is : List Nat} {es : List E} {ds : List D} {vs : List V} {τ1 : List Bool} {σV1 : L2.St} {σD1 : Sg}, SR K H0 ok τ1 F H σV1 σD1 → is.length = es.length → is.all (fun i => Nat.blt i τ1.length) = true → PendL K ok τ H' H F es ds vs →
    (∀ (j : Nat) a l, vs[j]? = some (.ref a) → ds[j]? = some (.list l) → F a → ∀ k : Nat, σV1[k]? = some (some (V.ref a)) → (∃ ds, σD1[k]? = some (some (.list ds))) → False) →
    SR K H0 ok (gset τ1 (is.zip (es.map (gr τ)))) F H (setV is vs σV1) (setD is ds σD1)
  | [], [], [], [], τ1, σV1, σD1, R, _, _, _, _ => R
  | i :: is, e :: es, d :: ds, v :: vs, τ1, σV1, σD1, R, hl, hi, p, no => by
    rw [List.all_cons, Bool.and_eq_true] at hi
    obtain ⟨p1, p2, p3, p4⟩ := p
    have R1 := R.setP (i := i) p1 (Nat.le_of_ble_eq_true hi.1) fun a ev l f k hk hd => by
      obtain ⟨l, rfl⟩ := l
      subst ev
      exact no 0 a l rfl rfl f k hk hd
    refine store_all (is := is) (es := es) (ds := ds) (vs := vs) R1 (by simpa using hl) (by rw [List.length_set]; exact hi.2) p4 fun j a l hv hd f k hk hq => ?_
    by_cases hik : i = k
    · subst hik
      obtain ⟨q, hq⟩ := hq
      by_cases hi2 : i < σD1.length
      · rw [List.getElem?_set_self hi2] at hq
        rw [List.getElem?_set_self (R.len ▸ hi2)] at hk
        cases hq; cases hk
        exact p3 a rfl ⟨q, rfl⟩ f j l hv hd
      · rw [List.getElem?_eq_none (by simpa using hi2)] at hq; cases hq
    · rw [List.getElem?_set_ne hik] at hk
      rw [List.getElem?_set_ne hik] at hq
      exact no (j + 1) a l (by simpa using hv) (by simpa using hd) f k hk hq
  | [], _ :: _, _, _, _, _, _, _, hl, _, _, _ => by simp at hl
  | _ :: _, [], _, _, _, _, _, _, hl, _, _, _ => by simp at hl
  | [], [], _ :: _, _, _, _, _, _, _, _, p, _ => p.elim
  | [], [], [], _ :: _, _, _, _, _, _, _, p, _ => p.elim
  | _ :: _, _ :: _, [], _, _, _, _, _, _, _, p, _ => p.elim
  | _ :: _, _ :: _, _ :: _, [], _, _, _, _, _, _, p, _ => p.elim
theorem gTs_set {is : List Nat} : ∀ {vs : List V} {σV : L2.St} {H : Hp} {Q : L2.St → Hp → Prop}, vs.length = is.length → Q (setV is vs σV) H → gTs K (is.map .one) vs σV H Q := by
  induction is with
  | nil =>
    intro vs σV H Q hl q
    cases vs with
    | nil => unfold List.map gTs gNil; exact ⟨rfl, q⟩
    | cons v vs => simp at hl
  | cons i is ih =>
    intro vs σV H Q hl q
    cases vs with
    | nil => simp at hl
    | cons v vs =>
      show gTs K (.one i :: is.map .one) (v :: vs) σV H Q
      unfold gTs gCons
      refine ⟨v, vs, rfl, ?_⟩
      unfold gT gName
      exact ih (by simpa using hl) q
end
section
variable {I : Info} {Γ : Fs} {fb : Str → Bool} {sc : Scope} {X : Cx} {W : Nat} {τl : Option (List Bool)} {τ τ' : List Bool}
theorem pa_as (c : CxF I Γ fb sc X) : ∀ {es : List E} {vs : List Expr}, mEs I sc es vs = true → PA X vs (tAs X.K Γ es)
  | [], [], _ => pa_nil
  | e :: es, v :: vs, h => by
    simp only [mEs, Bool.and_eq_true] at h
    exact pa_cons (snd0 e c h.1).pe (pa_as c h.2) (star_of (mE_plain h.1) _ _)
  | [], _ :: _, h => by simp [mEs] at h
  | _ :: _, [], h => by simp [mEs] at h
/-- the reading of several names at once -/
theorem par_read {is : List Nat} {es : List E} (hk : ck τl (.par is es) τ = some τ') {D : Ends} {σ : L2.St} {H : Hp} {Q : List V → Hp → Prop} (q : tS X.K Γ W τl τ τ' (.par is es) D σ H)
    (hQ : ∀ vs H1, vs.length = is.length → (∀ H2, Same H1 H2 → D.nx (setV is vs σ) H2) → Q vs H1) : tAs X.K Γ es σ H Q := by
  obtain ⟨H0, ok, F, σD, r, R, hx, q⟩ := q
  simp only [ex, Option.bind_eq_some_iff, Option.map_eq_some_iff] at hx
  obtain ⟨ds, hds, σD', hp, rfl⟩ := hx
  simp only [ck] at hk
  split at hk
  · rename_i hc
    cases hk
    simp only [Bool.and_eq_true, decide_eq_true_eq] at hc
    obtain ⟨⟨⟨hA, hi⟩, hl⟩, _⟩ := hc
    refine as_ok es R hA hds fun vs H1 F1 s1 R1 e1 f1 pl => hQ vs H1 (by rw [pl.len.2, hl]) fun H2 s2 => ?_
    have R2 := R1.grow s2
    have pl2 := pl.grow R1 s2
    have S := store_all R2 hl hi pl2 fun j a l hv hd f k h1 h2 => R.none_holds (pl2.at j a l hv hd f) k h1 h2
    rw [← puts_set hp] at S
    exact q.nx S (e1.trans (Evo.same s2 fun _ z => z)) fun _ => s1.trans s2
  · cases hk
theorem s_par3 {i j l : Nat} {es : List E} {x y z : Str} {va vb vc : Expr} {px py pz pt pt2 pos : Pos} {kt k2 : Nat} (c : CxF I Γ fb sc X) (hk : ck τl (.par [i, j, l] es) τ = some τ') (hi : I.N[i]? = some x) (hj : I.N[j]? = some y) (hl : I.N[l]? = some z)
    (hx : sc.names.lookup x = some .local) (hy : sc.names.lookup y = some .local) (hz : sc.names.lookup z = some .local) (hv : mEs I sc es [va, vb, vc] = true)
    (hw : swappedStores [.Tuple [.Name x px, .Name y py, .Name z pz] kt pt] (.Tuple [va, vb, vc] k2 pt2) X.env = pure (some [x, y, z])) :
    PS X (.Assign [.Tuple [.Name x px, .Name y py, .Name z pz] kt pt] (.Tuple [va, vb, vc] k2 pt2) pos) (tS X.K Γ W τl τ τ' (.par [i, j, l] es)) := by
  have hnd : [i, j, l].Nodup := by
    simp only [ck] at hk
    split at hk
    · rename_i hc
      simp only [Bool.and_eq_true, decide_eq_true_eq] at hc
      exact hc.2
    · cases hk
  simp only [List.nodup_cons, List.mem_cons, List.not_mem_nil, or_false, not_or, not_false_eq_true, List.nodup_nil, and_true] at hnd
  refine (ps_par3 c.calm (by rw [c.N]; exact c.nd) (by rw [c.N]; exact hi) (by rw [c.N]; exact hj) (by rw [c.N]; exact hl) hnd.1.1 hnd.1.2 hnd.2 (by rw [c.sc]; exact hx) (by rw [c.sc]; exact hy) (by rw [c.sc]; exact hz) (pa_as c hv) hw).engImp fun D σ H q => ?_
  refine par_read hk q fun vs H1 hlen nx => ?_
  match vs, hlen with
  | [u, v, w], _ => exact ⟨u, v, w, rfl, nx H1 (Same.refl _)⟩
/-- the pair is built, and taken apart -/
theorem s_parT {is : List Nat} {es : List E} {ts vs : List Expr} {pt pt2 pos : Pos} {kt k2 : Nat} (c : CxF I Γ fb sc X) (hk : ck τl (.par is es) τ = some τ') (ht : mTs I fb sc (is.map .one) ts = true) (hv : mEs I sc es vs = true) (h8 : Nat.ble es.length 8 = true)
    (hw : swNone sc (.Tuple ts kt pt) (.Tuple vs k2 pt2) = true) : PS X (.Assign [.Tuple ts kt pt] (.Tuple vs k2 pt2) pos) (tS X.K Γ W τl τ τ' (.par is es)) := by
  have hl : is.length = es.length := by
    simp only [ck] at hk
    split at hk
    · rename_i hc
      simp only [Bool.and_eq_true, decide_eq_true_eq] at hc
      exact hc.1.2
    · cases hk
  have ht' : mT I fb sc (.many (is.map .one)) (.Tuple ts kt pt) = true := by simp only [mT]; exact ht
  refine (ps_asg (pe_tup (pa_as c hv)) (l_tg c ht') rfl (sw_none c.sc hw) rfl).engImp fun D σ H q => ?_
  refine par_read hk q fun xs H1 hlen nx => ⟨?_, fun p hp => ?_⟩
  · have := Nat.le_of_ble_eq_true h8
    exact Nat.le_trans (by omega : xs.length ≤ 8) (by decide)
  · show gT X.K (.many (is.map .one)) (.ref p) σ (upd H1 p (.tup xs)) D.nx
    unfold gT gTup
    refine ⟨p, xs, rfl, .inl (.inl upd_same), by rw [List.length_map, hlen], ?_⟩
    exact gTs_set hlen (nx _ fun b o e => by
      have : b ≠ p := fun z => by rw [z, hp] at e; cases e
      rw [upd_ne this]; exact e)
end
end Eng
end
section
set_option Elab.async false
set_option linter.all false
set_option maxRecDepth 100000
set_option maxHeartbeats 2000000
/-! EngH5: every statement that mS matches does what S means. -/
namespace Eng
open PySem PySem.Spec PyProof.Rows L2
def par2B (I : Info) (sc : Scope) (is : List Nat) (es : List E) (ts vs : List Expr) : Bool := match is, es, ts, vs with
  | [i, j], [a, b], [.Name x px, .Name y py], [va, vb] => decide (I.N[i]? = some x) && decide (I.N[j]? = some y) && decide (sc.names.lookup x = some .local) && decide (sc.names.lookup y = some .local) && decide (x ≠ y) && (py.line == px.line)
      && !([va, vb].all (foldedForSure 8)) && !([va, vb].all (constantsAlone 8)) && mE I none sc a va && mE I none sc b vb
  | _, _, _, _ => false
def par3B (I : Info) (sc : Scope) (is : List Nat) (es : List E) (ts vs : List Expr) : Bool := match is, ts, vs with
  | [i, j, l], [.Name x px, .Name y py, .Name z pz], [va, vb, vc] => decide (I.N[i]? = some x) && decide (I.N[j]? = some y) && decide (I.N[l]? = some z) && decide (sc.names.lookup x = some .local) && decide (sc.names.lookup y = some .local) && decide (sc.names.lookup z = some .local)
      && decide (x ≠ y) && decide (x ≠ z) && decide (y ≠ z) && (py.line == px.line) && (pz.line == px.line) && !([va, vb, vc].all (foldedForSure 8)) && !([va, vb, vc].all (constantsAlone 8)) && mEs I sc es [va, vb, vc]
  | _, _, _ => false
mutual
def mS (I : Info) (fb : Str → Bool) (sc : Scope) : S → Stmt → Bool
  | .asg tg e, st => match st with
    | .Assign [t] v _ => mT I fb sc tg t && mE I none sc e v && swNone sc t v
    | _ => false
  | .par is es, st => match st with
    | .Assign [.Tuple ts kt pt] (.Tuple vs k2 pt2) _ => par2B I sc is es ts vs || par3B I sc is es ts vs || (mTs I fb sc (is.map .one) ts && mEs I sc es vs && Nat.ble es.length 8 && swNone sc (.Tuple ts kt pt) (.Tuple vs k2 pt2))
    | _ => false
  | .setIx x i e, st => match st with
    | .Assign [.Subscript o k _] v _ => nmB I sc x o && mE I none sc i k && mE I none sc e v
    | _ => false
  | .augIx x i o e, st => match st with
    | .AugAssign (.Subscript ox k _) op v _ => decide (op = opOf o) && nmB I sc x ox && mE I none sc i k && mE I none sc e v
    | _ => false
  | .swapIx _ _ _ _ _ _, _ => false
  | .aug x o e, st => match st with
    | .AugAssign (.Name y _) op v _ => decide (op = opOf o) && decide (I.N[x]? = some y) && locB fb sc y && mE I none sc e v
    | _ => false
  | .app x e, st => match st with
    | .Expr (.Call (.Attribute (.Name y py) m ap) [v] [] cp) _ => decide (m = "append") && nmB I sc x (.Name y py) && (ap.endLine == cp.line) && mE I none sc e v
    | _ => false
  | .ext x e, st => match st with
    | .Expr (.Call (.Attribute (.Name y py) m ap) [v] [] cp) _ => decide (m = "extend") && nmB I sc x (.Name y py) && (ap.endLine == cp.line) && mE I none sc e v
    | _ => false
  | .ret _ e, st => match st with
    | .Return (some v) _ => mE I none sc e v
    | _ => false
  | .ite c a b, st => match st with
    | .If c' a' b' _ => mE I none sc c c' && mSs I fb sc a a' && mSs I fb sc b b'
    | _ => false
  | .loop _ tg it body, st => match st with
    | .For t it' body' [] _ => mT I fb sc tg t && mE I (some t) sc it it' && mSs I fb sc body body'
    | _ => false
  | .wh _ c body, st => match st with
    | .While c' body' [] _ => mE I none sc c c' && mSs I fb sc body body'
    | _ => false
  | .brk, st => match st with
    | .Break _ => true
    | _ => false
  | .cont, st => match st with
    | .Continue _ => true
    | _ => false
  | .pass, st => match st with
    | .Pass _ => true
    | _ => false
  | .fre _, _ => false
def mSs (I : Info) (fb : Str → Bool) (sc : Scope) : List S → List Stmt → Bool
  | [], sts => sts.isEmpty
  | .fre _ :: ss, sts => mSs I fb sc ss sts
  | s :: ss, sts => match sts with
    | st :: sts => mS I fb sc s st && mSs I fb sc ss sts
    | [] => false
end
section
variable {I : Info} {Γ : Fs} {fb : Str → Bool} {sc : Scope} {X : Cx} {W : Nat}
def swB (sc : Scope) (y : Str) (py pos : Pos) (scope : Scope) : Bool := (sc.names.lookup y == some .local) && py.line == pos.line && !(scope.names.any fun (n, k) => n == y && (k == .local || k == .cell))
theorem sw_comp {y : Str} {py pos : Pos} {elt : Expr} {gs : List Comprehension} {scope : Scope} {l : Nat} (hs : X.env.scope = sc) (hk : sc.kind = .function) : swapsWith (.ListComp elt gs scope pos) (some (.Name y py)) l X.env = pure (swB sc y py pos scope) := by
  have ky : X.env.kindOf y = sc.names.lookup y := by unfold Env.kindOf; rw [hs]
  have hb : X.env.blockKind = .function := by unfold Env.blockKind; rw [hs, hk]; rfl
  unfold swapsWith swB
  simp only [hb, ky, Expr.pos]
  rfl
theorem stm_asg (c : CxF I Γ fb sc X) (hkd : sc.kind = .function) {tg : Tg} {e : E} {t v : Expr} {pos : Pos} {τl : Option (List Bool)} {τ τ' : List Bool} (hk : ck τl (.asg tg e) τ = some τ') (h1 : mT I fb sc tg t = true) (h2 : mE I none sc e v = true) (h3 : swNone sc t v = true) :
    PS X (.Assign [t] v pos) (tS X.K Γ W τl τ τ' (.asg tg e)) := by
  have pe := (snd0 e c h2).pe
  by_cases hsw : swapsWithSole [t] v pos.line X.env = pure false
  · exact s_asg c hk h1 pe h3 hsw
  · -- a comprehension and a name
    cases tg with
    | many ts =>
      refine absurd ?_ hsw
      simp only [mT] at h1
      split at h1
      · cases v <;> rfl
      · cases h1
    | one i =>
      simp only [mT] at h1
      split at h1
      · rename_i y py
        rw [Bool.and_eq_true] at h1
        cases v with
        | ListComp elt' gs scope p2 =>
          have e1 := sw_comp (X := X) (y := y) (py := py) (pos := p2) (elt := elt') (gs := gs) (scope := scope) (l := pos.line) c.sc hkd
          cases hB : swB sc y py p2 scope with
          | false => exact absurd (e1.trans (by rw [hB])) hsw
          | true =>
            rw [hB] at e1
            unfold swB at hB
            simp only [Bool.and_eq_true, beq_iff_eq] at hB
            cases e with
            | comp tg own it cond elt =>
              have h2' := h2
              unfold mE at h2
              split at h2
              · rename_i elt2 tg' iter ifs a scope2 pos2 heq
                cases heq
                simp only [Bool.and_eq_true, decide_eq_true_eq] at h2
                obtain ⟨⟨⟨⟨⟨⟨⟨rfl, b1⟩, b2⟩, b3⟩, b4⟩, b5⟩, b6⟩, b7⟩ := h2
                have hall : ∀ i ∈ tgSlots tg, i ∈ own.map (·.2) := fun i hi => by
                  have := List.all_eq_true.mp b4 i hi
                  simpa using this
                have hN : I.N[i]? = some y := of_decide_eq_true h1.1
                refine (ps_comp (i := i) c hN hB.1.1 e1 b1 (sndI it tg' c b2) (fun x => fold_of (mE_plain b2) _ x) b3 hall (fun s H C cl fp => ?_) fun s H C cl fp => (snd0 elt (c.blk scope s H C cl fp) b7).pe).engImp (asg_read (tg := .one i) hk)
                match cond, ifs, b5, b6 with
                | [], [], _, _ => exact pts_nil
                | [k], [k'], _, h6 =>
                  simp only [mEs, Bool.and_eq_true] at h6
                  exact pts_one (snd0 k (c.blk scope s H C cl fp) h6.1).pt
                | [], _ :: _, _, h6 => simp [mEs] at h6
                | [_], [], _, h6 => simp [mEs] at h6
                | [_], _ :: _ :: _, _, h6 => simp [mEs] at h6
                | _ :: _ :: _, _, h5, _ => exact absurd (Nat.le_of_ble_eq_true h5) (by simp)
              · cases h2
            | comp2 tg tg1 own it it1 cond elt =>
              unfold mE at h2
              split at h2
              · rename_i elt2 tg' iter a tg1' iter1 ifs a1 scope2 pos2 heq
                cases heq
                simp only [Bool.and_eq_true, decide_eq_true_eq] at h2
                obtain ⟨⟨⟨⟨⟨⟨⟨⟨⟨⟨⟨⟨rfl, rfl⟩, b1⟩, b2⟩, b3⟩, b4⟩, g1⟩, g2⟩, g3⟩, g4⟩, b5⟩, b6⟩, b7⟩ := h2
                have hall : ∀ i ∈ tgSlots tg, i ∈ own.map (·.2) := fun i hi => by
                  have := List.all_eq_true.mp b4 i hi
                  simpa using this
                have hall1 : ∀ i ∈ tgSlots tg1, i ∈ own.map (·.2) := fun i hi => by
                  have := List.all_eq_true.mp g4 i hi
                  simpa using this
                have hN : I.N[i]? = some y := of_decide_eq_true h1.1
                refine (ps_comp2 (i := i) c hN hB.1.1 e1 b1 (sndI it tg' c b2) (fun x => fold_of (mE_plain b2) _ x) b3 hall g1 (fun s H C cl fp => sndI it1 tg1' (c.blk scope s H C cl fp) g2) (fun env x => fold_of (mE_plain g2) env x) g3 hall1 (fun s H C cl fp => ?_) fun s H C cl fp => (snd0 elt (c.blk scope s H C cl fp) b7).pe).engImp (asg_read (tg := .one i) hk)
                match cond, ifs, b5, b6 with
                | [], [], _, _ => exact pts_nil
                | [k], [k'], _, h6 =>
                  simp only [mEs, Bool.and_eq_true] at h6
                  exact pts_one (snd0 k (c.blk scope s H C cl fp) h6.1).pt
                | [], _ :: _, _, h6 => simp [mEs] at h6
                | [_], [], _, h6 => simp [mEs] at h6
                | [_], _ :: _ :: _, _, h6 => simp [mEs] at h6
                | _ :: _ :: _, _, h5, _ => exact absurd (Nat.le_of_ble_eq_true h5) (by simp)
              · cases h2
            | _ => simp [mE, nmB, cstB] at h2
        | SetComp a b d f => cases e <;> simp [mE, nmB, cstB] at h2
        | DictComp a b d f g => cases e <;> simp [mE, nmB, cstB] at h2
        | _ => exact absurd rfl hsw
      · cases h1
theorem star_no : ∀ e : Expr, plainE e = true → (match e with | .Starred .. => true | _ => false) = false := by
  intro e h
  cases e <;> first | rfl | cases h
theorem mEs_plain : ∀ {ms : List E} {es : List Expr}, mEs I sc ms es = true → ∀ e ∈ es, plainE e = true
  | [], [], _, e, h => by cases h
  | m :: ms, e :: es, h, x, hx => by
    simp only [mEs, Bool.and_eq_true] at h
    rcases List.mem_cons.mp hx with rfl | hx
    · exact mE_plain h.1
    · exact mEs_plain h.2 x hx
  | [], _ :: _, h, _, _ => by simp [mEs] at h
  | _ :: _, [], h, _, _ => by simp [mEs] at h
theorem mSs_cons {s : S} {ss : List S} {sts : List Stmt} (h : mSs I fb sc (s :: ss) sts = true) : (∃ x, s = .fre x ∧ mSs I fb sc ss sts = true) ∨ ∃ st rest, sts = st :: rest ∧ mS I fb sc s st = true ∧ mSs I fb sc ss rest = true := by
  cases s <;> first
    | exact .inl ⟨_, rfl, by simpa [mSs] using h⟩
    | (cases sts with
       | nil => simp [mSs] at h
       | cons st rest =>
         simp only [mSs, Bool.and_eq_true] at h
         exact .inr ⟨st, rest, rfl, h.1, h.2⟩)
mutual
theorem stm (c : CxF I Γ fb sc X) (hp : PassesOwn (model X.prog X.w) X.A X.env X.xe) (hkd : sc.kind = .function) : ∀ (s : S) {st : Stmt} {τl : Option (List Bool)} {τ τ' : List Bool}, mS I fb sc s st = true → ck τl s τ = some τ' → PS X st (tS X.K Γ W τl τ τ' s)
  | .asg tg e, st, τl, τ, τ', h, hk => by
    unfold mS at h
    split at h
    · simp only [Bool.and_eq_true] at h
      exact stm_asg c hkd hk h.1.1 h.1.2 h.2
    · cases h
  | .par is es, st, τl, τ, τ', h, hk => by
    unfold mS at h
    split at h
    · rw [Bool.or_eq_true, Bool.or_eq_true] at h
      rcases h with (h | h) | h
      · unfold par2B at h
        split at h
        · simp only [Bool.and_eq_true, decide_eq_true_eq, Bool.not_eq_true'] at h
          obtain ⟨⟨⟨⟨⟨⟨⟨⟨⟨h1, h2⟩, h3⟩, h4⟩, h5⟩, h6⟩, h7⟩, h8⟩, h9⟩, h10⟩ := h
          have pa := mE_plain h9
          have pb := mE_plain h10
          refine s_par2 c hk h1 h2 h3 h4 (snd0 _ c h9).pe (snd0 _ c h10).pe pa pb (sw_some c.sc hkd h3 h4 h5 h6 rfl ?_ h7 h8)
          exact Bool.or_eq_false_iff.mpr ⟨star_no _ pa, Bool.or_eq_false_iff.mpr ⟨star_no _ pb, rfl⟩⟩
        · cases h
      · unfold par3B at h
        split at h
        · simp only [Bool.and_eq_true, decide_eq_true_eq, Bool.not_eq_true'] at h
          obtain ⟨⟨⟨⟨⟨⟨⟨⟨⟨⟨⟨⟨⟨h1, h2⟩, h3⟩, h4⟩, h5⟩, h6⟩, h7⟩, h8⟩, h9⟩, h10⟩, h11⟩, h12⟩, h13⟩, h14⟩ := h
          refine s_par3 c hk h1 h2 h3 h4 h5 h6 h14 (sw_some3 c.sc hkd h4 h5 h6 h7 h8 h9 h10 h11 rfl ?_ h12 h13)
          have pl := mEs_plain h14
          exact Bool.or_eq_false_iff.mpr ⟨star_no _ (pl _ (by simp)), Bool.or_eq_false_iff.mpr ⟨star_no _ (pl _ (by simp)), Bool.or_eq_false_iff.mpr ⟨star_no _ (pl _ (by simp)), rfl⟩⟩⟩
        · cases h
      · simp only [Bool.and_eq_true] at h
        exact s_parT c hk h.1.1.1 h.1.1.2 h.1.2 h.2
    · cases h
  | .setIx x i e, st, τl, τ, τ', h, hk => by
    unfold mS at h
    split at h
    · simp only [Bool.and_eq_true] at h
      exact s_setIx c hk h.1.1 (snd0 i c h.1.2).pe (mE_plain h.1.2) (snd0 e c h.2).pe rfl
    · cases h
  | .augIx x i o e, st, τl, τ, τ', h, hk => by
    unfold mS at h
    split at h
    · simp only [Bool.and_eq_true, decide_eq_true_eq] at h
      obtain ⟨⟨⟨rfl, h1⟩, h2⟩, h3⟩ := h
      exact s_augIx c hk h1 (snd0 i c h2).pe (mE_plain h2) (snd0 e c h3).pe
    · cases h
  | .swapIx _ _ _ _ _ _, st, τl, τ, τ', h, hk => by
    unfold mS at h
    cases h
  | .aug x o e, st, τl, τ, τ', h, hk => by
    unfold mS at h
    split at h
    · simp only [Bool.and_eq_true, decide_eq_true_eq] at h
      obtain ⟨⟨⟨rfl, h1⟩, h2⟩, h3⟩ := h
      exact s_aug c hk h1 h2 (snd0 e c h3).pe
    · cases h
  | .app x e, st, τl, τ, τ', h, hk => by
    unfold mS at h
    split at h
    · simp only [Bool.and_eq_true, decide_eq_true_eq] at h
      obtain ⟨⟨⟨rfl, h1⟩, h2⟩, h3⟩ := h
      exact s_app c hk h1 (mE_plain h3) h2 (snd0 e c h3).pe rfl
    · cases h
  | .ext x e, st, τl, τ, τ', h, hk => by
    unfold mS at h
    split at h
    · simp only [Bool.and_eq_true, decide_eq_true_eq] at h
      obtain ⟨⟨⟨rfl, h1⟩, h2⟩, h3⟩ := h
      exact s_ext c hk h1 (mE_plain h3) h2 (snd0 e c h3).pe rfl
    · cases h
  | .ret fr e, st, τl, τ, τ', h, hk => by
    unfold mS at h
    split at h
    · refine s_ret c hk (snd0 e c h).pe fun i z => ?_
      subst z
      unfold mE at h
      exact h
    · cases h
  | .ite k a b, st, τl, τ, τ', h, hk => by
    unfold mS at h
    split at h
    · simp only [Bool.and_eq_true] at h
      simp only [ck] at hk
      split at hk
      · rename_i hg
        simp only [Option.bind_eq_some_iff, Option.map_eq_some_iff] at hk
        obtain ⟨t, ht, u, hu, rfl⟩ := hk
        exact s_ite hg (snd0 k c h.1.1).pt (stms c hp hkd a h.1.2 ht) (stms c hp hkd b h.2 hu)
      · cases hk
    · cases h
  | .loop w tg it body, st, τl, τ, τ', h, hk => by
    unfold mS at h
    split at h
    · simp only [Bool.and_eq_true] at h
      simp only [ck] at hk
      split at hk
      · rename_i hg
        simp only [Bool.and_eq_true, Bool.or_eq_true] at hg
        simp only [Option.bind_eq_some_iff, Option.ite_none_right_eq_some, Option.some.injEq] at hk
        obtain ⟨t, ht, hle, rfl⟩ := hk
        exact s_loop c hp (fun x => fold_of (mE_plain h.1.2) _ x) hg.1 hg.2 hle (sndI it _ c h.1.2) (l_tg c h.1.1) (stms c hp hkd body h.2 ht)
      · cases hk
    · cases h
  | .wh w k body, st, τl, τ, τ', h, hk => by
    unfold mS at h
    split at h
    · simp only [Bool.and_eq_true] at h
      simp only [ck] at hk
      split at hk
      · rename_i hg
        simp only [Option.bind_eq_some_iff, Option.ite_none_right_eq_some, Option.some.injEq] at hk
        obtain ⟨t, ht, hle, rfl⟩ := hk
        exact s_wh hp hg hle (snd0 k c h.1).pt (stms c hp hkd body h.2 ht)
      · cases hk
    · cases h
  | .brk, st, τl, τ, τ', h, hk => by
    unfold mS at h
    split at h
    · exact s_brk hk
    · cases h
  | .cont, st, τl, τ, τ', h, hk => by
    unfold mS at h
    split at h
    · exact s_cont hk
    · cases h
  | .pass, st, τl, τ, τ', h, hk => by
    unfold mS at h
    split at h
    · exact s_pass hk
    · cases h
  | .fre _, st, τl, τ, τ', h, hk => by
    unfold mS at h
    cases h
theorem stms (c : CxF I Γ fb sc X) (hp : PassesOwn (model X.prog X.w) X.A X.env X.xe) (hkd : sc.kind = .function) : ∀ (ss : List S) {sts : List Stmt} {τl : Option (List Bool)} {τ τ' : List Bool}, mSs I fb sc ss sts = true → cks τl ss τ = some τ' → PSs X sts (tSs X.K Γ W τl τ τ' ss)
  | [], sts, τl, τ, τ', h, hk => by
    simp only [mSs, List.isEmpty_iff] at h
    simp only [cks, Option.some.injEq] at hk
    subst h hk
    exact q_nil
  | s :: ss, sts, τl, τ, τ', h, hk => by
    simp only [cks, Option.bind_eq_some_iff] at hk
    obtain ⟨t, ht, hk⟩ := hk
    rcases mSs_cons h with ⟨x, rfl, h2⟩ | ⟨st, rest, rfl, h1, h2⟩
    · simp only [ck, Option.some.injEq] at ht
      subst ht
      exact q_fre (stms c hp hkd ss h2 hk)
    · exact q_cons (stm c hp hkd s h1 ht) (stms c hp hkd ss h2 hk)
end
end
end Eng
end
section
set_option Elab.async false
set_option linter.all false
set_option maxRecDepth 100000
set_option maxHeartbeats 2000000
/-! EngI: a def does what its body means; the head with builtins. -/
namespace Eng
open PySem PySem.Spec PyProof.Rows L2
section
variable {P : Program} {w : World} {K : PySem.W.Frag} {mg : Str → Option Value} {base : Heap}
/-- a def's function keeps the promise -/
def Keeps (P : Program) (w : World) (K : PySem.W.Frag) (mg : Str → Option Value) (base : Heap) (k : Nat) (x : Str) (n : Nat) (sem : List D → Option D) : Prop :=
  ∃ (f : Addr) (fd : FuncData) (ps : List Str), mg x = some (.ref f) ∧ PySem.W.keepIn K (.ref f) = true ∧ Binds K fd ps [] ∧ FnOk P w K mg base L2.CX0 k f fd ps (spD K n sem)
theorem spD_start {N : List Str} {n : Nat} {vs : List V} {H : Hp} {ok : Addr → Prop} {ds : List D} (hN : N.length = n) (hok : Okn H ok) (r : Reps K H ok ds vs) :
    SR K H ok (List.replicate n false) (fun _ => False) H (L2.start N vs) (ds.map some ++ List.replicate (n - ds.length) none) := by
  have hl := r.length
  refine ⟨Same.refl _, hok, fun _ z => z.elim, ?_, fun i d h => ?_, fun _ _ _ z => z.elim⟩
  · simp [L2.start, hl, hN]
  · have hi : i < ds.length := by
      rcases Nat.lt_or_ge i ds.length with q | q
      · exact q
      · rw [List.getElem?_append_right (by simpa using q)] at h
        rw [List.getElem?_replicate] at h
        split at h <;> cases h
    rw [List.getElem?_append_left (by simpa using hi), List.getElem?_map] at h
    cases hd : ds[i]? with
    | none => rw [hd] at h; cases h
    | some e =>
      rw [hd] at h
      cases h
      obtain ⟨v, hv, rv⟩ := r.get hd
      refine ⟨v, ?_, .inr ⟨rv.weak fun b h => ⟨h, fun z => z⟩, fun z => ?_⟩⟩
      · unfold L2.start
        rw [List.getElem?_append_left (by simp [hl, hi]), List.getElem?_map, hv]
        rfl
      · rw [List.getD_eq_getElem?_getD, List.getElem?_replicate] at z
        split at z <;> cases z
/-- what a def needs of the text -/
structure DefOk (I : Info) (ps : List Str) (scope : Scope) (body : List Stmt) (bd : List S) : Prop where
  sc : FnScope I.N ps scope
  m : mSs I (fun _ => true) scope bd body = true
  ck : (cks none bd (List.replicate I.N.length false)).isSome = true
/-- what a def needs of the world -/
structure Wld (I : Info) (P : Program) (w : World) (K : PySem.W.Frag) (mg : Str → Option Value) (base : Heap) (k : Nat) (Γ : Fs) : Prop where
  fns : ∀ f x n, I.G[f]? = some (x, n) → Keeps P w K mg base k x n (Γ f)
  blt : ∀ b : Bi, b ≠ .isqrt → mg (biNm b) = none
  ty : ∀ x : Str, x = "bool" ∨ x = "str" ∨ x = "set" → mg x = none
  con : ∀ x i, (x, i) ∈ I.C → ∃ t, mg x = some (.int i t)
  isq : I.isq = true → mg "isqrt" = some (.builtin "math.isqrt")
theorem def_ok {I : Info} {x qual : Str} {params : Arguments} {body : List Stmt} {scope : Scope} {f : Addr} {fd : FuncData} {ps : List Str} {bd : List S} {k W : Nat} {Γ : Fs} (F : FunD K x qual params body scope [] [] f fd) (d : DefOk I ps scope body bd) (W0 : Wld I P w K mg base k Γ) :
    FnOk P w K mg base L2.CX0 (k + 1) f fd ps (spD K ps.length (run Γ W I.N.length bd)) := by
  obtain ⟨τ', hck⟩ := Option.isSome_iff_exists.mp d.ck
  refine F.ok d.sc (fun vs H Q E h => ?_) fun cdv A outer s H vs Q E hr h => ⟨tSs K Γ W none (List.replicate I.N.length false) τ' bd, PSs.nox ?_, ?_⟩
  · obtain ⟨ok, ds, d', _, r, hl, _⟩ := h
    rw [r.length, hl]
  · have hun := hr.un
    exact stms (I := I) (Γ := Γ) (fb := fun _ => true) (sc := scope) (W := W) (X := (cxOf L2.CX0 P w K mg base I.N qual scope f cdv A outer s H E).nox)
      ⟨rfl, rfl, d.sc.nd, rfl, fun _ _ => rfl, by show (A.deeper _).units + 100 < cLine; omega, fun f x n e => by
        obtain ⟨fa, fd', ps', h1, h2, h3, h4⟩ := W0.fns f x n e
        exact ⟨fa, fd', ps', k, h1, h2, h3, h4, hr⟩, W0.blt, W0.ty, W0.con, W0.isq⟩ PassesOwn.never d.sc.kind bd d.m hck
  · obtain ⟨ok, ds, d', hok, r, hl, hs, q⟩ := h
    unfold run at hs
    simp only [Option.bind_eq_some_iff] at hs
    obtain ⟨fl, hx, hs⟩ := hs
    refine ⟨H, ok, fun _ => False, _, fl, spD_start rfl hok r, hx, ?_⟩
    cases fl with
    | nx σ' =>
      cases hs
      exact fun F' σV' H' R' _ _ => q V.non H' R'.same (Or.inr ⟨fun _ e => (nomatch e), Rep.non⟩)
    | rt d2 =>
      cases hs
      exact fun v H' s' rv => q v H' s' rv
    | bk σ' => cases hs
    | ct σ' => cases hs
/-- a plainer meaning -/
theorem spD_imp {n : Nat} {sem sem' : List D → Option D} (h : ∀ ds d, sem' ds = some d → sem ds = some d) : ∀ vs H Q E, spD K n sem' vs H Q E → spD K n sem vs H Q E := fun vs H Q E ⟨ok, ds, d, h1, h2, h3, h4, h5⟩ => ⟨ok, ds, d, h1, h2, h3, h ds d h4, h5⟩
theorem Keeps.imp {k n : Nat} {x : Str} {sem sem' : List D → Option D} (h : ∀ ds d, ds.length = n → sem' ds = some d → sem ds = some d) (q : Keeps P w K mg base k x n sem) : Keeps P w K mg base k x n sem' := by
  obtain ⟨f, fd, ps, h1, h2, h3, h4⟩ := q
  exact ⟨f, fd, ps, h1, h2, h3, h4.imp fun vs H Q E ⟨ok, ds, d, g1, g2, g3, g4, g5⟩ => ⟨ok, ds, d, g1, g2, g3, h ds d g3 g4, g5⟩⟩
theorem Keeps.mono {j k n : Nat} {x : Str} {sem : List D → Option D} (q : Keeps P w K mg base j x n sem) (h : j ≤ k) : Keeps P w K mg base k x n sem := by
  obtain ⟨f, fd, ps, h1, h2, h3, h4⟩ := q
  exact ⟨f, fd, ps, h1, h2, h3, h4.mono h⟩
/-- nothing is promised -/
theorem Keeps.zero {k : Nat} {x : Str} {ps : List Str} {f : Addr} {fd : FuncData} (h1 : mg x = some (.ref f)) (h2 : PySem.W.keepIn K (.ref f) = true) (h3 : Binds K fd ps []) : Keeps P w K mg base k x ps.length (fun _ => none) :=
  ⟨f, fd, ps, h1, h2, h3, fun vs H Q E h => by obtain ⟨ok, ds, d', _, r, hl, _⟩ := h; rw [r.length, hl], fun A outer s H args us vs Q E _ _ _ _ h => by obtain ⟨_, _, _, _, _, _, z, _⟩ := h; cases z⟩
theorem Keeps.of {k n : Nat} {x : Str} {ps : List Str} {f : Addr} {fd : FuncData} {sem : List D → Option D} (h1 : mg x = some (.ref f)) (h2 : PySem.W.keepIn K (.ref f) = true) (h3 : Binds K fd ps []) (h : FnOk P w K mg base L2.CX0 k f fd ps (spD K n sem)) : Keeps P w K mg base k x n sem := ⟨f, fd, ps, h1, h2, h3, h⟩
end
/-- the law's own promise, of a script that none writes -/
theorem spD_law {K : PySem.W.Frag} {sem : List D → Option D} {H : Hp} {a : Addr} {ns : List Int} (hO : Only H) (hS : SqL K H a (ns.map V.int)) (h : sem [frz (ns.map PyData.int)] = some (.bool true)) : spD K 1 sem [.ref a] H (fun v _ => v = .bl true) fun _ _ _ => False := by
  have hF : SqF K H a (ns.map V.int) := by
    rcases hS with (h | ⟨o, h⟩) | h
    · rcases hO a with e | ⟨o, xs, e⟩
      · rw [e] at h; cases h
      · rw [e] at h; cases h
    · exact .inl ⟨o, h⟩
    · exact .inr h
  refine ⟨fun _ => True, [frz (ns.map PyData.int)], .bool true, fun _ _ => trivial, .cons (.frz hF (Reps.ints ns)) .nil, rfl, h, fun v H' _ rv => ?_⟩
  exact (RN.ro rv).bl
/-! ### the head, with the builtins that the top names -/
def bltOk (bs : List (Str × String)) (K : PySem.W.Frag) : Bool := bs.all fun p => He.eqO (PySem.W.nsIn K mainGlobals p.1) (some (some (.builtin p.2)))
abbrev AlB : Type := Bool × He.AlD
def obsB (n : Nat) (fa : List He.Fa) (fn : List He.DefD) (bs : List (Str × String)) (g : Addr → Option Obj) : AlB := (bltOk bs (He.frG g (He.asD g n)), He.obsD fa fn (He.frG g (He.asD g n)))
def hookB (n : Nat) (fa : List He.Fa) (fn : List He.DefD) (bs : List (Str × String)) : PySem.W.Hook where
  α := AlB
  obs := fun s => obsB n fa fn bs s.heap.get?
  val := fun _ => (true, He.valD fn)
  says := fun _ h => ∃ K : PySem.W.Frag, K.In h ∧ He.SaysD fa fn K ∧ bltOk bs K = true
  of := fun _ _ e => ⟨_, He.frG_in, congrArg Prod.snd e, congrArg Prod.fst e⟩
  keeps := fun _ _ _ ⟨K, hK, c⟩ k => ⟨K, PySem.W.Frag.In.keeps hK k, c⟩
theorem obsB_eq {n : Nat} {fa : List He.Fa} {fn : List He.DefD} {bs : List (Str × String)} {g : Addr → Option Obj} {s : Shared} (h : ∀ a, g a = s.heap.get? a) : obsB n fa fn bs g = (hookB n fa fn bs).obs s := by
  have e : g = s.heap.get? := funext h
  rw [e] <;> rfl
theorem blt_ok {K : PySem.W.Frag} {h : Heap} {mg : Str → Option Value} {bs : List (Str × String)} (X : K.In h) (G : h.Ns mainGlobals mg) (c : bltOk bs K = true) {x : Str} {id : String} (m : (x, id) ∈ bs) : mg x = some (.builtin id) :=
  PySem.W.mg_of X G (He.eqO_ok (List.all_eq_true.mp c _ m))
end Eng
end
section
set_option Elab.async false
set_option linter.all false
set_option maxRecDepth 100000
set_option maxHeartbeats 4000000
namespace K12
open PySem PySem.Spec PyProof.Rows L2 Eng
abbrev top (i : Nat) : Stmt := PySem.Challenge.pw_rootstold_k12_whole_divisors_and_remaind.main.body.getD i (.Pass ⟨0, 0, 0, 0⟩)
def I_divisor : Info := { N := ["first", "second"], G := [], C := [], isq := false }
def b_divisor : List S := [
  .par [0, 1] [(.bi .abs [(.var 0)]), (.bi .abs [(.var 1)])],
  .wh [0] (.cmp .gt (.var 1) (.cst (.int 0)))
    [.fre 1,
    .par [0, 1] [(.var 1), (.bin .mod (.var 0) (.var 1))]],
  .ret false (.var 0)]
def g_divisor : Fs
  | _ => fun _ => none
def s_divisor : List D → Option D := run g_divisor 1000000 I_divisor.N.length b_divisor
theorem d_divisor : DefOk I_divisor ["first", "second"] (defScope (top 1)) (defBody (top 1)) b_divisor := ⟨⟨rfl, rfl, rfl, by decide +kernel, rfl, by decide +kernel, by decide +kernel⟩, by decide +kernel, by decide +kernel⟩
def I_power : Info := { N := ["base", "times", "product", "_"], G := [], C := [], isq := false }
def b_power : List S := [
  .asg (.one 2) (.cst (.int 1)),
  .loop [2] (.one 3) (.bi .range [(.var 1)])
    [.aug 2 .mul (.var 0)],
  .ret false (.var 2)]
def g_power : Fs
  | _ => fun _ => none
def s_power : List D → Option D := run g_power 1000000 I_power.N.length b_power
theorem d_power : DefOk I_power ["base", "times"] (defScope (top 2)) (defBody (top 2)) b_power := ⟨⟨rfl, rfl, rfl, by decide +kernel, rfl, by decide +kernel, by decide +kernel⟩, by decide +kernel, by decide +kernel⟩
def I_shared : Info := { N := ["a", "b"], G := [("divisor", 2)], C := [], isq := false }
def b_shared : List S := [
  .ret true (.call 0 false [(.var 0), (.var 1)])]
def g_shared : Fs
  | 0 => s_divisor
  | _ => fun _ => none
def s_shared : List D → Option D := run g_shared 1000000 I_shared.N.length b_shared
theorem d_shared : DefOk I_shared ["a", "b"] (defScope (top 4)) (defBody (top 4)) b_shared := ⟨⟨rfl, rfl, rfl, by decide +kernel, rfl, by decide +kernel, by decide +kernel⟩, by decide +kernel, by decide +kernel⟩
def I_shared_sum : Info := { N := ["a", "b", "g", "rest", "u", "later", "whole"], G := [], C := [], isq := false }
def b_shared_sum : List S := [
  .par [2, 3] [(.var 0), (.var 1)],
  .asg (.many [(.one 4), (.one 5)]) (.tup [(.cst (.int 1)), (.cst (.int 0))]),
  .wh [] (.cmp .gt (.var 3) (.cst (.int 0)))
    [.asg (.one 6) (.bin .fdiv (.var 2) (.var 3)),
    .par [2, 3] [(.var 3), (.bin .sub (.var 2) (.bin .mul (.var 6) (.var 3)))],
    .par [4, 5] [(.var 5), (.bin .sub (.var 4) (.bin .mul (.var 6) (.var 5)))]],
  .asg (.one 4) (.bin .mod (.var 4) (.bin .fdiv (.var 1) (.var 2))),
  .fre 4,
  .ret true (.tup [(.var 2), (.var 4), (.bin .fdiv (.bin .sub (.var 2) (.bin .mul (.var 0) (.var 4))) (.var 1))])]
def g_shared_sum : Fs
  | _ => fun _ => none
def s_shared_sum : List D → Option D := run g_shared_sum 1000000 I_shared_sum.N.length b_shared_sum
theorem d_shared_sum : DefOk I_shared_sum ["a", "b"] (defScope (top 5)) (defBody (top 5)) b_shared_sum := ⟨⟨rfl, rfl, rfl, by decide +kernel, rfl, by decide +kernel, by decide +kernel⟩, by decide +kernel, by decide +kernel⟩
def I_solutions : Info := { N := ["a", "b", "c", "g", "u", "_", "step", "x"], G := [("shared_sum", 2)], C := [], isq := false }
def b_solutions : List S := [
  .asg (.many [(.one 3), (.one 4), (.one 5)]) (.call 0 false [(.var 0), (.var 1)]),
  .ite (.cmp .ne (.bin .mod (.var 2) (.var 3)) (.cst (.int 0)))
    [.ret true (.cst .none)]
    [],
  .asg (.one 6) (.bin .fdiv (.var 1) (.var 3)),
  .asg (.one 7) (.bin .mod (.bin .mul (.var 4) (.bin .fdiv (.var 2) (.var 3))) (.var 6)),
  .fre 7,
  .fre 6,
  .ret true (.tup [(.var 7), (.bin .fdiv (.bin .sub (.var 2) (.bin .mul (.var 0) (.var 7))) (.var 1)), (.var 6), (.neg (.bin .fdiv (.var 0) (.var 3)))])]
def g_solutions : Fs
  | 0 => s_shared_sum
  | _ => fun _ => none
def s_solutions : List D → Option D := run g_solutions 1000000 I_solutions.N.length b_solutions
theorem d_solutions : DefOk I_solutions ["a", "b", "c"] (defScope (top 6)) (defBody (top 6)) b_solutions := ⟨⟨rfl, rfl, rfl, by decide +kernel, rfl, by decide +kernel, by decide +kernel⟩, by decide +kernel, by decide +kernel⟩
def I_count_solutions : Info := { N := ["a", "b", "c", "found"], G := [("solutions", 3)], C := [], isq := false }
def b_count_solutions : List S := [
  .asg (.one 3) (.call 0 false [(.var 0), (.var 1), (.var 2)]),
  .ite (.or (.cmp .is (.var 3) (.cst .none)) (.cmp .gt (.bin .mul (.var 0) (.idx (.var 3) (.cst (.int 0)))) (.var 2)))
    [.ret true (.cst (.int 0))]
    [],
  .ret true (.bin .add (.bin .fdiv (.bin .sub (.bin .fdiv (.var 2) (.var 0)) (.idx (.var 3) (.cst (.int 0)))) (.idx (.var 3) (.cst (.int 2)))) (.cst (.int 1)))]
def g_count_solutions : Fs
  | 0 => s_solutions
  | _ => fun _ => none
def s_count_solutions : List D → Option D := run g_count_solutions 1000000 I_count_solutions.N.length b_count_solutions
theorem d_count_solutions : DefOk I_count_solutions ["a", "b", "c"] (defScope (top 7)) (defBody (top 7)) b_count_solutions := ⟨⟨rfl, rfl, rfl, by decide +kernel, rfl, by decide +kernel, by decide +kernel⟩, by decide +kernel, by decide +kernel⟩
def I_primes_of : Info := { N := ["n", "found", "part", "often"], G := [], C := [], isq := false }
def b_primes_of : List S := [
  .asg (.one 1) (.lst []),
  .asg (.one 2) (.cst (.int 2)),
  .wh [2] (.cmp .le (.bin .mul (.var 2) (.var 2)) (.var 0))
    [.asg (.one 3) (.cst (.int 0)),
    .wh [3] (.cmp .eq (.bin .mod (.var 0) (.var 2)) (.cst (.int 0)))
      [.aug 0 .fdiv (.var 2),
      .aug 3 .add (.cst (.int 1))],
    .ite (.cmp .gt (.var 3) (.cst (.int 0)))
      [.app 1 (.tup [(.var 2), (.var 3)])]
      [],
    .aug 2 .add (.cst (.int 1))],
  .ite (.cmp .gt (.var 0) (.cst (.int 1)))
    [.app 1 (.tup [(.var 0), (.cst (.int 1))])]
    [],
  .ret true (.bi .tuple [(.var 1)])]
def g_primes_of : Fs
  | _ => fun _ => none
def s_primes_of : List D → Option D := run g_primes_of 1000000 I_primes_of.N.length b_primes_of
theorem d_primes_of : DefOk I_primes_of ["n"] (defScope (top 8)) (defBody (top 8)) b_primes_of := ⟨⟨rfl, rfl, rfl, by decide +kernel, rfl, by decide +kernel, by decide +kernel⟩, by decide +kernel, by decide +kernel⟩
def I_divisors : Info := { N := ["n", "found", "prime", "often", "part", "k"], G := [("primes_of", 1), ("power", 2)], C := [], isq := false }
def b_divisors : List S := [
  .asg (.one 1) (.lst [(.cst (.int 1))]),
  .loop [] (.many [(.one 2), (.one 3)]) (.call 0 false [(.var 0)])
    [.asg (.one 1) (.comp2 (.one 4) (.one 5) [("part", 4), ("k", 5)] (.var 1) (.bi .range [(.bin .add (.var 3) (.cst (.int 1)))]) [] (.bin .mul (.var 4) (.call 1 false [(.var 2), (.var 5)])))],
  .ret true (.bi .tuple [(.bi .sorted [(.var 1)])])]
def g_divisors : Fs
  | 0 => s_primes_of
  | 1 => s_power
  | _ => fun _ => none
def s_divisors : List D → Option D := run g_divisors 1000000 I_divisors.N.length b_divisors
theorem d_divisors : DefOk I_divisors ["n"] (defScope (top 9)) (defBody (top 9)) b_divisors := ⟨⟨rfl, rfl, rfl, by decide +kernel, rfl, by decide +kernel, by decide +kernel⟩, by decide +kernel, by decide +kernel⟩
def I_count_apart : Info := { N := ["n", "found", "prime", "often"], G := [("primes_of", 1), ("power", 2)], C := [], isq := false }
def b_count_apart : List S := [
  .asg (.one 1) (.cst (.int 1)),
  .loop [1] (.many [(.one 2), (.one 3)]) (.call 0 false [(.var 0)])
    [.aug 1 .mul (.bin .mul (.bin .sub (.var 2) (.cst (.int 1))) (.call 1 false [(.var 2), (.bin .sub (.var 3) (.cst (.int 1)))]))],
  .ret false (.var 1)]
def g_count_apart : Fs
  | 0 => s_primes_of
  | 1 => s_power
  | _ => fun _ => none
def s_count_apart : List D → Option D := run g_count_apart 1000000 I_count_apart.N.length b_count_apart
theorem d_count_apart : DefOk I_count_apart ["n"] (defScope (top 10)) (defBody (top 10)) b_count_apart := ⟨⟨rfl, rfl, rfl, by decide +kernel, rfl, by decide +kernel, by decide +kernel⟩, by decide +kernel, by decide +kernel⟩
def I_square_sign : Info := { N := ["n", "found", "pair"], G := [("primes_of", 1)], C := [], isq := false }
def b_square_sign : List S := [
  .asg (.one 1) (.call 0 false [(.var 0)]),
  .ite (.bi .any [(.comp (.one 2) [("pair", 2)] (.var 1) [] (.cmp .gt (.idx (.var 2) (.cst (.int 1))) (.cst (.int 1))))])
    [.ret true (.cst (.int 0))]
    [],
  .ret true (.bin .sub (.cst (.int 1)) (.bin .mul (.cst (.int 2)) (.bin .mod (.bi .len [(.var 1)]) (.cst (.int 2)))))]
def g_square_sign : Fs
  | 0 => s_primes_of
  | _ => fun _ => none
def s_square_sign : List D → Option D := run g_square_sign 1000000 I_square_sign.N.length b_square_sign
theorem d_square_sign : DefOk I_square_sign ["n"] (defScope (top 11)) (defBody (top 11)) b_square_sign := ⟨⟨rfl, rfl, rfl, by decide +kernel, rfl, by decide +kernel, by decide +kernel⟩, by decide +kernel, by decide +kernel⟩
def I_combined : Info := { N := ["f", "g", "most", "found", "first", "second"], G := [], C := [], isq := false }
def b_combined : List S := [
  .asg (.one 2) (.bi .len [(.var 0)]),
  .asg (.one 3) (.bin .mul (.lst [(.cst (.int 0))]) (.bin .add (.var 2) (.cst (.int 1)))),
  .loop [] (.one 4) (.bi .range [(.cst (.int 1)), (.bin .add (.var 2) (.cst (.int 1)))])
    [.loop [] (.one 5) (.bi .range [(.cst (.int 1)), (.bin .add (.bin .fdiv (.var 2) (.var 4)) (.cst (.int 1)))])
      [.augIx 3 (.bin .mul (.var 4) (.var 5)) .add (.bin .mul (.idx (.var 0) (.bin .sub (.var 4) (.cst (.int 1)))) (.idx (.var 1) (.bin .sub (.var 5) (.cst (.int 1)))))]],
  .ret true (.bi .tuple [(.sl (.var 3) [(.cst (.int 1))] [])])]
def g_combined : Fs
  | _ => fun _ => none
def s_combined : List D → Option D := run g_combined 1000000 I_combined.N.length b_combined
theorem d_combined : DefOk I_combined ["f", "g"] (defScope (top 12)) (defBody (top 12)) b_combined := ⟨⟨rfl, rfl, rfl, by decide +kernel, rfl, by decide +kernel, by decide +kernel⟩, by decide +kernel, by decide +kernel⟩
def I_taken_back : Info := { N := ["f", "most", "known", "found", "n", "worth", "first"], G := [], C := [], isq := false }
def b_taken_back : List S := [
  .asg (.one 1) (.bi .len [(.var 0)]),
  .asg (.one 2) (.bin .mul (.lst [(.cst (.int 0))]) (.bin .add (.var 1) (.cst (.int 1)))),
  .asg (.one 3) (.lst []),
  .loop [] (.one 4) (.bi .range [(.cst (.int 1)), (.bin .add (.var 1) (.cst (.int 1)))])
    [.asg (.one 5) (.bin .mul (.idx (.var 0) (.cst (.int 0))) (.bin .sub (.bi .int [(.cmp .eq (.var 4) (.cst (.int 1)))]) (.idx (.var 2) (.var 4)))),
    .fre 5,
    .app 3 (.var 5),
    .loop [] (.one 6) (.bi .range [(.cst (.int 2)), (.bin .add (.bin .fdiv (.var 1) (.var 4)) (.cst (.int 1)))])
      [.augIx 2 (.bin .mul (.var 6) (.var 4)) .add (.bin .mul (.idx (.var 0) (.bin .sub (.var 6) (.cst (.int 1)))) (.var 5))]],
  .ret true (.bi .tuple [(.var 3)])]
def g_taken_back : Fs
  | _ => fun _ => none
def s_taken_back : List D → Option D := run g_taken_back 1000000 I_taken_back.N.length b_taken_back
theorem d_taken_back : DefOk I_taken_back ["f"] (defScope (top 13)) (defBody (top 13)) b_taken_back := ⟨⟨rfl, rfl, rfl, by decide +kernel, rfl, by decide +kernel, by decide +kernel⟩, by decide +kernel, by decide +kernel⟩
def I_together : Info := { N := ["pairs", "r", "m", "other", "size", "g", "u", "_"], G := [("shared_sum", 2)], C := [], isq := false }
def b_together : List S := [
  .asg (.many [(.one 1), (.one 2)]) (.idx (.var 0) (.cst (.int 0))),
  .loop [] (.many [(.one 3), (.one 4)]) (.sl (.var 0) [(.cst (.int 1))] [])
    [.asg (.many [(.one 5), (.one 6), (.one 7)]) (.call 0 false [(.var 2), (.var 4)]),
    .ite (.cmp .ne (.bin .mod (.bin .sub (.var 3) (.var 1)) (.var 5)) (.cst (.int 0)))
      [.ret true (.cst .none)]
      [],
    .aug 1 .add (.bin .mul (.var 2) (.bin .mod (.bin .mul (.bin .fdiv (.bin .sub (.var 3) (.var 1)) (.var 5)) (.var 6)) (.bin .fdiv (.var 4) (.var 5)))),
    .asg (.one 2) (.bin .fdiv (.bin .mul (.var 2) (.var 4)) (.var 5))],
  .ret true (.tup [(.var 1), (.var 2)])]
def g_together : Fs
  | 0 => s_shared_sum
  | _ => fun _ => none
def s_together : List D → Option D := run g_together 1000000 I_together.N.length b_together
theorem d_together : DefOk I_together ["pairs"] (defScope (top 14)) (defBody (top 14)) b_together := ⟨⟨rfl, rfl, rfl, by decide +kernel, rfl, by decide +kernel, by decide +kernel⟩, by decide +kernel, by decide +kernel⟩
def I__law_mixed : Info := { N := ["script", "k", "cell", "first", "second", "third"], G := [], C := [], isq := false }
def b__law_mixed : List S := [
  .asg (.one 2) (.cst (.int 0)),
  .ite (.cmp .gt (.bi .len [(.var 0)]) (.cst (.int 0)))
    [.asg (.one 2) (.idx (.var 0) (.bin .mod (.var 1) (.bi .len [(.var 0)])))]
    [],
  .asg (.one 3) (.bin .mod (.bi .int [(.bin .add (.bin .add (.bin .mul (.var 2) (.cst (.int 48271))) (.bin .mul (.var 1) (.cst (.int 69621)))) (.cst (.int 8191)))]) (.cst (.int 2147483647))),
  .asg (.one 4) (.bin .mod (.bi .int [(.bin .add (.bin .add (.bin .mul (.var 3) (.var 3)) (.bin .fdiv (.var 3) (.cst (.int 7)))) (.bin .mul (.var 1) (.cst (.int 16807))))]) (.cst (.int 2147483629))),
  .asg (.one 5) (.bin .mod (.bi .int [(.bin .add (.bin .add (.bin .mul (.var 4) (.var 4)) (.bin .fdiv (.var 4) (.cst (.int 11)))) (.cst (.int 40692)))]) (.cst (.int 2147483563))),
  .ret true (.bin .mod (.bin .fdiv (.var 5) (.cst (.int 5))) (.cst (.int 1000003)))]
def g__law_mixed : Fs
  | _ => fun _ => none
def s__law_mixed : List D → Option D := run g__law_mixed 1000000 I__law_mixed.N.length b__law_mixed
theorem d__law_mixed : DefOk I__law_mixed ["script", "k"] (defScope (top 16)) (defBody (top 16)) b__law_mixed := ⟨⟨rfl, rfl, rfl, by decide +kernel, rfl, by decide +kernel, by decide +kernel⟩, by decide +kernel, by decide +kernel⟩
def I__law_row : Info := { N := ["script", "many", "big", "row", "k"], G := [("_law_mixed", 2)], C := [], isq := false }
def b__law_row : List S := [
  .asg (.one 2) (.cst (.int 0)),
  .ite (.and (.cmp .gt (.bi .len [(.var 0)]) (.cst (.int 0))) (.cmp .ge (.idx (.var 0) (.cst (.int 0))) (.bin .pow (.cst (.int 10)) (.cst (.int 18)))))
    [.asg (.one 2) (.idx (.var 0) (.cst (.int 0)))]
    [],
  .asg (.one 3) (.lst []),
  .loop [] (.one 4) (.bi .range [(.var 1)])
    [.ite (.cmp .gt (.var 2) (.cst (.int 0)))
      [.app 3 (.bin .mod (.bi .int [(.var 2)]) (.cst (.int 1000))),
      .asg (.one 2) (.bin .fdiv (.var 2) (.cst (.int 1000)))]
      [.app 3 (.call 0 false [(.var 0), (.var 4)])]],
  .ret true (.var 3)]
def g__law_row : Fs
  | 0 => s__law_mixed
  | _ => fun _ => none
def s__law_row : List D → Option D := run g__law_row 1000000 I__law_row.N.length b__law_row
theorem d__law_row : DefOk I__law_row ["script", "many"] (defScope (top 17)) (defBody (top 17)) b__law_row := ⟨⟨rfl, rfl, rfl, by decide +kernel, rfl, by decide +kernel, by decide +kernel⟩, by decide +kernel, by decide +kernel⟩
def I__law_is_int : Info := { N := ["value"], G := [], C := [], isq := false }
def b__law_is_int : List S := [
  .ret false (.and (.bi .isInt [(.var 0)]) (.not (.bi .isBool [(.var 0)])))]
def g__law_is_int : Fs
  | _ => fun _ => none
def s__law_is_int : List D → Option D := run g__law_is_int 1000000 I__law_is_int.N.length b__law_is_int
theorem d__law_is_int : DefOk I__law_is_int ["value"] (defScope (top 18)) (defBody (top 18)) b__law_is_int := ⟨⟨rfl, rfl, rfl, by decide +kernel, rfl, by decide +kernel, by decide +kernel⟩, by decide +kernel, by decide +kernel⟩
def I__law_like : Info := { N := ["value", "due", "k"], G := [("_law_like", 2), ("_law_is_int", 1)], C := [], isq := false }
def b__law_like : List S := [
  .ite (.cmp .is (.var 1) (.cst .none))
    [.ret true (.cmp .is (.var 0) (.cst .none))]
    [],
  .ite (.bi .isBool [(.var 1)])
    [.ret false (.and (.bi .isBool [(.var 0)]) (.cmp .eq (.var 0) (.var 1)))]
    [],
  .ite (.bi .isTuple [(.var 1)])
    [.ite (.or (.not (.bi .isTuple [(.var 0)])) (.cmp .ne (.bi .len [(.var 0)]) (.bi .len [(.var 1)])))
      [.ret true (.cst (.bool false))]
      [],
    .ret true (.bi .all [(.comp (.one 2) [("k", 2)] (.bi .range [(.bi .len [(.var 1)])]) [] (.call 0 false [(.idx (.var 0) (.var 2)), (.idx (.var 1) (.var 2))]))])]
    [],
  .ite (.bi .isStr [(.var 1)])
    [.ret false (.and (.bi .isStr [(.var 0)]) (.cmp .eq (.var 0) (.var 1)))]
    [],
  .ret false (.and (.call 1 false [(.var 0)]) (.cmp .eq (.var 0) (.var 1)))]
def g__law_like (self : List D → Option D) : Fs
  | 0 => self
  | 1 => s__law_is_int
  | _ => fun _ => none
def r__law_like : Nat → List D → Option D
  | 0 => fun _ => none
  | n + 1 => run (g__law_like (r__law_like n)) 1000000 I__law_like.N.length b__law_like
def s__law_like : List D → Option D := r__law_like 12
theorem d__law_like : DefOk I__law_like ["value", "due"] (defScope (top 19)) (defBody (top 19)) b__law_like := ⟨⟨rfl, rfl, rfl, by decide +kernel, rfl, by decide +kernel, by decide +kernel⟩, by decide +kernel, by decide +kernel⟩
def I__law_gcd : Info := { N := ["one", "other", "turn"], G := [], C := [], isq := false }
def b__law_gcd : List S := [
  .loop [] (.one 2) (.bi .range [(.cst (.int 60))])
    [.ite (.cmp .eq (.var 1) (.cst (.int 0)))
      [.ret false (.var 0)]
      [],
    .par [0, 1] [(.var 1), (.bin .mod (.bi .int [(.var 0)]) (.var 1))]],
  .ret false (.var 0)]
def g__law_gcd : Fs
  | _ => fun _ => none
def s__law_gcd : List D → Option D := run g__law_gcd 1000000 I__law_gcd.N.length b__law_gcd
theorem d__law_gcd : DefOk I__law_gcd ["one", "other"] (defScope (top 20)) (defBody (top 20)) b__law_gcd := ⟨⟨rfl, rfl, rfl, by decide +kernel, rfl, by decide +kernel, by decide +kernel⟩, by decide +kernel, by decide +kernel⟩
def I__law_ways : Info := { N := ["a", "b", "c", "x"], G := [], C := [], isq := false }
def b__law_ways : List S := [
  .ret true (.bi .len [(.comp (.one 3) [("x", 3)] (.bi .range [(.bin .add (.bin .fdiv (.bi .max2 [(.cst (.int 0)), (.var 2)]) (.var 0)) (.cst (.int 1)))]) [(.and (.cmp .ge (.var 2) (.bin .mul (.var 0) (.var 3))) (.cmp .eq (.bin .mod (.bi .int [(.bin .sub (.var 2) (.bin .mul (.var 0) (.var 3)))]) (.var 1)) (.cst (.int 0))))] (.var 3))])]
def g__law_ways : Fs
  | _ => fun _ => none
def s__law_ways : List D → Option D := run g__law_ways 1000000 I__law_ways.N.length b__law_ways
theorem d__law_ways : DefOk I__law_ways ["a", "b", "c"] (defScope (top 21)) (defBody (top 21)) b__law_ways := ⟨⟨rfl, rfl, rfl, by decide +kernel, rfl, by decide +kernel, by decide +kernel⟩, by decide +kernel, by decide +kernel⟩
def I__law_made_right : Info := { N := ["a", "b", "c", "k", "whole", "most", "told", "ways", "number", "x", "y", "dx", "dy"], G := [("count_solutions", 3), ("_law_ways", 3), ("_law_like", 2), ("solutions", 3)], C := [], isq := false }
def b__law_made_right : List S := [
  .par [4, 5] [(.bin .mul (.var 0) (.var 1)), (.bin .sub (.bin .sub (.bin .mul (.var 0) (.var 1)) (.var 0)) (.var 1))],
  .asg (.one 6) (.tup [(.call 0 false [(.var 0), (.var 1), (.var 2)]), (.call 0 false [(.var 0), (.var 1), (.bin .add (.var 2) (.var 4))]), (.call 0 false [(.bin .mul (.var 3) (.var 0)), (.bin .mul (.var 3) (.var 1)), (.bin .mul (.var 3) (.var 2))])]),
  .asg (.one 7) (.call 1 false [(.var 0), (.var 1), (.var 2)]),
  .fre 7,
  .ite (.not (.call 2 true [(.var 6), (.tup [(.var 7), (.bin .add (.var 7) (.cst (.int 1))), (.var 7)])]))
    [.ret true (.cst (.bool false))]
    [],
  .ite (.and (.cmp .gt (.var 3) (.cst (.int 1))) (.cmp .ne (.call 0 false [(.bin .mul (.var 3) (.var 0)), (.bin .mul (.var 3) (.var 1)), (.bin .add (.bin .mul (.var 3) (.var 2)) (.cst (.int 1)))]) (.cst (.int 0))))
    [.ret true (.cst (.bool false))]
    [],
  .loop [] (.one 8) (.bi .range [(.cst (.int 0)), (.bin .add (.var 5) (.cst (.int 1))), (.bin .add (.cst (.int 1)) (.bin .fdiv (.bi .max2 [(.cst (.int 0)), (.var 5)]) (.cst (.int 40))))])
    [.ite (.cmp .ne (.bin .add (.call 0 false [(.var 0), (.var 1), (.var 8)]) (.call 0 false [(.var 0), (.var 1), (.bin .sub (.var 5) (.var 8))])) (.cst (.int 1)))
      [.ret true (.cst (.bool false))]
      []],
  .asg (.many [(.one 9), (.one 10), (.one 11), (.one 12)]) (.call 3 false [(.var 0), (.var 1), (.var 2)]),
  .ite (.or (.cmp .ne (.bin .add (.bin .mul (.var 0) (.var 9)) (.bin .mul (.var 1) (.var 10))) (.var 2)) (.or (.not (.chain .le .lt (.cst (.int 0)) (.var 9) (.var 1))) (.cmp .ne (.tup [(.var 11), (.var 12)]) (.tup [(.var 1), (.bin .sub (.cst (.int 0)) (.var 0))]))))
    [.ret true (.cst (.bool false))]
    [],
  .ret false (.or (.cmp .eq (.var 3) (.cst (.int 1))) (.cmp .is (.call 3 false [(.bin .mul (.var 3) (.var 0)), (.bin .mul (.var 3) (.var 1)), (.bin .add (.bin .mul (.var 3) (.var 2)) (.cst (.int 1)))]) (.cst .none)))]
def g__law_made_right : Fs
  | 0 => s_count_solutions
  | 1 => s__law_ways
  | 2 => s__law_like
  | 3 => s_solutions
  | _ => fun _ => none
def s__law_made_right : List D → Option D := run g__law_made_right 1000000 I__law_made_right.N.length b__law_made_right
theorem d__law_made_right : DefOk I__law_made_right ["a", "b", "c", "k"] (defScope (top 22)) (defBody (top 22)) b__law_made_right := ⟨⟨rfl, rfl, rfl, by decide +kernel, rfl, by decide +kernel, by decide +kernel⟩, by decide +kernel, by decide +kernel⟩
def I__law_shared_right : Info := { N := ["one", "other", "third", "due", "told", "three", "g", "u", "v"], G := [("_law_gcd", 2), ("shared", 2), ("_law_like", 2), ("shared_sum", 2)], C := [], isq := false }
def b__law_shared_right : List S := [
  .asg (.one 3) (.call 0 false [(.bi .abs [(.var 0)]), (.bi .abs [(.var 1)])]),
  .asg (.one 4) (.tup [(.call 1 false [(.var 0), (.var 1)]), (.call 1 false [(.var 1), (.var 0)]), (.call 1 false [(.bin .add (.var 0) (.bin .mul (.var 2) (.var 1))), (.var 1)])]),
  .fre 3,
  .ite (.or (.not (.call 2 true [(.var 4), (.tup [(.var 3), (.var 3), (.var 3)])])) (.not (.call 2 false [(.call 1 false [(.bin .mul (.var 2) (.var 0)), (.bin .mul (.var 2) (.var 1))]), (.bin .mul (.bi .abs [(.var 2)]) (.var 3))])))
    [.ret true (.cst (.bool false))]
    [],
  .asg (.one 5) (.call 0 false [(.var 3), (.bi .abs [(.var 2)])]),
  .fre 5,
  .ite (.not (.call 2 false [(.tup [(.call 1 false [(.call 1 false [(.var 0), (.var 1)]), (.var 2)]), (.call 1 false [(.var 0), (.call 1 false [(.var 1), (.var 2)])])]), (.tup [(.var 5), (.var 5)])]))
    [.ret true (.cst (.bool false))]
    [],
  .ite (.or (.cmp .lt (.var 0) (.cst (.int 1))) (.cmp .lt (.var 1) (.cst (.int 1))))
    [.ret true (.cst (.bool true))]
    [],
  .asg (.many [(.one 6), (.one 7), (.one 8)]) (.call 3 false [(.var 0), (.var 1)]),
  .ret false (.and (.cmp .eq (.var 6) (.var 3)) (.and (.cmp .eq (.bin .add (.bin .mul (.var 0) (.var 7)) (.bin .mul (.var 1) (.var 8))) (.var 6)) (.chain .le .lt (.cst (.int 0)) (.var 7) (.bin .fdiv (.var 1) (.var 6)))))]
def g__law_shared_right : Fs
  | 0 => s__law_gcd
  | 1 => s_shared
  | 2 => s__law_like
  | 3 => s_shared_sum
  | _ => fun _ => none
def s__law_shared_right : List D → Option D := run g__law_shared_right 1000000 I__law_shared_right.N.length b__law_shared_right
theorem d__law_shared_right : DefOk I__law_shared_right ["one", "other", "third"] (defScope (top 23)) (defBody (top 23)) b__law_shared_right := ⟨⟨rfl, rfl, rfl, by decide +kernel, rfl, by decide +kernel, by decide +kernel⟩, by decide +kernel, by decide +kernel⟩
def I__law_factors : Info := { N := ["n", "found", "rest", "p", "many", "turn"], G := [], C := [], isq := false }
def b__law_factors : List S := [
  .par [1, 2] [(.lst []), (.var 0)],
  .loop [] (.one 3) (.bi .range [(.cst (.int 2)), (.cst (.int 101))])
    [.ite (.cmp .eq (.bin .mod (.bi .int [(.var 2)]) (.var 3)) (.cst (.int 0)))
      [.asg (.one 4) (.cst (.int 0)),
      .loop [] (.one 5) (.bi .range [(.cst (.int 20))])
        [.ite (.cmp .eq (.bin .mod (.bi .int [(.var 2)]) (.var 3)) (.cst (.int 0)))
          [.par [2, 4] [(.bin .fdiv (.var 2) (.var 3)), (.bin .add (.var 4) (.cst (.int 1)))]]
          []],
      .fre 4,
      .app 1 (.tup [(.var 3), (.var 4)])]
      []],
  .ite (.cmp .gt (.var 2) (.cst (.int 1)))
    [.app 1 (.tup [(.var 2), (.cst (.int 1))])]
    [],
  .ret true (.bi .tuple [(.var 1)])]
def g__law_factors : Fs
  | _ => fun _ => none
def s__law_factors : List D → Option D := run g__law_factors 1000000 I__law_factors.N.length b__law_factors
theorem d__law_factors : DefOk I__law_factors ["n"] (defScope (top 24)) (defBody (top 24)) b__law_factors := ⟨⟨rfl, rfl, rfl, by decide +kernel, rfl, by decide +kernel, by decide +kernel⟩, by decide +kernel, by decide +kernel⟩
def I__law_products_right : Info := { N := ["n", "m", "factors", "own", "p", "many", "grown", "power_v", "turn", "part", "apart", "sign", "both", "d", "e", "primes", "due"], G := [("_law_factors", 1), ("_law_like", 2), ("primes_of", 1), ("divisors", 1), ("count_apart", 1), ("square_sign", 1), ("_law_gcd", 2)], C := [], isq := false }
def b__law_products_right : List S := [
  .asg (.one 2) (.call 0 false [(.var 0)]),
  .ite (.not (.call 1 true [(.call 2 false [(.var 0)]), (.var 2)]))
    [.ret true (.cst (.bool false))]
    [],
  .asg (.one 3) (.lst [(.cst (.int 1))]),
  .loop [2, 3] (.many [(.one 4), (.one 5)]) (.var 2)
    [.par [6, 7] [(.lst []), (.cst (.int 1))],
    .loop [] (.one 8) (.bi .range [(.bin .add (.var 5) (.cst (.int 1)))])
      [.ext 6 (.comp (.one 9) [("part", 9)] (.var 3) [] (.bin .mul (.var 9) (.var 7))),
      .asg (.one 7) (.bin .mul (.var 7) (.var 4))],
    .fre 6,
    .asg (.one 3) (.var 6)],
  .ite (.not (.call 1 false [(.call 3 false [(.var 0)]), (.bi .tuple [(.bi .sorted [(.var 3)])])]))
    [.ret true (.cst (.bool false))]
    [],
  .asg (.many [(.one 10), (.one 11)]) (.tup [(.cst (.int 1)), (.cst (.int 1))]),
  .loop [] (.many [(.one 4), (.one 5)]) (.var 2)
    [.par [10, 11] [(.bin .mul (.var 10) (.bin .sub (.var 4) (.cst (.int 1)))), (.bin .sub (.cst (.int 0)) (.var 11))],
    .loop [] (.one 8) (.bi .range [(.bin .sub (.var 5) (.cst (.int 1)))])
      [.par [10, 11] [(.bin .mul (.var 10) (.var 4)), (.cst (.int 0))]]],
  .ite (.not (.call 1 false [(.tup [(.call 4 false [(.var 0)]), (.call 5 false [(.var 0)])]), (.tup [(.var 10), (.var 11)])]))
    [.ret true (.cst (.bool false))]
    [],
  .ite (.cmp .ne (.call 6 false [(.var 0), (.var 1)]) (.cst (.int 1)))
    [.ret true (.cst (.bool true))]
    [],
  .asg (.one 12) (.lst []),
  .loop [] (.one 13) (.call 3 false [(.var 0)])
    [.ext 12 (.comp (.one 14) [("e", 14)] (.call 3 false [(.var 1)]) [] (.bin .mul (.var 13) (.var 14)))],
  .asg (.one 15) (.bi .tuple [(.bi .sorted [(.bin .add (.call 2 false [(.var 0)]) (.call 2 false [(.var 1)]))])]),
  .fre 15,
  .ite (.not (.call 1 false [(.tup [(.call 3 false [(.bin .mul (.var 0) (.var 1))]), (.call 2 false [(.bin .mul (.var 0) (.var 1))])]), (.tup [(.bi .tuple [(.bi .sorted [(.var 12)])]), (.var 15)])]))
    [.ret true (.cst (.bool false))]
    [],
  .asg (.one 16) (.tup [(.bin .mul (.var 10) (.call 4 false [(.var 1)])), (.bin .mul (.var 11) (.call 5 false [(.var 1)]))]),
  .ret true (.call 1 true [(.tup [(.call 4 false [(.bin .mul (.var 0) (.var 1))]), (.call 5 false [(.bin .mul (.var 0) (.var 1))])]), (.var 16)])]
def g__law_products_right : Fs
  | 0 => s__law_factors
  | 1 => s__law_like
  | 2 => s_primes_of
  | 3 => s_divisors
  | 4 => s_count_apart
  | 5 => s_square_sign
  | 6 => s__law_gcd
  | _ => fun _ => none
def s__law_products_right : List D → Option D := run g__law_products_right 1000000 I__law_products_right.N.length b__law_products_right
theorem d__law_products_right : DefOk I__law_products_right ["n", "m"] (defScope (top 25)) (defBody (top 25)) b__law_products_right := ⟨⟨rfl, rfl, rfl, by decide +kernel, rfl, by decide +kernel, by decide +kernel⟩, by decide +kernel, by decide +kernel⟩
def I__law_combined : Info := { N := ["f", "g", "found", "a", "b"], G := [], C := [], isq := false }
def b__law_combined : List S := [
  .asg (.one 2) (.bin .mul (.lst [(.cst (.int 0))]) (.bi .len [(.var 0)])),
  .loop [] (.one 3) (.bi .range [(.cst (.int 1)), (.bin .add (.bi .len [(.var 0)]) (.cst (.int 1)))])
    [.loop [] (.one 4) (.bi .range [(.cst (.int 1)), (.bin .add (.bin .fdiv (.bi .len [(.var 0)]) (.var 3)) (.cst (.int 1)))])
      [.setIx 2 (.bin .sub (.bin .mul (.var 3) (.var 4)) (.cst (.int 1))) (.bin .add (.idx (.var 2) (.bin .sub (.bin .mul (.var 3) (.var 4)) (.cst (.int 1)))) (.bin .mul (.idx (.var 0) (.bin .sub (.var 3) (.cst (.int 1)))) (.idx (.var 1) (.bin .sub (.var 4) (.cst (.int 1))))))]],
  .ret true (.bi .tuple [(.var 2)])]
def g__law_combined : Fs
  | _ => fun _ => none
def s__law_combined : List D → Option D := run g__law_combined 1000000 I__law_combined.N.length b__law_combined
theorem d__law_combined : DefOk I__law_combined ["f", "g"] (defScope (top 26)) (defBody (top 26)) b__law_combined := ⟨⟨rfl, rfl, rfl, by decide +kernel, rfl, by decide +kernel, by decide +kernel⟩, by decide +kernel, by decide +kernel⟩
def I__law_rows_right : Info := { N := ["f", "g", "h", "many", "both", "plain", "total", "k", "due", "back", "other"], G := [("_law_combined", 2), ("_law_like", 2), ("combined", 2), ("taken_back", 1)], C := [], isq := false }
def b__law_rows_right : List S := [
  .asg (.one 3) (.bi .len [(.var 0)]),
  .par [4, 5] [(.call 0 false [(.var 0), (.var 1)]), (.bin .add (.tup [(.cst (.int 1))]) (.bin .mul (.tup [(.cst (.int 0))]) (.bin .sub (.var 3) (.cst (.int 1)))))],
  .fre 4,
  .ite (.not (.call 1 false [(.tup [(.call 2 false [(.var 0), (.var 1)]), (.call 2 false [(.var 1), (.var 0)]), (.call 2 false [(.var 4), (.var 2)])]), (.tup [(.var 4), (.var 4), (.call 2 false [(.var 0), (.call 2 false [(.var 1), (.var 2)])])])]))
    [.ret true (.cst (.bool false))]
    [],
  .asg (.one 6) (.bi .tuple [(.comp (.one 7) [("k", 7)] (.bi .range [(.var 3)]) [] (.bin .add (.idx (.var 1) (.var 7)) (.idx (.var 2) (.var 7))))]),
  .asg (.one 8) (.bi .tuple [(.comp (.one 7) [("k", 7)] (.bi .range [(.var 3)]) [] (.bin .add (.idx (.var 4) (.var 7)) (.idx (.call 0 false [(.var 0), (.var 2)]) (.var 7))))]),
  .fre 8,
  .ite (.not (.call 1 false [(.tup [(.call 2 true [(.var 0), (.var 6)]), (.call 2 true [(.var 0), (.var 5)])]), (.tup [(.var 8), (.var 0)])]))
    [.ret true (.cst (.bool false))]
    [],
  .par [9, 10] [(.call 3 false [(.var 0)]), (.call 3 false [(.var 1)])],
  .fre 5,
  .ite (.not (.call 1 false [(.tup [(.call 0 true [(.var 0), (.var 9)]), (.call 0 true [(.var 1), (.var 10)])]), (.tup [(.var 5), (.var 5)])]))
    [.ret true (.cst (.bool false))]
    [],
  .ret true (.call 1 false [(.tup [(.call 3 false [(.var 4)]), (.call 3 true [(.var 9)])]), (.tup [(.call 0 true [(.var 9), (.var 10)]), (.var 0)])])]
def g__law_rows_right : Fs
  | 0 => s__law_combined
  | 1 => s__law_like
  | 2 => s_combined
  | 3 => s_taken_back
  | _ => fun _ => none
def s__law_rows_right : List D → Option D := run g__law_rows_right 1000000 I__law_rows_right.N.length b__law_rows_right
theorem d__law_rows_right : DefOk I__law_rows_right ["f", "g", "h"] (defScope (top 27)) (defBody (top 27)) b__law_rows_right := ⟨⟨rfl, rfl, rfl, by decide +kernel, rfl, by decide +kernel, by decide +kernel⟩, by decide +kernel, by decide +kernel⟩
def I__law_together_right : Info := { N := ["pairs", "cut", "whole", "r", "m", "due", "left", "parts"], G := [("_law_gcd", 2), ("_law_like", 2), ("together", 1)], C := [], isq := false }
def b__law_together_right : List S := [
  .asg (.one 2) (.cst (.int 1)),
  .loop [] (.many [(.one 3), (.one 4)]) (.var 0)
    [.asg (.one 2) (.bin .fdiv (.bin .mul (.var 2) (.var 4)) (.call 0 true [(.var 2), (.var 4)]))],
  .asg (.one 5) (.cst .none),
  .loop [2] (.one 3) (.bi .range [(.idx (.idx (.var 0) (.cst (.int 0))) (.cst (.int 0))), (.var 2), (.idx (.idx (.var 0) (.cst (.int 0))) (.cst (.int 1)))])
    [.ite (.and (.cmp .is (.var 5) (.cst .none)) (.bi .all [(.comp (.many [(.one 6), (.one 4)]) [("left", 6), ("m", 4)] (.var 0) [] (.cmp .eq (.bin .mod (.bi .int [(.var 3)]) (.var 4)) (.var 6)))]))
      [.asg (.one 5) (.tup [(.var 3), (.var 2)])]
      []],
  .fre 5,
  .ite (.not (.call 1 false [(.tup [(.call 2 false [(.var 0)]), (.call 2 false [(.rev (.var 0))])]), (.tup [(.var 5), (.var 5)])]))
    [.ret true (.cst (.bool false))]
    [],
  .ite (.or (.cmp .eq (.var 1) (.cst (.int 0))) (.cmp .ge (.var 1) (.bi .len [(.var 0)])))
    [.ret true (.cst (.bool true))]
    [],
  .asg (.one 7) (.lst [(.call 2 false [(.sl (.var 0) [] [(.var 1)])]), (.call 2 false [(.sl (.var 0) [(.var 1)] [])])]),
  .ite (.or (.cmp .is (.idx (.var 7) (.cst (.int 0))) (.cst .none)) (.cmp .is (.idx (.var 7) (.cst (.int 1))) (.cst .none)))
    [.ret true (.cmp .is (.var 5) (.cst .none))]
    [],
  .ret false (.or (.cmp .gt (.bi .max2 [(.idx (.idx (.var 7) (.cst (.int 0))) (.cst (.int 1))), (.idx (.idx (.var 7) (.cst (.int 1))) (.cst (.int 1)))]) (.cst (.int 1000))) (.call 1 false [(.call 2 false [(.bi .tuple [(.var 7)])]), (.var 5)]))]
def g__law_together_right : Fs
  | 0 => s__law_gcd
  | 1 => s__law_like
  | 2 => s_together
  | _ => fun _ => none
def s__law_together_right : List D → Option D := run g__law_together_right 1000000 I__law_together_right.N.length b__law_together_right
theorem d__law_together_right : DefOk I__law_together_right ["pairs", "cut"] (defScope (top 28)) (defBody (top 28)) b__law_together_right := ⟨⟨rfl, rfl, rfl, by decide +kernel, rfl, by decide +kernel, by decide +kernel⟩, by decide +kernel, by decide +kernel⟩
def I_law : Info := { N := ["script", "row", "a", "b", "common", "one", "other", "many", "rows", "k", "first", "j", "pairs", "m", "r"], G := [("_law_row", 2), ("_law_gcd", 2), ("_law_made_right", 4), ("_law_shared_right", 3), ("_law_products_right", 2), ("_law_rows_right", 3), ("_law_together_right", 2)], C := [], isq := false }
def b_law : List S := [
  .asg (.one 1) (.call 0 false [(.var 0), (.cst (.int 130))]),
  .par [2, 3] [(.bin .add (.cst (.int 1)) (.bin .mod (.bi .int [(.idx (.var 1) (.cst (.int 0)))]) (.cst (.int 30)))), (.bin .add (.cst (.int 1)) (.bin .mod (.bi .int [(.idx (.var 1) (.cst (.int 1)))]) (.cst (.int 30))))],
  .asg (.one 4) (.call 1 true [(.var 2), (.var 3)]),
  .par [2, 3] [(.bin .fdiv (.var 2) (.var 4)), (.bin .fdiv (.var 3) (.var 4))],
  .ite (.not (.call 2 true [(.var 2), (.var 3), (.bin .mod (.bi .int [(.idx (.var 1) (.cst (.int 2)))]) (.cst (.int 2000))), (.bin .add (.cst (.int 1)) (.bin .mod (.bi .int [(.idx (.var 1) (.cst (.int 3)))]) (.cst (.int 4))))]))
    [.ret true (.cst (.bool false))]
    [],
  .par [5, 6] [(.bin .sub (.bin .mod (.bi .int [(.idx (.var 1) (.cst (.int 4)))]) (.cst (.int 1000001))) (.bin .mul (.cst (.int 500)) (.bin .mod (.bi .int [(.idx (.var 1) (.cst (.int 5)))]) (.cst (.int 2))))), (.bin .sub (.bin .mod (.bi .int [(.idx (.var 1) (.cst (.int 6)))]) (.cst (.int 1000001))) (.bin .mul (.cst (.int 500)) (.bin .mod (.bin .fdiv (.bi .int [(.idx (.var 1) (.cst (.int 5)))]) (.cst (.int 2))) (.cst (.int 2)))))],
  .ite (.not (.call 3 true [(.var 5), (.var 6), (.bin .sub (.bin .mod (.bi .int [(.idx (.var 1) (.cst (.int 7)))]) (.cst (.int 2001))) (.cst (.int 1000)))]))
    [.ret true (.cst (.bool false))]
    [],
  .ite (.not (.call 4 false [(.bin .add (.cst (.int 1)) (.bin .mod (.bi .int [(.idx (.var 1) (.cst (.int 8)))]) (.cst (.int 10000)))), (.bin .add (.cst (.int 1)) (.bin .mod (.bi .int [(.idx (.var 1) (.cst (.int 9)))]) (.cst (.int 100))))]))
    [.ret true (.cst (.bool false))]
    [],
  .par [7, 8] [(.bin .add (.cst (.int 1)) (.bin .mod (.bi .int [(.idx (.var 1) (.cst (.int 10)))]) (.cst (.int 30)))), (.lst [])],
  .loop [] (.one 9) (.bi .range [(.cst (.int 3))])
    [.asg (.one 10) (.bin .sub (.cst (.int 1)) (.bin .mul (.cst (.int 2)) (.bin .mod (.bi .int [(.idx (.var 1) (.bin .add (.cst (.int 11)) (.var 9)))]) (.cst (.int 2))))),
    .fre 10,
    .app 8 (.bin .add (.tup [(.var 10)]) (.bi .tuple [(.comp (.one 11) [("j", 11)] (.bi .range [(.bin .sub (.var 7) (.cst (.int 1)))]) [] (.bin .sub (.bin .mod (.bi .int [(.idx (.var 1) (.bin .add (.bin .add (.cst (.int 14)) (.bin .mul (.cst (.int 30)) (.var 9))) (.var 11)))]) (.cst (.int 11))) (.cst (.int 5))))]))],
  .ite (.not (.call 5 false [(.idx (.var 8) (.cst (.int 0))), (.idx (.var 8) (.cst (.int 1))), (.idx (.var 8) (.cst (.int 2)))]))
    [.ret true (.cst (.bool false))]
    [],
  .asg (.one 12) (.lst []),
  .loop [] (.one 9) (.bi .range [(.bin .add (.cst (.int 1)) (.bin .mod (.bi .int [(.idx (.var 1) (.cst (.int 110)))]) (.cst (.int 4))))])
    [.asg (.one 13) (.bin .add (.cst (.int 1)) (.bin .mod (.bi .int [(.idx (.var 1) (.bin .add (.cst (.int 111)) (.var 9)))]) (.cst (.int 12)))),
    .fre 13,
    .app 12 (.tup [(.bin .mod (.bi .int [(.idx (.var 1) (.bin .add (.cst (.int 115)) (.var 9)))]) (.var 13)), (.var 13)])],
  .ite (.cmp .eq (.bin .mod (.bi .int [(.idx (.var 1) (.cst (.int 120)))]) (.cst (.int 2))) (.cst (.int 0)))
    [.asg (.one 12) (.comp (.many [(.one 14), (.one 13)]) [("r", 14), ("m", 13)] (.var 12) [] (.tup [(.bin .mod (.bi .int [(.idx (.var 1) (.cst (.int 121)))]) (.var 13)), (.var 13)]))]
    [],
  .ret true (.call 6 false [(.bi .tuple [(.var 12)]), (.bin .mod (.bi .int [(.idx (.var 1) (.cst (.int 122)))]) (.cst (.int 4)))])]
def g_law : Fs
  | 0 => s__law_row
  | 1 => s__law_gcd
  | 2 => s__law_made_right
  | 3 => s__law_shared_right
  | 4 => s__law_products_right
  | 5 => s__law_rows_right
  | 6 => s__law_together_right
  | _ => fun _ => none
def s_law : List D → Option D := run g_law 1000000 I_law.N.length b_law
theorem d_law : DefOk I_law ["script"] (defScope (top 29)) (defBody (top 29)) b_law := ⟨⟨rfl, rfl, rfl, by decide +kernel, rfl, by decide +kernel, by decide +kernel⟩, by decide +kernel, by decide +kernel⟩
def fn : List He.DefD := [
  ⟨("divisor", none), "divisor", "divisor", defArgs (top 1), defBody (top 1), defScope (top 1), [], []⟩,
  ⟨("power", none), "power", "power", defArgs (top 2), defBody (top 2), defScope (top 2), [], []⟩,
  ⟨("shared", none), "shared", "shared", defArgs (top 4), defBody (top 4), defScope (top 4), [], []⟩,
  ⟨("shared_sum", none), "shared_sum", "shared_sum", defArgs (top 5), defBody (top 5), defScope (top 5), [], []⟩,
  ⟨("solutions", none), "solutions", "solutions", defArgs (top 6), defBody (top 6), defScope (top 6), [], []⟩,
  ⟨("count_solutions", none), "count_solutions", "count_solutions", defArgs (top 7), defBody (top 7), defScope (top 7), [], []⟩,
  ⟨("primes_of", none), "primes_of", "primes_of", defArgs (top 8), defBody (top 8), defScope (top 8), [], []⟩,
  ⟨("divisors", none), "divisors", "divisors", defArgs (top 9), defBody (top 9), defScope (top 9), [], []⟩,
  ⟨("count_apart", none), "count_apart", "count_apart", defArgs (top 10), defBody (top 10), defScope (top 10), [], []⟩,
  ⟨("square_sign", none), "square_sign", "square_sign", defArgs (top 11), defBody (top 11), defScope (top 11), [], []⟩,
  ⟨("combined", none), "combined", "combined", defArgs (top 12), defBody (top 12), defScope (top 12), [], []⟩,
  ⟨("taken_back", none), "taken_back", "taken_back", defArgs (top 13), defBody (top 13), defScope (top 13), [], []⟩,
  ⟨("together", none), "together", "together", defArgs (top 14), defBody (top 14), defScope (top 14), [], []⟩,
  ⟨("_law_mixed", none), "_law_mixed", "_law_mixed", defArgs (top 16), defBody (top 16), defScope (top 16), [], []⟩,
  ⟨("_law_row", none), "_law_row", "_law_row", defArgs (top 17), defBody (top 17), defScope (top 17), [], []⟩,
  ⟨("_law_is_int", none), "_law_is_int", "_law_is_int", defArgs (top 18), defBody (top 18), defScope (top 18), [], []⟩,
  ⟨("_law_like", none), "_law_like", "_law_like", defArgs (top 19), defBody (top 19), defScope (top 19), [], []⟩,
  ⟨("_law_gcd", none), "_law_gcd", "_law_gcd", defArgs (top 20), defBody (top 20), defScope (top 20), [], []⟩,
  ⟨("_law_ways", none), "_law_ways", "_law_ways", defArgs (top 21), defBody (top 21), defScope (top 21), [], []⟩,
  ⟨("_law_made_right", none), "_law_made_right", "_law_made_right", defArgs (top 22), defBody (top 22), defScope (top 22), [], []⟩,
  ⟨("_law_shared_right", none), "_law_shared_right", "_law_shared_right", defArgs (top 23), defBody (top 23), defScope (top 23), [], []⟩,
  ⟨("_law_factors", none), "_law_factors", "_law_factors", defArgs (top 24), defBody (top 24), defScope (top 24), [], []⟩,
  ⟨("_law_products_right", none), "_law_products_right", "_law_products_right", defArgs (top 25), defBody (top 25), defScope (top 25), [], []⟩,
  ⟨("_law_combined", none), "_law_combined", "_law_combined", defArgs (top 26), defBody (top 26), defScope (top 26), [], []⟩,
  ⟨("_law_rows_right", none), "_law_rows_right", "_law_rows_right", defArgs (top 27), defBody (top 27), defScope (top 27), [], []⟩,
  ⟨("_law_together_right", none), "_law_together_right", "_law_together_right", defArgs (top 28), defBody (top 28), defScope (top 28), [], []⟩,
  ⟨("law", none), "law", "law", defArgs (top 29), defBody (top 29), defScope (top 29), [], []⟩]
def fa : List He.Fa := [.glo "divisor", .glo "power", .glo "shared", .glo "shared_sum", .glo "solutions", .glo "count_solutions", .glo "primes_of", .glo "divisors", .glo "count_apart", .glo "square_sign", .glo "combined", .glo "taken_back", .glo "together", .glo "_law_mixed", .glo "_law_row", .glo "_law_is_int", .glo "_law_like", .glo "_law_gcd", .glo "_law_ways", .glo "_law_made_right", .glo "_law_shared_right", .glo "_law_factors", .glo "_law_products_right", .glo "_law_combined", .glo "_law_rows_right", .glo "_law_together_right", .glo "law", .free "len", .free "sum", .free "all", .free "any", .free "abs", .free "max", .free "min", .free "int", .free "tuple", .free "list", .free "sorted", .free "isinstance", .free "range", .free "enumerate", .free "zip", .free "reversed", .free "bool", .free "str", .free "set"]
def bs : List (Str × String) := []
section
variable {P : Program} {w : World} {K : PySem.W.Frag} {mg : Str → Option Value} {base : Heap}
structure Com (mg : Str → Option Value) : Prop where
  blt : ∀ b : Bi, b ≠ .isqrt → mg (biNm b) = none
  ty : ∀ x : Str, x = "bool" ∨ x = "str" ∨ x = "set" → mg x = none
  con : ∀ x i, (x, i) ∈ ([] : List (Str × Int)) → ∃ t, mg x = some (.int i t)
  isq : False → mg "isqrt" = some (.builtin "math.isqrt")
theorem k_divisor (C : Com mg) {f : Addr} {fd : FuncData} (F : FunD K "divisor" "divisor" (defArgs (top 1)) (defBody (top 1)) (defScope (top 1)) [] [] f fd) (hf : mg "divisor" = some (.ref f))  : Keeps P w K mg base 1 "divisor" 2 s_divisor :=
  Keeps.of hf F.kp (F.bindsN (ps := ["first", "second"]) fun _ _ _ _ _ _ us hl => match us, hl with | [_, _], _ => rfl) (def_ok (k := 0) (Γ := g_divisor) (W := 1000000) F d_divisor ⟨fun f x n e => (by
    match f, e with
    | k + 0, e => cases e), C.blt, C.ty, fun x i h => C.con x i (by revert h; simp [I_divisor]), fun z => (by cases z)⟩)
theorem k_power (C : Com mg) {f : Addr} {fd : FuncData} (F : FunD K "power" "power" (defArgs (top 2)) (defBody (top 2)) (defScope (top 2)) [] [] f fd) (hf : mg "power" = some (.ref f))  : Keeps P w K mg base 1 "power" 2 s_power :=
  Keeps.of hf F.kp (F.bindsN (ps := ["base", "times"]) fun _ _ _ _ _ _ us hl => match us, hl with | [_, _], _ => rfl) (def_ok (k := 0) (Γ := g_power) (W := 1000000) F d_power ⟨fun f x n e => (by
    match f, e with
    | k + 0, e => cases e), C.blt, C.ty, fun x i h => C.con x i (by revert h; simp [I_power]), fun z => (by cases z)⟩)
theorem k_shared (C : Com mg) {f : Addr} {fd : FuncData} (F : FunD K "shared" "shared" (defArgs (top 4)) (defBody (top 4)) (defScope (top 4)) [] [] f fd) (hf : mg "shared" = some (.ref f)) (h0 : Keeps P w K mg base 1 "divisor" 2 s_divisor) : Keeps P w K mg base 2 "shared" 2 s_shared :=
  Keeps.of hf F.kp (F.bindsN (ps := ["a", "b"]) fun _ _ _ _ _ _ us hl => match us, hl with | [_, _], _ => rfl) (def_ok (k := 1) (Γ := g_shared) (W := 1000000) F d_shared ⟨fun f x n e => (by
    match f, e with
    | 0, e => cases e; exact h0.mono (by omega)
    | k + 1, e => cases e), C.blt, C.ty, fun x i h => C.con x i (by revert h; simp [I_shared]), fun z => (by cases z)⟩)
theorem k_shared_sum (C : Com mg) {f : Addr} {fd : FuncData} (F : FunD K "shared_sum" "shared_sum" (defArgs (top 5)) (defBody (top 5)) (defScope (top 5)) [] [] f fd) (hf : mg "shared_sum" = some (.ref f))  : Keeps P w K mg base 1 "shared_sum" 2 s_shared_sum :=
  Keeps.of hf F.kp (F.bindsN (ps := ["a", "b"]) fun _ _ _ _ _ _ us hl => match us, hl with | [_, _], _ => rfl) (def_ok (k := 0) (Γ := g_shared_sum) (W := 1000000) F d_shared_sum ⟨fun f x n e => (by
    match f, e with
    | k + 0, e => cases e), C.blt, C.ty, fun x i h => C.con x i (by revert h; simp [I_shared_sum]), fun z => (by cases z)⟩)
theorem k_solutions (C : Com mg) {f : Addr} {fd : FuncData} (F : FunD K "solutions" "solutions" (defArgs (top 6)) (defBody (top 6)) (defScope (top 6)) [] [] f fd) (hf : mg "solutions" = some (.ref f)) (h0 : Keeps P w K mg base 1 "shared_sum" 2 s_shared_sum) : Keeps P w K mg base 2 "solutions" 3 s_solutions :=
  Keeps.of hf F.kp (F.bindsN (ps := ["a", "b", "c"]) fun _ _ _ _ _ _ us hl => match us, hl with | [_, _, _], _ => rfl) (def_ok (k := 1) (Γ := g_solutions) (W := 1000000) F d_solutions ⟨fun f x n e => (by
    match f, e with
    | 0, e => cases e; exact h0.mono (by omega)
    | k + 1, e => cases e), C.blt, C.ty, fun x i h => C.con x i (by revert h; simp [I_solutions]), fun z => (by cases z)⟩)
theorem k_count_solutions (C : Com mg) {f : Addr} {fd : FuncData} (F : FunD K "count_solutions" "count_solutions" (defArgs (top 7)) (defBody (top 7)) (defScope (top 7)) [] [] f fd) (hf : mg "count_solutions" = some (.ref f)) (h0 : Keeps P w K mg base 2 "solutions" 3 s_solutions) : Keeps P w K mg base 3 "count_solutions" 3 s_count_solutions :=
  Keeps.of hf F.kp (F.bindsN (ps := ["a", "b", "c"]) fun _ _ _ _ _ _ us hl => match us, hl with | [_, _, _], _ => rfl) (def_ok (k := 2) (Γ := g_count_solutions) (W := 1000000) F d_count_solutions ⟨fun f x n e => (by
    match f, e with
    | 0, e => cases e; exact h0.mono (by omega)
    | k + 1, e => cases e), C.blt, C.ty, fun x i h => C.con x i (by revert h; simp [I_count_solutions]), fun z => (by cases z)⟩)
theorem k_primes_of (C : Com mg) {f : Addr} {fd : FuncData} (F : FunD K "primes_of" "primes_of" (defArgs (top 8)) (defBody (top 8)) (defScope (top 8)) [] [] f fd) (hf : mg "primes_of" = some (.ref f))  : Keeps P w K mg base 1 "primes_of" 1 s_primes_of :=
  Keeps.of hf F.kp (F.bindsN (ps := ["n"]) fun _ _ _ _ _ _ us hl => match us, hl with | [_], _ => rfl) (def_ok (k := 0) (Γ := g_primes_of) (W := 1000000) F d_primes_of ⟨fun f x n e => (by
    match f, e with
    | k + 0, e => cases e), C.blt, C.ty, fun x i h => C.con x i (by revert h; simp [I_primes_of]), fun z => (by cases z)⟩)
theorem k_divisors (C : Com mg) {f : Addr} {fd : FuncData} (F : FunD K "divisors" "divisors" (defArgs (top 9)) (defBody (top 9)) (defScope (top 9)) [] [] f fd) (hf : mg "divisors" = some (.ref f)) (h0 : Keeps P w K mg base 1 "primes_of" 1 s_primes_of) (h1 : Keeps P w K mg base 1 "power" 2 s_power) : Keeps P w K mg base 2 "divisors" 1 s_divisors :=
  Keeps.of hf F.kp (F.bindsN (ps := ["n"]) fun _ _ _ _ _ _ us hl => match us, hl with | [_], _ => rfl) (def_ok (k := 1) (Γ := g_divisors) (W := 1000000) F d_divisors ⟨fun f x n e => (by
    match f, e with
    | 0, e => cases e; exact h0.mono (by omega)
    | 1, e => cases e; exact h1.mono (by omega)
    | k + 2, e => cases e), C.blt, C.ty, fun x i h => C.con x i (by revert h; simp [I_divisors]), fun z => (by cases z)⟩)
theorem k_count_apart (C : Com mg) {f : Addr} {fd : FuncData} (F : FunD K "count_apart" "count_apart" (defArgs (top 10)) (defBody (top 10)) (defScope (top 10)) [] [] f fd) (hf : mg "count_apart" = some (.ref f)) (h0 : Keeps P w K mg base 1 "primes_of" 1 s_primes_of) (h1 : Keeps P w K mg base 1 "power" 2 s_power) : Keeps P w K mg base 2 "count_apart" 1 s_count_apart :=
  Keeps.of hf F.kp (F.bindsN (ps := ["n"]) fun _ _ _ _ _ _ us hl => match us, hl with | [_], _ => rfl) (def_ok (k := 1) (Γ := g_count_apart) (W := 1000000) F d_count_apart ⟨fun f x n e => (by
    match f, e with
    | 0, e => cases e; exact h0.mono (by omega)
    | 1, e => cases e; exact h1.mono (by omega)
    | k + 2, e => cases e), C.blt, C.ty, fun x i h => C.con x i (by revert h; simp [I_count_apart]), fun z => (by cases z)⟩)
theorem k_square_sign (C : Com mg) {f : Addr} {fd : FuncData} (F : FunD K "square_sign" "square_sign" (defArgs (top 11)) (defBody (top 11)) (defScope (top 11)) [] [] f fd) (hf : mg "square_sign" = some (.ref f)) (h0 : Keeps P w K mg base 1 "primes_of" 1 s_primes_of) : Keeps P w K mg base 2 "square_sign" 1 s_square_sign :=
  Keeps.of hf F.kp (F.bindsN (ps := ["n"]) fun _ _ _ _ _ _ us hl => match us, hl with | [_], _ => rfl) (def_ok (k := 1) (Γ := g_square_sign) (W := 1000000) F d_square_sign ⟨fun f x n e => (by
    match f, e with
    | 0, e => cases e; exact h0.mono (by omega)
    | k + 1, e => cases e), C.blt, C.ty, fun x i h => C.con x i (by revert h; simp [I_square_sign]), fun z => (by cases z)⟩)
theorem k_combined (C : Com mg) {f : Addr} {fd : FuncData} (F : FunD K "combined" "combined" (defArgs (top 12)) (defBody (top 12)) (defScope (top 12)) [] [] f fd) (hf : mg "combined" = some (.ref f))  : Keeps P w K mg base 1 "combined" 2 s_combined :=
  Keeps.of hf F.kp (F.bindsN (ps := ["f", "g"]) fun _ _ _ _ _ _ us hl => match us, hl with | [_, _], _ => rfl) (def_ok (k := 0) (Γ := g_combined) (W := 1000000) F d_combined ⟨fun f x n e => (by
    match f, e with
    | k + 0, e => cases e), C.blt, C.ty, fun x i h => C.con x i (by revert h; simp [I_combined]), fun z => (by cases z)⟩)
theorem k_taken_back (C : Com mg) {f : Addr} {fd : FuncData} (F : FunD K "taken_back" "taken_back" (defArgs (top 13)) (defBody (top 13)) (defScope (top 13)) [] [] f fd) (hf : mg "taken_back" = some (.ref f))  : Keeps P w K mg base 1 "taken_back" 1 s_taken_back :=
  Keeps.of hf F.kp (F.bindsN (ps := ["f"]) fun _ _ _ _ _ _ us hl => match us, hl with | [_], _ => rfl) (def_ok (k := 0) (Γ := g_taken_back) (W := 1000000) F d_taken_back ⟨fun f x n e => (by
    match f, e with
    | k + 0, e => cases e), C.blt, C.ty, fun x i h => C.con x i (by revert h; simp [I_taken_back]), fun z => (by cases z)⟩)
theorem k_together (C : Com mg) {f : Addr} {fd : FuncData} (F : FunD K "together" "together" (defArgs (top 14)) (defBody (top 14)) (defScope (top 14)) [] [] f fd) (hf : mg "together" = some (.ref f)) (h0 : Keeps P w K mg base 1 "shared_sum" 2 s_shared_sum) : Keeps P w K mg base 2 "together" 1 s_together :=
  Keeps.of hf F.kp (F.bindsN (ps := ["pairs"]) fun _ _ _ _ _ _ us hl => match us, hl with | [_], _ => rfl) (def_ok (k := 1) (Γ := g_together) (W := 1000000) F d_together ⟨fun f x n e => (by
    match f, e with
    | 0, e => cases e; exact h0.mono (by omega)
    | k + 1, e => cases e), C.blt, C.ty, fun x i h => C.con x i (by revert h; simp [I_together]), fun z => (by cases z)⟩)
theorem k__law_mixed (C : Com mg) {f : Addr} {fd : FuncData} (F : FunD K "_law_mixed" "_law_mixed" (defArgs (top 16)) (defBody (top 16)) (defScope (top 16)) [] [] f fd) (hf : mg "_law_mixed" = some (.ref f))  : Keeps P w K mg base 1 "_law_mixed" 2 s__law_mixed :=
  Keeps.of hf F.kp (F.bindsN (ps := ["script", "k"]) fun _ _ _ _ _ _ us hl => match us, hl with | [_, _], _ => rfl) (def_ok (k := 0) (Γ := g__law_mixed) (W := 1000000) F d__law_mixed ⟨fun f x n e => (by
    match f, e with
    | k + 0, e => cases e), C.blt, C.ty, fun x i h => C.con x i (by revert h; simp [I__law_mixed]), fun z => (by cases z)⟩)
theorem k__law_row (C : Com mg) {f : Addr} {fd : FuncData} (F : FunD K "_law_row" "_law_row" (defArgs (top 17)) (defBody (top 17)) (defScope (top 17)) [] [] f fd) (hf : mg "_law_row" = some (.ref f)) (h0 : Keeps P w K mg base 1 "_law_mixed" 2 s__law_mixed) : Keeps P w K mg base 2 "_law_row" 2 s__law_row :=
  Keeps.of hf F.kp (F.bindsN (ps := ["script", "many"]) fun _ _ _ _ _ _ us hl => match us, hl with | [_, _], _ => rfl) (def_ok (k := 1) (Γ := g__law_row) (W := 1000000) F d__law_row ⟨fun f x n e => (by
    match f, e with
    | 0, e => cases e; exact h0.mono (by omega)
    | k + 1, e => cases e), C.blt, C.ty, fun x i h => C.con x i (by revert h; simp [I__law_row]), fun z => (by cases z)⟩)
theorem k__law_is_int (C : Com mg) {f : Addr} {fd : FuncData} (F : FunD K "_law_is_int" "_law_is_int" (defArgs (top 18)) (defBody (top 18)) (defScope (top 18)) [] [] f fd) (hf : mg "_law_is_int" = some (.ref f))  : Keeps P w K mg base 1 "_law_is_int" 1 s__law_is_int :=
  Keeps.of hf F.kp (F.bindsN (ps := ["value"]) fun _ _ _ _ _ _ us hl => match us, hl with | [_], _ => rfl) (def_ok (k := 0) (Γ := g__law_is_int) (W := 1000000) F d__law_is_int ⟨fun f x n e => (by
    match f, e with
    | k + 0, e => cases e), C.blt, C.ty, fun x i h => C.con x i (by revert h; simp [I__law_is_int]), fun z => (by cases z)⟩)
theorem k__law_like (C : Com mg) {f : Addr} {fd : FuncData} (F : FunD K "_law_like" "_law_like" (defArgs (top 19)) (defBody (top 19)) (defScope (top 19)) [] [] f fd) (hf : mg "_law_like" = some (.ref f)) (h1 : Keeps P w K mg base 1 "_law_is_int" 1 s__law_is_int) : ∀ m : Nat, Keeps P w K mg base (1 + m) "_law_like" 2 (r__law_like m)
  | 0 => Keeps.zero (ps := ["value", "due"]) hf F.kp (F.bindsN (ps := ["value", "due"]) fun _ _ _ _ _ _ us hl => match us, hl with | [_, _], _ => rfl)
  | m + 1 => Keeps.of hf F.kp (F.bindsN (ps := ["value", "due"]) fun _ _ _ _ _ _ us hl => match us, hl with | [_, _], _ => rfl) (def_ok (k := 1 + m) (Γ := g__law_like (r__law_like m)) (W := 1000000) F d__law_like ⟨fun f x n e => (by
    match f, e with
    | 0, e => cases e; exact k__law_like C F hf h1 m
    | 1, e => cases e; exact h1.mono (by omega)
    | k + 2, e => cases e), C.blt, C.ty, fun x i h => C.con x i (by revert h; simp [I__law_like]), fun z => (by cases z)⟩)
theorem k__law_gcd (C : Com mg) {f : Addr} {fd : FuncData} (F : FunD K "_law_gcd" "_law_gcd" (defArgs (top 20)) (defBody (top 20)) (defScope (top 20)) [] [] f fd) (hf : mg "_law_gcd" = some (.ref f))  : Keeps P w K mg base 1 "_law_gcd" 2 s__law_gcd :=
  Keeps.of hf F.kp (F.bindsN (ps := ["one", "other"]) fun _ _ _ _ _ _ us hl => match us, hl with | [_, _], _ => rfl) (def_ok (k := 0) (Γ := g__law_gcd) (W := 1000000) F d__law_gcd ⟨fun f x n e => (by
    match f, e with
    | k + 0, e => cases e), C.blt, C.ty, fun x i h => C.con x i (by revert h; simp [I__law_gcd]), fun z => (by cases z)⟩)
theorem k__law_ways (C : Com mg) {f : Addr} {fd : FuncData} (F : FunD K "_law_ways" "_law_ways" (defArgs (top 21)) (defBody (top 21)) (defScope (top 21)) [] [] f fd) (hf : mg "_law_ways" = some (.ref f))  : Keeps P w K mg base 1 "_law_ways" 3 s__law_ways :=
  Keeps.of hf F.kp (F.bindsN (ps := ["a", "b", "c"]) fun _ _ _ _ _ _ us hl => match us, hl with | [_, _, _], _ => rfl) (def_ok (k := 0) (Γ := g__law_ways) (W := 1000000) F d__law_ways ⟨fun f x n e => (by
    match f, e with
    | k + 0, e => cases e), C.blt, C.ty, fun x i h => C.con x i (by revert h; simp [I__law_ways]), fun z => (by cases z)⟩)
theorem k__law_made_right (C : Com mg) {f : Addr} {fd : FuncData} (F : FunD K "_law_made_right" "_law_made_right" (defArgs (top 22)) (defBody (top 22)) (defScope (top 22)) [] [] f fd) (hf : mg "_law_made_right" = some (.ref f)) (h0 : Keeps P w K mg base 13 "count_solutions" 3 s_count_solutions) (h1 : Keeps P w K mg base 13 "_law_ways" 3 s__law_ways) (h2 : Keeps P w K mg base 13 "_law_like" 2 s__law_like) (h3 : Keeps P w K mg base 13 "solutions" 3 s_solutions) : Keeps P w K mg base 14 "_law_made_right" 4 s__law_made_right :=
  Keeps.of hf F.kp (F.bindsN (ps := ["a", "b", "c", "k"]) fun _ _ _ _ _ _ us hl => match us, hl with | [_, _, _, _], _ => rfl) (def_ok (k := 13) (Γ := g__law_made_right) (W := 1000000) F d__law_made_right ⟨fun f x n e => (by
    match f, e with
    | 0, e => cases e; exact h0.mono (by omega)
    | 1, e => cases e; exact h1.mono (by omega)
    | 2, e => cases e; exact h2.mono (by omega)
    | 3, e => cases e; exact h3.mono (by omega)
    | k + 4, e => cases e), C.blt, C.ty, fun x i h => C.con x i (by revert h; simp [I__law_made_right]), fun z => (by cases z)⟩)
theorem k__law_shared_right (C : Com mg) {f : Addr} {fd : FuncData} (F : FunD K "_law_shared_right" "_law_shared_right" (defArgs (top 23)) (defBody (top 23)) (defScope (top 23)) [] [] f fd) (hf : mg "_law_shared_right" = some (.ref f)) (h0 : Keeps P w K mg base 13 "_law_gcd" 2 s__law_gcd) (h1 : Keeps P w K mg base 13 "shared" 2 s_shared) (h2 : Keeps P w K mg base 13 "_law_like" 2 s__law_like) (h3 : Keeps P w K mg base 13 "shared_sum" 2 s_shared_sum) : Keeps P w K mg base 14 "_law_shared_right" 3 s__law_shared_right :=
  Keeps.of hf F.kp (F.bindsN (ps := ["one", "other", "third"]) fun _ _ _ _ _ _ us hl => match us, hl with | [_, _, _], _ => rfl) (def_ok (k := 13) (Γ := g__law_shared_right) (W := 1000000) F d__law_shared_right ⟨fun f x n e => (by
    match f, e with
    | 0, e => cases e; exact h0.mono (by omega)
    | 1, e => cases e; exact h1.mono (by omega)
    | 2, e => cases e; exact h2.mono (by omega)
    | 3, e => cases e; exact h3.mono (by omega)
    | k + 4, e => cases e), C.blt, C.ty, fun x i h => C.con x i (by revert h; simp [I__law_shared_right]), fun z => (by cases z)⟩)
theorem k__law_factors (C : Com mg) {f : Addr} {fd : FuncData} (F : FunD K "_law_factors" "_law_factors" (defArgs (top 24)) (defBody (top 24)) (defScope (top 24)) [] [] f fd) (hf : mg "_law_factors" = some (.ref f))  : Keeps P w K mg base 1 "_law_factors" 1 s__law_factors :=
  Keeps.of hf F.kp (F.bindsN (ps := ["n"]) fun _ _ _ _ _ _ us hl => match us, hl with | [_], _ => rfl) (def_ok (k := 0) (Γ := g__law_factors) (W := 1000000) F d__law_factors ⟨fun f x n e => (by
    match f, e with
    | k + 0, e => cases e), C.blt, C.ty, fun x i h => C.con x i (by revert h; simp [I__law_factors]), fun z => (by cases z)⟩)
theorem k__law_products_right (C : Com mg) {f : Addr} {fd : FuncData} (F : FunD K "_law_products_right" "_law_products_right" (defArgs (top 25)) (defBody (top 25)) (defScope (top 25)) [] [] f fd) (hf : mg "_law_products_right" = some (.ref f)) (h0 : Keeps P w K mg base 13 "_law_factors" 1 s__law_factors) (h1 : Keeps P w K mg base 13 "_law_like" 2 s__law_like) (h2 : Keeps P w K mg base 13 "primes_of" 1 s_primes_of) (h3 : Keeps P w K mg base 13 "divisors" 1 s_divisors) (h4 : Keeps P w K mg base 13 "count_apart" 1 s_count_apart) (h5 : Keeps P w K mg base 13 "square_sign" 1 s_square_sign) (h6 : Keeps P w K mg base 13 "_law_gcd" 2 s__law_gcd) : Keeps P w K mg base 14 "_law_products_right" 2 s__law_products_right :=
  Keeps.of hf F.kp (F.bindsN (ps := ["n", "m"]) fun _ _ _ _ _ _ us hl => match us, hl with | [_, _], _ => rfl) (def_ok (k := 13) (Γ := g__law_products_right) (W := 1000000) F d__law_products_right ⟨fun f x n e => (by
    match f, e with
    | 0, e => cases e; exact h0.mono (by omega)
    | 1, e => cases e; exact h1.mono (by omega)
    | 2, e => cases e; exact h2.mono (by omega)
    | 3, e => cases e; exact h3.mono (by omega)
    | 4, e => cases e; exact h4.mono (by omega)
    | 5, e => cases e; exact h5.mono (by omega)
    | 6, e => cases e; exact h6.mono (by omega)
    | k + 7, e => cases e), C.blt, C.ty, fun x i h => C.con x i (by revert h; simp [I__law_products_right]), fun z => (by cases z)⟩)
theorem k__law_combined (C : Com mg) {f : Addr} {fd : FuncData} (F : FunD K "_law_combined" "_law_combined" (defArgs (top 26)) (defBody (top 26)) (defScope (top 26)) [] [] f fd) (hf : mg "_law_combined" = some (.ref f))  : Keeps P w K mg base 1 "_law_combined" 2 s__law_combined :=
  Keeps.of hf F.kp (F.bindsN (ps := ["f", "g"]) fun _ _ _ _ _ _ us hl => match us, hl with | [_, _], _ => rfl) (def_ok (k := 0) (Γ := g__law_combined) (W := 1000000) F d__law_combined ⟨fun f x n e => (by
    match f, e with
    | k + 0, e => cases e), C.blt, C.ty, fun x i h => C.con x i (by revert h; simp [I__law_combined]), fun z => (by cases z)⟩)
theorem k__law_rows_right (C : Com mg) {f : Addr} {fd : FuncData} (F : FunD K "_law_rows_right" "_law_rows_right" (defArgs (top 27)) (defBody (top 27)) (defScope (top 27)) [] [] f fd) (hf : mg "_law_rows_right" = some (.ref f)) (h0 : Keeps P w K mg base 13 "_law_combined" 2 s__law_combined) (h1 : Keeps P w K mg base 13 "_law_like" 2 s__law_like) (h2 : Keeps P w K mg base 13 "combined" 2 s_combined) (h3 : Keeps P w K mg base 13 "taken_back" 1 s_taken_back) : Keeps P w K mg base 14 "_law_rows_right" 3 s__law_rows_right :=
  Keeps.of hf F.kp (F.bindsN (ps := ["f", "g", "h"]) fun _ _ _ _ _ _ us hl => match us, hl with | [_, _, _], _ => rfl) (def_ok (k := 13) (Γ := g__law_rows_right) (W := 1000000) F d__law_rows_right ⟨fun f x n e => (by
    match f, e with
    | 0, e => cases e; exact h0.mono (by omega)
    | 1, e => cases e; exact h1.mono (by omega)
    | 2, e => cases e; exact h2.mono (by omega)
    | 3, e => cases e; exact h3.mono (by omega)
    | k + 4, e => cases e), C.blt, C.ty, fun x i h => C.con x i (by revert h; simp [I__law_rows_right]), fun z => (by cases z)⟩)
theorem k__law_together_right (C : Com mg) {f : Addr} {fd : FuncData} (F : FunD K "_law_together_right" "_law_together_right" (defArgs (top 28)) (defBody (top 28)) (defScope (top 28)) [] [] f fd) (hf : mg "_law_together_right" = some (.ref f)) (h0 : Keeps P w K mg base 13 "_law_gcd" 2 s__law_gcd) (h1 : Keeps P w K mg base 13 "_law_like" 2 s__law_like) (h2 : Keeps P w K mg base 13 "together" 1 s_together) : Keeps P w K mg base 14 "_law_together_right" 2 s__law_together_right :=
  Keeps.of hf F.kp (F.bindsN (ps := ["pairs", "cut"]) fun _ _ _ _ _ _ us hl => match us, hl with | [_, _], _ => rfl) (def_ok (k := 13) (Γ := g__law_together_right) (W := 1000000) F d__law_together_right ⟨fun f x n e => (by
    match f, e with
    | 0, e => cases e; exact h0.mono (by omega)
    | 1, e => cases e; exact h1.mono (by omega)
    | 2, e => cases e; exact h2.mono (by omega)
    | k + 3, e => cases e), C.blt, C.ty, fun x i h => C.con x i (by revert h; simp [I__law_together_right]), fun z => (by cases z)⟩)
theorem k_law (C : Com mg) {f : Addr} {fd : FuncData} (F : FunD K "law" "law" (defArgs (top 29)) (defBody (top 29)) (defScope (top 29)) [] [] f fd) (hf : mg "law" = some (.ref f)) (h0 : Keeps P w K mg base 14 "_law_row" 2 s__law_row) (h1 : Keeps P w K mg base 14 "_law_gcd" 2 s__law_gcd) (h2 : Keeps P w K mg base 14 "_law_made_right" 4 s__law_made_right) (h3 : Keeps P w K mg base 14 "_law_shared_right" 3 s__law_shared_right) (h4 : Keeps P w K mg base 14 "_law_products_right" 2 s__law_products_right) (h5 : Keeps P w K mg base 14 "_law_rows_right" 3 s__law_rows_right) (h6 : Keeps P w K mg base 14 "_law_together_right" 2 s__law_together_right) : Keeps P w K mg base 15 "law" 1 s_law :=
  Keeps.of hf F.kp (F.bindsN (ps := ["script"]) fun _ _ _ _ _ _ us hl => match us, hl with | [_], _ => rfl) (def_ok (k := 14) (Γ := g_law) (W := 1000000) F d_law ⟨fun f x n e => (by
    match f, e with
    | 0, e => cases e; exact h0.mono (by omega)
    | 1, e => cases e; exact h1.mono (by omega)
    | 2, e => cases e; exact h2.mono (by omega)
    | 3, e => cases e; exact h3.mono (by omega)
    | 4, e => cases e; exact h4.mono (by omega)
    | 5, e => cases e; exact h5.mono (by omega)
    | 6, e => cases e; exact h6.mono (by omega)
    | k + 7, e => cases e), C.blt, C.ty, fun x i h => C.con x i (by revert h; simp [I_law]), fun z => (by cases z)⟩)
theorem facts {h : Heap} {f : Addr} (X : K.In h) (G : h.Ns mainGlobals mg) (hfa : mg ("law" : Str) = some (.ref f)) (c : He.SaysD fa fn K) (cb : bltOk bs K = true) :
    ∃ fd : FuncData, (∀ (s : Shared) (v : Value), BindsTo s fd ⟨[v], []⟩ [("script", v)]) ∧ ∀ base : Heap, K.In base → base.Ns mainGlobals mg → FnOk P w K mg base L2.CX0 15 f fd ["script"] (spD K 1 s_law) := by
  have fr : ∀ i x, fa[i]? = some (He.Fa.free x) → mg x = none := fun i x e => He.free_ok X G (c.fact i e)
  have C : Com mg := by
    refine ⟨fun b hb => ?_, fun x hx => ?_, fun x i hx => ?_, fun z => z.elim⟩
    · cases b with
      | isqrt => exact absurd rfl hb
      | len => exact fr 27 "len" rfl
      | sum => exact fr 28 "sum" rfl
      | all => exact fr 29 "all" rfl
      | any => exact fr 30 "any" rfl
      | abs => exact fr 31 "abs" rfl
      | max1 => exact fr 32 "max" rfl
      | min1 => exact fr 33 "min" rfl
      | max2 => exact fr 32 "max" rfl
      | min2 => exact fr 33 "min" rfl
      | int => exact fr 34 "int" rfl
      | tuple => exact fr 35 "tuple" rfl
      | list => exact fr 36 "list" rfl
      | sorted => exact fr 37 "sorted" rfl
      | sortedRev => exact fr 37 "sorted" rfl
      | sortedSet => exact fr 37 "sorted" rfl
      | isInt => exact fr 38 "isinstance" rfl
      | isBool => exact fr 38 "isinstance" rfl
      | isTuple => exact fr 38 "isinstance" rfl
      | isStr => exact fr 38 "isinstance" rfl
      | range => exact fr 39 "range" rfl
      | enumerate => exact fr 40 "enumerate" rfl
      | zip => exact fr 41 "zip" rfl
      | reversed => exact fr 42 "reversed" rfl
    · rcases hx with rfl | rfl | rfl
      · exact fr 43 _ rfl
      · exact fr 44 _ rfl
      · exact fr 45 _ rfl
    · cases hx
  obtain ⟨fd0, F0⟩ := c.def_ 0 rfl
  obtain ⟨fd1, F1⟩ := c.def_ 1 rfl
  obtain ⟨fd2, F2⟩ := c.def_ 2 rfl
  obtain ⟨fd3, F3⟩ := c.def_ 3 rfl
  obtain ⟨fd4, F4⟩ := c.def_ 4 rfl
  obtain ⟨fd5, F5⟩ := c.def_ 5 rfl
  obtain ⟨fd6, F6⟩ := c.def_ 6 rfl
  obtain ⟨fd7, F7⟩ := c.def_ 7 rfl
  obtain ⟨fd8, F8⟩ := c.def_ 8 rfl
  obtain ⟨fd9, F9⟩ := c.def_ 9 rfl
  obtain ⟨fd10, F10⟩ := c.def_ 10 rfl
  obtain ⟨fd11, F11⟩ := c.def_ 11 rfl
  obtain ⟨fd12, F12⟩ := c.def_ 12 rfl
  obtain ⟨fd13, F13⟩ := c.def_ 13 rfl
  obtain ⟨fd14, F14⟩ := c.def_ 14 rfl
  obtain ⟨fd15, F15⟩ := c.def_ 15 rfl
  obtain ⟨fd16, F16⟩ := c.def_ 16 rfl
  obtain ⟨fd17, F17⟩ := c.def_ 17 rfl
  obtain ⟨fd18, F18⟩ := c.def_ 18 rfl
  obtain ⟨fd19, F19⟩ := c.def_ 19 rfl
  obtain ⟨fd20, F20⟩ := c.def_ 20 rfl
  obtain ⟨fd21, F21⟩ := c.def_ 21 rfl
  obtain ⟨fd22, F22⟩ := c.def_ 22 rfl
  obtain ⟨fd23, F23⟩ := c.def_ 23 rfl
  obtain ⟨fd24, F24⟩ := c.def_ 24 rfl
  obtain ⟨fd25, F25⟩ := c.def_ 25 rfl
  obtain ⟨fd, F26⟩ := c.def_ 26 rfl
  cases hfa.symm.trans (He.glo_ok X G (c.fact 26 (f := He.Fa.glo "law") rfl))
  have b := FunD.bindsA (ps := ["script"]) F26 fun _ _ _ _ _ _ us hl => match us, hl with | [_], _ => rfl
  refine ⟨fd, fun s v => b s [v] rfl, fun base _ _ => ?_⟩
  have H0 : Keeps P w K mg base 1 "divisor" 2 s_divisor := k_divisor C F0 (He.glo_ok X G (c.fact 0 (f := He.Fa.glo "divisor") rfl)) 
  have H1 : Keeps P w K mg base 1 "power" 2 s_power := k_power C F1 (He.glo_ok X G (c.fact 1 (f := He.Fa.glo "power") rfl)) 
  have H2 : Keeps P w K mg base 2 "shared" 2 s_shared := k_shared C F2 (He.glo_ok X G (c.fact 2 (f := He.Fa.glo "shared") rfl)) (H0.mono (by decide))
  have H3 : Keeps P w K mg base 1 "shared_sum" 2 s_shared_sum := k_shared_sum C F3 (He.glo_ok X G (c.fact 3 (f := He.Fa.glo "shared_sum") rfl)) 
  have H4 : Keeps P w K mg base 2 "solutions" 3 s_solutions := k_solutions C F4 (He.glo_ok X G (c.fact 4 (f := He.Fa.glo "solutions") rfl)) (H3.mono (by decide))
  have H5 : Keeps P w K mg base 3 "count_solutions" 3 s_count_solutions := k_count_solutions C F5 (He.glo_ok X G (c.fact 5 (f := He.Fa.glo "count_solutions") rfl)) (H4.mono (by decide))
  have H6 : Keeps P w K mg base 1 "primes_of" 1 s_primes_of := k_primes_of C F6 (He.glo_ok X G (c.fact 6 (f := He.Fa.glo "primes_of") rfl)) 
  have H7 : Keeps P w K mg base 2 "divisors" 1 s_divisors := k_divisors C F7 (He.glo_ok X G (c.fact 7 (f := He.Fa.glo "divisors") rfl)) (H6.mono (by decide)) (H1.mono (by decide))
  have H8 : Keeps P w K mg base 2 "count_apart" 1 s_count_apart := k_count_apart C F8 (He.glo_ok X G (c.fact 8 (f := He.Fa.glo "count_apart") rfl)) (H6.mono (by decide)) (H1.mono (by decide))
  have H9 : Keeps P w K mg base 2 "square_sign" 1 s_square_sign := k_square_sign C F9 (He.glo_ok X G (c.fact 9 (f := He.Fa.glo "square_sign") rfl)) (H6.mono (by decide))
  have H10 : Keeps P w K mg base 1 "combined" 2 s_combined := k_combined C F10 (He.glo_ok X G (c.fact 10 (f := He.Fa.glo "combined") rfl)) 
  have H11 : Keeps P w K mg base 1 "taken_back" 1 s_taken_back := k_taken_back C F11 (He.glo_ok X G (c.fact 11 (f := He.Fa.glo "taken_back") rfl)) 
  have H12 : Keeps P w K mg base 2 "together" 1 s_together := k_together C F12 (He.glo_ok X G (c.fact 12 (f := He.Fa.glo "together") rfl)) (H3.mono (by decide))
  have H13 : Keeps P w K mg base 1 "_law_mixed" 2 s__law_mixed := k__law_mixed C F13 (He.glo_ok X G (c.fact 13 (f := He.Fa.glo "_law_mixed") rfl)) 
  have H14 : Keeps P w K mg base 2 "_law_row" 2 s__law_row := k__law_row C F14 (He.glo_ok X G (c.fact 14 (f := He.Fa.glo "_law_row") rfl)) (H13.mono (by decide))
  have H15 : Keeps P w K mg base 1 "_law_is_int" 1 s__law_is_int := k__law_is_int C F15 (He.glo_ok X G (c.fact 15 (f := He.Fa.glo "_law_is_int") rfl)) 
  have H16 : Keeps P w K mg base 13 "_law_like" 2 s__law_like := k__law_like C F16 (He.glo_ok X G (c.fact 16 (f := He.Fa.glo "_law_like") rfl)) (H15.mono (by decide)) 12
  have H17 : Keeps P w K mg base 1 "_law_gcd" 2 s__law_gcd := k__law_gcd C F17 (He.glo_ok X G (c.fact 17 (f := He.Fa.glo "_law_gcd") rfl)) 
  have H18 : Keeps P w K mg base 1 "_law_ways" 3 s__law_ways := k__law_ways C F18 (He.glo_ok X G (c.fact 18 (f := He.Fa.glo "_law_ways") rfl)) 
  have H19 : Keeps P w K mg base 14 "_law_made_right" 4 s__law_made_right := k__law_made_right C F19 (He.glo_ok X G (c.fact 19 (f := He.Fa.glo "_law_made_right") rfl)) (H5.mono (by decide)) (H18.mono (by decide)) (H16.mono (by decide)) (H4.mono (by decide))
  have H20 : Keeps P w K mg base 14 "_law_shared_right" 3 s__law_shared_right := k__law_shared_right C F20 (He.glo_ok X G (c.fact 20 (f := He.Fa.glo "_law_shared_right") rfl)) (H17.mono (by decide)) (H2.mono (by decide)) (H16.mono (by decide)) (H3.mono (by decide))
  have H21 : Keeps P w K mg base 1 "_law_factors" 1 s__law_factors := k__law_factors C F21 (He.glo_ok X G (c.fact 21 (f := He.Fa.glo "_law_factors") rfl)) 
  have H22 : Keeps P w K mg base 14 "_law_products_right" 2 s__law_products_right := k__law_products_right C F22 (He.glo_ok X G (c.fact 22 (f := He.Fa.glo "_law_products_right") rfl)) (H21.mono (by decide)) (H16.mono (by decide)) (H6.mono (by decide)) (H7.mono (by decide)) (H8.mono (by decide)) (H9.mono (by decide)) (H17.mono (by decide))
  have H23 : Keeps P w K mg base 1 "_law_combined" 2 s__law_combined := k__law_combined C F23 (He.glo_ok X G (c.fact 23 (f := He.Fa.glo "_law_combined") rfl)) 
  have H24 : Keeps P w K mg base 14 "_law_rows_right" 3 s__law_rows_right := k__law_rows_right C F24 (He.glo_ok X G (c.fact 24 (f := He.Fa.glo "_law_rows_right") rfl)) (H23.mono (by decide)) (H16.mono (by decide)) (H10.mono (by decide)) (H11.mono (by decide))
  have H25 : Keeps P w K mg base 14 "_law_together_right" 2 s__law_together_right := k__law_together_right C F25 (He.glo_ok X G (c.fact 25 (f := He.Fa.glo "_law_together_right") rfl)) (H17.mono (by decide)) (H16.mono (by decide)) (H12.mono (by decide))
  exact def_ok (k := 14) (Γ := g_law) (W := 1000000) F26 d_law ⟨fun f x n e => (by
    match f, e with
    | 0, e => cases e; exact H14.mono (by decide)
    | 1, e => cases e; exact H17.mono (by decide)
    | 2, e => cases e; exact H19.mono (by decide)
    | 3, e => cases e; exact H20.mono (by decide)
    | 4, e => cases e; exact H22.mono (by decide)
    | 5, e => cases e; exact H24.mono (by decide)
    | 6, e => cases e; exact H25.mono (by decide)
    | k + 7, e => cases e), C.blt, C.ty, fun x i h => C.con x i (by revert h; simp [I_law]), fun z => (by cases z)⟩
end
end K12
end
section
set_option Elab.async false
set_option linter.all false
set_option maxRecDepth 100000
set_option maxHeartbeats 2000000
/-! EngM: meanings run by hand: statements one by one, loops by what stays true. -/
namespace Eng
open PySem
section
variable {Γ : Fs} {W : Nat}
theorem blt_of {n s : Nat} (h : n < s) : Nat.blt n s = true := Nat.ble_eq_true_of_le h
theorem ble_of {n s : Nat} (h : n ≤ s) : Nat.ble n s = true := Nat.ble_eq_true_of_le h
theorem SL_eq : SL = 16777216 := rfl
theorem lenLt_of {n : Nat} (h : n < SL) : lenLt n = true := blt_of h
theorem lenOk_of {n : Nat} (h : n ≤ SL) : lenOk n = true := ble_of h
theorem ev_bi {b : Bi} {es : List E} {σ : Sg} {ds : List D} {d : D} (h1 : evs Γ es σ = some ds) (h2 : biD b ds = some d) : ev Γ (.bi b es) σ = some d := by
  simp only [ev, h1, Option.bind_some, h2]
theorem ev_call {f : Nat} {es : List E} {σ : Sg} {ds : List D} {d : D} (h1 : evs Γ es σ = some ds) (h2 : Γ f ds = some d) : ev Γ (.call f false es) σ = some d := by
  simp only [ev, h1, Option.bind_some, h2, Bool.not_false, Bool.true_or, if_true]
theorem ev_callB {f : Nat} {es : List E} {σ : Sg} {ds : List D} {d : D} (h1 : evs Γ es σ = some ds) (h2 : Γ f ds = some d) (h3 : flatB d = true) : ev Γ (.call f true es) σ = some d := by
  simp only [ev, h1, Option.bind_some, h2, h3, Bool.or_true, if_true]
theorem evs_cons {e : E} {es : List E} {σ : Sg} {d : D} {ds : List D} (h1 : ev Γ e σ = some d) (h2 : evs Γ es σ = some ds) : evs Γ (e :: es) σ = some (d :: ds) := by
  simp only [evs, h1, h2, Option.bind_some, Option.map_some]
theorem ev_comp {tg : Tg} {own : List (Str × Nat)} {it : E} {cond : List E} {elt : E} {σ : Sg} {d : D} {xs rs : List D} (h1 : ev Γ it σ = some d) (h2 : elemsP d = some xs) (h3 : xs.length ≤ SL) (h4 : compL (turnC Γ tg (own.map (·.2)) cond elt σ) xs = some rs) : ev Γ (.comp tg own it cond elt) σ = some (.list rs) := by
  simp only [ev, h1, h2, Option.bind_some, lenOk_of h3, if_true]
  exact congrArg (Option.map PyData.list) h4
theorem compL_get {f : D → Option (Option D)} : ∀ {xs ys : List D}, ys.length = xs.length → (∀ (i : Nat) x y, xs[i]? = some x → ys[i]? = some y → f x = some (some y)) → compL f xs = some ys
  | [], [], _, _ => rfl
  | x :: xs, y :: ys, hl, h => by
    have h0 := h 0 x y rfl rfl
    have h1 := compL_get (f := f) (xs := xs) (ys := ys) (by simpa using hl) fun i a b ha hb => h (i + 1) a b ha hb
    simp only [compL, h0, h1, Option.bind_some, Option.map_some]
  | [], _ :: _, hl, _ => by simp at hl
  | _ :: _, [], hl, _ => by simp at hl
/-- some kept, some left out -/
theorem compL_filter {α : Type} {f : D → Option (Option D)} {g : α → D} {p : α → Option D} : ∀ {xs : List α}, (∀ x ∈ xs, f (g x) = some (p x)) → compL f (xs.map g) = some (xs.filterMap p)
  | [], _ => rfl
  | x :: xs, h => by
    have h0 := h x (by simp)
    have h1 := compL_filter (f := f) (g := g) (p := p) (xs := xs) fun y hy => h y (by simp [hy])
    simp only [List.map_cons, compL, h0, h1, Option.bind_some, Option.map_some]
    cases hp : p x with
    | none => rw [List.filterMap_cons_none hp]
    | some y => rw [List.filterMap_cons_some hp]
theorem ev_and_t {a b : E} {σ : Sg} {x d : D} (h1 : ev Γ a σ = some x) (ht : truth x = some true) (h2 : ev Γ b σ = some d) : ev Γ (.and a b) σ = some d := by
  simp only [ev, h1, ht, h2, Option.bind_some, if_true]
theorem ev_and_f {a b : E} {σ : Sg} {x : D} (h1 : ev Γ a σ = some x) (ht : truth x = some false) : ev Γ (.and a b) σ = some x := by
  simp only [ev, h1, ht, Option.bind_some, Bool.false_eq_true, if_false]
theorem ev_or_t {a b : E} {σ : Sg} {x : D} (h1 : ev Γ a σ = some x) (ht : truth x = some true) : ev Γ (.or a b) σ = some x := by
  simp only [ev, h1, ht, Option.bind_some, if_true]
theorem ev_or_f {a b : E} {σ : Sg} {x d : D} (h1 : ev Γ a σ = some x) (ht : truth x = some false) (h2 : ev Γ b σ = some d) : ev Γ (.or a b) σ = some d := by
  simp only [ev, h1, ht, h2, Option.bind_some, Bool.false_eq_true, if_false]
theorem ev_not {a : E} {σ : Sg} {x : D} {t : Bool} (h1 : ev Γ a σ = some x) (ht : truth x = some t) : ev Γ (.not a) σ = some (.bool (!t)) := by
  simp only [ev, h1, ht, Option.bind_some, Option.map_some]
theorem ev_cmp {o : Cop} {a b : E} {σ : Sg} {x y : D} {t : Bool} (h1 : ev Γ a σ = some x) (h2 : ev Γ b σ = some y) (h3 : cmp o x y = some t) : ev Γ (.cmp o a b) σ = some (.bool t) := by
  simp only [ev, h1, h2, h3, Option.bind_some, Option.map_some]
theorem ev_bin {o : Bop} {a b : E} {σ : Sg} {x y z : D} (h1 : ev Γ a σ = some x) (h2 : ev Γ b σ = some y) (h3 : bin o x y = some z) : ev Γ (.bin o a b) σ = some z := by
  simp only [ev, h1, h2, h3, Option.bind_some]
theorem ev_ite {c a b : E} {σ : Sg} {x : D} {t : Bool} {d : D} (h1 : ev Γ c σ = some x) (ht : truth x = some t) (h2 : (if t then ev Γ a σ else ev Γ b σ) = some d) : ev Γ (.ite c a b) σ = some d := by
  simp only [ev, h1, ht, Option.bind_some, h2]
theorem ev_idx {a i : E} {σ : Sg} {x k d : D} (h1 : ev Γ a σ = some x) (h2 : ev Γ i σ = some k) (h3 : idx x k = some d) : ev Γ (.idx a i) σ = some d := by
  simp only [ev, h1, h2, h3, Option.bind_some]
theorem ev_tup {es : List E} {σ : Sg} {ds : List D} (h1 : evs Γ es σ = some ds) (h2 : ds.length ≤ SL) : ev Γ (.tup es) σ = some (.tuple ds) := by
  simp only [ev, h1, Option.bind_some, lenOk_of h2, if_true]
theorem ev_lst {es : List E} {σ : Sg} {ds : List D} (h1 : evs Γ es σ = some ds) (h2 : ds.length ≤ SL) : ev Γ (.lst es) σ = some (.list ds) := by
  simp only [ev, h1, Option.bind_some, lenOk_of h2, if_true]
theorem ex_ret {fr : Bool} {e : E} {σ : Sg} {d : D} (h : ev Γ e σ = some d) (hf : (fr || !isList d) = true) : ex Γ W (.ret fr e) σ = some (.rt d) := by
  simp only [ex, h, Option.bind_some, hf, if_true]
theorem ex_ite {c : E} {a b : List S} {σ : Sg} {x : D} {t : Bool} {r : Option Fl} (h : ev Γ c σ = some x) (ht : truth x = some t) (hr : (if t then exs Γ W a σ else exs Γ W b σ) = r) : ex Γ W (.ite c a b) σ = r := by
  simp only [ex, h, ht, Option.bind_some, hr]
theorem ex_asg {tg : Tg} {e : E} {σ σ' : Sg} {d : D} (h : ev Γ e σ = some d) (hp : put tg d σ = some σ') : ex Γ W (.asg tg e) σ = some (.nx σ') := by
  simp only [ex, h, hp, Option.bind_some, Option.map_some]
theorem ex_par {is : List Nat} {es : List E} {σ σ' : Sg} {ds : List D} (h : evs Γ es σ = some ds) (hp : puts (is.map .one) ds σ = some σ') : ex Γ W (.par is es) σ = some (.nx σ') := by
  simp only [ex, h, hp, Option.bind_some, Option.map_some]
theorem ex_aug {x : Nat} {o : Bop} {e : E} {σ : Sg} {a b z : Int} (h1 : Eng.get σ x = some (.int a)) (h2 : ev Γ e σ = some (.int b)) (h3 : binI o a b = some z) : ex Γ W (.aug x o e) σ = some (.nx (σ.set x (some (.int z)))) := by
  simp only [ex, h1, h2, h3, Option.bind_some, Option.map_some, asInt]
theorem ex_app {x : Nat} {e : E} {σ : Sg} {xs : List D} {v : D} (h1 : Eng.get σ x = some (.list xs)) (h2 : ev Γ e σ = some v) (h3 : xs.length < SL) : ex Γ W (.app x e) σ = some (.nx (σ.set x (some (.list (xs ++ [v]))))) := by
  simp only [ex, h1, h2, Option.bind_some, lapp, lenLt_of h3, if_true, Option.map_some]
/-- while, by what stays true and what falls -/
theorem wh_inv {c : E} {body : List S} (P : Sg → Prop) (μ : Sg → Nat) {Q : Sg → Prop} : ∀ (N : Nat) {σ : Sg}, P σ → μ σ < N →
    (∀ σ, P σ → (∃ x, ev Γ c σ = some x ∧ truth x = some false ∧ Q σ) ∨ (∃ x σ', ev Γ c σ = some x ∧ truth x = some true ∧ exs Γ W body σ = some (.nx σ') ∧ P σ' ∧ μ σ' < μ σ)) →
    ∃ σ', whL (fun σ => (ev Γ c σ).bind truth) (fun σ => exs Γ W body σ) N σ = some (.nx σ') ∧ Q σ'
  | 0, σ, _, h, _ => absurd h (Nat.not_lt_zero _)
  | N + 1, σ, p, h, st => by
    rcases st σ p with ⟨x, h1, h2, q⟩ | ⟨x, σ', h1, h2, h3, p', hm⟩
    · exact ⟨σ, by simp only [whL, h1, h2, Option.bind_some, Bool.false_eq_true, if_false], q⟩
    · obtain ⟨σ2, h4, q⟩ := wh_inv P μ (Q := Q) N p' (by omega) st
      exact ⟨σ2, by simp only [whL, h1, h2, h3, Option.bind_some, if_true]; exact h4, q⟩
theorem ex_wh {w : List Nat} {c : E} {body : List S} (P : Sg → Prop) (μ : Sg → Nat) {Q : Sg → Prop} {σ : Sg} (p : P σ) (h : μ σ < W)
    (st : ∀ σ, P σ → (∃ x, ev Γ c σ = some x ∧ truth x = some false ∧ Q σ) ∨ (∃ x σ', ev Γ c σ = some x ∧ truth x = some true ∧ exs Γ W body σ = some (.nx σ') ∧ P σ' ∧ μ σ' < μ σ)) : ∃ σ', ex Γ W (.wh w c body) σ = some (.nx σ') ∧ Q σ' := by
  obtain ⟨σ', h1, h2⟩ := wh_inv P μ (Q := Q) W p h st
  exact ⟨σ', by simp only [ex]; exact h1, h2⟩
theorem fmodN (a b : Nat) : Int.fmod (a : Int) (b : Int) = ((a % b : Nat) : Int) := by
  rw [Int.fmod_eq_emod_of_nonneg _ (by omega)]; rfl
theorem fdivN (a b : Nat) : Int.fdiv (a : Int) (b : Int) = ((a / b : Nat) : Int) := by
  rw [Int.fdiv_eq_ediv_of_nonneg _ (by omega)]; rfl
theorem bin_mod {a b : Nat} (h : b ≠ 0) : bin .mod (.int a) (.int b) = some (.int ((a % b : Nat) : Int)) := by
  have : ¬ ((b : Int) = 0) := by omega
  simp only [bin, binI, this, decide_false, Bool.false_eq_true, if_false, fmodN, Option.map_some]
theorem bin_fdiv {a b : Nat} (h : divOk b = true) : bin .fdiv (.int a) (.int b) = some (.int ((a / b : Nat) : Int)) := by
  simp only [bin, binI, h, if_true, fdivN, Option.map_some]
theorem bin_add {a b : Int} : bin .add (.int a) (.int b) = some (.int (a + b)) := rfl
theorem bin_sub {a b : Int} : bin .sub (.int a) (.int b) = some (.int (a - b)) := rfl
theorem bin_mul {a b : Int} (h : mulOk a b = true) : bin .mul (.int a) (.int b) = some (.int (a * b)) := by
  simp only [bin, binI, h, if_true, Option.map_some]
theorem cmp_eqI {a b : Int} : cmp .eq (.int a) (.int b) = some (decide (a = b)) := by
  show some (a == b) = _
  congr 1
theorem run_rt {n : Nat} {body : List S} {ds : List D} {d : D} (h : exs Γ W body (ds.map some ++ List.replicate (n - ds.length) none) = some (.rt d)) : run Γ W n body ds = some d := by
  unfold run
  rw [h]
  rfl
theorem run_nx {n : Nat} {body : List S} {ds : List D} {σ : Sg} (h : exs Γ W body (ds.map some ++ List.replicate (n - ds.length) none) = some (.nx σ)) : run Γ W n body ds = some .none := by
  unfold run
  rw [h]
  rfl
theorem exs_nx {s : S} {ss : List S} {σ σ' : Sg} {r : Option Fl} (h : ex Γ W s σ = some (.nx σ')) (h2 : exs Γ W ss σ' = r) : exs Γ W (s :: ss) σ = r := by
  simp only [exs, h, Option.bind_some, h2]
theorem exs_rt {s : S} {ss : List S} {σ : Sg} {d : D} (h : ex Γ W s σ = some (.rt d)) : exs Γ W (s :: ss) σ = some (.rt d) := by
  simp only [exs, h, Option.bind_some]
theorem loop_inv {f : D → Sg → Option Fl} (P : Nat → Sg → Prop) : ∀ {xs : List D} {σ : Sg} (k : Nat), P k σ → (∀ (i : Nat) (d : D) (σ : Sg), xs[i]? = some d → P (k + i) σ → ∃ σ', (f d σ = some (.nx σ') ∨ f d σ = some (.ct σ')) ∧ P (k + i + 1) σ') → ∃ σ', loopL f xs σ = some (.nx σ') ∧ P (k + xs.length) σ'
  | [], σ, k, h0, _ => ⟨σ, rfl, h0⟩
  | x :: xs, σ, k, h0, h => by
    obtain ⟨σ1, h1, p1⟩ := h 0 x σ rfl h0
    obtain ⟨σ2, h2, p2⟩ := loop_inv P (xs := xs) (σ := σ1) (k + 1) p1 fun i d σ hd p => by
      have e : k + 1 + i = k + (i + 1) := by omega
      rw [e] at p ⊢
      exact h (i + 1) d σ hd p
    refine ⟨σ2, ?_, ?_⟩
    · rcases h1 with h1 | h1 <;> simp only [loopL, h1, Option.bind_some, h2]
    · have e : k + (x :: xs).length = k + 1 + xs.length := by simp; omega
      rw [e]; exact p2
theorem ex_loop {w : List Nat} {tg : Tg} {it : E} {body : List S} {σ : Sg} {d : D} {xs : List D} (h1 : ev Γ it σ = some d) (h2 : elemsP d = some xs) : ex Γ W (.loop w tg it body) σ = loopL (fun x σ => (put tg x σ).bind fun σ' => exs Γ W body σ') xs σ := by
  simp only [ex, h1, h2, Option.bind_some]
theorem loop_step {w : List Nat} {tg : Tg} {it : E} {body : List S} {σ : Sg} {d : D} {xs : List D} (P : Nat → Sg → Prop) (h1 : ev Γ it σ = some d) (h2 : elemsP d = some xs) (h0 : P 0 σ)
    (hs : ∀ (i : Nat) (d : D) (σ : Sg), xs[i]? = some d → P i σ → ∃ σ', (((put tg d σ).bind fun σ1 => exs Γ W body σ1) = some (.nx σ') ∨ ((put tg d σ).bind fun σ1 => exs Γ W body σ1) = some (.ct σ')) ∧ P (i + 1) σ')
    {ss : List S} {r : Option Fl} (hk : ∀ σ', P xs.length σ' → exs Γ W ss σ' = r) : exs Γ W (.loop w tg it body :: ss) σ = r := by
  obtain ⟨σ', h3, h4⟩ := loop_inv P (xs := xs) (σ := σ) (f := fun x σ => (put tg x σ).bind fun σ1 => exs Γ W body σ1) 0 h0 fun i d σ hd p => by
    rw [Nat.zero_add] at p ⊢
    exact hs i d σ hd p
  rw [Nat.zero_add] at h4
  exact exs_nx ((ex_loop h1 h2).trans h3) (hk σ' h4)
theorem rngOk_of {a b : Int} (h1 : -(2 ^ 62) ≤ a) (h2 : a < 2 ^ 62) (h3 : -(2 ^ 62) ≤ b) (h4 : b < 2 ^ 62) (h5 : (b - a).toNat ≤ SL) : rngOk a b = true := by
  unfold rngOk small62
  rw [lenOk_of h5, decide_eq_true h1, decide_eq_true h2, decide_eq_true h3, decide_eq_true h4]
  rfl
theorem dRange1 {n : Int} (h : rngOk 0 n = true) : dRange [.int n] = some (.list (rngUp 0 (n - 0).toNat)) := by
  show (if rngOk 0 n = true then some (PyData.list (rngUp 0 (n - 0).toNat)) else none) = _
  rw [if_pos h]
theorem dRange2 {a b : Int} (h : rngOk a b = true) : dRange [.int a, .int b] = some (.list (rngUp a (b - a).toNat)) := by
  show (if rngOk a b = true then some (PyData.list (rngUp a (b - a).toNat)) else none) = _
  rw [if_pos h]
/-- range(n) -/
theorem dR1 {n : Nat} (h : n ≤ 1000000) : dRange [.int n] = some (.list (rngUp 0 n)) := by
  have h2 := dRange1 (n := n) (rngOk_of (by omega) (by omega) (by omega) (by omega) (by rw [SL_eq]; omega))
  have e : ((n : Int) - 0).toNat = n := by omega
  rw [e] at h2
  exact h2
theorem dR2 {a b : Nat} (h : b ≤ 1000000) (h' : a ≤ 1000000) : dRange [.int a, .int b] = some (.list (rngUp a (b - a))) := by
  have h2 := dRange2 (a := a) (b := b) (rngOk_of (by omega) (by omega) (by omega) (by omega) (by rw [SL_eq]; omega))
  have e : ((b : Int) - a).toNat = b - a := by omega
  rw [e] at h2
  exact h2
/-- a for, told turn by turn: the target's store, the body -/
theorem loop_st {w : List Nat} {tg : Tg} {it : E} {body : List S} {σ : Sg} {d : D} {xs : List D} (P : Nat → Sg → Prop) (h1 : ev Γ it σ = some d) (h2 : elemsP d = some xs) (h0 : P 0 σ)
    (hs : ∀ (i : Nat) (d : D) (σ : Sg), xs[i]? = some d → P i σ → ∃ σ1, put tg d σ = some σ1 ∧ ∃ σ', (exs Γ W body σ1 = some (.nx σ') ∨ exs Γ W body σ1 = some (.ct σ')) ∧ P (i + 1) σ')
    {ss : List S} {r : Option Fl} (hk : ∀ σ', P xs.length σ' → exs Γ W ss σ' = r) : exs Γ W (.loop w tg it body :: ss) σ = r :=
  loop_step P h1 h2 h0 (fun i d σ hd p => by
    obtain ⟨σ1, h1, σ', h2, h3⟩ := hs i d σ hd p
    refine ⟨σ', ?_, h3⟩
    rw [h1]
    exact h2) hk
/-- range by a literal -/
theorem ev_range1 {e : E} {σ : Sg} {n : Nat} {i : Int} (h1 : ev Γ e σ = some (.int i)) (hi : i = (n : Int)) (h : n ≤ 1000000) : ev Γ (.bi .range [e]) σ = some (.list (rngUp 0 n)) := by
  subst hi
  exact ev_bi (evs_cons h1 rfl) (show dRange [.int n] = _ from dR1 h)
theorem ev_range2 {e e' : E} {σ : Sg} {a b : Nat} {i j : Int} (h1 : ev Γ e σ = some (.int i)) (h2 : ev Γ e' σ = some (.int j)) (hi : i = (a : Int)) (hj : j = (b : Int)) (h : b ≤ 1000000) (h' : a ≤ 1000000) : ev Γ (.bi .range [e, e']) σ = some (.list (rngUp a (b - a))) := by
  subst hi hj
  exact ev_bi (evs_cons h1 (evs_cons h2 rfl)) (show dRange [.int a, .int b] = _ from dR2 h h')
theorem b64_of {i : Int} (h1 : -(2 ^ 64) < i) (h2 : i < 2 ^ 64) : b64 i = true := by
  unfold b64
  rw [decide_eq_true h1, decide_eq_true h2]; rfl
theorem mulOk_l {i j : Int} (h1 : -(2 ^ 64) < i) (h2 : i < 2 ^ 64) : mulOk i j = true := by
  unfold mulOk
  rw [b64_of h1 h2]; rfl
theorem mulOk_r {i j : Int} (h1 : -(2 ^ 64) < j) (h2 : j < 2 ^ 64) : mulOk i j = true := by
  unfold mulOk
  rw [b64_of h1 h2, Bool.or_true]; rfl
theorem rngUp_at {lo : Int} {n i : Nat} {d : D} (h : (rngUp lo n)[i]? = some d) : i < n ∧ d = .int (lo + i) := by
  have hi : i < n := by
    rcases Nat.lt_or_ge i n with q | q
    · exact q
    · rw [List.getElem?_eq_none (by simpa [rngUp] using q)] at h; cases h
  refine ⟨hi, ?_⟩
  unfold rngUp at h
  rw [List.getElem?_map, List.getElem?_range hi] at h
  exact (Option.some.inj h).symm
theorem rngUp_length (lo : Int) (n : Nat) : (rngUp lo n).length = n := by simp [rngUp]
end
end Eng
end
section
set_option Elab.async false
set_option linter.all false
set_option maxRecDepth 100000
set_option maxHeartbeats 2000000
/-! EngM2: what all laws share: the row of numbers, likeness. -/
namespace Eng
open PySem
local macro_rules | `(tactic| trivial) => `(tactic| simp only [put, puts, exs, ex, ev, evs, bin, binI, cmp, truth, asInt, Eng.get, elemsP, Option.bind_some, Option.map_some, List.getElem?_cons_zero, List.getElem?_cons_succ, id, List.set_cons_zero, List.set_cons_succ, if_true, Bool.false_eq_true, if_false, decide_true, decide_false, decide_eq_true_eq, reduceIte, biD, dInt, isList, Bool.true_or, Bool.false_or, Bool.not_false, Bool.not_true, Bool.or_true, *])
def b_mixG (a1 a2 a3 p c1 a4 q c2 a5 r c3 s : Int) : List S := [
  .asg (.one 3) (.bin .mod (.bi .int [(.bin .add (.bin .add (.bin .mul (.var 2) (.cst (.int a1))) (.bin .mul (.var 1) (.cst (.int a2)))) (.cst (.int a3)))]) (.cst (.int p))),
  .asg (.one 4) (.bin .mod (.bi .int [(.bin .add (.bin .add (.bin .mul (.var 3) (.var 3)) (.bin .fdiv (.var 3) (.cst (.int c1)))) (.bin .mul (.var 1) (.cst (.int a4))))]) (.cst (.int q))),
  .asg (.one 5) (.bin .mod (.bi .int [(.bin .add (.bin .add (.bin .mul (.var 4) (.var 4)) (.bin .fdiv (.var 4) (.cst (.int c2)))) (.cst (.int a5)))]) (.cst (.int r))),
  .ret true (.bin .mod (.bin .fdiv (.var 5) (.cst (.int c3))) (.cst (.int s)))]
def b_mixed : List S := [
  .asg (.one 2) (.cst (.int 0)),
  .ite (.cmp .gt (.bi .len [(.var 0)]) (.cst (.int 0)))
    [.asg (.one 2) (.idx (.var 0) (.bin .mod (.var 1) (.bi .len [(.var 0)])))]
    []] ++ b_mixG 48271 69621 8191 2147483647 7 16807 2147483629 11 40692 2147483563 5 1000003
section
variable {Γ : Fs} {W : Nat}
theorem ixN_nat {n i : Nat} (h : i < n) : L2.ixN n (i : Int) = some i := by
  unfold L2.ixN
  rw [if_pos (by omega), if_pos (by omega)]
  rfl
theorem atI_nat {α : Type} {xs : List α} {i : Nat} (h : i < xs.length) : L2.atI xs (i : Int) = xs[i]? := by
  unfold L2.atI
  rw [ixN_nat h]
  rfl
theorem len_frz (xs : List D) : dLen [frz xs] = some (.int xs.length) := rfl
theorem mixG_ok {a1 a2 a3 p c1 a4 q c2 a5 r c3 s : Int} (m1 : ∀ c, mulOk c a1 = true) (m2 : ∀ c, mulOk c a2 = true) (m3 : ∀ c, mulOk c a4 = true) (p0 : 0 < p) (p1 : p < 2 ^ 64) (q0 : 0 < q) (q1 : q < 2 ^ 64) (r0 : 0 < r) (s0 : 0 < s) (d1 : divOk c1 = true) (d2 : divOk c2 = true) (d3 : divOk c3 = true)
    (x : D) (k c : Int) : ∃ v : Int, 0 ≤ v ∧ exs Γ W (b_mixG a1 a2 a3 p c1 a4 q c2 a5 r c3 s) [some x, some (.int k), some (.int c), none, none, none] = some (.rt (.int v)) := by
  have n1 := m1 c
  have n2 := m2 k
  have n3 := m3 k
  generalize hf : (c * a1 + k * a2 + a3).fmod p = f
  have f0 : 0 ≤ f := by rw [← hf]; exact Int.fmod_nonneg_of_pos _ p0
  have f1 : f < p := by rw [← hf]; exact Int.fmod_lt_of_pos _ p0
  have m4 : mulOk f f = true := mulOk_l (by omega) (by omega)
  generalize hg : (f * f + f.fdiv c1 + k * a4).fmod q = g
  have g0 : 0 ≤ g := by rw [← hg]; exact Int.fmod_nonneg_of_pos _ q0
  have g1 : g < q := by rw [← hg]; exact Int.fmod_lt_of_pos _ q0
  have m5 : mulOk g g = true := mulOk_l (by omega) (by omega)
  refine ⟨(((g * g + g.fdiv c2 + a5).fmod r).fdiv c3).fmod s, Int.fmod_nonneg_of_pos _ s0, ?_⟩
  have z1 : ¬ (p = 0) := by omega
  have z2 : ¬ (q = 0) := by omega
  have z3 : ¬ (r = 0) := by omega
  have z4 : ¬ (s = 0) := by omega
  clear m1 m2 m3
  unfold b_mixG
  trivial
theorem mixed_ok (ns : List Int) (k : Nat) : ∃ v : Int, 0 ≤ v ∧ run Γ W 6 b_mixed [frz (ns.map .int), .int k] = some (.int v) := by
  have key := fun c => mixG_ok (Γ := Γ) (W := W) (a1 := 48271) (a2 := 69621) (a3 := 8191) (p := 2147483647) (c1 := 7) (a4 := 16807) (q := 2147483629) (c2 := 11) (a5 := 40692) (r := 2147483563) (c3 := 5) (s := 1000003)
    (fun c => mulOk_r (by decide) (by decide)) (fun c => mulOk_r (by decide) (by decide)) (fun c => mulOk_r (by decide) (by decide)) (by decide) (by decide) (by decide) (by decide) (by decide) (by decide) (by decide +kernel) (by decide +kernel) (by decide +kernel) (frz (ns.map .int)) k c
  cases ns with
  | nil =>
    obtain ⟨v, h0, hv⟩ := key 0
    refine ⟨v, h0, run_rt ?_⟩
    refine exs_nx (σ' := [some (frz []), some (.int k), some (.int 0), none, none, none]) rfl (exs_nx (σ' := [some (frz []), some (.int k), some (.int 0), none, none, none]) rfl hv)
  | cons n ns =>
    have hp : 0 < (n :: ns).length := by simp
    have hm : k % (n :: ns).length < (n :: ns).length := Nat.mod_lt _ hp
    obtain ⟨v, h0, hv⟩ := key ((n :: ns)[k % (n :: ns).length]'hm)
    refine ⟨v, h0, run_rt ?_⟩
    refine exs_nx (σ' := [some (frz ((n :: ns).map .int)), some (.int k), some (.int 0), none, none, none]) rfl (exs_nx ?_ hv)
    have e1 : dLen [frz ((n :: ns).map PyData.int)] = some (.int ((n :: ns).length : Nat)) := by rw [len_frz, List.length_map]
    have e2 : (0 : Int) < ((n :: ns).length : Nat) := by omega
    have e3 : ¬ (((n :: ns).length : Nat) : Int) = 0 := by omega
    have e4 : (k : Int).fmod ((n :: ns).length : Nat) = ((k % (n :: ns).length : Nat) : Int) := by rw [Int.fmod_eq_emod_of_nonneg _ (by omega)]; rfl
    have e5 : idx (frz ((n :: ns).map PyData.int)) (.int ((k % (n :: ns).length : Nat) : Int)) = some (.int ((n :: ns)[k % (n :: ns).length]'hm)) := by
      show L2.atI _ _ = _
      rw [atI_nat (by simpa using hm), List.getElem?_map, List.getElem?_eq_getElem hm]
      rfl
    generalize (n :: ns)[k % (n :: ns).length]'hm = w at *
    generalize (k % (n :: ns).length : Nat) = j at *
    generalize ((n :: ns).length : Nat) = l at *
    generalize (n :: ns).map PyData.int = xs at *
    clear key hv
    trivial
def b_row : List S := [
  .asg (.one 2) (.cst (.int 0)),
  .ite (.and (.cmp .gt (.bi .len [(.var 0)]) (.cst (.int 0))) (.cmp .ge (.idx (.var 0) (.cst (.int 0))) (.bin .pow (.cst (.int 10)) (.cst (.int 18)))))
    [.asg (.one 2) (.idx (.var 0) (.cst (.int 0)))]
    [],
  .asg (.one 3) (.lst []),
  .loop [] (.one 4) (.bi .range [(.var 1)])
    [.ite (.cmp .gt (.var 2) (.cst (.int 0)))
      [.app 3 (.bin .mod (.bi .int [(.var 2)]) (.cst (.int 1000))),
      .asg (.one 2) (.bin .fdiv (.var 2) (.cst (.int 1000)))]
      [.app 3 (.call 0 false [(.var 0), (.var 4)])]],
  .ret true (.var 3)]
theorem row_loop {x : D} {m : Nat} (hm : m ≤ 1000) (hΓ : ∀ k : Nat, k < m → ∃ v : Int, 0 ≤ v ∧ Γ 0 [x, .int k] = some (.int v)) (b : Int) :
    ∃ vs : List Int, vs.length = m ∧ (∀ v ∈ vs, 0 ≤ v) ∧ exs Γ W (b_row.drop 2) [some x, some (.int m), some (.int b), none, none] = some (.rt (.list (vs.map .int))) := by
  have d1 : divOk 1000 = true := by decide +kernel
  have z1 : ¬ ((1000 : Int) = 0) := by decide
  have hr := dR1 (n := m) (by omega)
  have go : ∃ σ' : Sg, exs Γ W (b_row.drop 2) [some x, some (.int m), some (.int b), none, none] = exs Γ W [.ret true (.var 3)] σ' ∧ ∃ (b : Int) (vs : List Int) (k : Option D), σ' = [some x, some (.int m), some (.int b), some (.list (vs.map .int)), k] ∧ vs.length = m ∧ ∀ v ∈ vs, 0 ≤ v := by
    have hv : ev Γ (.bi .range [(.var 1)]) [some x, some (.int m), some (.int b), some (.list []), none] = some (.list (rngUp 0 m)) := ev_bi (ds := [.int m]) rfl (show dRange [.int m] = _ from hr)
    have stp : ∀ (i : Nat) (d : D) (σ : Sg), (rngUp 0 m)[i]? = some d → (fun (i : Nat) (σ : Sg) => ∃ (b : Int) (vs : List Int) (k : Option D), σ = [some x, some (.int m), some (.int b), some (.list (vs.map .int)), k] ∧ vs.length = i ∧ ∀ v ∈ vs, 0 ≤ v) (0 + i) σ → ∃ σ', ((fun (x : D) (σ : Sg) => (put (.one 4) x σ).bind fun σ1 => exs Γ W [.ite (.cmp .gt (.var 2) (.cst (.int 0)))
      [.app 3 (.bin .mod (.bi .int [(.var 2)]) (.cst (.int 1000))),
      .asg (.one 2) (.bin .fdiv (.var 2) (.cst (.int 1000)))]
      [.app 3 (.call 0 false [(.var 0), (.var 4)])]] σ1) d σ = some (.nx σ') ∨ (fun (x : D) (σ : Sg) => (put (.one 4) x σ).bind fun σ1 => exs Γ W [.ite (.cmp .gt (.var 2) (.cst (.int 0)))
      [.app 3 (.bin .mod (.bi .int [(.var 2)]) (.cst (.int 1000))),
      .asg (.one 2) (.bin .fdiv (.var 2) (.cst (.int 1000)))]
      [.app 3 (.call 0 false [(.var 0), (.var 4)])]] σ1) d σ = some (.ct σ')) ∧ (fun (i : Nat) (σ : Sg) => ∃ (b : Int) (vs : List Int) (k : Option D), σ = [some x, some (.int m), some (.int b), some (.list (vs.map .int)), k] ∧ vs.length = i ∧ ∀ v ∈ vs, 0 ≤ v) (0 + i + 1) σ' := by
      rintro i d σ hd ⟨b, vs, k, rfl, hl, hp⟩
      obtain ⟨hi, rfl⟩ := rngUp_at hd
      rw [Nat.zero_add] at hl ⊢
      have hlt : lenLt (vs.map PyData.int).length = true := lenLt_of (by rw [List.length_map, SL_eq]; omega)
      by_cases hb : 0 < b
      · refine ⟨[some x, some (.int m), some (.int (b.fdiv 1000)), some (.list ((vs ++ [b.fmod 1000]).map .int)), some (.int (0 + i))], .inl ?_, _, vs ++ [b.fmod 1000], _, rfl, by simp [hl], fun v hv => ?_⟩
        · rw [List.map_append]
          trivial
          simp only [lapp, hlt, if_true, Option.map_some, List.set_cons_zero, List.set_cons_succ, List.getElem?_cons_succ, List.getElem?_cons_zero, Option.bind_some, id, d1, List.map_cons, List.map_nil]
        · rcases List.mem_append.mp hv with h | h
          · exact hp v h
          · rw [List.mem_singleton.mp h]
            exact Int.fmod_nonneg_of_pos _ (by decide)
      · obtain ⟨v, v0, hv⟩ := hΓ i hi
        have e : (0 : Int) + (i : Int) = i := by omega
        rw [e]
        refine ⟨[some x, some (.int m), some (.int b), some (.list ((vs ++ [v]).map .int)), some (.int i)], .inl ?_, _, vs ++ [v], _, rfl, by simp [hl], fun w hw => ?_⟩
        · rw [List.map_append]
          trivial
          simp only [lapp, hlt, hv, flatB, pur, if_true, Option.map_some, List.set_cons_zero, List.set_cons_succ, List.getElem?_cons_succ, List.getElem?_cons_zero, Option.bind_some, id, Bool.or_true, List.map_cons, List.map_nil]
        · rcases List.mem_append.mp hw with h | h
          · exact hp w h
          · rw [List.mem_singleton.mp h]; exact v0
    obtain ⟨σ', h1, h2⟩ := loop_inv (fun (i : Nat) (σ : Sg) => ∃ (b : Int) (vs : List Int) (k : Option D), σ = [some x, some (.int m), some (.int b), some (.list (vs.map .int)), k] ∧ vs.length = i ∧ ∀ v ∈ vs, 0 ≤ v) (xs := rngUp 0 m) (σ := [some x, some (.int m), some (.int b), some (.list []), none]) (f := (fun (x : D) (σ : Sg) => (put (.one 4) x σ).bind fun σ1 => exs Γ W [.ite (.cmp .gt (.var 2) (.cst (.int 0)))
      [.app 3 (.bin .mod (.bi .int [(.var 2)]) (.cst (.int 1000))),
      .asg (.one 2) (.bin .fdiv (.var 2) (.cst (.int 1000)))]
      [.app 3 (.call 0 false [(.var 0), (.var 4)])]] σ1)) 0 ⟨b, [], none, rfl, rfl, by simp⟩ stp
    rw [Nat.zero_add, rngUp_length] at h2
    refine ⟨σ', ?_, h2⟩
    unfold b_row
    simp only [List.drop_succ_cons, List.drop_zero]
    refine exs_nx (σ' := [some x, some (.int m), some (.int b), some (.list []), none]) rfl ?_
    exact exs_nx ((ex_loop hv rfl).trans h1) rfl
  obtain ⟨σ', h1, b', vs, k, rfl, hl, hp⟩ := go
  refine ⟨vs, hl, hp, h1.trans ?_⟩
  trivial
theorem row_ok (ns : List Int) {m : Nat} (hm : m ≤ 1000) (hΓ : ∀ k : Nat, ∃ v : Int, 0 ≤ v ∧ Γ 0 [frz (ns.map .int), .int k] = some (.int v)) :
    ∃ vs : List Int, vs.length = m ∧ (∀ v ∈ vs, 0 ≤ v) ∧ run Γ W 5 b_row [frz (ns.map .int), .int m] = some (.list (vs.map .int)) := by
  have key := fun b => row_loop (Γ := Γ) (W := W) (x := frz (ns.map .int)) hm (fun k _ => hΓ k) b
  have fin : ∀ b : Int, exs Γ W b_row [some (frz (ns.map .int)), some (.int m), none, none, none] = exs Γ W (b_row.drop 2) [some (frz (ns.map .int)), some (.int m), some (.int b), none, none] → ∃ vs : List Int, vs.length = m ∧ (∀ v ∈ vs, 0 ≤ v) ∧ run Γ W 5 b_row [frz (ns.map .int), .int m] = some (.list (vs.map .int)) := fun b h => by
    obtain ⟨vs, h1, h2, h3⟩ := key b
    exact ⟨vs, h1, h2, run_rt (h.trans h3)⟩
  cases ns with
  | nil =>
    refine fin 0 (exs_nx (σ' := [some (frz []), some (.int m), some (.int 0), none, none]) rfl (exs_nx (σ' := [some (frz []), some (.int m), some (.int 0), none, none]) ?_ rfl))
    have e1 : dLen [frz []] = some (.int 0) := rfl
    have e0 : ¬ ((0 : Int) < 0) := by decide
    trivial
  | cons n ns =>
    have e2 : (0 : Int) < ((n :: ns).length : Nat) := by simp only [List.length_cons]; omega
    have e1 : dLen [frz ((n :: ns).map PyData.int)] = some (.int ((n :: ns).length : Nat)) := by rw [len_frz, List.length_map]
    have e5 : idx (frz ((n :: ns).map PyData.int)) (.int 0) = some (.int n) := by
      show L2.atI _ ((0 : Nat) : Int) = _
      rw [atI_nat (by simp)]
      rfl
    have pw : powOk 10 18 = true := by decide +kernel
    generalize hq : (10 : Int) ^ (18 : Int).toNat = q
    have st : ∀ c : Int, (if q ≤ n then n else 0) = c → ex Γ W (.ite (.and (.cmp .gt (.bi .len [(.var 0)]) (.cst (.int 0))) (.cmp .ge (.idx (.var 0) (.cst (.int 0))) (.bin .pow (.cst (.int 10)) (.cst (.int 18))))) [.asg (.one 2) (.idx (.var 0) (.cst (.int 0)))] []) [some (frz ((n :: ns).map .int)), some (.int m), some (.int 0), none, none] = some (.nx [some (frz ((n :: ns).map .int)), some (.int m), some (.int c), none, none]) := fun c hc => by
      subst hc
      generalize ((n :: ns).length : Nat) = l at *
      generalize (n :: ns).map PyData.int = xs at *
      clear key fin hΓ
      by_cases h : q ≤ n
      · trivial
      · trivial
    exact fin _ (exs_nx (σ' := [some (frz ((n :: ns).map .int)), some (.int m), some (.int 0), none, none]) rfl (exs_nx (st _ rfl) rfl))
def b_isint : List S := [
  .ret false (.and (.bi .isInt [(.var 0)]) (.not (.bi .isBool [(.var 0)])))]
theorem isint_ok (i : Int) : run Γ W 1 b_isint [.int i] = some (.bool true) := rfl
def b_like : List S := [
  .ite (.cmp .is (.var 1) (.cst .none))
    [.ret true (.cmp .is (.var 0) (.cst .none))]
    [],
  .ite (.bi .isBool [(.var 1)])
    [.ret false (.and (.bi .isBool [(.var 0)]) (.cmp .eq (.var 0) (.var 1)))]
    [],
  .ite (.bi .isTuple [(.var 1)])
    [.ite (.or (.not (.bi .isTuple [(.var 0)])) (.cmp .ne (.bi .len [(.var 0)]) (.bi .len [(.var 1)])))
      [.ret true (.cst (.bool false))]
      [],
    .ret true (.bi .all [(.comp (.one 2) [("k", 2)] (.bi .range [(.bi .len [(.var 1)])]) [] (.call 0 false [(.idx (.var 0) (.var 2)), (.idx (.var 1) (.var 2))]))])]
    [],
  .ite (.bi .isStr [(.var 1)])
    [.ret false (.and (.bi .isStr [(.var 0)]) (.cmp .eq (.var 0) (.var 1)))]
    [],
  .ret false (.and (.call 1 false [(.var 0)]) (.cmp .eq (.var 0) (.var 1)))]
/-- what is like itself, n deep -/
def lk : Nat → D → Bool
  | 0, _ => false
  | n + 1, d => match d with
    | .none => true
    | .int _ => true
    | .tuple xs => Nat.ble xs.length 1000000 && xs.all (lk n)
    | _ => false
theorem bls_rep (n : Nat) : bls (List.replicate n (.bool true)) = some (List.replicate n true) := by
  induction n with
  | zero => rfl
  | succ n ih => simp only [List.replicate_succ, bls, ih, Option.map_some]
theorem like_step {n : Nat} (h1 : ∀ i : Int, Γ 1 [.int i] = some (.bool true)) (ih : ∀ d, lk n d = true → Γ 0 [d, d] = some (.bool true)) (d : D) (h : lk (n + 1) d = true) : run Γ W 3 b_like [d, d] = some (.bool true) := by
  refine run_rt ?_
  cases d with
  | none => rfl
  | int i =>
    show exs Γ W b_like [some (.int i), some (.int i), none] = _
    refine exs_nx (σ' := [some (.int i), some (.int i), none]) rfl (exs_nx (σ' := [some (.int i), some (.int i), none]) rfl (exs_nx (σ' := [some (.int i), some (.int i), none]) rfl (exs_nx (σ' := [some (.int i), some (.int i), none]) rfl (exs_rt ?_))))
    have e := ev_call (Γ := Γ) (f := 1) (es := [(.var 0)]) (σ := [some (.int i), some (.int i), none]) rfl (h1 i)
    have e2 : cmp .eq (.int i) (.int i) = some true := by simp [cmp, eqD]
    exact ex_ret (ev_and_t e rfl (ev_cmp (x := .int i) (y := .int i) rfl rfl e2)) rfl
  | tuple xs =>
    show exs Γ W b_like [some (.tuple xs), some (.tuple xs), none] = _
    simp only [lk, Bool.and_eq_true] at h
    have hl := Nat.le_of_ble_eq_true h.1
    refine exs_nx (σ' := [some (.tuple xs), some (.tuple xs), none]) rfl (exs_nx (σ' := [some (.tuple xs), some (.tuple xs), none]) rfl (exs_rt ?_))
    have e0 : ev Γ (.or (.not (.bi .isTuple [(.var 0)])) (.cmp .ne (.bi .len [(.var 0)]) (.bi .len [(.var 1)]))) [some (.tuple xs), some (.tuple xs), none] = some (.bool false) := by
      have q1 : ev Γ (.not (.bi .isTuple [(.var 0)])) [some (.tuple xs), some (.tuple xs), none] = some (.bool false) := rfl
      have q2 : ev Γ (.cmp .ne (.bi .len [(.var 0)]) (.bi .len [(.var 1)])) [some (.tuple xs), some (.tuple xs), none] = some (.bool false) := by
        have l0 : ev Γ (.bi .len [(.var 0)]) [some (.tuple xs), some (.tuple xs), none] = some (.int xs.length) := rfl
        have l1 : ev Γ (.bi .len [(.var 1)]) [some (.tuple xs), some (.tuple xs), none] = some (.int xs.length) := rfl
        have l2 : cmp .ne (.int xs.length) (.int xs.length) = some false := by simp [cmp, eqD]
        show ((ev Γ (.bi .len [(.var 0)]) _).bind fun x => (ev Γ (.bi .len [(.var 1)]) _).bind fun y => (cmp .ne x y).map PyData.bool) = _
        rw [l0, l1]
        simp only [Option.bind_some, l2, Option.map_some]
      show ((ev Γ (.not (.bi .isTuple [(.var 0)])) _).bind fun x => (truth x).bind fun c => if c then some x else ev Γ (.cmp .ne (.bi .len [(.var 0)]) (.bi .len [(.var 1)])) _) = _
      rw [q1, q2]
      rfl
    have e1 : ev Γ (.comp (.one 2) [("k", 2)] (.bi .range [(.bi .len [(.var 1)])]) [] (.call 0 false [(.idx (.var 0) (.var 2)), (.idx (.var 1) (.var 2))])) [some (.tuple xs), some (.tuple xs), none] = some (.list (List.replicate xs.length (.bool true))) := by
      refine ev_comp (d := .list (rngUp 0 xs.length)) (ev_bi (ds := [.int xs.length]) rfl (show dRange [.int xs.length] = _ from dR1 hl)) rfl (by rw [rngUp_length, SL_eq]; omega) ?_
      refine compL_get (by rw [rngUp_length, List.length_replicate]) fun i x y hx hy => ?_
      obtain ⟨hi, rfl⟩ := rngUp_at hx
      rw [List.getElem?_replicate, if_pos hi] at hy
      cases hy
      have e : (0 : Int) + (i : Int) = i := by omega
      rw [e]
      have hxi : idx (.tuple xs) (.int i) = some xs[i] := by
        show L2.atI xs (i : Int) = _
        rw [atI_nat hi, List.getElem?_eq_getElem hi]
      have hc : ev Γ (.call 0 false [(.idx (.var 0) (.var 2)), (.idx (.var 1) (.var 2))]) [some (.tuple xs), some (.tuple xs), some (.int i)] = some (.bool true) := by
        refine ev_call (ds := [xs[i], xs[i]]) (evs_cons ?_ (evs_cons ?_ rfl)) (ih _ ?_)
        · simpa only [ev, List.getElem?_cons_zero, List.getElem?_cons_succ, Option.bind_some, id] using hxi
        · simpa only [ev, List.getElem?_cons_zero, List.getElem?_cons_succ, Option.bind_some, id] using hxi
        · exact List.all_eq_true.mp h.2 _ (List.getElem_mem hi)
      show (ev Γ (.call 0 false [(.idx (.var 0) (.var 2)), (.idx (.var 1) (.var 2))]) [some (.tuple xs), some (.tuple xs), some (.int i)]).map some = _
      rw [hc]
      rfl
    have e2 : dAll [.list (List.replicate xs.length (.bool true))] = some (.bool true) := by
      show (bls _).map _ = _
      rw [bls_rep, Option.map_some, List.all_replicate]
      by_cases h : xs.length = 0 <;> simp [h]
    have e3 := ev_bi (Γ := Γ) (b := .all) (es := [_]) (ds := [_]) (evs_cons (es := []) (ds := []) e1 rfl) e2
    have t1 : exs Γ W [.ite (.or (.not (.bi .isTuple [(.var 0)])) (.cmp .ne (.bi .len [(.var 0)]) (.bi .len [(.var 1)]))) [.ret true (.cst (.bool false))] [], .ret true (.bi .all [(.comp (.one 2) [("k", 2)] (.bi .range [(.bi .len [(.var 1)])]) [] (.call 0 false [(.idx (.var 0) (.var 2)), (.idx (.var 1) (.var 2))]))])] [some (.tuple xs), some (.tuple xs), none] = some (.rt (.bool true)) := by
      exact exs_nx (ex_ite e0 (t := false) rfl rfl) (exs_rt (ex_ret e3 rfl))
    exact ex_ite (x := .bool true) (t := true) rfl rfl t1
  | bool b => cases h
  | str x => cases h
  | list x => cases h
  | dict x => cases h
end
end Eng
end
section
set_option Elab.async false
set_option linter.all false
set_option maxRecDepth 100000
set_option maxHeartbeats 2000000
/-! EngL: a typed reading of a def's body: plain Lean in Option, and that the body's meaning follows it. -/
namespace Lf
open PySem Eng
/-! ### typed things -/
abbrev eI : Int → D := .int
abbrev eB : Bool → D := .bool
abbrev eS : Str → D := .str
abbrev eU : Unit → D := fun _ => .none
abbrev eL {α : Type} (f : α → D) (xs : List α) : D := .list (xs.map f)
abbrev eT {α : Type} (f : α → D) (xs : List α) : D := .tuple (xs.map f)
abbrev eP {α β : Type} (f : α → D) (g : β → D) (p : α × β) : D := .tuple [f p.1, g p.2]
abbrev eP3 {α β γ : Type} (f : α → D) (g : β → D) (h : γ → D) (p : α × β × γ) : D := .tuple [f p.1, g p.2.1, h p.2.2]
abbrev eP4 {α β γ δ : Type} (f : α → D) (g : β → D) (h : γ → D) (i : δ → D) (p : α × β × γ × δ) : D := .tuple [f p.1, g p.2.1, h p.2.2.1, i p.2.2.2]
abbrev eP5 {α β γ δ ε : Type} (f : α → D) (g : β → D) (h : γ → D) (i : δ → D) (j : ε → D) (p : α × β × γ × δ × ε) : D := .tuple [f p.1, g p.2.1, h p.2.2.1, i p.2.2.2.1, j p.2.2.2.2]
def eO {α : Type} (f : α → D) : Option α → D
  | none => .none
  | some a => f a
abbrev eZ (ns : List Int) : D := frz (ns.map .int)
/-- a name for a value -/
def lt {α β : Type} (t : α) (k : α → Option β) : Option β := k t
/-- a name for a number, told at once -/
def ltN {β : Type} (n : Nat) (k : Nat → Option β) : Option β := match n with
  | 0 => k 0
  | m + 1 => k (m + 1)
def ltI {β : Type} (t : Int) (k : Int → Option β) : Option β := match t with
  | .ofNat n => ltN n fun n => k (.ofNat n)
  | .negSucc n => ltN n fun n => k (.negSucc n)
theorem lt_eq {α β : Type} (t : α) (k : α → Option β) : lt t k = k t := rfl
theorem ltN_eq {β : Type} (n : Nat) (k : Nat → Option β) : ltN n k = k n := by cases n <;> rfl
theorem ltI_eq {β : Type} (t : Int) (k : Int → Option β) : ltI t k = k t := by
  cases t with
  | ofNat n => exact ltN_eq n fun n => k (.ofNat n)
  | negSucc n => exact ltN_eq n fun n => k (.negSucc n)
def fits (n : Nat) : Bool := Nat.ble n SL
def mulM (i j : Int) : Option Int := bif mulOk i j then some (i * j) else none
def fdivM (i j : Int) : Option Int := bif divOk j then some (i.fdiv j) else none
def modM (i j : Int) : Option Int := bif decide (j = 0) then none else some (i.fmod j)
def powM (i j : Int) : Option Int := bif powOk i j then some (i ^ j.toNat) else none
def shlM (i j : Int) : Option Int := bif powOk i j then some (i * 2 ^ j.toNat) else none
def shrM (i j : Int) : Option Int := bif decide (0 ≤ j) then some (i / 2 ^ j.toNat) else none
def catM {α : Type} (xs ys : List α) : Option (List α) := bif lenOk (xs.length + ys.length) then some (xs ++ ys) else none
def repT {α : Type} (xs : List α) (k : Int) : List α := (List.replicate k.toNat xs).flatten
def repM {α : Type} (xs : List α) (k : Int) : Option (List α) := bif repOk xs.length k then some (repT xs k) else none
def idxM {α : Type} (xs : List α) (i : Int) : Option α := L2.atI xs i
def cutT {α : Type} (xs : List α) (lo hi : Option Int) : List α := (xs.drop (HT.sIx xs.length 0 lo)).take (HT.sIx xs.length xs.length hi - HT.sIx xs.length 0 lo)
def appM {α : Type} (xs : List α) (v : α) : Option (List α) := bif lenLt xs.length then some (xs ++ [v]) else none
def setM {α : Type} (xs : List α) (i : Int) (v : α) : Option (List α) := (L2.ixN xs.length i).map fun j => xs.set j v
def rngI (lo : Int) (n : Nat) : List Int := (List.range n).map fun (i : Nat) => lo + i
def rngByI (lo c : Int) (n : Nat) : List Int := (List.range n).map fun (i : Nat) => lo + i * c
def rng1M (n : Int) : Option (List Int) := bif rngOk 0 n then some (rngI 0 (n - 0).toNat) else none
def rng2M (a b : Int) : Option (List Int) := bif rngOk a b then some (rngI a (b - a).toNat) else none
def rng3M (a b c : Int) : Option (List Int) := bif rng3Ok a b c then some (rngByI a c (Builtin.Range.rangeSize a b c).toNat) else none
def isqrtM (i : Int) : Option Int := bif decide (0 ≤ i) && decide (i < 2 ^ 64) then some ((Float64.isqrt i.toNat : Nat) : Int) else none
def enumT {α : Type} (xs : List α) : List (Int × α) := (List.range xs.length).zipWith (fun (i : Nat) x => ((i : Int), x)) xs
def zipT {α β : Type} (xs : List α) (ys : List β) : List (α × β) := List.zipWith Prod.mk xs ys
/-- a comprehension of plain turns -/
def mapK {α β : Type} (f : α → β) (xs : List α) : Option (List β) := bif lenOk xs.length then some (xs.map f) else none
def filtK {α β : Type} (p : α → Bool) (f : α → β) (xs : List α) : Option (List β) := bif lenOk xs.length then some ((xs.filter p).map f) else none
/-- of turns that may stop -/
def mapL {α β : Type} (f : α → Option (Option β)) : List α → Option (List β)
  | [] => some []
  | x :: xs => (f x).bind fun r => (mapL f xs).bind fun rs => match r with
    | some y => some (y :: rs)
    | none => some rs
def mapM' {α β : Type} (f : α → Option (Option β)) (xs : List α) : Option (List β) := bif lenOk xs.length then mapL f xs else none
def flatL {α β : Type} (f : α → Option (List β)) : List α → Option (List β)
  | [] => some []
  | x :: xs => (f x).bind fun r => (flatL f xs).bind fun rs => some (r ++ rs)
def flatM' {α β : Type} (f : α → Option (List β)) (xs : List α) : Option (List β) := (flatL f xs).bind fun rs => bif lenOk rs.length then some rs else none
/-- a for without a way out -/
def forN {α s : Type} (f : α → s → Option s) : List α → s → Option s
  | [], v => some v
  | x :: xs, v => (f x v).bind fun v => forN f xs v
/-- how a turn ends -/
inductive Fw (s r : Type) where
  | nx (v : s) | rt (v : r) | bk (v : s)
def forX {α s r : Type} (f : α → s → Option (Fw s r)) : List α → s → Option (Fw s r)
  | [], v => some (.nx v)
  | x :: xs, v => (f x v).bind fun o => match o with
    | .nx v => forX f xs v
    | .bk v => some (.nx v)
    | .rt v => some (.rt v)
def whN {s : Type} (c : s → Option Bool) (f : s → Option s) : Nat → s → Option s
  | 0, _ => none
  | n + 1, v => (c v).bind fun t => bif t then (f v).bind fun v => whN c f n v else some v
def whX {s r : Type} (c : s → Option Bool) (f : s → Option (Fw s r)) : Nat → s → Option (Fw s r)
  | 0, _ => none
  | n + 1, v => (c v).bind fun t => bif t then (f v).bind fun o => match o with
      | .nx v => whX c f n v
      | .bk v => some (.nx v)
      | .rt v => some (.rt v)
    else some (.nx v)
/-- what follows a loop that may end the def -/
def aft {s r o : Type} (k : s → Option o) (j : r → Option o) : Fw s r → Option o
  | .nx v => k v
  | .bk v => k v
  | .rt v => j v

/-! ### that the meaning follows -/
section
variable {Γ : Fs} {W : Nat}
def EvM (Γ : Fs) {α : Type} (e : E) (σ : Sg) (M : Option α) (f : α → D) : Prop := ∀ x, M = some x → ev Γ e σ = some (f x)
/-- a test -/
def CvM (Γ : Fs) (e : E) (σ : Sg) (M : Option Bool) : Prop := ∀ t, M = some t → (ev Γ e σ).bind truth = some t
def Sp (Γ : Fs) (W : Nat) (ss : List S) (σ : Sg) {o : Type} (M : Option o) (Q : o → Option Fl → Prop) : Prop := ∀ v, M = some v → Q v (exs Γ W ss σ)
/-- ends: a def's, a branch's, a turn's, a turn's that may leave -/
def Qt {r : Type} (f : r → D) (v : r) (z : Option Fl) : Prop := z = some (.rt (f v))
def QJ {s : Type} (R : s → Sg → Prop) (v : s) (z : Option Fl) : Prop := ∃ σ', z = some (.nx σ') ∧ R v σ'
def QN {s : Type} (R : s → Sg → Prop) (v : s) (z : Option Fl) : Prop := ∃ σ', (z = some (.nx σ') ∨ z = some (.ct σ')) ∧ R v σ'
def QX {s r : Type} (R : s → Sg → Prop) (f : r → D) (v : Fw s r) (z : Option Fl) : Prop := match v with
  | .nx v => ∃ σ', (z = some (.nx σ') ∨ z = some (.ct σ')) ∧ R v σ'
  | .bk v => ∃ σ', z = some (.bk σ') ∧ R v σ'
  | .rt v => z = some (.rt (f v))
theorem bind_ok {α β : Type} {M : Option α} {k : α → Option β} {v : β} (h : M.bind k = some v) : ∃ x, M = some x ∧ k x = some v := by
  cases M with
  | none => cases h
  | some x => exact ⟨x, rfl, h⟩
theorem bif_ok {β : Type} {t : Bool} {a : β} {v : β} (h : (bif t then some a else none) = some v) : t = true ∧ a = v := by
  cases t with
  | true => exact ⟨rfl, Option.some.inj h⟩
  | false => cases h
/-! expressions -/
theorem E_of {α : Type} {e : E} {σ : Sg} {t : α} {f : α → D} (h : ev Γ e σ = some (f t)) : EvM Γ e σ (some t) f := fun x hx => by cases hx; exact h
theorem E_let {α β : Type} {a e : E} {σ : Sg} {A : Option α} {K : α → Option β} {f : α → D} {g : β → D} (h : EvM Γ a σ A f) (k : ∀ x, ev Γ a σ = some (f x) → EvM Γ e σ (K x) g) : EvM Γ e σ (A.bind K) g := fun v hv => by
  obtain ⟨x, hx, hk⟩ := bind_ok hv
  exact k x (h x hx) v hk
theorem E_letC {β : Type} {a e : E} {σ : Sg} {A : Option Bool} {K : Bool → Option β} {g : β → D} (h : CvM Γ a σ A) (k : ∀ x, (ev Γ a σ).bind truth = some x → EvM Γ e σ (K x) g) : EvM Γ e σ (A.bind K) g := fun v hv => by
  obtain ⟨x, hx, hk⟩ := bind_ok hv
  exact k x (h x hx) v hk
theorem C_let {α : Type} {a e : E} {σ : Sg} {A : Option α} {K : α → Option Bool} {f : α → D} (h : EvM Γ a σ A f) (k : ∀ x, ev Γ a σ = some (f x) → CvM Γ e σ (K x)) : CvM Γ e σ (A.bind K) := fun v hv => by
  obtain ⟨x, hx, hk⟩ := bind_ok hv
  exact k x (h x hx) v hk
theorem C_letC {a e : E} {σ : Sg} {A : Option Bool} {K : Bool → Option Bool} (h : CvM Γ a σ A) (k : ∀ x, (ev Γ a σ).bind truth = some x → CvM Γ e σ (K x)) : CvM Γ e σ (A.bind K) := fun v hv => by
  obtain ⟨x, hx, hk⟩ := bind_ok hv
  exact k x (h x hx) v hk
theorem S_let {α o : Type} {a : E} {ss : List S} {σ : Sg} {A : Option α} {K : α → Option o} {f : α → D} {Q : o → Option Fl → Prop} (h : EvM Γ a σ A f) (k : ∀ x, ev Γ a σ = some (f x) → Sp Γ W ss σ (K x) Q) : Sp Γ W ss σ (A.bind K) Q := fun v hv => by
  obtain ⟨x, hx, hk⟩ := bind_ok hv
  exact k x (h x hx) v hk
theorem S_letC {o : Type} {a : E} {ss : List S} {σ : Sg} {A : Option Bool} {K : Bool → Option o} {Q : o → Option Fl → Prop} (h : CvM Γ a σ A) (k : ∀ x, (ev Γ a σ).bind truth = some x → Sp Γ W ss σ (K x) Q) : Sp Γ W ss σ (A.bind K) Q := fun v hv => by
  obtain ⟨x, hx, hk⟩ := bind_ok hv
  exact k x (h x hx) v hk
theorem p_var {i : Nat} {σ : Sg} {d : D} (h : (σ[i]?).bind id = some d) : ev Γ (.var i) σ = some d := h
theorem p_cst {σ : Sg} {d : D} : ev Γ (.cst d) σ = some d := rfl
theorem p_glo {x : Str} {σ : Sg} {d : D} : ev Γ (.glo x d) σ = some d := rfl
section
variable {a b c : E} {σ : Sg} {i j k : Int} {t u : Bool}
theorem p_add (h1 : ev Γ a σ = some (eI i)) (h2 : ev Γ b σ = some (eI j)) : ev Γ (.bin .add a b) σ = some (eI (i + j)) := ev_bin h1 h2 rfl
theorem p_sub (h1 : ev Γ a σ = some (eI i)) (h2 : ev Γ b σ = some (eI j)) : ev Γ (.bin .sub a b) σ = some (eI (i - j)) := ev_bin h1 h2 rfl
theorem p_band (h1 : ev Γ a σ = some (eI i)) (h2 : ev Γ b σ = some (eI j)) : ev Γ (.bin .band a b) σ = some (eI (Builtin.bitAnd i j)) := ev_bin h1 h2 rfl
theorem p_bor (h1 : ev Γ a σ = some (eI i)) (h2 : ev Γ b σ = some (eI j)) : ev Γ (.bin .bor a b) σ = some (eI (Builtin.bitOr i j)) := ev_bin h1 h2 rfl
theorem p_bxor (h1 : ev Γ a σ = some (eI i)) (h2 : ev Γ b σ = some (eI j)) : ev Γ (.bin .bxor a b) σ = some (eI (Builtin.bitXor i j)) := ev_bin h1 h2 rfl
theorem m_binI {o : Bop} {M : Option Int} (h1 : ev Γ a σ = some (eI i)) (h2 : ev Γ b σ = some (eI j)) (h : ∀ z, M = some z → binI o i j = some z) : EvM Γ (.bin o a b) σ M eI := fun x hx => ev_bin h1 h2 (by show (binI o i j).map PyData.int = _; rw [h x hx]; rfl)
theorem m_mul (h1 : ev Γ a σ = some (eI i)) (h2 : ev Γ b σ = some (eI j)) : EvM Γ (.bin .mul a b) σ (mulM i j) eI := m_binI h1 h2 fun z h => by
  obtain ⟨hq, rfl⟩ := bif_ok h
  show (if mulOk i j = true then some (i * j) else none) = _
  rw [if_pos hq]
theorem m_fdiv (h1 : ev Γ a σ = some (eI i)) (h2 : ev Γ b σ = some (eI j)) : EvM Γ (.bin .fdiv a b) σ (fdivM i j) eI := m_binI h1 h2 fun z h => by
  obtain ⟨hq, rfl⟩ := bif_ok h
  show (if divOk j = true then some (i.fdiv j) else none) = _
  rw [if_pos hq]
theorem m_mod (h1 : ev Γ a σ = some (eI i)) (h2 : ev Γ b σ = some (eI j)) : EvM Γ (.bin .mod a b) σ (modM i j) eI := m_binI h1 h2 fun z h => by
  unfold modM at h
  show (if decide (j = 0) = true then none else some (i.fmod j)) = some z
  cases hd : decide (j = 0) with
  | true => rw [hd] at h; cases h
  | false => rw [hd] at h; exact h
theorem m_pow (h1 : ev Γ a σ = some (eI i)) (h2 : ev Γ b σ = some (eI j)) : EvM Γ (.bin .pow a b) σ (powM i j) eI := m_binI h1 h2 fun z h => by
  obtain ⟨hq, rfl⟩ := bif_ok h
  show (if powOk i j = true then some (i ^ j.toNat) else none) = _
  rw [if_pos hq]
theorem m_shl (h1 : ev Γ a σ = some (eI i)) (h2 : ev Γ b σ = some (eI j)) : EvM Γ (.bin .shl a b) σ (shlM i j) eI := m_binI h1 h2 fun z h => by
  obtain ⟨hq, rfl⟩ := bif_ok h
  show (if powOk i j = true then some (i * 2 ^ j.toNat) else none) = _
  rw [if_pos hq]
theorem m_shr (h1 : ev Γ a σ = some (eI i)) (h2 : ev Γ b σ = some (eI j)) : EvM Γ (.bin .shr a b) σ (shrM i j) eI := m_binI h1 h2 fun z h => by
  obtain ⟨hq, rfl⟩ := bif_ok h
  show (if decide (0 ≤ j) = true then some (i / 2 ^ j.toNat) else none) = _
  rw [if_pos hq]
theorem p_neg (h1 : ev Γ a σ = some (eI i)) : ev Γ (.neg a) σ = some (eI (-i)) := by simp only [ev, h1, Option.bind_some]
theorem p_lt (h1 : ev Γ a σ = some (eI i)) (h2 : ev Γ b σ = some (eI j)) : ev Γ (.cmp .lt a b) σ = some (eB (decide (i < j))) := ev_cmp h1 h2 rfl
theorem p_le (h1 : ev Γ a σ = some (eI i)) (h2 : ev Γ b σ = some (eI j)) : ev Γ (.cmp .le a b) σ = some (eB (decide (i ≤ j))) := ev_cmp h1 h2 rfl
theorem p_gt (h1 : ev Γ a σ = some (eI i)) (h2 : ev Γ b σ = some (eI j)) : ev Γ (.cmp .gt a b) σ = some (eB (decide (j < i))) := ev_cmp h1 h2 rfl
theorem p_ge (h1 : ev Γ a σ = some (eI i)) (h2 : ev Γ b σ = some (eI j)) : ev Γ (.cmp .ge a b) σ = some (eB (decide (j ≤ i))) := ev_cmp h1 h2 rfl
theorem p_eqI (h1 : ev Γ a σ = some (eI i)) (h2 : ev Γ b σ = some (eI j)) : ev Γ (.cmp .eq a b) σ = some (eB (decide (i = j))) := ev_cmp h1 h2 rfl
theorem p_neI (h1 : ev Γ a σ = some (eI i)) (h2 : ev Γ b σ = some (eI j)) : ev Γ (.cmp .ne a b) σ = some (eB (!decide (i = j))) := ev_cmp h1 h2 rfl
theorem cmpI_lt {i j : Int} : cmp .lt (eI i) (eI j) = some (decide (i < j)) := rfl
theorem cmpI_le {i j : Int} : cmp .le (eI i) (eI j) = some (decide (i ≤ j)) := rfl
theorem cmpI_gt {i j : Int} : cmp .gt (eI i) (eI j) = some (decide (j < i)) := rfl
theorem cmpI_ge {i j : Int} : cmp .ge (eI i) (eI j) = some (decide (j ≤ i)) := rfl
theorem cmpI_eq {i j : Int} : cmp .eq (eI i) (eI j) = some (decide (i = j)) := rfl
theorem cmpI_ne {i j : Int} : cmp .ne (eI i) (eI j) = some (!decide (i = j)) := rfl
/-- a < b < c with a plain third -/
theorem p_chain {o o' : Cop} {x y z : D} (h1 : ev Γ a σ = some x) (h2 : ev Γ b σ = some y) (h3 : ev Γ c σ = some z) (c1 : cmp o x y = some t) (c2 : cmp o' y z = some u) : ev Γ (.chain o o' a b c) σ = some (eB (t && u)) := by
  simp only [ev, h1, h2, c1, Option.bind_some]
  cases t with
  | true => simp only [h3, c2, Option.bind_some, Option.map_some, if_true, Bool.true_and]
  | false => simp only [Bool.false_eq_true, if_false, Bool.false_and]
theorem m_chain {α : Type} {o o' : Cop} {x y : D} {f : α → D} {C : Option α} {F : α → Bool} (h1 : ev Γ a σ = some x) (h2 : ev Γ b σ = some y) (c1 : cmp o x y = some t) (h3 : EvM Γ c σ C f) (c2 : ∀ z, cmp o' y (f z) = some (F z)) : EvM Γ (.chain o o' a b c) σ (bif t then C.bind fun z => some (F z) else some false) eB := fun v hv => by
  simp only [ev, h1, h2, c1, Option.bind_some]
  cases t with
  | true =>
    obtain ⟨z, hz, hk⟩ := bind_ok hv
    cases hk
    simp only [h3 z hz, c2, Option.bind_some, Option.map_some, if_true]
  | false => cases hv; simp only [Bool.false_eq_true, if_false]
theorem tr_of {x : D} (h : ev Γ a σ = some x) (ht : truth x = some t) : (ev Γ a σ).bind truth = some t := by rw [h]; exact ht
theorem C_of (h : (ev Γ a σ).bind truth = some t) : CvM Γ a σ (some t) := fun v hv => by cases hv; exact h
theorem C_ofM {M : Option Bool} (h : EvM Γ a σ M eB) : CvM Γ a σ M := fun v hv => by rw [h v hv]; rfl
theorem tr_B (h : ev Γ a σ = some (eB t)) : (ev Γ a σ).bind truth = some t := tr_of h rfl
theorem tr_I (h : ev Γ a σ = some (eI i)) : (ev Γ a σ).bind truth = some (!decide (i = 0)) := tr_of h rfl
theorem tr_L {α : Type} {f : α → D} {xs : List α} (h : ev Γ a σ = some (eL f xs)) : (ev Γ a σ).bind truth = some (!xs.isEmpty) := tr_of h (by cases xs <;> rfl)
theorem tr_T {α : Type} {f : α → D} {xs : List α} (h : ev Γ a σ = some (eT f xs)) : (ev Γ a σ).bind truth = some (!xs.isEmpty) := tr_of h (by cases xs <;> rfl)
theorem ev_of_tr {x : Option D} {t : Bool} (h : x.bind truth = some t) : ∃ d, x = some d ∧ truth d = some t := bind_ok h
theorem p_not (h : (ev Γ a σ).bind truth = some t) : ev Γ (.not a) σ = some (eB (!t)) := by
  obtain ⟨d, h1, h2⟩ := ev_of_tr h
  exact ev_not h1 h2
theorem p_andB (h1 : ev Γ a σ = some (eB t)) (h2 : ev Γ b σ = some (eB u)) : ev Γ (.and a b) σ = some (eB (t && u)) := by
  cases t with
  | true => exact ev_and_t h1 rfl h2
  | false => exact ev_and_f h1 rfl
theorem p_orB (h1 : ev Γ a σ = some (eB t)) (h2 : ev Γ b σ = some (eB u)) : ev Γ (.or a b) σ = some (eB (t || u)) := by
  cases t with
  | true => exact ev_or_t h1 rfl
  | false => exact ev_or_f h1 rfl h2
theorem m_andB {B : Option Bool} (h1 : ev Γ a σ = some (eB t)) (h2 : EvM Γ b σ B eB) : EvM Γ (.and a b) σ (bif t then B else some false) eB := fun v hv => by
  cases t with
  | true => exact ev_and_t h1 rfl (h2 v hv)
  | false => cases hv; exact ev_and_f h1 rfl
theorem m_orB {B : Option Bool} (h1 : ev Γ a σ = some (eB t)) (h2 : EvM Γ b σ B eB) : EvM Γ (.or a b) σ (bif t then some true else B) eB := fun v hv => by
  cases t with
  | true => cases hv; exact ev_or_t h1 rfl
  | false => exact ev_or_f h1 rfl (h2 v hv)
theorem c_and (h1 : (ev Γ a σ).bind truth = some t) (h2 : (ev Γ b σ).bind truth = some u) : (ev Γ (.and a b) σ).bind truth = some (t && u) := by
  obtain ⟨d, h3, h4⟩ := ev_of_tr h1
  obtain ⟨e, h5, h6⟩ := ev_of_tr h2
  cases t with
  | true => rw [ev_and_t h3 h4 h5]; exact h6
  | false => rw [ev_and_f h3 h4]; exact h4
theorem c_or (h1 : (ev Γ a σ).bind truth = some t) (h2 : (ev Γ b σ).bind truth = some u) : (ev Γ (.or a b) σ).bind truth = some (t || u) := by
  obtain ⟨d, h3, h4⟩ := ev_of_tr h1
  obtain ⟨e, h5, h6⟩ := ev_of_tr h2
  cases t with
  | true => rw [ev_or_t h3 h4]; exact h4
  | false => rw [ev_or_f h3 h4 h5]; exact h6
theorem c_not (h1 : (ev Γ a σ).bind truth = some t) : (ev Γ (.not a) σ).bind truth = some (!t) := tr_B (p_not h1)
theorem C_and {B : Option Bool} (h1 : (ev Γ a σ).bind truth = some t) (h2 : CvM Γ b σ B) : CvM Γ (.and a b) σ (bif t then B else some false) := fun v hv => by
  obtain ⟨d, h3, h4⟩ := ev_of_tr h1
  cases t with
  | true =>
    obtain ⟨e, h5, h6⟩ := ev_of_tr (h2 v hv)
    rw [ev_and_t h3 h4 h5]; exact h6
  | false => cases hv; rw [ev_and_f h3 h4]; exact h4
theorem C_or {B : Option Bool} (h1 : (ev Γ a σ).bind truth = some t) (h2 : CvM Γ b σ B) : CvM Γ (.or a b) σ (bif t then some true else B) := fun v hv => by
  obtain ⟨d, h3, h4⟩ := ev_of_tr h1
  cases t with
  | true => cases hv; rw [ev_or_t h3 h4]; exact h4
  | false =>
    obtain ⟨e, h5, h6⟩ := ev_of_tr (h2 v hv)
    rw [ev_or_f h3 h4 h5]; exact h6
theorem p_ite {α : Type} {f : α → D} {x y : α} (h : (ev Γ c σ).bind truth = some t) (h1 : ev Γ a σ = some (f x)) (h2 : ev Γ b σ = some (f y)) : ev Γ (.ite c a b) σ = some (f (bif t then x else y)) := by
  obtain ⟨d, h3, h4⟩ := ev_of_tr h
  cases t with
  | true => exact ev_ite h3 h4 h1
  | false => exact ev_ite h3 h4 h2
theorem m_ite {α : Type} {f : α → D} {A B : Option α} (h : (ev Γ c σ).bind truth = some t) (h1 : EvM Γ a σ A f) (h2 : EvM Γ b σ B f) : EvM Γ (.ite c a b) σ (bif t then A else B) f := fun v hv => by
  obtain ⟨d, h3, h4⟩ := ev_of_tr h
  cases t with
  | true => exact ev_ite h3 h4 (h1 v hv)
  | false => exact ev_ite h3 h4 (h2 v hv)
end
theorem evs_nil {σ : Sg} : evs Γ [] σ = some [] := rfl
theorem p_tup {es : List E} {σ : Sg} {ds : List D} (h1 : evs Γ es σ = some ds) (h2 : Nat.ble ds.length 64 = true) : ev Γ (.tup es) σ = some (.tuple ds) := ev_tup h1 (by have := Nat.le_of_ble_eq_true h2; rw [SL_eq]; omega)
theorem p_lst {es : List E} {σ : Sg} {ds : List D} (h1 : evs Γ es σ = some ds) (h2 : Nat.ble ds.length 64 = true) : ev Γ (.lst es) σ = some (.list ds) := ev_lst h1 (by have := Nat.le_of_ble_eq_true h2; rw [SL_eq]; omega)
/-- what a call hands back, borrowed or not -/
theorem m_call {α : Type} {n : Nat} {es : List E} {σ : Sg} {ds : List D} {M : Option α} {f : α → D} (h1 : evs Γ es σ = some ds) (h2 : ∀ v, M = some v → Γ n ds = some (f v)) : EvM Γ (.call n false es) σ M f := fun v hv => ev_call h1 (h2 v hv)
theorem m_callB {α : Type} {n : Nat} {es : List E} {σ : Sg} {ds : List D} {M : Option α} {f : α → D} (h1 : evs Γ es σ = some ds) (h2 : ∀ v, M = some v → Γ n ds = some (f v)) (h3 : ∀ v, flatB (f v) = true) : EvM Γ (.call n true es) σ M f := fun v hv => ev_callB h1 (h2 v hv) (h3 v)
theorem p_bi {b : Bi} {es : List E} {σ : Sg} {ds : List D} {d : D} (h1 : evs Γ es σ = some ds) (h2 : biD b ds = some d) : ev Γ (.bi b es) σ = some d := ev_bi h1 h2
theorem m_bi {α : Type} {b : Bi} {es : List E} {σ : Sg} {ds : List D} {M : Option α} {f : α → D} (h1 : evs Γ es σ = some ds) (h2 : ∀ v, M = some v → biD b ds = some (f v)) : EvM Γ (.bi b es) σ M f := fun v hv => ev_bi h1 (h2 v hv)
end
end Lf
end
section
set_option Elab.async false
set_option linter.all false
set_option maxRecDepth 100000
set_option maxHeartbeats 2000000
/-! EngL2: the rest of the expressions. -/
namespace Lf
open PySem Eng
/-- likeness of typed things is Python's -/
structure EqE {α : Type} [DecidableEq α] (k : Nat) (f : α → D) : Prop where
  lay : ∀ a, (f a).canLay0 = true
  dep : ∀ a, (f a).depth ≤ k
  eqv : ∀ a b, PyData.eqv (f a) (f b) = decide (a = b)
def memT {α : Type} [DecidableEq α] (x : α) (xs : List α) : Bool := decide (x ∈ xs)
theorem q_I : EqE 0 eI := ⟨fun _ => rfl, fun _ => Nat.le_refl _, fun _ _ => rfl⟩
theorem q_B : EqE 0 eB := ⟨fun _ => rfl, fun _ => Nat.le_refl _, fun a b => by cases a <;> cases b <;> rfl⟩
section
variable {α β γ δ : Type} [DecidableEq α] [DecidableEq β] [DecidableEq γ] [DecidableEq δ] {f : α → D} {g : β → D} {h : γ → D} {i : δ → D} {k : Nat}
theorem layAll {f : α → D} (q : EqE k f) : ∀ xs : List α, PyData.canLayAll0 (xs.map f) = true
  | [] => rfl
  | x :: xs => by
    show (PyData.canLay0 (f x) && PyData.canLayAll0 (xs.map f)) = true
    rw [q.lay, layAll q xs]; rfl
theorem depAll {f : α → D} (q : EqE k f) : ∀ xs : List α, PyData.depthAll (xs.map f) ≤ k
  | [] => Nat.zero_le _
  | x :: xs => by
    show max (PyData.depth (f x)) (PyData.depthAll (xs.map f)) ≤ k
    have := q.dep x
    have := depAll q xs
    omega
theorem eqvAll_map {f : α → D} (q : EqE k f) : ∀ xs ys : List α, PyData.eqvAll (xs.map f) (ys.map f) = decide (xs = ys)
  | [], [] => rfl
  | [], _ :: _ => rfl
  | _ :: _, [] => rfl
  | x :: xs, y :: ys => by
    show (PyData.eqv (f x) (f y) && PyData.eqvAll (xs.map f) (ys.map f)) = _
    rw [q.eqv, eqvAll_map q xs ys]
    by_cases h1 : x = y <;> by_cases h2 : xs = ys <;> simp [h1, h2]
theorem q_T (q : EqE k f) : EqE (k + 1) (eT f) := ⟨fun xs => layAll q xs, fun xs => Nat.succ_le_succ (depAll q xs), fun xs ys => eqvAll_map q xs ys⟩
theorem q_L (q : EqE k f) : EqE (k + 1) (eL f) := ⟨fun xs => layAll q xs, fun xs => Nat.succ_le_succ (depAll q xs), fun xs ys => eqvAll_map q xs ys⟩
theorem EqE.mono {k k' : Nat} (q : EqE k f) (h : k ≤ k') : EqE k' f := ⟨q.lay, fun a => Nat.le_trans (q.dep a) h, q.eqv⟩
theorem q_P {k' : Nat} (q : EqE k f) (r : EqE k' g) : EqE (k + k' + 1) (eP f g) := by
  refine ⟨fun p => ?_, fun p => ?_, fun p p' => ?_⟩
  · show (PyData.canLay0 (f p.1) && (PyData.canLay0 (g p.2) && true)) = true
    rw [q.lay, r.lay]; rfl
  · show max (PyData.depth (f p.1)) (max (PyData.depth (g p.2)) 0) + 1 ≤ _
    have := q.dep p.1
    have := r.dep p.2
    omega
  · show (PyData.eqv (f p.1) (f p'.1) && (PyData.eqv (g p.2) (g p'.2) && true)) = _
    rw [q.eqv, r.eqv]
    obtain ⟨a, b⟩ := p
    obtain ⟨a', b'⟩ := p'
    by_cases h1 : a = a' <;> by_cases h2 : b = b' <;> simp [h1, h2]
theorem q_P3 {k' k'' : Nat} (q : EqE k f) (r : EqE k' g) (s : EqE k'' h) : EqE (k + k' + k'' + 1) (eP3 f g h) := by
  refine ⟨fun p => ?_, fun p => ?_, fun p p' => ?_⟩
  · show (PyData.canLay0 (f p.1) && (PyData.canLay0 (g p.2.1) && (PyData.canLay0 (h p.2.2) && true))) = true
    rw [q.lay, r.lay, s.lay]; rfl
  · show max (PyData.depth (f p.1)) (max (PyData.depth (g p.2.1)) (max (PyData.depth (h p.2.2)) 0)) + 1 ≤ _
    have := q.dep p.1
    have := r.dep p.2.1
    have := s.dep p.2.2
    omega
  · show (PyData.eqv (f p.1) (f p'.1) && (PyData.eqv (g p.2.1) (g p'.2.1) && (PyData.eqv (h p.2.2) (h p'.2.2) && true))) = _
    rw [q.eqv, r.eqv, s.eqv]
    obtain ⟨a, b, c⟩ := p
    obtain ⟨a', b', c'⟩ := p'
    by_cases h1 : a = a' <;> by_cases h2 : b = b' <;> by_cases h3 : c = c' <;> simp [h1, h2, h3]
theorem q_P4 {k' k'' k3 : Nat} (q : EqE k f) (r : EqE k' g) (s : EqE k'' h) (t : EqE k3 i) : EqE (k + k' + k'' + k3 + 1) (eP4 f g h i) := by
  refine ⟨fun p => ?_, fun p => ?_, fun p p' => ?_⟩
  · show (PyData.canLay0 (f p.1) && (PyData.canLay0 (g p.2.1) && (PyData.canLay0 (h p.2.2.1) && (PyData.canLay0 (i p.2.2.2) && true)))) = true
    rw [q.lay, r.lay, s.lay, t.lay]; rfl
  · show max (PyData.depth (f p.1)) (max (PyData.depth (g p.2.1)) (max (PyData.depth (h p.2.2.1)) (max (PyData.depth (i p.2.2.2)) 0))) + 1 ≤ _
    have := q.dep p.1
    have := r.dep p.2.1
    have := s.dep p.2.2.1
    have := t.dep p.2.2.2
    omega
  · show (PyData.eqv (f p.1) (f p'.1) && (PyData.eqv (g p.2.1) (g p'.2.1) && (PyData.eqv (h p.2.2.1) (h p'.2.2.1) && (PyData.eqv (i p.2.2.2) (i p'.2.2.2) && true)))) = _
    rw [q.eqv, r.eqv, s.eqv, t.eqv]
    obtain ⟨a, b, c, d⟩ := p
    obtain ⟨a', b', c', d'⟩ := p'
    by_cases h1 : a = a' <;> by_cases h2 : b = b' <;> by_cases h3 : c = c' <;> by_cases h4 : d = d' <;> simp [h1, h2, h3, h4]
theorem EqE.sh (q : EqE k f) (hk : Nat.ble k 64 = true) (a : α) : SeqAt.shaped (f a) = true := by
  unfold SeqAt.shaped
  rw [q.lay, decide_eq_true (Nat.le_trans (q.dep a) (Nat.le_of_ble_eq_true hk))]; rfl
theorem eqD_sh {d e : D} (h1 : SeqAt.shaped d = true) (h2 : SeqAt.shaped e = true) : eqD d e = some (PyData.eqv d e) := by
  unfold eqD
  split
  · rfl
  · rfl
  · rw [h1, h2]; rfl
theorem cmp_eqE (q : EqE k f) (hk : Nat.ble k 64 = true) (x y : α) : cmp .eq (f x) (f y) = some (decide (x = y)) := by
  show eqD (f x) (f y) = _
  rw [eqD_sh (q.sh hk x) (q.sh hk y), q.eqv]
theorem cmp_neE (q : EqE k f) (hk : Nat.ble k 64 = true) (x y : α) : cmp .ne (f x) (f y) = some (!decide (x = y)) := by
  show (eqD (f x) (f y)).map (!·) = _
  rw [eqD_sh (q.sh hk x) (q.sh hk y), q.eqv]; rfl
theorem any_eqv (q : EqE k f) (x : α) : ∀ xs : List α, ((xs.map f).any fun y => PyData.eqv y (f x)) = memT x xs
  | [] => by simp [memT]
  | y :: ys => by
    unfold memT
    rw [List.map_cons, List.any_cons, any_eqv q x ys, q.eqv]
    unfold memT
    by_cases h1 : x = y
    · subst h1; simp
    · have : ¬ y = x := fun z => h1 z.symm
      simp [h1, this]
theorem inD_E (q : EqE k f) (hk : Nat.ble k 64 = true) (x : α) (xs : List α) : inD (f x) (xs.map f) = some (memT x xs) := by
  have h1 : (xs.map f).all SeqAt.shaped = true := List.all_eq_true.mpr fun d hd => by
    obtain ⟨y, _, rfl⟩ := List.mem_map.mp hd
    exact q.sh hk y
  unfold inD
  rw [any_eqv q, q.sh hk x, h1]
  split <;> rfl
theorem cmp_inL (q : EqE k f) (hk : Nat.ble k 64 = true) (x : α) (xs : List α) : cmp .isin (f x) (eL f xs) = some (memT x xs) := inD_E q hk x xs
theorem cmp_inT (q : EqE k f) (hk : Nat.ble k 64 = true) (x : α) (xs : List α) : cmp .isin (f x) (eT f xs) = some (memT x xs) := inD_E q hk x xs
theorem cmp_ninL (q : EqE k f) (hk : Nat.ble k 64 = true) (x : α) (xs : List α) : cmp .notin (f x) (eL f xs) = some (!memT x xs) := by
  show (inD _ _).map _ = _
  rw [inD_E q hk]; rfl
theorem cmp_ninT (q : EqE k f) (hk : Nat.ble k 64 = true) (x : α) (xs : List α) : cmp .notin (f x) (eT f xs) = some (!memT x xs) := by
  show (inD _ _).map _ = _
  rw [inD_E q hk]; rfl
theorem q_O (q : EqE k f) (hn : ∀ a, isNonD (f a) = false) : EqE k (eO f) := by
  refine ⟨fun a => ?_, fun a => ?_, fun a b => ?_⟩
  · cases a with
    | none => rfl
    | some a => exact q.lay a
  · cases a with
    | none => exact Nat.zero_le _
    | some a => exact q.dep a
  · cases a with
    | none => cases b with
      | none => rfl
      | some b =>
        have := hn b
        show PyData.eqv .none (f b) = _
        cases hb : f b <;> rw [hb] at this <;> first | rfl | cases this
    | some a => cases b with
      | none =>
        have := hn a
        show PyData.eqv (f a) .none = _
        cases hb : f a <;> rw [hb] at this <;> first | rfl | cases this
      | some b =>
        refine (q.eqv a b).trans ?_
        by_cases h : a = b <;> simp [h]
end
section
variable {Γ : Fs} {W : Nat} {α β γ : Type} {a b c : E} {σ : Sg} {f : α → D} {g : β → D}
theorem p_cmp {o : Cop} {x y : D} {t : Bool} (h1 : ev Γ a σ = some x) (h2 : ev Γ b σ = some y) (h3 : cmp o x y = some t) : ev Γ (.cmp o a b) σ = some (eB t) := ev_cmp h1 h2 h3
theorem cmp_isO (hn : ∀ a, isNonD (f a) = false) (x : Option α) : cmp .is (eO f x) .none = some x.isNone := by
  cases x with
  | none => rfl
  | some x => show some (isNonD (f x)) = _; rw [hn]; rfl
theorem cmp_isnO (hn : ∀ a, isNonD (f a) = false) (x : Option α) : cmp .isnot (eO f x) .none = some x.isSome := by
  cases x with
  | none => rfl
  | some x => show some (!isNonD (f x)) = _; rw [hn]; rfl
theorem cmp_is (hn : ∀ a, isNonD (f a) = false) (x : α) : cmp .is (f x) .none = some false := by show some (isNonD (f x)) = _; rw [hn]
theorem cmp_isn (hn : ∀ a, isNonD (f a) = false) (x : α) : cmp .isnot (f x) .none = some true := by show some (!isNonD (f x)) = _; rw [hn]; rfl
/-- a value that is there, of one that may be none -/
theorem p_some {e : E} {x : α} (h : ev Γ e σ = some (f x)) : ev Γ e σ = some (eO f (some x)) := h
theorem p_none {e : E} (h : ev Γ e σ = some .none) : ev Γ e σ = some (eO f none) := h
theorem atI_map (xs : List α) (i : Int) : L2.atI (xs.map f) i = (L2.atI xs i).map f := by
  unfold L2.atI
  rw [List.length_map]
  cases L2.ixN xs.length i with
  | none => rfl
  | some j => exact List.getElem?_map
theorem m_idxL {xs : List α} {i : Int} (h1 : ev Γ a σ = some (eL f xs)) (h2 : ev Γ b σ = some (eI i)) : EvM Γ (.idx a b) σ (idxM xs i) f := fun x hx => ev_idx h1 h2 (by
  show L2.atI (xs.map f) i = _
  rw [atI_map, show L2.atI xs i = some x from hx]; rfl)
theorem m_idxT {xs : List α} {i : Int} (h1 : ev Γ a σ = some (eT f xs)) (h2 : ev Γ b σ = some (eI i)) : EvM Γ (.idx a b) σ (idxM xs i) f := fun x hx => ev_idx h1 h2 (by
  show L2.atI (xs.map f) i = _
  rw [atI_map, show L2.atI xs i = some x from hx]; rfl)
theorem m_idxZ {xs : List Int} {i : Int} (h1 : ev Γ a σ = some (eZ xs)) (h2 : ev Γ b σ = some (eI i)) : EvM Γ (.idx a b) σ (idxM xs i) eI := fun x hx => ev_idx h1 h2 (by
  show L2.atI (xs.map PyData.int) i = _
  rw [atI_map, show L2.atI xs i = some x from hx]; rfl)
theorem p_idx {x d : D} {k : D} (h1 : ev Γ a σ = some x) (h2 : ev Γ b σ = some k) (h3 : idx x k = some d) : ev Γ (.idx a b) σ = some d := ev_idx h1 h2 h3
theorem cut_map (xs : List α) (lo hi : Option Int) : cut (xs.map f) lo hi = (cutT xs lo hi).map f := by
  unfold cut cutT
  rw [List.length_map, List.map_take, List.map_drop]
theorem slL (xs : List α) (lo hi : Option Int) : slD (eL f xs) lo hi = some (eL f (cutT xs lo hi)) := by
  show some (PyData.list (cut (xs.map f) lo hi)) = _
  rw [cut_map]
theorem slT (xs : List α) (lo hi : Option Int) : slD (eT f xs) lo hi = some (eT f (cutT xs lo hi)) := by
  show some (PyData.tuple (cut (xs.map f) lo hi)) = _
  rw [cut_map]
theorem p_sl00 {x z : D} (h1 : ev Γ a σ = some x) (h3 : slD x none none = some z) : ev Γ (.sl a [] []) σ = some z := by
  simp only [ev, evs, h1, Option.bind_some]; exact h3
theorem p_sl10 {x z : D} {i : Int} (h1 : ev Γ a σ = some x) (h2 : ev Γ b σ = some (eI i)) (h3 : slD x (some i) none = some z) : ev Γ (.sl a [b] []) σ = some z := by
  simp only [ev, evs, h1, h2, Option.bind_some, Option.map_some]; exact h3
theorem p_sl01 {x z : D} {i : Int} (h1 : ev Γ a σ = some x) (h2 : ev Γ b σ = some (eI i)) (h3 : slD x none (some i) = some z) : ev Γ (.sl a [] [b]) σ = some z := by
  simp only [ev, evs, h1, h2, Option.bind_some, Option.map_some]; exact h3
theorem p_sl11 {x z : D} {i j : Int} (h1 : ev Γ a σ = some x) (h2 : ev Γ b σ = some (eI i)) (h2' : ev Γ c σ = some (eI j)) (h3 : slD x (some i) (some j) = some z) : ev Γ (.sl a [b] [c]) σ = some z := by
  simp only [ev, evs, h1, h2, h2', Option.bind_some, Option.map_some]; exact h3
theorem p_revL {xs : List α} (h1 : ev Γ a σ = some (eL f xs)) : ev Γ (.rev a) σ = some (eL f xs.reverse) := by
  simp only [ev, h1, Option.bind_some, revD, eL, List.map_reverse]
theorem p_revT {xs : List α} (h1 : ev Γ a σ = some (eT f xs)) : ev Γ (.rev a) σ = some (eT f xs.reverse) := by
  simp only [ev, h1, Option.bind_some, revD, eT, List.map_reverse]
theorem m_catL {xs ys : List α} (h1 : ev Γ a σ = some (eL f xs)) (h2 : ev Γ b σ = some (eL f ys)) : EvM Γ (.bin .add a b) σ (catM xs ys) (eL f) := fun z hz => by
  obtain ⟨hq, rfl⟩ := bif_ok hz
  refine ev_bin h1 h2 ?_
  show (if lenOk ((xs.map f).length + (ys.map f).length) = true then some (PyData.list (xs.map f ++ ys.map f)) else none) = _
  rw [List.length_map, List.length_map, if_pos hq, ← List.map_append]
theorem m_catT {xs ys : List α} (h1 : ev Γ a σ = some (eT f xs)) (h2 : ev Γ b σ = some (eT f ys)) : EvM Γ (.bin .add a b) σ (catM xs ys) (eT f) := fun z hz => by
  obtain ⟨hq, rfl⟩ := bif_ok hz
  refine ev_bin h1 h2 ?_
  show (if lenOk ((xs.map f).length + (ys.map f).length) = true then some (PyData.tuple (xs.map f ++ ys.map f)) else none) = _
  rw [List.length_map, List.length_map, if_pos hq, ← List.map_append]
theorem rep_map (xs : List α) (k : Int) : rep (xs.map f) k = (repT xs k).map f := by
  unfold rep repT
  generalize k.toNat = n
  induction n with
  | zero => rfl
  | succ n ih => rw [List.replicate_succ, List.replicate_succ, List.flatten_cons, List.flatten_cons, List.map_append, ih]
theorem m_repL {xs : List α} {k : Int} (h1 : ev Γ a σ = some (eL f xs)) (h2 : ev Γ b σ = some (eI k)) : EvM Γ (.bin .mul a b) σ (repM xs k) (eL f) := fun z hz => by
  obtain ⟨hq, rfl⟩ := bif_ok hz
  refine ev_bin h1 h2 ?_
  show (if repOk (xs.map f).length k = true then some (PyData.list (rep (xs.map f) k)) else none) = _
  rw [List.length_map, if_pos hq, rep_map]
theorem m_repT {xs : List α} {k : Int} (h1 : ev Γ a σ = some (eT f xs)) (h2 : ev Γ b σ = some (eI k)) : EvM Γ (.bin .mul a b) σ (repM xs k) (eT f) := fun z hz => by
  obtain ⟨hq, rfl⟩ := bif_ok hz
  refine ev_bin h1 h2 ?_
  show (if repOk (xs.map f).length k = true then some (PyData.tuple (rep (xs.map f) k)) else none) = _
  rw [List.length_map, if_pos hq, rep_map]
/-! built-ins -/
def absT (i : Int) : Int := if i < 0 then -i else i
def max2T (i j : Int) : Int := if j > i then j else i
def min2T (i j : Int) : Int := if j < i then j else i
theorem b_lenL (xs : List α) : biD .len [eL f xs] = some (eI (xs.length : Int)) := by show some (PyData.int ((xs.map f).length : Nat)) = _; rw [List.length_map]
theorem b_lenT (xs : List α) : biD .len [eT f xs] = some (eI (xs.length : Int)) := by show some (PyData.int ((xs.map f).length : Nat)) = _; rw [List.length_map]
theorem b_lenZ (xs : List Int) : biD .len [eZ xs] = some (eI (xs.length : Int)) := by show some (PyData.int ((xs.map PyData.int).length : Nat)) = _; rw [List.length_map]
theorem intsD_mapI (ns : List Int) : intsD (ns.map PyData.int) = some ns := by
  induction ns with
  | nil => rfl
  | cons n ns ih => simp only [List.map_cons, intsD, ih, Option.map_some]
theorem bls_mapB (bs : List Bool) : bls (bs.map PyData.bool) = some bs := by
  induction bs with
  | nil => rfl
  | cons n ns ih => simp only [List.map_cons, bls, ih, Option.map_some]
theorem b_sumL (xs : List Int) : biD .sum [eL eI xs] = some (eI xs.sum) := by
  show ((intsD (xs.map PyData.int)).map fun ns => PyData.int ns.sum) = _
  rw [intsD_mapI]; rfl
theorem b_sumT (xs : List Int) : biD .sum [eT eI xs] = some (eI xs.sum) := by
  show ((intsD (xs.map PyData.int)).map fun ns => PyData.int ns.sum) = _
  rw [intsD_mapI]; rfl
theorem b_all (xs : List Bool) : biD .all [eL eB xs] = some (eB (xs.all id)) := by
  show ((bls (xs.map PyData.bool)).map fun bs => PyData.bool (bs.all id)) = _
  rw [bls_mapB]; rfl
theorem b_any (xs : List Bool) : biD .any [eL eB xs] = some (eB (xs.any id)) := by
  show ((bls (xs.map PyData.bool)).map fun bs => PyData.bool (bs.any id)) = _
  rw [bls_mapB]; rfl
theorem b_abs (i : Int) : biD .abs [eI i] = some (eI (absT i)) := rfl
theorem b_max2 (i j : Int) : biD .max2 [eI i, eI j] = some (eI (max2T i j)) := rfl
theorem b_min2 (i j : Int) : biD .min2 [eI i, eI j] = some (eI (min2T i j)) := rfl
theorem b_intI (i : Int) : biD .int [eI i] = some (eI i) := rfl
theorem b_intB (t : Bool) : biD .int [eB t] = some (eI (b2i t)) := rfl
theorem b_max1 {d : D} (xs : List Int) (h : elemsP d = some (xs.map PyData.int)) : ∀ v, maxI xs = some v → biD .max1 [d] = some (eI v) := fun v hv => by
  show ((elemsP d).bind fun xs => (intsD xs).bind fun ns => (maxI ns).map PyData.int) = _
  rw [h]; simp only [Option.bind_some, intsD_mapI, hv, Option.map_some]
theorem b_min1 {d : D} (xs : List Int) (h : elemsP d = some (xs.map PyData.int)) : ∀ v, minI xs = some v → biD .min1 [d] = some (eI v) := fun v hv => by
  show ((elemsP d).bind fun xs => (intsD xs).bind fun ns => (minI ns).map PyData.int) = _
  rw [h]; simp only [Option.bind_some, intsD_mapI, hv, Option.map_some]
theorem b_tupleL (xs : List α) : biD .tuple [eL f xs] = some (eT f xs) := rfl
theorem b_tupleT (xs : List α) : biD .tuple [eT f xs] = some (eT f xs) := rfl
theorem b_listL (xs : List α) : biD .list [eL f xs] = some (eL f xs) := rfl
theorem b_listT (xs : List α) : biD .list [eT f xs] = some (eL f xs) := rfl
theorem b_sorted (xs : List Int) : biD .sorted [eL eI xs] = some (eL eI (sortI xs)) := by
  show (match intsD (xs.map PyData.int) with
    | some ns => some (PyData.list ((sortI ns).map .int))
    | none => (pairsD (xs.map PyData.int)).map fun ps => PyData.list ((sortP ps).map encP)) = _
  rw [intsD_mapI]
theorem pairsD_map : ∀ ps : List (Int × Int), pairsD (ps.map (eP eI eI)) = some ps
  | [] => rfl
  | p :: ps => by
    show (pairsD (ps.map (eP eI eI))).map ((p.1, p.2) :: ·) = _
    rw [pairsD_map ps]; rfl
theorem b_sortedP (ps : List (Int × Int)) : biD .sorted [eL (eP eI eI) ps] = some (eL (eP eI eI) (sortP ps)) := by
  show (match intsD (ps.map (eP eI eI)) with
    | some ns => some (PyData.list ((sortI ns).map .int))
    | none => (pairsD (ps.map (eP eI eI))).map fun ps => PyData.list ((sortP ps).map encP)) = _
  cases ps with
  | nil =>
    show some (PyData.list ((sortI []).map .int)) = some (PyData.list ((sortP []).map (eP eI eI)))
    simp [sortI, sortP]
  | cons p ps =>
    rw [pairsD_map]
    rfl
theorem b_sortedPT (ps : List (Int × Int)) : biD .sorted [eT (eP eI eI) ps] = some (eL (eP eI eI) (sortP ps)) := by
  show (pairsD (ps.map (eP eI eI))).map (fun ps => PyData.list ((sortP ps).map encP)) = _
  rw [pairsD_map]; rfl
theorem p_subB {t u : Bool} (h1 : ev Γ a σ = some (eB t)) (h2 : ev Γ b σ = some (eB u)) : ev Γ (.bin .sub a b) σ = some (eI (b2i t - b2i u)) := ev_bin h1 h2 rfl
theorem b_sortedRev {d : D} (xs : List Int) (h : elemsP d = some (xs.map PyData.int)) : biD .sortedRev [d] = some (eL eI (sortI xs).reverse) := by
  show ((elemsP d).bind fun xs => (intsD xs).map fun ns => PyData.list ((sortI ns).reverse.map .int)) = _
  rw [h]; simp only [Option.bind_some, intsD_mapI, Option.map_some, eL]
theorem b_sortedSet {d : D} (xs : List Int) (h : elemsP d = some (xs.map PyData.int)) : biD .sortedSet [d] = some (eL eI (sortI (dedup xs))) := by
  show ((elemsP d).bind fun xs => (intsD xs).map fun ns => PyData.list ((sortI (dedup ns)).map .int)) = _
  rw [h]; simp only [Option.bind_some, intsD_mapI, Option.map_some, eL]
theorem b_isqrt (i : Int) : ∀ v, isqrtM i = some v → biD .isqrt [eI i] = some (eI v) := fun v h => by
  obtain ⟨hq, rfl⟩ := bif_ok h
  show (if (decide (0 ≤ i) && decide (i < 2 ^ 64)) = true then some (PyData.int ((Float64.isqrt i.toNat : Nat) : Int)) else none) = _
  rw [if_pos hq]
theorem rngUp_map (lo : Int) (n : Nat) : rngUp lo n = (rngI lo n).map PyData.int := by unfold rngUp rngI; rw [List.map_map]; rfl
theorem rngBy_map (lo c : Int) (n : Nat) : rngBy lo c n = (rngByI lo c n).map PyData.int := by unfold rngBy rngByI; rw [List.map_map]; rfl
theorem b_range1 (n : Int) : ∀ v, rng1M n = some v → biD .range [eI n] = some (eL eI v) := fun v h => by
  obtain ⟨hq, rfl⟩ := bif_ok h
  refine (dRange1 hq).trans ?_
  rw [rngUp_map]
theorem b_range2 (i j : Int) : ∀ v, rng2M i j = some v → biD .range [eI i, eI j] = some (eL eI v) := fun v h => by
  obtain ⟨hq, rfl⟩ := bif_ok h
  refine (dRange2 hq).trans ?_
  rw [rngUp_map]
theorem b_range3 (i j k : Int) : ∀ v, rng3M i j k = some v → biD .range [eI i, eI j, eI k] = some (eL eI v) := fun v h => by
  obtain ⟨hq, rfl⟩ := bif_ok h
  show (if rng3Ok i j k = true then some (PyData.list (rngBy i k (Builtin.Range.rangeSize i j k).toNat)) else none) = _
  rw [if_pos hq, rngBy_map]
theorem enum_map (xs : List α) : enumD (xs.map f) = (enumT xs).map (eP eI f) := by
  unfold enumD enumT
  rw [List.length_map, List.zipWith_map_right, List.map_zipWith]
theorem b_enumL (xs : List α) : biD .enumerate [eL f xs] = some (eL (eP eI f) (enumT xs)) := by show some (PyData.list (enumD (xs.map f))) = _; rw [enum_map]
theorem b_enumT (xs : List α) : biD .enumerate [eT f xs] = some (eL (eP eI f) (enumT xs)) := by show some (PyData.list (enumD (xs.map f))) = _; rw [enum_map]
theorem zip_map (xs : List α) (ys : List β) : zipD (xs.map f) (ys.map g) = (zipT xs ys).map (eP f g) := by
  unfold zipD zipT
  rw [List.zipWith_map, List.map_zipWith]
theorem b_zipL (xs : List α) (ys : List β) : biD .zip [eL f xs, eL g ys] = some (eL (eP f g) (zipT xs ys)) := by show some (PyData.list (zipD (xs.map f) (ys.map g))) = _; rw [zip_map]
theorem b_zipT (xs : List α) (ys : List β) : biD .zip [eT f xs, eT g ys] = some (eL (eP f g) (zipT xs ys)) := by show some (PyData.list (zipD (xs.map f) (ys.map g))) = _; rw [zip_map]
theorem b_revL (xs : List α) : biD .reversed [eL f xs] = some (eL f xs.reverse) := by show some (PyData.list (xs.map f).reverse) = _; rw [← List.map_reverse]
theorem b_revT (xs : List α) : biD .reversed [eT f xs] = some (eL f xs.reverse) := by show some (PyData.list (xs.map f).reverse) = _; rw [← List.map_reverse]
/-! comprehensions -/
variable {tg tg' : Tg} {own : List (Str × Nat)} {it it' elt : E} {ct : E} {d : D} {xs : List α}
theorem compL_map {F : D → Option (Option D)} {p : α → Option β} {f : α → D} {g : β → D} : ∀ {xs : List α}, (∀ x, F (f x) = some ((p x).map g)) → compL F (xs.map f) = some ((xs.filterMap p).map g)
  | [], _ => rfl
  | x :: xs, h => by
    simp only [List.map_cons, compL, h x, compL_map (xs := xs) h, Option.bind_some, Option.map_some]
    cases hp : p x with
    | none => rw [List.filterMap_cons_none hp]; rfl
    | some y => rw [List.filterMap_cons_some hp]; rfl
theorem compL_mapL {F : D → Option (Option D)} {p : α → Option (Option β)} {f : α → D} {g : β → D} : ∀ {xs : List α} {rs : List β}, (∀ x r, p x = some r → F (f x) = some (r.map g)) → mapL p xs = some rs → compL F (xs.map f) = some (rs.map g)
  | [], rs, _, h => by cases h; rfl
  | x :: xs, rs, h, hm => by
    obtain ⟨r, hr, hm⟩ := bind_ok hm
    obtain ⟨rs', hr', hm⟩ := bind_ok hm
    simp only [List.map_cons, compL, h x r hr, compL_mapL (xs := xs) h hr', Option.bind_some, Option.map_some]
    cases r with
    | none => cases hm; rfl
    | some y => cases hm; rfl
theorem m_mapK {σ' : α → Sg} {F : α → β} (hit : ev Γ it σ = some d) (hel : elemsP d = some (xs.map f)) (hp : ∀ x, put tg (f x) (wipeD σ (own.map (·.2))) = some (σ' x)) (hb : ∀ x, ev Γ elt (σ' x) = some (g (F x))) : EvM Γ (.comp tg own it [] elt) σ (mapK F xs) (eL g) := fun v hv => by
  obtain ⟨hq, rfl⟩ := bif_ok hv
  refine ev_comp hit hel (by rw [List.length_map]; exact Nat.le_of_ble_eq_true hq) ?_
  refine (compL_map (p := fun x => some (F x)) (g := g) fun x => ?_).trans (by rw [List.filterMap_eq_map'])
  show ((put tg (f x) (wipeD σ (own.map (·.2)))).bind fun σ' => (ev Γ elt σ').map some) = _
  rw [hp]
  simp only [Option.bind_some, hb, Option.map_some]
theorem filt_map {α β : Type} (p : α → Bool) (F : α → β) : ∀ xs : List α, xs.filterMap (fun x => bif p x then some (F x) else none) = (xs.filter p).map F
  | [] => rfl
  | x :: xs => by
    cases h : p x with
    | true => rw [List.filterMap_cons_some (b := F x) (by rw [h]; rfl), List.filter_cons_of_pos h, List.map_cons, filt_map p F xs]
    | false => rw [List.filterMap_cons_none (by rw [h]; rfl), List.filter_cons_of_neg (by rw [h]; exact Bool.false_ne_true), filt_map p F xs]
theorem evs_one' {σ : Sg} {e : E} {d : D} (h : ev Γ e σ = some d) : evs Γ [e] σ = some [d] := evs_cons h rfl
theorem m_filtK {σ' : α → Sg} {p : α → Bool} {F : α → β} (hit : ev Γ it σ = some d) (hel : elemsP d = some (xs.map f)) (hp : ∀ x, put tg (f x) (wipeD σ (own.map (·.2))) = some (σ' x)) (hc : ∀ x, (ev Γ ct (σ' x)).bind truth = some (p x)) (hb : ∀ x, ev Γ elt (σ' x) = some (g (F x))) : EvM Γ (.comp tg own it [ct] elt) σ (filtK p F xs) (eL g) := fun v hv => by
  obtain ⟨hq, rfl⟩ := bif_ok hv
  refine ev_comp hit hel (by rw [List.length_map]; exact Nat.le_of_ble_eq_true hq) ?_
  refine (compL_map (p := fun x => bif p x then some (F x) else none) (g := g) fun x => ?_).trans ?_
  · show turnC Γ tg (own.map (·.2)) [ct] elt σ (f x) = _
    unfold turnC
    obtain ⟨y, h1, h2⟩ := ev_of_tr (hc x)
    rw [hp]
    simp only [Option.bind_some, evs_one' h1, h2, hb, Option.map_some]
    cases p x <;> rfl
  · rw [filt_map]
/-! turns that may stop -/
theorem m_mapM {cond : List E} {F : α → Option (Option β)} (hit : ev Γ it σ = some d) (hel : elemsP d = some (xs.map f)) (ht : ∀ x r, F x = some r → turnC Γ tg (own.map (·.2)) cond elt σ (f x) = some (r.map g)) : EvM Γ (.comp tg own it cond elt) σ (mapM' F xs) (eL g) := fun v hv => by
  have hq : lenOk xs.length = true ∧ mapL F xs = some v := by
    unfold mapM' at hv
    cases h : lenOk xs.length with
    | true => rw [h] at hv; exact ⟨rfl, hv⟩
    | false => rw [h] at hv; cases hv
  refine ev_comp hit hel (by rw [List.length_map]; exact Nat.le_of_ble_eq_true hq.1) ?_
  exact compL_mapL ht hq.2
theorem T_plain {vs : List Nat} {x : D} {σ' : Sg} {B : Option β} (hp : put tg x (wipeD σ vs) = some σ') (hb : EvM Γ elt σ' B g) : ∀ r, (B.bind fun y => some (some y)) = some r → turnC Γ tg vs [] elt σ x = some (r.map g) := fun r hr => by
  obtain ⟨y, hy, hr⟩ := bind_ok hr
  cases hr
  show ((put tg x (wipeD σ vs)).bind fun σ' => (ev Γ elt σ').map some) = _
  rw [hp]
  simp only [Option.bind_some, hb y hy, Option.map_some]
theorem T_cond {vs : List Nat} {x : D} {σ' : Sg} {B : Option β} {C : Option Bool} (hp : put tg x (wipeD σ vs) = some σ') (hc : CvM Γ ct σ' C) (hb : EvM Γ elt σ' B g) : ∀ r, (C.bind fun t => bif t then B.bind fun y => some (some y) else some none) = some r → turnC Γ tg vs [ct] elt σ x = some (r.map g) := fun r hr => by
  obtain ⟨t, ht, hr⟩ := bind_ok hr
  obtain ⟨z, h1, h2⟩ := ev_of_tr (hc t ht)
  unfold turnC
  rw [hp]
  simp only [Option.bind_some, evs_one' h1, h2]
  cases t with
  | true =>
    obtain ⟨y, hy, hr⟩ := bind_ok hr
    cases hr
    simp only [hb y hy, if_true, Option.map_some]
  | false =>
    cases hr
    rfl
/-- the inner walk of two -/
def in2 (Γ : Fs) (tg tg' : Tg) (vs : List Nat) (it' : E) (cond : List E) (elt : E) (σ : Sg) (x : D) : Option (List D) :=
  (put tg x (wipeD σ vs)).bind fun σ' => (ev Γ it' σ').bind fun d' => (elemsP d').bind fun ys => compL (turnC Γ tg' (tgSlots tg') cond elt σ') ys
theorem comp2L_map {F : D → Option (List D)} {p : α → Option (List β)} {f : α → D} {g : β → D} : ∀ {xs : List α} {rs : List β}, (∀ x r, p x = some r → F (f x) = some (r.map g)) → flatL p xs = some rs → comp2L F (xs.map f) = some (rs.map g)
  | [], rs, _, h => by cases h; rfl
  | x :: xs, rs, h, hm => by
    obtain ⟨r, hr, hm⟩ := bind_ok hm
    obtain ⟨rs', hr', hm⟩ := bind_ok hm
    cases hm
    simp only [List.map_cons, comp2L, h x r hr, comp2L_map (xs := xs) h hr', Option.bind_some, Option.map_some, List.map_append]
theorem m_comp2 {cond : List E} {F : α → Option (List β)} (hit : ev Γ it σ = some d) (hel : elemsP d = some (xs.map f)) (ht : ∀ x r, F x = some r → in2 Γ tg tg' (own.map (·.2)) it' cond elt σ (f x) = some (r.map g)) : EvM Γ (.comp2 tg tg' own it it' cond elt) σ (flatM' F xs) (eL g) := fun v hv => by
  obtain ⟨rs, h1, h2⟩ := bind_ok hv
  obtain ⟨hq, rfl⟩ := bif_ok h2
  have h3 := comp2L_map ht h1
  simp only [ev, hit, hel, Option.bind_some]
  refine (congrArg (fun z => z.bind fun (rs : List D) => if lenOk rs.length then some (PyData.list rs) else none) h3).trans ?_
  simp only [Option.bind_some, List.length_map, hq, if_true]
theorem U_in {vs : List Nat} {x : D} {σ' : Sg} {cond : List E} {A : Option γ} {e : γ → D} {h : α → D} {ys : γ → List α} {F : γ → α → Option (Option β)} (hp : put tg x (wipeD σ vs) = some σ') (hit : EvM Γ it' σ' A e) (hel : ∀ z, elemsP (e z) = some ((ys z).map h))
    (ht : ∀ z y r, F z y = some r → turnC Γ tg' (tgSlots tg') cond elt σ' (h y) = some (r.map g)) : ∀ r, (A.bind fun z => mapL (F z) (ys z)) = some r → in2 Γ tg tg' vs it' cond elt σ x = some (r.map g) := fun r hr => by
  obtain ⟨z, hz, hr⟩ := bind_ok hr
  unfold in2
  rw [hp]
  simp only [Option.bind_some, hit z hz, hel]
  exact compL_mapL (ht z) hr
end
end Lf
end
section
set_option Elab.async false
set_option linter.all false
set_option maxRecDepth 100000
set_option maxHeartbeats 2000000
/-! EngL3: statements. -/
namespace Lf
open PySem Eng
section
variable {Γ : Fs} {W : Nat} {α β o : Type} {e : E} {ss : List S} {σ σ' : Sg} {f : α → D} {M : Option o} {Q : o → Option Fl → Prop}
theorem S_nil {v : o} (h : Q v (some (.nx σ))) : Sp Γ W [] σ (some v) Q := fun w hw => by cases hw; exact h
theorem S_nx {s : S} (h : ex Γ W s σ = some (.nx σ')) (k : Sp Γ W ss σ' M Q) : Sp Γ W (s :: ss) σ M Q := fun v hv => by
  rw [exs_nx h rfl]; exact k v hv
theorem S_nameI {t : Int} {K : Int → Option o} (h : ev Γ e σ = some (eI t)) (k : ∀ x, ev Γ e σ = some (eI x) → Sp Γ W ss σ (K x) Q) : Sp Γ W ss σ (ltI t K) Q := by
  rw [ltI_eq]; exact k t h
theorem S_name {t : α} {K : α → Option o} (h : ev Γ e σ = some (f t)) (k : ∀ x, ev Γ e σ = some (f x) → Sp Γ W ss σ (K x) Q) : Sp Γ W ss σ (lt t K) Q := k t h
theorem S_asg {tg : Tg} {d : D} (h : ev Γ e σ = some d) (hp : put tg d σ = some σ') (k : Sp Γ W ss σ' M Q) : Sp Γ W (.asg tg e :: ss) σ M Q := S_nx (ex_asg h hp) k
theorem S_par {is : List Nat} {es : List E} {ds : List D} (h : evs Γ es σ = some ds) (hp : puts (is.map .one) ds σ = some σ') (k : Sp Γ W ss σ' M Q) : Sp Γ W (.par is es :: ss) σ M Q := S_nx (ex_par h hp) k
theorem S_fre {x : Nat} (k : Sp Γ W ss σ M Q) : Sp Γ W (.fre x :: ss) σ M Q := S_nx rfl k
theorem S_pass (k : Sp Γ W ss σ M Q) : Sp Γ W (.pass :: ss) σ M Q := S_nx rfl k
theorem S_augP {x : Nat} {op : Bop} {a b t : Int} {σ' : Int → Sg} {K : Int → Option o} (h1 : Eng.get σ x = some (eI a)) (h2 : ev Γ e σ = some (eI b)) (h3 : binI op a b = some t) (hp : ∀ z, σ.set x (some (eI z)) = σ' z) (k : ∀ z, Sp Γ W ss (σ' z) (K z) Q) : Sp Γ W (.aug x op e :: ss) σ (ltI t K) Q := by
  rw [ltI_eq]
  exact S_nx ((ex_aug h1 h2 h3).trans (by rw [hp])) (k t)
theorem S_augM {x : Nat} {op : Bop} {a b : Int} {A : Option Int} {σ' : Int → Sg} {K : Int → Option o} (h1 : Eng.get σ x = some (eI a)) (h2 : ev Γ e σ = some (eI b)) (h3 : ∀ z, A = some z → binI op a b = some z) (hp : ∀ z, σ.set x (some (eI z)) = σ' z) (k : ∀ z, Sp Γ W ss (σ' z) (K z) Q) : Sp Γ W (.aug x op e :: ss) σ (A.bind K) Q := fun v hv => by
  obtain ⟨z, hz, hv⟩ := bind_ok hv
  exact S_nx ((ex_aug h1 h2 (h3 z hz)).trans (by rw [hp])) (k z) v hv
theorem bI_mul {i j : Int} : ∀ z, mulM i j = some z → binI .mul i j = some z := fun z h => by
  obtain ⟨hq, rfl⟩ := bif_ok h
  show (if mulOk i j = true then some (i * j) else none) = _
  rw [if_pos hq]
theorem bI_fdiv {i j : Int} : ∀ z, fdivM i j = some z → binI .fdiv i j = some z := fun z h => by
  obtain ⟨hq, rfl⟩ := bif_ok h
  show (if divOk j = true then some (i.fdiv j) else none) = _
  rw [if_pos hq]
theorem bI_mod {i j : Int} : ∀ z, modM i j = some z → binI .mod i j = some z := fun z h => by
  unfold modM at h
  show (if decide (j = 0) = true then none else some (i.fmod j)) = some z
  cases hd : decide (j = 0) with
  | true => rw [hd] at h; cases h
  | false => rw [hd] at h; exact h
def addM (i j : Int) : Option Int := some (i + j)
def subM (i j : Int) : Option Int := some (i - j)
theorem bI_add {i j : Int} : ∀ z, addM i j = some z → binI .add i j = some z := fun z h => h
theorem bI_sub {i j : Int} : ∀ z, subM i j = some z → binI .sub i j = some z := fun z h => h
theorem S_app {x : Nat} {xs : List α} {v : α} {σ' : List α → Sg} {K : List α → Option o} (h1 : Eng.get σ x = some (eL f xs)) (h2 : ev Γ e σ = some (f v)) (hp : ∀ ys, σ.set x (some (eL f ys)) = σ' ys) (k : ∀ ys, Sp Γ W ss (σ' ys) (K ys) Q) : Sp Γ W (.app x e :: ss) σ ((appM xs v).bind K) Q := fun w hw => by
  obtain ⟨ys, hy, hw⟩ := bind_ok hw
  obtain ⟨hq, rfl⟩ := bif_ok hy
  refine S_nx ((ex_app h1 h2 (by rw [List.length_map]; exact Nat.le_of_ble_eq_true hq)).trans ?_) (k _) w hw
  rw [← hp, eL, List.map_append]
  rfl
theorem S_ext {x : Nat} {xs zs : List α} {σ' : List α → Sg} {K : List α → Option o} (h1 : Eng.get σ x = some (eL f xs)) (h2 : ev Γ e σ = some (eL f zs)) (hp : ∀ ys, σ.set x (some (eL f ys)) = σ' ys) (k : ∀ ys, Sp Γ W ss (σ' ys) (K ys) Q) : Sp Γ W (.ext x e :: ss) σ ((catM xs zs).bind K) Q := fun w hw => by
  obtain ⟨ys, hy, hw⟩ := bind_ok hw
  obtain ⟨hq, rfl⟩ := bif_ok hy
  refine S_nx (σ' := σ' (xs ++ zs)) ?_ (k _) w hw
  have e1 : lext (eL f xs) (eL f zs) = some (eL f (xs ++ zs)) := by
    show (if lenOk ((xs.map f).length + (zs.map f).length) = true then some (PyData.list (xs.map f ++ zs.map f)) else none) = _
    rw [List.length_map, List.length_map, if_pos hq, ← List.map_append]
  simp only [ex, h1, h2, Option.bind_some, e1, Option.map_some, hp]
theorem lset_map {xs : List α} {i : Int} {v : α} : ∀ ys, setM xs i v = some ys → lset (eL f xs) i (f v) = some (eL f ys) := fun ys h => by
  show (L2.ixN (xs.map f).length i).map (fun j => PyData.list ((xs.map f).set j (f v))) = _
  rw [List.length_map]
  unfold setM at h
  cases hx : L2.ixN xs.length i with
  | none => rw [hx] at h; cases h
  | some j =>
    rw [hx] at h
    cases h
    simp only [Option.map_some, eL, List.map_set]
theorem S_setIx {x : Nat} {ei : E} {xs : List α} {i : Int} {v : α} {σ' : List α → Sg} {K : List α → Option o} (h2 : ev Γ e σ = some (f v)) (h1 : Eng.get σ x = some (eL f xs)) (h3 : ev Γ ei σ = some (eI i)) (hp : ∀ ys, σ.set x (some (eL f ys)) = σ' ys) (k : ∀ ys, Sp Γ W ss (σ' ys) (K ys) Q) : Sp Γ W (.setIx x ei e :: ss) σ ((setM xs i v).bind K) Q := fun w hw => by
  obtain ⟨ys, hy, hw⟩ := bind_ok hw
  refine S_nx (σ' := σ' ys) ?_ (k _) w hw
  simp only [ex, h1, h2, h3, Option.bind_some, asInt, lset_map ys hy, Option.map_some, hp]
/-- xs[i] op= b -/
def augIxM (op : Int → Int → Option Int) (xs : List Int) (i b : Int) : Option (List Int) := (idxM xs i).bind fun u => (op u b).bind fun z => setM xs i z
theorem S_augIx {x : Nat} {op : Bop} {ei : E} {xs : List Int} {i b : Int} {O : Int → Int → Option Int} {σ' : List Int → Sg} {K : List Int → Option o} (h1 : Eng.get σ x = some (eL eI xs)) (h3 : ev Γ ei σ = some (eI i)) (h2 : ev Γ e σ = some (eI b)) (ho : ∀ u z, O u b = some z → binI op u b = some z) (hp : ∀ ys, σ.set x (some (eL eI ys)) = σ' ys) (k : ∀ ys, Sp Γ W ss (σ' ys) (K ys) Q) : Sp Γ W (.augIx x ei op e :: ss) σ ((augIxM O xs i b).bind K) Q := fun w hw => by
  obtain ⟨ys, hy, hw⟩ := bind_ok hw
  obtain ⟨u, hu, hy⟩ := bind_ok hy
  obtain ⟨z, hz, hy⟩ := bind_ok hy
  refine S_nx (σ' := σ' ys) ?_ (k _) w hw
  have e1 : idx (eL eI xs) (.int i) = some (eI u) := by
    show L2.atI (xs.map PyData.int) i = _
    rw [atI_map, show L2.atI xs i = some u from hu]; rfl
  simp only [ex, h1, h2, h3, Option.bind_some, asInt, e1, ho u z hz, lset_map (f := eI) ys hy, Option.map_some, hp]
theorem S_ret {fr : Bool} {d : D} {v : o} (h : ev Γ e σ = some d) (hf : (fr || !isList d) = true) (hq : Q v (some (.rt d))) : Sp Γ W (.ret fr e :: ss) σ (some v) Q := fun w hw => by
  cases hw
  rw [exs_rt (ex_ret h hf)]; exact hq
/-- a def's end: what e says -/
theorem S_retM {fr : Bool} {A : Option α} (h : EvM Γ e σ A f) (hf : ∀ v, (fr || !isList (f v)) = true) : Sp Γ W (.ret fr e :: ss) σ A (Qt f) := fun w hw => by
  show exs Γ W (.ret fr e :: ss) σ = some (.rt (f w))
  exact exs_rt (ex_ret (h w hw) (hf w))
theorem S_brk {v : o} (hq : Q v (some (.bk σ))) : Sp Γ W (.brk :: ss) σ (some v) Q := fun w hw => by cases hw; exact hq
theorem S_cont {v : o} (hq : Q v (some (.ct σ))) : Sp Γ W (.cont :: ss) σ (some v) Q := fun w hw => by cases hw; exact hq
theorem exs_app {a b : List S} {σ : Sg} : exs Γ W (a ++ b) σ = (exs Γ W a σ).bind fun r => match r with
    | .nx σ' => exs Γ W b σ'
    | r => some r := by
  induction a generalizing σ with
  | nil => rfl
  | cons s a ih =>
    show ((ex Γ W s σ).bind _) = (((ex Γ W s σ).bind _).bind _)
    cases hx : ex Γ W s σ with
    | none => rfl
    | some r => cases r with
      | nx σ2 => exact ih
      | rt d => rfl
      | bk σ2 => rfl
      | ct σ2 => rfl
theorem exs_ite {c : E} {a b : List S} {t : Bool} (h : (ev Γ c σ).bind truth = some t) : exs Γ W (.ite c a b :: ss) σ = exs Γ W ((bif t then a else b) ++ ss) σ := by
  obtain ⟨d, h1, h2⟩ := ev_of_tr h
  have e1 : ex Γ W (.ite c a b) σ = exs Γ W (bif t then a else b) σ := ex_ite h1 h2 (by cases t <;> rfl)
  rw [exs_app, ← e1]
  show ((ex Γ W (.ite c a b) σ).bind _) = _
  cases ex Γ W (.ite c a b) σ with
  | none => rfl
  | some r => cases r <;> rfl
theorem S_ite {c : E} {a b : List S} {t : Bool} {A B : Option o} (h : (ev Γ c σ).bind truth = some t) (ha : Sp Γ W (a ++ ss) σ A Q) (hb : Sp Γ W (b ++ ss) σ B Q) : Sp Γ W (.ite c a b :: ss) σ (bif t then A else B) Q := fun v hv => by
  rw [exs_ite h]
  cases t with
  | true => exact ha v hv
  | false => exact hb v hv
theorem S_join {s : Type} {c : E} {a b : List S} {t : Bool} {A B : Option s} {K : s → Option o} (R : s → Sg → Prop) (h : (ev Γ c σ).bind truth = some t) (ha : Sp Γ W a σ A (QJ R)) (hb : Sp Γ W b σ B (QJ R)) (hk : ∀ s σ, R s σ → Sp Γ W ss σ (K s) Q) : Sp Γ W (.ite c a b :: ss) σ ((bif t then A else B).bind K) Q := fun v hv => by
  rw [exs_ite h]
  obtain ⟨s, hs, hv⟩ := bind_ok hv
  have key : ∃ σ', exs Γ W (bif t then a else b) σ = some (.nx σ') ∧ R s σ' := by
    cases t with
    | true => exact ha s hs
    | false => exact hb s hs
  obtain ⟨σ', h1, h2⟩ := key
  rw [exs_app, h1]
  exact hk s σ' h2 v hv
/-! loops -/
theorem forN_ok {s : Type} {F : D → Sg → Option Fl} {G : α → s → Option s} {R : s → Sg → Prop} (hb : ∀ x v σ, R v σ → ∀ w, G x v = some w → ∃ σ', (F (f x) σ = some (.nx σ') ∨ F (f x) σ = some (.ct σ')) ∧ R w σ') : ∀ (xs : List α) (v : s) (σ : Sg), R v σ → ∀ w, forN G xs v = some w → ∃ σ', loopL F (xs.map f) σ = some (.nx σ') ∧ R w σ'
  | [], v, σ, h0, w, hw => by cases hw; exact ⟨σ, rfl, h0⟩
  | x :: xs, v, σ, h0, w, hw => by
    obtain ⟨v1, h1, hw⟩ := bind_ok hw
    obtain ⟨σ1, e1, r1⟩ := hb x v σ h0 v1 h1
    obtain ⟨σ2, e2, r2⟩ := forN_ok hb xs v1 σ1 r1 w hw
    refine ⟨σ2, ?_, r2⟩
    rcases e1 with e1 | e1 <;> simp only [List.map_cons, loopL, e1, Option.bind_some, e2]
theorem S_for {s : Type} {w : List Nat} {tg : Tg} {it : E} {body : List S} {d : D} {xs : List α} {G : α → s → Option s} {v0 : s} {K : s → Option o} (R : s → Sg → Prop) (hit : ev Γ it σ = some d) (hel : elemsP d = some (xs.map f)) (h0 : R v0 σ)
    (hb : ∀ x v σ, R v σ → ∃ σ1, put tg (f x) σ = some σ1 ∧ Sp Γ W body σ1 (G x v) (QN R)) (hk : ∀ v σ, R v σ → Sp Γ W ss σ (K v) Q) : Sp Γ W (.loop w tg it body :: ss) σ ((forN G xs v0).bind K) Q := fun v hv => by
  obtain ⟨v1, h1, hv⟩ := bind_ok hv
  obtain ⟨σ', h2, h3⟩ := forN_ok (F := fun x σ => (put tg x σ).bind fun σ' => exs Γ W body σ') (G := G) (R := R) (fun x v σ r w hw => by
    obtain ⟨σ1, p1, p2⟩ := hb x v σ r
    obtain ⟨σ2, q1, q2⟩ := p2 w hw
    refine ⟨σ2, ?_, q2⟩
    show ((put tg (f x) σ).bind fun σ' => exs Γ W body σ') = _ ∨ ((put tg (f x) σ).bind fun σ' => exs Γ W body σ') = _
    rw [p1]; exact q1) xs v0 σ h0 v1 h1
  exact S_nx ((ex_loop hit hel).trans h2) (hk v1 σ' h3) v hv
theorem forX_ok {s r : Type} {F : D → Sg → Option Fl} {G : α → s → Option (Fw s r)} {R : s → Sg → Prop} {g : r → D} (hb : ∀ x v σ, R v σ → ∀ w, G x v = some w → QX R g w (F (f x) σ)) : ∀ (xs : List α) (v : s) (σ : Sg), R v σ → ∀ w, forX G xs v = some w → match w with
    | .nx w => ∃ σ', loopL F (xs.map f) σ = some (.nx σ') ∧ R w σ'
    | .bk w => ∃ σ', loopL F (xs.map f) σ = some (.nx σ') ∧ R w σ'
    | .rt w => loopL F (xs.map f) σ = some (.rt (g w))
  | [], v, σ, h0, w, hw => by cases hw; exact ⟨σ, rfl, h0⟩
  | x :: xs, v, σ, h0, w, hw => by
    obtain ⟨v1, h1, hw⟩ := bind_ok hw
    have e1 := hb x v σ h0 v1 h1
    cases v1 with
    | nx v1 =>
      obtain ⟨σ1, e1, r1⟩ := e1
      have ih := forX_ok hb xs v1 σ1 r1 w hw
      cases w with
      | nx w =>
        obtain ⟨σ2, e2, r2⟩ := ih
        refine ⟨σ2, ?_, r2⟩
        rcases e1 with e1 | e1 <;> simp only [List.map_cons, loopL, e1, Option.bind_some, e2]
      | bk w =>
        obtain ⟨σ2, e2, r2⟩ := ih
        refine ⟨σ2, ?_, r2⟩
        rcases e1 with e1 | e1 <;> simp only [List.map_cons, loopL, e1, Option.bind_some, e2]
      | rt w =>
        show loopL F ((x :: xs).map f) σ = some (.rt (g w))
        rcases e1 with e1 | e1 <;> simp only [List.map_cons, loopL, e1, Option.bind_some, ih]
    | bk v1 =>
      cases hw
      obtain ⟨σ1, e1, r1⟩ := e1
      refine ⟨σ1, ?_, r1⟩
      simp only [List.map_cons, loopL, e1, Option.bind_some]
    | rt v1 =>
      cases hw
      show loopL F ((x :: xs).map f) σ = some (.rt (g v1))
      have e1 : F (f x) σ = some (.rt (g v1)) := e1
      simp only [List.map_cons, loopL, e1, Option.bind_some]
theorem S_forX {s r : Type} {w : List Nat} {tg : Tg} {it : E} {body : List S} {d : D} {xs : List α} {G : α → s → Option (Fw s r)} {v0 : s} {K : s → Option o} {J : r → Option o} {g : r → D} (R : s → Sg → Prop) (hit : ev Γ it σ = some d) (hel : elemsP d = some (xs.map f)) (h0 : R v0 σ)
    (hb : ∀ x v σ, R v σ → ∃ σ1, put tg (f x) σ = some σ1 ∧ Sp Γ W body σ1 (G x v) (QX R g)) (hk : ∀ v σ, R v σ → Sp Γ W ss σ (K v) Q) (hj : ∀ v u, J v = some u → Q u (some (.rt (g v)))) : Sp Γ W (.loop w tg it body :: ss) σ ((forX G xs v0).bind (aft K J)) Q := fun v hv => by
  obtain ⟨v1, h1, hv⟩ := bind_ok hv
  have h2 := forX_ok (F := fun x σ => (put tg x σ).bind fun σ' => exs Γ W body σ') (G := G) (R := R) (g := g) (fun x v σ r w hw => by
    obtain ⟨σ1, p1, p2⟩ := hb x v σ r
    show QX R g w ((put tg (f x) σ).bind fun σ' => exs Γ W body σ')
    rw [p1]; exact p2 w hw) xs v0 σ h0 v1 h1
  cases v1 with
  | nx v1 =>
    obtain ⟨σ', h2, h3⟩ := h2
    exact S_nx ((ex_loop hit hel).trans h2) (hk v1 σ' h3) v hv
  | bk v1 =>
    obtain ⟨σ', h2, h3⟩ := h2
    exact S_nx ((ex_loop hit hel).trans h2) (hk v1 σ' h3) v hv
  | rt v1 =>
    have h2 : loopL (fun x σ => (put tg x σ).bind fun σ' => exs Γ W body σ') (xs.map f) σ = some (.rt (g v1)) := h2
    rw [exs_rt ((ex_loop hit hel).trans h2)]
    exact hj v1 v hv
theorem whN_ok {s : Type} {c : E} {body : List S} {C : s → Option Bool} {G : s → Option s} {R : s → Sg → Prop} (hc : ∀ v σ, R v σ → CvM Γ c σ (C v)) (hb : ∀ v σ, R v σ → Sp Γ W body σ (G v) (QN R)) : ∀ (n : Nat) (v : s) (σ : Sg), R v σ → ∀ w, whN C G n v = some w → ∃ σ', whL (fun σ => (ev Γ c σ).bind truth) (fun σ => exs Γ W body σ) n σ = some (.nx σ') ∧ R w σ'
  | 0, v, σ, h0, w, hw => by cases hw
  | n + 1, v, σ, h0, w, hw => by
    obtain ⟨t, ht, hw⟩ := bind_ok hw
    have h1 := hc v σ h0 t ht
    cases t with
    | true =>
      obtain ⟨v1, h2, hw⟩ := bind_ok hw
      obtain ⟨σ1, e1, r1⟩ := hb v σ h0 v1 h2
      obtain ⟨σ2, e2, r2⟩ := whN_ok hc hb n v1 σ1 r1 w hw
      refine ⟨σ2, ?_, r2⟩
      rcases e1 with e1 | e1 <;> simp only [whL, h1, e1, Option.bind_some, if_true, e2]
    | false =>
      cases hw
      exact ⟨σ, by simp only [whL, h1, Option.bind_some, Bool.false_eq_true, if_false], h0⟩
theorem S_wh {s : Type} {w : List Nat} {c : E} {body : List S} {C : s → Option Bool} {G : s → Option s} {v0 : s} {K : s → Option o} (R : s → Sg → Prop) (h0 : R v0 σ) (hc : ∀ v σ, R v σ → CvM Γ c σ (C v)) (hb : ∀ v σ, R v σ → Sp Γ W body σ (G v) (QN R)) (hk : ∀ v σ, R v σ → Sp Γ W ss σ (K v) Q) : Sp Γ W (.wh w c body :: ss) σ ((whN C G W v0).bind K) Q := fun v hv => by
  obtain ⟨v1, h1, hv⟩ := bind_ok hv
  obtain ⟨σ', h2, h3⟩ := whN_ok hc hb W v0 σ h0 v1 h1
  exact S_nx (by simp only [ex]; exact h2) (hk v1 σ' h3) v hv
theorem whX_ok {s r : Type} {c : E} {body : List S} {C : s → Option Bool} {G : s → Option (Fw s r)} {R : s → Sg → Prop} {g : r → D} (hc : ∀ v σ, R v σ → CvM Γ c σ (C v)) (hb : ∀ v σ, R v σ → Sp Γ W body σ (G v) (QX R g)) : ∀ (n : Nat) (v : s) (σ : Sg), R v σ → ∀ w, whX C G n v = some w → match w with
    | .nx w => ∃ σ', whL (fun σ => (ev Γ c σ).bind truth) (fun σ => exs Γ W body σ) n σ = some (.nx σ') ∧ R w σ'
    | .bk w => ∃ σ', whL (fun σ => (ev Γ c σ).bind truth) (fun σ => exs Γ W body σ) n σ = some (.nx σ') ∧ R w σ'
    | .rt w => whL (fun σ => (ev Γ c σ).bind truth) (fun σ => exs Γ W body σ) n σ = some (.rt (g w))
  | 0, v, σ, h0, w, hw => by cases hw
  | n + 1, v, σ, h0, w, hw => by
    obtain ⟨t, ht, hw⟩ := bind_ok hw
    have h1 := hc v σ h0 t ht
    cases t with
    | true =>
      obtain ⟨v1, h2, hw⟩ := bind_ok hw
      have e1 := hb v σ h0 v1 h2
      cases v1 with
      | nx v1 =>
        obtain ⟨σ1, e1, r1⟩ := e1
        have ih := whX_ok hc hb n v1 σ1 r1 w hw
        cases w with
        | nx w =>
          obtain ⟨σ2, e2, r2⟩ := ih
          refine ⟨σ2, ?_, r2⟩
          rcases e1 with e1 | e1 <;> simp only [whL, h1, e1, Option.bind_some, if_true, e2]
        | bk w =>
          obtain ⟨σ2, e2, r2⟩ := ih
          refine ⟨σ2, ?_, r2⟩
          rcases e1 with e1 | e1 <;> simp only [whL, h1, e1, Option.bind_some, if_true, e2]
        | rt w =>
          show whL (fun σ => (ev Γ c σ).bind truth) (fun σ => exs Γ W body σ) (n + 1) σ = some (.rt (g w))
          rcases e1 with e1 | e1 <;> simp only [whL, h1, e1, Option.bind_some, if_true, ih]
      | bk v1 =>
        cases hw
        obtain ⟨σ1, e1, r1⟩ := e1
        refine ⟨σ1, ?_, r1⟩
        simp only [whL, h1, e1, Option.bind_some, if_true]
      | rt v1 =>
        cases hw
        show whL (fun σ => (ev Γ c σ).bind truth) (fun σ => exs Γ W body σ) (n + 1) σ = some (.rt (g v1))
        have e1 : exs Γ W body σ = some (.rt (g v1)) := e1
        simp only [whL, h1, e1, Option.bind_some, if_true]
    | false =>
      cases hw
      exact ⟨σ, by simp only [whL, h1, Option.bind_some, Bool.false_eq_true, if_false], h0⟩
theorem S_whX {s r : Type} {w : List Nat} {c : E} {body : List S} {C : s → Option Bool} {G : s → Option (Fw s r)} {v0 : s} {K : s → Option o} {J : r → Option o} {g : r → D} (R : s → Sg → Prop) (h0 : R v0 σ) (hc : ∀ v σ, R v σ → CvM Γ c σ (C v)) (hb : ∀ v σ, R v σ → Sp Γ W body σ (G v) (QX R g)) (hk : ∀ v σ, R v σ → Sp Γ W ss σ (K v) Q) (hj : ∀ v u, J v = some u → Q u (some (.rt (g v)))) : Sp Γ W (.wh w c body :: ss) σ ((whX C G W v0).bind (aft K J)) Q := fun v hv => by
  obtain ⟨v1, h1, hv⟩ := bind_ok hv
  have h2 := whX_ok hc hb W v0 σ h0 v1 h1
  cases v1 with
  | nx v1 =>
    obtain ⟨σ', h2, h3⟩ := h2
    exact S_nx (by simp only [ex]; exact h2) (hk v1 σ' h3) v hv
  | bk v1 =>
    obtain ⟨σ', h2, h3⟩ := h2
    exact S_nx (by simp only [ex]; exact h2) (hk v1 σ' h3) v hv
  | rt v1 =>
    have h2 : whL (fun σ => (ev Γ c σ).bind truth) (fun σ => exs Γ W body σ) W σ = some (.rt (g v1)) := h2
    rw [exs_rt (by simp only [ex]; exact h2)]
    exact hj v1 v hv
theorem run_ok {n : Nat} {body : List S} {ds : List D} {A : Option α} (h : Sp Γ W body (ds.map some ++ List.replicate (n - ds.length) none) A (Qt f)) : ∀ v, A = some v → run Γ W n body ds = some (f v) := fun v hv => run_rt (h v hv)
theorem j_id {r : Type} {g : r → D} : ∀ (v u : r), some v = some u → Qt g u (some (.rt (g v))) := fun v u h => by cases h; rfl
theorem j_rt {s r : Type} {R : s → Sg → Prop} {g : r → D} : ∀ (v : r) (u : Fw s r), some (Fw.rt v) = some u → QX R g u (some (.rt (g v))) := fun v u h => by cases h; rfl
end
end Lf
end
section
set_option Elab.async false
set_option linter.all false
set_option maxRecDepth 100000
set_option maxHeartbeats 2000000
/-! EngL4: likeness, what is no list, the row. -/
namespace Lf
open PySem Eng
/-- what is like itself, n deep; truths too -/
def lkB : Nat → D → Bool
  | 0, _ => false
  | n + 1, d => match d with
    | .none => true
    | .int _ => true
    | .bool _ => true
    | .tuple xs => Nat.ble xs.length 1000000 && xs.all (lkB n)
    | _ => false
section
variable {Γ : Fs} {W : Nat}
theorem likeB_step {n : Nat} (h1 : ∀ i : Int, Γ 1 [.int i] = some (.bool true)) (ih : ∀ d, lkB n d = true → Γ 0 [d, d] = some (.bool true)) (d : D) (h : lkB (n + 1) d = true) : run Γ W 3 b_like [d, d] = some (.bool true) := by
  cases d with
  | none => exact like_step (n := 0) h1 (fun _ z => by cases z) .none rfl
  | int i => exact like_step (n := 0) h1 (fun _ z => by cases z) (.int i) rfl
  | bool b =>
    refine run_rt ?_
    show exs Γ W b_like [some (.bool b), some (.bool b), none] = _
    refine exs_nx (σ' := [some (.bool b), some (.bool b), none]) rfl (exs_rt ?_)
    refine ex_ite (x := .bool true) (t := true) rfl rfl (exs_rt (ex_ret ?_ rfl))
    exact ev_and_t (x := .bool true) rfl rfl (ev_cmp (x := .bool b) (y := .bool b) rfl rfl (by cases b <;> rfl))
  | tuple xs =>
    -- as in like_step, with this likeness
    refine run_rt ?_
    show exs Γ W b_like [some (.tuple xs), some (.tuple xs), none] = _
    simp only [lkB, Bool.and_eq_true] at h
    have hl := Nat.le_of_ble_eq_true h.1
    refine exs_nx (σ' := [some (.tuple xs), some (.tuple xs), none]) rfl (exs_nx (σ' := [some (.tuple xs), some (.tuple xs), none]) rfl (exs_rt ?_))
    have l0 : ev Γ (.bi .len [(.var 0)]) [some (.tuple xs), some (.tuple xs), none] = some (.int xs.length) := rfl
    have l1 : ev Γ (.bi .len [(.var 1)]) [some (.tuple xs), some (.tuple xs), none] = some (.int xs.length) := rfl
    have q1 : ev Γ (.not (.bi .isTuple [(.var 0)])) [some (.tuple xs), some (.tuple xs), none] = some (.bool false) := rfl
    have l2 : cmp .ne (.int xs.length) (.int xs.length) = some false := by simp [cmp, eqD]
    have e0 : ev Γ (.or (.not (.bi .isTuple [(.var 0)])) (.cmp .ne (.bi .len [(.var 0)]) (.bi .len [(.var 1)]))) [some (.tuple xs), some (.tuple xs), none] = some (.bool false) := ev_or_f q1 rfl (ev_cmp l0 l1 l2)
    have e1 : ev Γ (.comp (.one 2) [("k", 2)] (.bi .range [(.bi .len [(.var 1)])]) [] (.call 0 false [(.idx (.var 0) (.var 2)), (.idx (.var 1) (.var 2))])) [some (.tuple xs), some (.tuple xs), none] = some (.list (List.replicate xs.length (.bool true))) := by
      refine ev_comp (d := .list (rngUp 0 xs.length)) (ev_bi (ds := [.int xs.length]) rfl (show dRange [.int xs.length] = _ from dR1 hl)) rfl (by rw [rngUp_length, SL_eq]; omega) ?_
      refine compL_get (by rw [rngUp_length, List.length_replicate]) fun i x y hx hy => ?_
      obtain ⟨hi, rfl⟩ := rngUp_at hx
      rw [List.getElem?_replicate, if_pos hi] at hy
      cases hy
      have e : (0 : Int) + (i : Int) = i := by omega
      rw [e]
      have hxi : idx (.tuple xs) (.int i) = some xs[i] := by
        show L2.atI xs (i : Int) = _
        rw [atI_nat hi, List.getElem?_eq_getElem hi]
      have v0 : ev Γ (.idx (.var 0) (.var 2)) [some (.tuple xs), some (.tuple xs), some (.int i)] = some xs[i] := ev_idx (x := .tuple xs) (k := .int i) rfl rfl hxi
      have v1 : ev Γ (.idx (.var 1) (.var 2)) [some (.tuple xs), some (.tuple xs), some (.int i)] = some xs[i] := ev_idx (x := .tuple xs) (k := .int i) rfl rfl hxi
      have hc : ev Γ (.call 0 false [(.idx (.var 0) (.var 2)), (.idx (.var 1) (.var 2))]) [some (.tuple xs), some (.tuple xs), some (.int i)] = some (.bool true) :=
        ev_call (ds := [xs[i], xs[i]]) (evs_cons v0 (evs_cons v1 rfl)) (ih _ (List.all_eq_true.mp h.2 _ (List.getElem_mem hi)))
      show (ev Γ (.call 0 false [(.idx (.var 0) (.var 2)), (.idx (.var 1) (.var 2))]) [some (.tuple xs), some (.tuple xs), some (.int i)]).map some = _
      rw [hc]
      rfl
    have e2 : dAll [.list (List.replicate xs.length (.bool true))] = some (.bool true) := by
      show (bls _).map _ = _
      rw [bls_rep, Option.map_some, List.all_replicate]
      by_cases h : xs.length = 0 <;> simp [h]
    have e3 := ev_bi (Γ := Γ) (b := .all) (es := [_]) (ds := [_]) (evs_cons (es := []) (ds := []) e1 rfl) e2
    have t1 : exs Γ W [.ite (.or (.not (.bi .isTuple [(.var 0)])) (.cmp .ne (.bi .len [(.var 0)]) (.bi .len [(.var 1)]))) [.ret true (.cst (.bool false))] [], .ret true (.bi .all [(.comp (.one 2) [("k", 2)] (.bi .range [(.bi .len [(.var 1)])]) [] (.call 0 false [(.idx (.var 0) (.var 2)), (.idx (.var 1) (.var 2))]))])] [some (.tuple xs), some (.tuple xs), none] = some (.rt (.bool true)) := by
      exact exs_nx (ex_ite e0 (t := false) rfl rfl) (exs_rt (ex_ret e3 rfl))
    exact ex_ite (x := .bool true) (t := true) rfl rfl t1
  | str x => cases h
  | list x => cases h
  | dict x => cases h
end
/-- typed likeness, told only where it is true -/
def likeM {α : Type} [DecidableEq α] (ok : α → Bool) (a b : α) : Option Bool := bif decide (a = b) && ok a then some true else none
def okU {α : Type} : α → Bool := fun _ => true
def okT {α : Type} (ok : α → Bool) (xs : List α) : Bool := Nat.ble xs.length 1000000 && xs.all ok
def okP {α β : Type} (k : α → Bool) (l : β → Bool) (p : α × β) : Bool := k p.1 && l p.2
def okO {α : Type} (ok : α → Bool) : Option α → Bool
  | none => true
  | some a => ok a
def LkE {α : Type} (k : Nat) (f : α → D) (ok : α → Bool) : Prop := ∀ a, ok a = true → lkB k (f a) = true
section
variable {α β γ δ ε : Type} {k : Nat} {f : α → D} {g : β → D} {h : γ → D} {i : δ → D} {j : ε → D} {o1 : α → Bool} {o2 : β → Bool} {o3 : γ → Bool} {o4 : δ → Bool} {o5 : ε → Bool}
theorem k_I : LkE (k + 1) eI okU := fun _ _ => rfl
theorem k_B : LkE (k + 1) eB okU := fun _ _ => rfl
theorem k_U : LkE (k + 1) eU okU := fun _ _ => rfl
theorem k_T (q : LkE k f o1) : LkE (k + 1) (eT f) (okT o1) := fun xs hx => by
  show (Nat.ble (xs.map f).length 1000000 && (xs.map f).all (lkB k)) = true
  have hx : (Nat.ble xs.length 1000000 && xs.all o1) = true := hx
  rw [Bool.and_eq_true] at hx ⊢
  rw [List.length_map]
  refine ⟨hx.1, List.all_eq_true.mpr fun d hd => ?_⟩
  obtain ⟨a, ha, rfl⟩ := List.mem_map.mp hd
  exact q a (List.all_eq_true.mp hx.2 a ha)
theorem k_P (q : LkE k f o1) (r : LkE k g o2) : LkE (k + 1) (eP f g) (okP o1 o2) := fun p hp => by
  have hp : (o1 p.1 && o2 p.2) = true := hp
  rw [Bool.and_eq_true] at hp
  show (true && (lkB k (f p.1) && (lkB k (g p.2) && true))) = true
  rw [q _ hp.1, r _ hp.2]; rfl
theorem k_P3 (q : LkE k f o1) (r : LkE k g o2) (s : LkE k h o3) : LkE (k + 1) (eP3 f g h) (okP o1 (okP o2 o3)) := fun p hp => by
  have hp : (o1 p.1 && (o2 p.2.1 && o3 p.2.2)) = true := hp
  simp only [Bool.and_eq_true] at hp
  show (true && (lkB k (f p.1) && (lkB k (g p.2.1) && (lkB k (h p.2.2) && true)))) = true
  rw [q _ hp.1, r _ hp.2.1, s _ hp.2.2]; rfl
theorem k_P4 (q : LkE k f o1) (r : LkE k g o2) (s : LkE k h o3) (t : LkE k i o4) : LkE (k + 1) (eP4 f g h i) (okP o1 (okP o2 (okP o3 o4))) := fun p hp => by
  have hp : (o1 p.1 && (o2 p.2.1 && (o3 p.2.2.1 && o4 p.2.2.2))) = true := hp
  simp only [Bool.and_eq_true] at hp
  show (true && (lkB k (f p.1) && (lkB k (g p.2.1) && (lkB k (h p.2.2.1) && (lkB k (i p.2.2.2) && true))))) = true
  rw [q _ hp.1, r _ hp.2.1, s _ hp.2.2.1, t _ hp.2.2.2]; rfl
theorem k_P5 (q : LkE k f o1) (r : LkE k g o2) (s : LkE k h o3) (t : LkE k i o4) (u : LkE k j o5) : LkE (k + 1) (eP5 f g h i j) (okP o1 (okP o2 (okP o3 (okP o4 o5)))) := fun p hp => by
  have hp : (o1 p.1 && (o2 p.2.1 && (o3 p.2.2.1 && (o4 p.2.2.2.1 && o5 p.2.2.2.2)))) = true := hp
  simp only [Bool.and_eq_true] at hp
  show (true && (lkB k (f p.1) && (lkB k (g p.2.1) && (lkB k (h p.2.2.1) && (lkB k (i p.2.2.2.1) && (lkB k (j p.2.2.2.2) && true)))))) = true
  rw [q _ hp.1, r _ hp.2.1, s _ hp.2.2.1, t _ hp.2.2.2.1, u _ hp.2.2.2.2]; rfl
theorem k_O (q : LkE (k + 1) f o1) : LkE (k + 1) (eO f) (okO o1) := fun a ha => by
  cases a with
  | none => rfl
  | some a => exact q a ha
theorem likeM_ok [DecidableEq α] {s : List D → Option D} (hs : ∀ d, lkB 12 d = true → s [d, d] = some (.bool true)) (q : LkE 12 f o1) {a b : α} : ∀ v, likeM o1 a b = some v → s [f a, f b] = some (eB v) := fun v hv => by
  obtain ⟨hq, rfl⟩ := bif_ok hv
  rw [Bool.and_eq_true, decide_eq_true_eq] at hq
  obtain ⟨rfl, hk⟩ := hq
  exact hs _ (q a hk)
/-! what a borrowing call may hand back; what is no list -/
def Pu {α : Type} (f : α → D) : Prop := ∀ v, pur (f v) = true
theorem u_I : Pu eI := fun _ => rfl
theorem u_B : Pu eB := fun _ => rfl
theorem u_U : Pu eU := fun _ => rfl
theorem purAll_map (q : Pu f) : ∀ xs : List α, purAll (xs.map f) = true
  | [] => rfl
  | x :: xs => by
    show (pur (f x) && purAll (xs.map f)) = true
    rw [q x, purAll_map q xs]; rfl
theorem u_T (q : Pu f) : Pu (eT f) := fun xs => purAll_map q xs
theorem u_P (q : Pu f) (r : Pu g) : Pu (eP f g) := fun p => by
  show (pur (f p.1) && (pur (g p.2) && true)) = true
  rw [q, r]; rfl
theorem u_P3 (q : Pu f) (r : Pu g) (s : Pu h) : Pu (eP3 f g h) := fun p => by
  show (pur (f p.1) && (pur (g p.2.1) && (pur (h p.2.2) && true))) = true
  rw [q, r, s]; rfl
theorem u_P4 (q : Pu f) (r : Pu g) (s : Pu h) (t : Pu i) : Pu (eP4 f g h i) := fun p => by
  show (pur (f p.1) && (pur (g p.2.1) && (pur (h p.2.2.1) && (pur (i p.2.2.2) && true)))) = true
  rw [q, r, s, t]; rfl
theorem u_O (q : Pu f) : Pu (eO f) := fun a => by
  cases a with
  | none => rfl
  | some a => exact q a
theorem fb_of (q : Pu f) : ∀ v, flatB (f v) = true := fun v => by
  have h := q v
  cases hv : f v with
  | list xs => rw [hv] at h; cases h
  | _ => rw [hv] at h; exact h
theorem fb_L (q : Pu f) : ∀ v, flatB (eL f v) = true := fun xs => purAll_map q xs
theorem nl_O (q : ∀ a, isList (f a) = false) : ∀ a, isList (eO f a) = false := fun a => by
  cases a with
  | none => rfl
  | some a => exact q a
theorem nn_O (x : Option α) : isNonD (eO f x) = x.isNone ∨ True := .inr trivial
end
end Lf
namespace Lf
open PySem Eng
section
variable {Γ : Fs} {α β s r : Type} {σ : Sg} {es : List E} {f : α → D} {R : s → Sg → Prop} {v : s} {g : r → D}
theorem p_tupT {xs : List α} (h1 : evs Γ es σ = some (xs.map f)) (h2 : Nat.ble xs.length 64 = true) : ev Γ (.tup es) σ = some (eT f xs) := p_tup h1 (by rw [List.length_map]; exact h2)
theorem p_lstL {xs : List α} (h1 : evs Γ es σ = some (xs.map f)) (h2 : Nat.ble xs.length 64 = true) : ev Γ (.lst es) σ = some (eL f xs) := p_lst h1 (by rw [List.length_map]; exact h2)
theorem m_unO {e : E} {x : Option α} (h : ev Γ e σ = some (eO f x)) : EvM Γ e σ x f := fun v hv => by rw [h, hv]; rfl
theorem p_mapO {β : Type} {f' : β → D} {e : E} {x : Option α} (g : α → β) (hg : ∀ a, f' (g a) = f a) (h : ev Γ e σ = some (eO f x)) : ev Γ e σ = some (eO f' (x.map g)) := by
  rw [h]; cases x with
  | none => rfl
  | some a => exact congrArg some (hg a).symm
/-- all there -/
def unsM {α : Type} : List (Option α) → Option (List α)
  | [] => some []
  | none :: _ => none
  | some a :: r => (unsM r).bind fun r => some (a :: r)
theorem unsM_eq : ∀ {xs : List (Option α)} {ys : List α}, unsM xs = some ys → xs.map (eO f) = ys.map f
  | [], ys, h => by cases h; rfl
  | none :: _, ys, h => by cases h
  | some a :: r, ys, h => by
    obtain ⟨zs, h1, h2⟩ := bind_ok h
    cases h2
    show f a :: r.map (eO f) = f a :: zs.map f
    rw [unsM_eq h1]
theorem m_unsT {e : E} {xs : List (Option α)} (h : ev Γ e σ = some (eT (eO f) xs)) : EvM Γ e σ (unsM xs) (eT f) := fun v hv => by rw [h]; exact congrArg (fun z => some (PyData.tuple z)) (unsM_eq hv)
theorem m_unsL {e : E} {xs : List (Option α)} (h : ev Γ e σ = some (eL (eO f) xs)) : EvM Γ e σ (unsM xs) (eL f) := fun v hv => by rw [h]; exact congrArg (fun z => some (PyData.list z)) (unsM_eq hv)
theorem p_someL {e : E} {xs : List α} (h : ev Γ e σ = some (eL f xs)) : ev Γ e σ = some (eL (eO f) (xs.map some)) := by
  rw [h]; show some (PyData.list (xs.map f)) = some (PyData.list ((xs.map some).map (eO f))); rw [List.map_map]; rfl
theorem p_someT {e : E} {xs : List α} (h : ev Γ e σ = some (eT f xs)) : ev Γ e σ = some (eT (eO f) (xs.map some)) := by
  rw [h]; show some (PyData.tuple (xs.map f)) = some (PyData.tuple ((xs.map some).map (eO f))); rw [List.map_map]; rfl
theorem q_J (h : R v σ) : QJ R v (some (.nx σ)) := ⟨σ, rfl, h⟩
theorem q_N (h : R v σ) : QN R v (some (.nx σ)) := ⟨σ, .inl rfl, h⟩
theorem q_Nc (h : R v σ) : QN R v (some (.ct σ)) := ⟨σ, .inr rfl, h⟩
theorem q_Xn (h : R v σ) : QX R g (.nx v) (some (.nx σ)) := ⟨σ, .inl rfl, h⟩
theorem q_Xc (h : R v σ) : QX R g (.nx v) (some (.ct σ)) := ⟨σ, .inr rfl, h⟩
theorem q_Xb (h : R v σ) : QX R g (.bk v) (some (.bk σ)) := ⟨σ, rfl, h⟩
end
end Lf
end
section
set_option Elab.async false
set_option linter.all false
set_option maxRecDepth 100000
set_option maxHeartbeats 4000000
namespace K12
open PySem Eng Lf
theorem like_ok : ∀ d, lkB 12 d = true → s__law_like [d, d] = some (.bool true) := by
  have key : ∀ n d, lkB n d = true → r__law_like n [d, d] = some (.bool true) := by
    intro n
    induction n with
    | zero => intro d h; cases h
    | succ n ih => exact fun d h => likeB_step (Γ := g__law_like (r__law_like n)) (fun i => show s__law_is_int [.int i] = _ from isint_ok i) ih d h
  exact key 12
theorem mixed_k (ns : List Int) (k : Nat) : ∃ v : Int, 0 ≤ v ∧ s__law_mixed [frz (ns.map .int), .int k] = some (.int v) := mixed_ok ns k
theorem row_k (ns : List Int) {m : Nat} (hm : m ≤ 1000) : ∃ vs : List Int, vs.length = m ∧ (∀ v ∈ vs, 0 ≤ v) ∧ s__law_row [frz (ns.map .int), .int m] = some (.list (vs.map .int)) := row_ok (Γ := g__law_row) (W := 1000000) ns hm fun k => mixed_k ns k
def t_divisor (first1 : Int) (second2 : Int) : Option (Int) :=
  ltI (absT first1) fun first3 =>
  ltI (absT second2) fun second4 =>
  (whN (fun (s6 : ((Int) × (Int))) => some (decide ((0 : Int) < s6.2))) (fun (s6 : ((Int) × (Int))) =>
  (modM s6.1 s6.2).bind fun t7 =>
  some (s6.2, t7)) 1000000 (first3, second4)).bind fun (s8 : ((Int) × (Int))) =>
  some s8.1
theorem ok_divisor (first1 : Int) (second2 : Int) : ∀ v, t_divisor first1 second2 = some v → s_divisor [eI first1, eI second2] = some (eI v) := run_ok (Γ := g_divisor) (W := 1000000) (n := I_divisor.N.length) (body := b_divisor) (ds := [eI first1, eI second2])
  (show Sp g_divisor 1000000 b_divisor [some (eI first1), some (eI second2)] (t_divisor first1 second2) (Qt eI) by
  unfold t_divisor b_divisor; exact
  S_nameI (e := (.bi .abs [(.var 0)])) (p_bi (b := .abs) (evs_cons (p_var (i := 0) (d := eI first1) rfl) evs_nil) (b_abs first1)) fun first3 hfirst3 =>
  S_nameI (e := (.bi .abs [(.var 1)])) (p_bi (b := .abs) (evs_cons (p_var (i := 1) (d := eI second2) rfl) evs_nil) (b_abs second2)) fun second4 hsecond4 =>
  S_par (σ' := [some (eI first3), some (eI second4)]) (evs_cons hfirst3 (evs_cons hsecond4 evs_nil)) rfl <|
  S_wh (fun (v : ((Int) × (Int))) (σ : Sg) => σ = [some (eI v.1), some (eI v.2)]) rfl (fun s6 σ h => by
  obtain rfl := h; exact C_of (tr_B (p_gt (p_var (i := 1) (d := eI s6.2) rfl) p_cst))) (fun s6 σ h => by
  obtain rfl := h; exact
  S_fre <|
  S_let (a := (.bin .mod (.var 0) (.var 1))) (m_mod (p_var (i := 0) (d := eI s6.1) rfl) (p_var (i := 1) (d := eI s6.2) rfl)) fun t7 ht7 =>
  S_par (σ' := [some (eI s6.2), some (eI t7)]) (evs_cons (p_var (i := 1) (d := eI s6.2) rfl) (evs_cons ht7 evs_nil)) rfl <|
  S_nil (q_N rfl)) (fun s8 σ h => by
  obtain rfl := h; exact
  S_ret (d := eI s8.1) (p_var (i := 0) (d := eI s8.1) rfl) rfl rfl))
def t_power (base1 : Int) (times2 : Int) : Option (Int) :=
  (rng1M times2).bind fun r3 =>
  (forN (fun (x4 : Int) (s5 : Int) =>
  (mulM s5 base1).bind fun product7 =>
  some product7) r3 (1 : Int)).bind fun (s8 : Int) =>
  some s8
theorem ok_power (base1 : Int) (times2 : Int) : ∀ v, t_power base1 times2 = some v → s_power [eI base1, eI times2] = some (eI v) := run_ok (Γ := g_power) (W := 1000000) (n := I_power.N.length) (body := b_power) (ds := [eI base1, eI times2])
  (show Sp g_power 1000000 b_power [some (eI base1), some (eI times2), none, none] (t_power base1 times2) (Qt eI) by
  unfold t_power b_power; exact
  S_asg (σ' := [some (eI base1), some (eI times2), some (eI (1 : Int)), none]) p_cst rfl <|
  S_let (a := (.bi .range [(.var 1)])) (m_bi (b := .range) (f := (eL eI)) (evs_cons (p_var (i := 1) (d := eI times2) rfl) evs_nil) (b_range1 times2)) fun r3 hr3 =>
  S_for (f := eI) (fun (v : Int) (σ : Sg) => ∃ (g3 : Option D), σ = [some (eI base1), some (eI times2), some (eI v), g3]) hr3 rfl ⟨none, rfl⟩ (fun x4 s5 σ h => by
  obtain ⟨g6, rfl⟩ := h; exact ⟨[some (eI base1), some (eI times2), some (eI s5), some (eI x4)], rfl, 
  S_augM (σ' := fun product7 => [some (eI base1), some (eI times2), some (eI product7), some (eI x4)]) rfl (p_var (i := 0) (d := eI base1) rfl) bI_mul (fun _ => rfl) fun product7 =>
  S_nil (q_N ⟨some (eI x4), rfl⟩)⟩) (fun s8 σ h => by
  obtain ⟨g9, rfl⟩ := h; exact
  S_ret (d := eI s8) (p_var (i := 2) (d := eI s8) rfl) rfl rfl))
def t_shared (a1 : Int) (b2 : Int) : Option (Int) :=
  t_divisor a1 b2
theorem ok_shared (a1 : Int) (b2 : Int) : ∀ v, t_shared a1 b2 = some v → s_shared [eI a1, eI b2] = some (eI v) := run_ok (Γ := g_shared) (W := 1000000) (n := I_shared.N.length) (body := b_shared) (ds := [eI a1, eI b2])
  (show Sp g_shared 1000000 b_shared [some (eI a1), some (eI b2)] (t_shared a1 b2) (Qt eI) by
  unfold t_shared b_shared; exact
  S_retM (f := eI) (m_call (n := 0) (f := eI) (evs_cons (p_var (i := 0) (d := eI a1) rfl) (evs_cons (p_var (i := 1) (d := eI b2) rfl) evs_nil)) (fun v hv => ok_divisor a1 b2 v hv)) (fun _ => rfl))
def t_shared_sum (a1 : Int) (b2 : Int) : Option ((Int × Int × Int)) :=
  (whN (fun (s4 : ((Int) × (Int) × (Int) × (Int))) => some (decide ((0 : Int) < s4.2.1))) (fun (s4 : ((Int) × (Int) × (Int) × (Int))) =>
  (fdivM s4.1 s4.2.1).bind fun t6 =>
  (mulM t6 s4.2.1).bind fun t7 =>
  ltI (s4.1 - t7) fun rest8 =>
  (mulM t6 s4.2.2.2).bind fun t9 =>
  ltI (s4.2.2.1 - t9) fun later10 =>
  some (s4.2.1, rest8, s4.2.2.2, later10)) 1000000 (a1, b2, (1 : Int), (0 : Int))).bind fun (s11 : ((Int) × (Int) × (Int) × (Int))) =>
  (fdivM b2 s11.1).bind fun t13 =>
  (modM s11.2.2.1 t13).bind fun t14 =>
  (mulM a1 t14).bind fun t15 =>
  (fdivM (s11.1 - t15) b2).bind fun t16 =>
  some (s11.1, t14, t16)
theorem ok_shared_sum (a1 : Int) (b2 : Int) : ∀ v, t_shared_sum a1 b2 = some v → s_shared_sum [eI a1, eI b2] = some ((eP3 eI eI eI) v) := run_ok (Γ := g_shared_sum) (W := 1000000) (n := I_shared_sum.N.length) (body := b_shared_sum) (ds := [eI a1, eI b2])
  (show Sp g_shared_sum 1000000 b_shared_sum [some (eI a1), some (eI b2), none, none, none, none, none] (t_shared_sum a1 b2) (Qt (eP3 eI eI eI)) by
  unfold t_shared_sum b_shared_sum; exact
  S_par (σ' := [some (eI a1), some (eI b2), some (eI a1), some (eI b2), none, none, none]) (evs_cons (p_var (i := 0) (d := eI a1) rfl) (evs_cons (p_var (i := 1) (d := eI b2) rfl) evs_nil)) rfl <|
  S_asg (σ' := [some (eI a1), some (eI b2), some (eI a1), some (eI b2), some (eI (1 : Int)), some (eI (0 : Int)), none]) (p_tup (evs_cons p_cst (evs_cons p_cst evs_nil)) rfl) rfl <|
  S_wh (fun (v : ((Int) × (Int) × (Int) × (Int))) (σ : Sg) => ∃ (g6 : Option D), σ = [some (eI a1), some (eI b2), some (eI v.1), some (eI v.2.1), some (eI v.2.2.1), some (eI v.2.2.2), g6]) ⟨none, rfl⟩ (fun s4 σ h => by
  obtain ⟨g5, rfl⟩ := h; exact C_of (tr_B (p_gt (p_var (i := 3) (d := eI s4.2.1) rfl) p_cst))) (fun s4 σ h => by
  obtain ⟨g5, rfl⟩ := h; exact
  S_let (a := (.bin .fdiv (.var 2) (.var 3))) (m_fdiv (p_var (i := 2) (d := eI s4.1) rfl) (p_var (i := 3) (d := eI s4.2.1) rfl)) fun t6 ht6 =>
  S_asg (σ' := [some (eI a1), some (eI b2), some (eI s4.1), some (eI s4.2.1), some (eI s4.2.2.1), some (eI s4.2.2.2), some (eI t6)]) ht6 rfl <|
  S_let (a := (.bin .mul (.var 6) (.var 3))) (m_mul (p_var (i := 6) (d := eI t6) rfl) (p_var (i := 3) (d := eI s4.2.1) rfl)) fun t7 ht7 =>
  S_nameI (e := (.bin .sub (.var 2) (.bin .mul (.var 6) (.var 3)))) (p_sub (p_var (i := 2) (d := eI s4.1) rfl) ht7) fun rest8 hrest8 =>
  S_par (σ' := [some (eI a1), some (eI b2), some (eI s4.2.1), some (eI rest8), some (eI s4.2.2.1), some (eI s4.2.2.2), some (eI t6)]) (evs_cons (p_var (i := 3) (d := eI s4.2.1) rfl) (evs_cons hrest8 evs_nil)) rfl <|
  S_let (a := (.bin .mul (.var 6) (.var 5))) (m_mul (p_var (i := 6) (d := eI t6) rfl) (p_var (i := 5) (d := eI s4.2.2.2) rfl)) fun t9 ht9 =>
  S_nameI (e := (.bin .sub (.var 4) (.bin .mul (.var 6) (.var 5)))) (p_sub (p_var (i := 4) (d := eI s4.2.2.1) rfl) ht9) fun later10 hlater10 =>
  S_par (σ' := [some (eI a1), some (eI b2), some (eI s4.2.1), some (eI rest8), some (eI s4.2.2.2), some (eI later10), some (eI t6)]) (evs_cons (p_var (i := 5) (d := eI s4.2.2.2) rfl) (evs_cons hlater10 evs_nil)) rfl <|
  S_nil (q_N ⟨some (eI t6), rfl⟩)) (fun s11 σ h => by
  obtain ⟨g12, rfl⟩ := h; exact
  S_let (a := (.bin .fdiv (.var 1) (.var 2))) (m_fdiv (p_var (i := 1) (d := eI b2) rfl) (p_var (i := 2) (d := eI s11.1) rfl)) fun t13 ht13 =>
  S_let (a := (.bin .mod (.var 4) (.bin .fdiv (.var 1) (.var 2)))) (m_mod (p_var (i := 4) (d := eI s11.2.2.1) rfl) ht13) fun t14 ht14 =>
  S_asg (σ' := [some (eI a1), some (eI b2), some (eI s11.1), some (eI s11.2.1), some (eI t14), some (eI s11.2.2.2), g12]) ht14 rfl <|
  S_fre <|
  S_let (a := (.bin .mul (.var 0) (.var 4))) (m_mul (p_var (i := 0) (d := eI a1) rfl) (p_var (i := 4) (d := eI t14) rfl)) fun t15 ht15 =>
  S_let (a := (.bin .fdiv (.bin .sub (.var 2) (.bin .mul (.var 0) (.var 4))) (.var 1))) (m_fdiv (p_sub (p_var (i := 2) (d := eI s11.1) rfl) ht15) (p_var (i := 1) (d := eI b2) rfl)) fun t16 ht16 =>
  S_ret (d := (eP3 eI eI eI) (s11.1, t14, t16)) (p_tup (evs_cons (p_var (i := 2) (d := eI s11.1) rfl) (evs_cons (p_var (i := 4) (d := eI t14) rfl) (evs_cons ht16 evs_nil))) rfl) rfl rfl))
def t_solutions (a1 : Int) (b2 : Int) (c3 : Int) : Option (Option ((Int × Int × Int × Int))) :=
  (t_shared_sum a1 b2).bind fun t4 =>
  (modM c3 t4.1).bind fun t5 =>
  bif (!(decide (t5 = (0 : Int)))) then (
  some (none : Option ((Int × Int × Int × Int))))
  else
  (fdivM b2 t4.1).bind fun t6 =>
  (fdivM c3 t4.1).bind fun t7 =>
  (mulM t4.2.1 t7).bind fun t8 =>
  (modM t8 t6).bind fun t9 =>
  (mulM a1 t9).bind fun t10 =>
  (fdivM (c3 - t10) b2).bind fun t11 =>
  (fdivM a1 t4.1).bind fun t12 =>
  some (some (t9, t11, t6, (-t12)))
theorem ok_solutions (a1 : Int) (b2 : Int) (c3 : Int) : ∀ v, t_solutions a1 b2 c3 = some v → s_solutions [eI a1, eI b2, eI c3] = some ((eO (eP4 eI eI eI eI)) v) := run_ok (Γ := g_solutions) (W := 1000000) (n := I_solutions.N.length) (body := b_solutions) (ds := [eI a1, eI b2, eI c3])
  (show Sp g_solutions 1000000 b_solutions [some (eI a1), some (eI b2), some (eI c3), none, none, none, none, none] (t_solutions a1 b2 c3) (Qt (eO (eP4 eI eI eI eI))) by
  unfold t_solutions b_solutions; exact
  S_let (a := (.call 0 false [(.var 0), (.var 1)])) (m_call (n := 0) (f := (eP3 eI eI eI)) (evs_cons (p_var (i := 0) (d := eI a1) rfl) (evs_cons (p_var (i := 1) (d := eI b2) rfl) evs_nil)) (fun v hv => ok_shared_sum a1 b2 v hv)) fun t4 ht4 =>
  S_asg (σ' := [some (eI a1), some (eI b2), some (eI c3), some (eI t4.1), some (eI t4.2.1), some (eI t4.2.2), none, none]) ht4 rfl <|
  S_let (a := (.bin .mod (.var 2) (.var 3))) (m_mod (p_var (i := 2) (d := eI c3) rfl) (p_var (i := 3) (d := eI t4.1) rfl)) fun t5 ht5 =>
  S_ite (tr_B (p_neI ht5 p_cst)) (
  S_ret (d := (eO (eP4 eI eI eI eI)) (none : Option ((Int × Int × Int × Int)))) p_cst rfl rfl) <|
  S_let (a := (.bin .fdiv (.var 1) (.var 3))) (m_fdiv (p_var (i := 1) (d := eI b2) rfl) (p_var (i := 3) (d := eI t4.1) rfl)) fun t6 ht6 =>
  S_asg (σ' := [some (eI a1), some (eI b2), some (eI c3), some (eI t4.1), some (eI t4.2.1), some (eI t4.2.2), some (eI t6), none]) ht6 rfl <|
  S_let (a := (.bin .fdiv (.var 2) (.var 3))) (m_fdiv (p_var (i := 2) (d := eI c3) rfl) (p_var (i := 3) (d := eI t4.1) rfl)) fun t7 ht7 =>
  S_let (a := (.bin .mul (.var 4) (.bin .fdiv (.var 2) (.var 3)))) (m_mul (p_var (i := 4) (d := eI t4.2.1) rfl) ht7) fun t8 ht8 =>
  S_let (a := (.bin .mod (.bin .mul (.var 4) (.bin .fdiv (.var 2) (.var 3))) (.var 6))) (m_mod ht8 (p_var (i := 6) (d := eI t6) rfl)) fun t9 ht9 =>
  S_asg (σ' := [some (eI a1), some (eI b2), some (eI c3), some (eI t4.1), some (eI t4.2.1), some (eI t4.2.2), some (eI t6), some (eI t9)]) ht9 rfl <|
  S_fre <|
  S_fre <|
  S_let (a := (.bin .mul (.var 0) (.var 7))) (m_mul (p_var (i := 0) (d := eI a1) rfl) (p_var (i := 7) (d := eI t9) rfl)) fun t10 ht10 =>
  S_let (a := (.bin .fdiv (.bin .sub (.var 2) (.bin .mul (.var 0) (.var 7))) (.var 1))) (m_fdiv (p_sub (p_var (i := 2) (d := eI c3) rfl) ht10) (p_var (i := 1) (d := eI b2) rfl)) fun t11 ht11 =>
  S_let (a := (.bin .fdiv (.var 0) (.var 3))) (m_fdiv (p_var (i := 0) (d := eI a1) rfl) (p_var (i := 3) (d := eI t4.1) rfl)) fun t12 ht12 =>
  S_ret (d := (eO (eP4 eI eI eI eI)) (some (t9, t11, t6, (-t12)))) (p_tup (evs_cons (p_var (i := 7) (d := eI t9) rfl) (evs_cons ht11 (evs_cons (p_var (i := 6) (d := eI t6) rfl) (evs_cons (p_neg ht12) evs_nil)))) rfl) rfl rfl)
def t_count_solutions (a1 : Int) (b2 : Int) (c3 : Int) : Option (Int) :=
  (t_solutions a1 b2 c3).bind fun t4 =>
  ((bif t4.isNone then some true else ((t4).bind fun o5 => (mulM a1 o5.1).bind fun t6 => some (decide (c3 < t6))))).bind fun c7 =>
  bif c7 then (
  some (0 : Int))
  else
  (fdivM c3 a1).bind fun t8 =>
  (t4).bind fun o9 =>
  (t4).bind fun o10 =>
  (fdivM (t8 - o9.1) o10.2.2.1).bind fun t11 =>
  some (t11 + (1 : Int))
theorem ok_count_solutions (a1 : Int) (b2 : Int) (c3 : Int) : ∀ v, t_count_solutions a1 b2 c3 = some v → s_count_solutions [eI a1, eI b2, eI c3] = some (eI v) := run_ok (Γ := g_count_solutions) (W := 1000000) (n := I_count_solutions.N.length) (body := b_count_solutions) (ds := [eI a1, eI b2, eI c3])
  (show Sp g_count_solutions 1000000 b_count_solutions [some (eI a1), some (eI b2), some (eI c3), none] (t_count_solutions a1 b2 c3) (Qt eI) by
  unfold t_count_solutions b_count_solutions; exact
  S_let (a := (.call 0 false [(.var 0), (.var 1), (.var 2)])) (m_call (n := 0) (f := (eO (eP4 eI eI eI eI))) (evs_cons (p_var (i := 0) (d := eI a1) rfl) (evs_cons (p_var (i := 1) (d := eI b2) rfl) (evs_cons (p_var (i := 2) (d := eI c3) rfl) evs_nil))) (fun v hv => ok_solutions a1 b2 c3 v hv)) fun t4 ht4 =>
  S_asg (σ' := [some (eI a1), some (eI b2), some (eI c3), some ((eO (eP4 eI eI eI eI)) t4)]) ht4 rfl <|
  S_letC (a := (.or (.cmp .is (.var 3) (.cst .none)) (.cmp .gt (.bin .mul (.var 0) (.idx (.var 3) (.cst (.int 0)))) (.var 2)))) (C_or (tr_B (p_cmp (p_var (i := 3) (d := (eO (eP4 eI eI eI eI)) t4) rfl) p_cst (cmp_isO (fun _ => rfl) t4))) (C_let (a := (.var 3)) (m_unO (f := (eP4 eI eI eI eI)) (p_var (i := 3) (d := (eO (eP4 eI eI eI eI)) t4) rfl)) fun o5 ho5 => C_let (a := (.bin .mul (.var 0) (.idx (.var 3) (.cst (.int 0))))) (m_mul (p_var (i := 0) (d := eI a1) rfl) (p_idx ho5 p_cst rfl)) fun t6 ht6 => C_of (tr_B (p_gt ht6 (p_var (i := 2) (d := eI c3) rfl))))) fun c7 hc7 =>
  S_ite hc7 (
  S_ret (d := eI (0 : Int)) p_cst rfl rfl) <|
  S_let (a := (.bin .fdiv (.var 2) (.var 0))) (m_fdiv (p_var (i := 2) (d := eI c3) rfl) (p_var (i := 0) (d := eI a1) rfl)) fun t8 ht8 =>
  S_let (a := (.var 3)) (m_unO (f := (eP4 eI eI eI eI)) (p_var (i := 3) (d := (eO (eP4 eI eI eI eI)) t4) rfl)) fun o9 ho9 =>
  S_let (a := (.var 3)) (m_unO (f := (eP4 eI eI eI eI)) (p_var (i := 3) (d := (eO (eP4 eI eI eI eI)) t4) rfl)) fun o10 ho10 =>
  S_let (a := (.bin .fdiv (.bin .sub (.bin .fdiv (.var 2) (.var 0)) (.idx (.var 3) (.cst (.int 0)))) (.idx (.var 3) (.cst (.int 2))))) (m_fdiv (p_sub ht8 (p_idx ho9 p_cst rfl)) (p_idx ho10 p_cst rfl)) fun t11 ht11 =>
  S_ret (d := eI (t11 + (1 : Int))) (p_add ht11 p_cst) rfl rfl)
def t_primes_of (n1 : Int) : Option (List ((Int × Int))) :=
  lt ([] : List ((Int × Int))) fun found2 =>
  (whN (fun (s4 : ((Int) × (List ((Int × Int))) × (Int))) => ((mulM s4.2.2 s4.2.2).bind fun t19 => some (decide (t19 ≤ s4.1)))) (fun (s4 : ((Int) × (List ((Int × Int))) × (Int))) =>
  (whN (fun (s7 : ((Int) × (Int))) => ((modM s7.1 s4.2.2).bind fun t14 => some (decide (t14 = (0 : Int))))) (fun (s7 : ((Int) × (Int))) =>
  (fdivM s7.1 s4.2.2).bind fun n8 =>
  ltI (s7.2 + (1 : Int)) fun often9 =>
  some (n8, often9)) 1000000 (s4.1, (0 : Int))).bind fun (s10 : ((Int) × (Int))) =>
  (bif (decide ((0 : Int) < s10.2)) then (
  (appM s4.2.1 (s4.2.2, s10.2)).bind fun found11 =>
  some found11)
  else (
  some s4.2.1)).bind fun (s12 : List ((Int × Int))) =>
  ltI (s4.2.2 + (1 : Int)) fun part13 =>
  some (s10.1, s12, part13)) 1000000 (n1, found2, (2 : Int))).bind fun (s15 : ((Int) × (List ((Int × Int))) × (Int))) =>
  (bif (decide ((1 : Int) < s15.1)) then (
  (appM s15.2.1 (s15.1, (1 : Int))).bind fun found17 =>
  some found17)
  else (
  some s15.2.1)).bind fun (s18 : List ((Int × Int))) =>
  some s18
theorem ok_primes_of (n1 : Int) : ∀ v, t_primes_of n1 = some v → s_primes_of [eI n1] = some ((eT (eP eI eI)) v) := run_ok (Γ := g_primes_of) (W := 1000000) (n := I_primes_of.N.length) (body := b_primes_of) (ds := [eI n1])
  (show Sp g_primes_of 1000000 b_primes_of [some (eI n1), none, none, none] (t_primes_of n1) (Qt (eT (eP eI eI))) by
  unfold t_primes_of b_primes_of; exact
  S_name (f := (eL (eP eI eI))) (e := (.lst [])) (p_lstL (xs := ([] : List ((Int × Int)))) (f := (eP eI eI)) evs_nil rfl) fun found2 hfound2 =>
  S_asg (σ' := [some (eI n1), some ((eL (eP eI eI)) found2), none, none]) hfound2 rfl <|
  S_asg (σ' := [some (eI n1), some ((eL (eP eI eI)) found2), some (eI (2 : Int)), none]) p_cst rfl <|
  S_wh (fun (v : ((Int) × (List ((Int × Int))) × (Int))) (σ : Sg) => ∃ (g3 : Option D), σ = [some (eI v.1), some ((eL (eP eI eI)) v.2.1), some (eI v.2.2), g3]) ⟨none, rfl⟩ (fun s4 σ h => by
  obtain ⟨g5, rfl⟩ := h; exact C_let (a := (.bin .mul (.var 2) (.var 2))) (m_mul (p_var (i := 2) (d := eI s4.2.2) rfl) (p_var (i := 2) (d := eI s4.2.2) rfl)) fun t19 ht19 => C_of (tr_B (p_le ht19 (p_var (i := 0) (d := eI s4.1) rfl)))) (fun s4 σ h => by
  obtain ⟨g5, rfl⟩ := h; exact
  S_asg (σ' := [some (eI s4.1), some ((eL (eP eI eI)) s4.2.1), some (eI s4.2.2), some (eI (0 : Int))]) p_cst rfl <|
  S_wh (fun (v : ((Int) × (Int))) (σ : Sg) => σ = [some (eI v.1), some ((eL (eP eI eI)) s4.2.1), some (eI s4.2.2), some (eI v.2)]) rfl (fun s7 σ h => by
  obtain rfl := h; exact C_let (a := (.bin .mod (.var 0) (.var 2))) (m_mod (p_var (i := 0) (d := eI s7.1) rfl) (p_var (i := 2) (d := eI s4.2.2) rfl)) fun t14 ht14 => C_of (tr_B (p_eqI ht14 p_cst))) (fun s7 σ h => by
  obtain rfl := h; exact
  S_augM (σ' := fun n8 => [some (eI n8), some ((eL (eP eI eI)) s4.2.1), some (eI s4.2.2), some (eI s7.2)]) rfl (p_var (i := 2) (d := eI s4.2.2) rfl) bI_fdiv (fun _ => rfl) fun n8 =>
  S_augP (σ' := fun often9 => [some (eI n8), some ((eL (eP eI eI)) s4.2.1), some (eI s4.2.2), some (eI often9)]) rfl p_cst rfl (fun _ => rfl) fun often9 =>
  S_nil (q_N rfl)) (fun s10 σ h => by
  obtain rfl := h; exact
  S_join (fun (v : List ((Int × Int))) (σ : Sg) => σ = [some (eI s10.1), some ((eL (eP eI eI)) v), some (eI s4.2.2), some (eI s10.2)]) (tr_B (p_gt (p_var (i := 3) (d := eI s10.2) rfl) p_cst)) (
  S_app (f := (eP eI eI)) (σ' := fun found11 => [some (eI s10.1), some ((eL (eP eI eI)) found11), some (eI s4.2.2), some (eI s10.2)]) rfl (p_tup (evs_cons (p_var (i := 2) (d := eI s4.2.2) rfl) (evs_cons (p_var (i := 3) (d := eI s10.2) rfl) evs_nil)) rfl) (fun _ => rfl) fun found11 =>
  S_nil (q_J rfl)) (
  S_nil (q_J rfl)) (fun s12 σ h => by
  obtain rfl := h; exact
  S_augP (σ' := fun part13 => [some (eI s10.1), some ((eL (eP eI eI)) s12), some (eI part13), some (eI s10.2)]) rfl p_cst rfl (fun _ => rfl) fun part13 =>
  S_nil (q_N ⟨some (eI s10.2), rfl⟩)))) (fun s15 σ h => by
  obtain ⟨g16, rfl⟩ := h; exact
  S_join (fun (v : List ((Int × Int))) (σ : Sg) => σ = [some (eI s15.1), some ((eL (eP eI eI)) v), some (eI s15.2.2), g16]) (tr_B (p_gt (p_var (i := 0) (d := eI s15.1) rfl) p_cst)) (
  S_app (f := (eP eI eI)) (σ' := fun found17 => [some (eI s15.1), some ((eL (eP eI eI)) found17), some (eI s15.2.2), g16]) rfl (p_tup (evs_cons (p_var (i := 0) (d := eI s15.1) rfl) (evs_cons p_cst evs_nil)) rfl) (fun _ => rfl) fun found17 =>
  S_nil (q_J rfl)) (
  S_nil (q_J rfl)) (fun s18 σ h => by
  obtain rfl := h; exact
  S_ret (d := (eT (eP eI eI)) s18) (p_bi (b := .tuple) (evs_cons (p_var (i := 1) (d := (eL (eP eI eI)) s18) rfl) evs_nil) (b_tupleL (f := (eP eI eI)) s18)) rfl rfl)))
def t_divisors (n1 : Int) : Option (List Int) :=
  lt [(1 : Int)] fun found2 =>
  (t_primes_of n1).bind fun t3 =>
  (forN (fun (x4 : (Int × Int)) (s5 : List Int) =>
  (flatM' (fun (x8 : Int) => (((rng1M (x4.2 + (1 : Int))).bind fun r9 => some r9)).bind fun z15 => mapL (fun (x10 : Int) => (((t_power x4.1 x10).bind fun t11 => (mulM x8 t11).bind fun t12 => some t12)).bind fun y13 => some (some y13)) z15) s5).bind fun l16 =>
  some l16) t3 found2).bind fun (s17 : List Int) =>
  some (sortI s17)
theorem ok_divisors (n1 : Int) : ∀ v, t_divisors n1 = some v → s_divisors [eI n1] = some ((eT eI) v) := run_ok (Γ := g_divisors) (W := 1000000) (n := I_divisors.N.length) (body := b_divisors) (ds := [eI n1])
  (show Sp g_divisors 1000000 b_divisors [some (eI n1), none, none, none, none, none] (t_divisors n1) (Qt (eT eI)) by
  unfold t_divisors b_divisors; exact
  S_name (f := (eL eI)) (e := (.lst [(.cst (.int 1))])) (p_lstL (xs := [(1 : Int)]) (f := eI) (evs_cons p_cst evs_nil) rfl) fun found2 hfound2 =>
  S_asg (σ' := [some (eI n1), some ((eL eI) found2), none, none, none, none]) hfound2 rfl <|
  S_let (a := (.call 0 false [(.var 0)])) (m_call (n := 0) (f := (eT (eP eI eI))) (evs_cons (p_var (i := 0) (d := eI n1) rfl) evs_nil) (fun v hv => ok_primes_of n1 v hv)) fun t3 ht3 =>
  S_for (f := (eP eI eI)) (fun (v : List Int) (σ : Sg) => ∃ (g2 g3 : Option D), σ = [some (eI n1), some ((eL eI) v), g2, g3, none, none]) ht3 rfl ⟨none, none, rfl⟩ (fun x4 s5 σ h => by
  obtain ⟨g6, g7, rfl⟩ := h; exact ⟨[some (eI n1), some ((eL eI) s5), some (eI x4.1), some (eI x4.2), none, none], rfl, 
  S_let (a := (.comp2 (.one 4) (.one 5) [("part", 4), ("k", 5)] (.var 1) (.bi .range [(.bin .add (.var 3) (.cst (.int 1)))]) [] (.bin .mul (.var 4) (.call 1 false [(.var 2), (.var 5)])))) (m_comp2 (f := eI) (g := eI) (p_var (i := 1) (d := (eL eI) s5) rfl) rfl (fun x8 => U_in (σ' := [some (eI n1), some ((eL eI) s5), some (eI x4.1), some (eI x4.2), some (eI x8), none]) (e := (eL eI)) (h := eI) (ys := fun z15 => z15) rfl (E_let (a := (.bi .range [(.bin .add (.var 3) (.cst (.int 1)))])) (m_bi (b := .range) (f := (eL eI)) (evs_cons (p_add (p_var (i := 3) (d := eI x4.2) rfl) p_cst) evs_nil) (b_range1 (x4.2 + (1 : Int)))) fun r9 hr9 => E_of (f := (eL eI)) (t := r9) hr9) (fun _ => rfl) (fun z15 x10 => T_plain (σ' := [some (eI n1), some ((eL eI) s5), some (eI x4.1), some (eI x4.2), some (eI x8), some (eI x10)]) rfl (E_let (a := (.call 1 false [(.var 2), (.var 5)])) (m_call (n := 1) (f := eI) (evs_cons (p_var (i := 2) (d := eI x4.1) rfl) (evs_cons (p_var (i := 5) (d := eI x10) rfl) evs_nil)) (fun v hv => ok_power x4.1 x10 v hv)) fun t11 ht11 => E_let (a := (.bin .mul (.var 4) (.call 1 false [(.var 2), (.var 5)]))) (m_mul (p_var (i := 4) (d := eI x8) rfl) ht11) fun t12 ht12 => E_of (f := eI) (t := t12) ht12)))) fun l16 hl16 =>
  S_asg (σ' := [some (eI n1), some ((eL eI) l16), some (eI x4.1), some (eI x4.2), none, none]) hl16 rfl <|
  S_nil (q_N ⟨some (eI x4.1), some (eI x4.2), rfl⟩)⟩) (fun s17 σ h => by
  obtain ⟨g18, g19, rfl⟩ := h; exact
  S_ret (d := (eT eI) (sortI s17)) (p_bi (b := .tuple) (evs_cons (p_bi (b := .sorted) (evs_cons (p_var (i := 1) (d := (eL eI) s17) rfl) evs_nil) (b_sorted s17)) evs_nil) (b_tupleL (f := eI) (sortI s17))) rfl rfl))
def t_count_apart (n1 : Int) : Option (Int) :=
  (t_primes_of n1).bind fun t2 =>
  (forN (fun (x3 : (Int × Int)) (s4 : Int) =>
  (t_power x3.1 (x3.2 - (1 : Int))).bind fun t7 =>
  (mulM (x3.1 - (1 : Int)) t7).bind fun t8 =>
  (mulM s4 t8).bind fun found9 =>
  some found9) t2 (1 : Int)).bind fun (s10 : Int) =>
  some s10
theorem ok_count_apart (n1 : Int) : ∀ v, t_count_apart n1 = some v → s_count_apart [eI n1] = some (eI v) := run_ok (Γ := g_count_apart) (W := 1000000) (n := I_count_apart.N.length) (body := b_count_apart) (ds := [eI n1])
  (show Sp g_count_apart 1000000 b_count_apart [some (eI n1), none, none, none] (t_count_apart n1) (Qt eI) by
  unfold t_count_apart b_count_apart; exact
  S_asg (σ' := [some (eI n1), some (eI (1 : Int)), none, none]) p_cst rfl <|
  S_let (a := (.call 0 false [(.var 0)])) (m_call (n := 0) (f := (eT (eP eI eI))) (evs_cons (p_var (i := 0) (d := eI n1) rfl) evs_nil) (fun v hv => ok_primes_of n1 v hv)) fun t2 ht2 =>
  S_for (f := (eP eI eI)) (fun (v : Int) (σ : Sg) => ∃ (g2 g3 : Option D), σ = [some (eI n1), some (eI v), g2, g3]) ht2 rfl ⟨none, none, rfl⟩ (fun x3 s4 σ h => by
  obtain ⟨g5, g6, rfl⟩ := h; exact ⟨[some (eI n1), some (eI s4), some (eI x3.1), some (eI x3.2)], rfl, 
  S_let (a := (.call 1 false [(.var 2), (.bin .sub (.var 3) (.cst (.int 1)))])) (m_call (n := 1) (f := eI) (evs_cons (p_var (i := 2) (d := eI x3.1) rfl) (evs_cons (p_sub (p_var (i := 3) (d := eI x3.2) rfl) p_cst) evs_nil)) (fun v hv => ok_power x3.1 (x3.2 - (1 : Int)) v hv)) fun t7 ht7 =>
  S_let (a := (.bin .mul (.bin .sub (.var 2) (.cst (.int 1))) (.call 1 false [(.var 2), (.bin .sub (.var 3) (.cst (.int 1)))]))) (m_mul (p_sub (p_var (i := 2) (d := eI x3.1) rfl) p_cst) ht7) fun t8 ht8 =>
  S_augM (σ' := fun found9 => [some (eI n1), some (eI found9), some (eI x3.1), some (eI x3.2)]) rfl ht8 bI_mul (fun _ => rfl) fun found9 =>
  S_nil (q_N ⟨some (eI x3.1), some (eI x3.2), rfl⟩)⟩) (fun s10 σ h => by
  obtain ⟨g11, g12, rfl⟩ := h; exact
  S_ret (d := eI s10) (p_var (i := 1) (d := eI s10) rfl) rfl rfl))
def t_square_sign (n1 : Int) : Option (Int) :=
  (t_primes_of n1).bind fun t2 =>
  (mapK (fun (x3 : (Int × Int)) => (decide ((1 : Int) < x3.2))) t2).bind fun l4 =>
  bif (l4.any id) then (
  some (0 : Int))
  else
  (modM (t2.length : Int) (2 : Int)).bind fun t5 =>
  (mulM (2 : Int) t5).bind fun t6 =>
  some ((1 : Int) - t6)
theorem ok_square_sign (n1 : Int) : ∀ v, t_square_sign n1 = some v → s_square_sign [eI n1] = some (eI v) := run_ok (Γ := g_square_sign) (W := 1000000) (n := I_square_sign.N.length) (body := b_square_sign) (ds := [eI n1])
  (show Sp g_square_sign 1000000 b_square_sign [some (eI n1), none, none] (t_square_sign n1) (Qt eI) by
  unfold t_square_sign b_square_sign; exact
  S_let (a := (.call 0 false [(.var 0)])) (m_call (n := 0) (f := (eT (eP eI eI))) (evs_cons (p_var (i := 0) (d := eI n1) rfl) evs_nil) (fun v hv => ok_primes_of n1 v hv)) fun t2 ht2 =>
  S_asg (σ' := [some (eI n1), some ((eT (eP eI eI)) t2), none]) ht2 rfl <|
  S_let (a := (.comp (.one 2) [("pair", 2)] (.var 1) [] (.cmp .gt (.idx (.var 2) (.cst (.int 1))) (.cst (.int 1))))) (m_mapK (f := (eP eI eI)) (g := eB) (σ' := fun x3 => [some (eI n1), some ((eT (eP eI eI)) t2), some ((eP eI eI) x3)]) (p_var (i := 1) (d := (eT (eP eI eI)) t2) rfl) rfl (fun x3 => rfl) (fun x3 => (p_gt (p_idx (p_var (i := 2) (d := (eP eI eI) x3) rfl) p_cst rfl) p_cst))) fun l4 hl4 =>
  S_ite (tr_B (p_bi (b := .any) (evs_cons hl4 evs_nil) (b_any l4))) (
  S_ret (d := eI (0 : Int)) p_cst rfl rfl) <|
  S_let (a := (.bin .mod (.bi .len [(.var 1)]) (.cst (.int 2)))) (m_mod (p_bi (b := .len) (evs_cons (p_var (i := 1) (d := (eT (eP eI eI)) t2) rfl) evs_nil) (b_lenT (f := (eP eI eI)) t2)) p_cst) fun t5 ht5 =>
  S_let (a := (.bin .mul (.cst (.int 2)) (.bin .mod (.bi .len [(.var 1)]) (.cst (.int 2))))) (m_mul p_cst ht5) fun t6 ht6 =>
  S_ret (d := eI ((1 : Int) - t6)) (p_sub p_cst ht6) rfl rfl)
def t_combined (f1 : List Int) (g2 : List Int) : Option (List Int) :=
  ltI (f1.length : Int) fun most3 =>
  (repM [(0 : Int)] (most3 + (1 : Int))).bind fun t4 =>
  (rng2M (1 : Int) (most3 + (1 : Int))).bind fun r5 =>
  (forN (fun (x6 : Int) (s7 : List Int) =>
  (fdivM most3 x6).bind fun t10 =>
  (rng2M (1 : Int) (t10 + (1 : Int))).bind fun r11 =>
  (forN (fun (x12 : Int) (s13 : List Int) =>
  (mulM x6 x12).bind fun t16 =>
  (idxM f1 (x6 - (1 : Int))).bind fun t17 =>
  (idxM g2 (x12 - (1 : Int))).bind fun t18 =>
  (mulM t17 t18).bind fun t19 =>
  (augIxM addM s13 t16 t19).bind fun found15 =>
  some found15) r11 s7).bind fun (s20 : List Int) =>
  some s20) r5 t4).bind fun (s22 : List Int) =>
  some (cutT s22 (some (1 : Int)) none)
theorem ok_combined (f1 : List Int) (g2 : List Int) : ∀ v, t_combined f1 g2 = some v → s_combined [(eT eI) f1, (eT eI) g2] = some ((eT eI) v) := run_ok (Γ := g_combined) (W := 1000000) (n := I_combined.N.length) (body := b_combined) (ds := [(eT eI) f1, (eT eI) g2])
  (show Sp g_combined 1000000 b_combined [some ((eT eI) f1), some ((eT eI) g2), none, none, none, none] (t_combined f1 g2) (Qt (eT eI)) by
  unfold t_combined b_combined; exact
  S_nameI (e := (.bi .len [(.var 0)])) (p_bi (b := .len) (evs_cons (p_var (i := 0) (d := (eT eI) f1) rfl) evs_nil) (b_lenT (f := eI) f1)) fun most3 hmost3 =>
  S_asg (σ' := [some ((eT eI) f1), some ((eT eI) g2), some (eI most3), none, none, none]) hmost3 rfl <|
  S_let (a := (.bin .mul (.lst [(.cst (.int 0))]) (.bin .add (.var 2) (.cst (.int 1))))) (m_repL (p_lstL (xs := [(0 : Int)]) (f := eI) (evs_cons p_cst evs_nil) rfl) (p_add (p_var (i := 2) (d := eI most3) rfl) p_cst)) fun t4 ht4 =>
  S_asg (σ' := [some ((eT eI) f1), some ((eT eI) g2), some (eI most3), some ((eL eI) t4), none, none]) ht4 rfl <|
  S_let (a := (.bi .range [(.cst (.int 1)), (.bin .add (.var 2) (.cst (.int 1)))])) (m_bi (b := .range) (f := (eL eI)) (evs_cons p_cst (evs_cons (p_add (p_var (i := 2) (d := eI most3) rfl) p_cst) evs_nil)) (b_range2 (1 : Int) (most3 + (1 : Int)))) fun r5 hr5 =>
  S_for (f := eI) (fun (v : List Int) (σ : Sg) => ∃ (g4 g5 : Option D), σ = [some ((eT eI) f1), some ((eT eI) g2), some (eI most3), some ((eL eI) v), g4, g5]) hr5 rfl ⟨none, none, rfl⟩ (fun x6 s7 σ h => by
  obtain ⟨g8, g9, rfl⟩ := h; exact ⟨[some ((eT eI) f1), some ((eT eI) g2), some (eI most3), some ((eL eI) s7), some (eI x6), g9], rfl, 
  S_let (a := (.bin .fdiv (.var 2) (.var 4))) (m_fdiv (p_var (i := 2) (d := eI most3) rfl) (p_var (i := 4) (d := eI x6) rfl)) fun t10 ht10 =>
  S_let (a := (.bi .range [(.cst (.int 1)), (.bin .add (.bin .fdiv (.var 2) (.var 4)) (.cst (.int 1)))])) (m_bi (b := .range) (f := (eL eI)) (evs_cons p_cst (evs_cons (p_add ht10 p_cst) evs_nil)) (b_range2 (1 : Int) (t10 + (1 : Int)))) fun r11 hr11 =>
  S_for (f := eI) (fun (v : List Int) (σ : Sg) => ∃ (g5 : Option D), σ = [some ((eT eI) f1), some ((eT eI) g2), some (eI most3), some ((eL eI) v), some (eI x6), g5]) hr11 rfl ⟨g9, rfl⟩ (fun x12 s13 σ h => by
  obtain ⟨g14, rfl⟩ := h; exact ⟨[some ((eT eI) f1), some ((eT eI) g2), some (eI most3), some ((eL eI) s13), some (eI x6), some (eI x12)], rfl, 
  S_let (a := (.bin .mul (.var 4) (.var 5))) (m_mul (p_var (i := 4) (d := eI x6) rfl) (p_var (i := 5) (d := eI x12) rfl)) fun t16 ht16 =>
  S_let (a := (.idx (.var 0) (.bin .sub (.var 4) (.cst (.int 1))))) (m_idxT (f := eI) (p_var (i := 0) (d := (eT eI) f1) rfl) (p_sub (p_var (i := 4) (d := eI x6) rfl) p_cst)) fun t17 ht17 =>
  S_let (a := (.idx (.var 1) (.bin .sub (.var 5) (.cst (.int 1))))) (m_idxT (f := eI) (p_var (i := 1) (d := (eT eI) g2) rfl) (p_sub (p_var (i := 5) (d := eI x12) rfl) p_cst)) fun t18 ht18 =>
  S_let (a := (.bin .mul (.idx (.var 0) (.bin .sub (.var 4) (.cst (.int 1)))) (.idx (.var 1) (.bin .sub (.var 5) (.cst (.int 1)))))) (m_mul ht17 ht18) fun t19 ht19 =>
  S_augIx (O := addM) (σ' := fun found15 => [some ((eT eI) f1), some ((eT eI) g2), some (eI most3), some ((eL eI) found15), some (eI x6), some (eI x12)]) rfl ht16 ht19 (fun _ _ => bI_add _) (fun _ => rfl) fun found15 =>
  S_nil (q_N ⟨some (eI x12), rfl⟩)⟩) (fun s20 σ h => by
  obtain ⟨g21, rfl⟩ := h; exact
  S_nil (q_N ⟨some (eI x6), g21, rfl⟩))⟩) (fun s22 σ h => by
  obtain ⟨g23, g24, rfl⟩ := h; exact
  S_ret (d := (eT eI) (cutT s22 (some (1 : Int)) none)) (p_bi (b := .tuple) (evs_cons (p_sl10 (p_var (i := 3) (d := (eL eI) s22) rfl) p_cst (slL (f := eI) s22 (some (1 : Int)) none)) evs_nil) (b_tupleL (f := eI) (cutT s22 (some (1 : Int)) none))) rfl rfl))
def t_taken_back (f1 : List Int) : Option (List Int) :=
  ltI (f1.length : Int) fun most2 =>
  (repM [(0 : Int)] (most2 + (1 : Int))).bind fun t3 =>
  lt ([] : List Int) fun found4 =>
  (rng2M (1 : Int) (most2 + (1 : Int))).bind fun r5 =>
  (forN (fun (x6 : Int) (s7 : ((List Int) × (List Int))) =>
  (idxM f1 (0 : Int)).bind fun t11 =>
  (idxM s7.1 x6).bind fun t12 =>
  (mulM t11 ((b2i (decide (x6 = (1 : Int)))) - t12)).bind fun t13 =>
  (appM s7.2 t13).bind fun found14 =>
  (fdivM most2 x6).bind fun t15 =>
  (rng2M (2 : Int) (t15 + (1 : Int))).bind fun r16 =>
  (forN (fun (x17 : Int) (s18 : List Int) =>
  (mulM x17 x6).bind fun t21 =>
  (idxM f1 (x17 - (1 : Int))).bind fun t22 =>
  (mulM t22 t13).bind fun t23 =>
  (augIxM addM s18 t21 t23).bind fun known20 =>
  some known20) r16 s7.1).bind fun (s24 : List Int) =>
  some (s24, found14)) r5 (t3, found4)).bind fun (s26 : ((List Int) × (List Int))) =>
  some s26.2
theorem ok_taken_back (f1 : List Int) : ∀ v, t_taken_back f1 = some v → s_taken_back [(eT eI) f1] = some ((eT eI) v) := run_ok (Γ := g_taken_back) (W := 1000000) (n := I_taken_back.N.length) (body := b_taken_back) (ds := [(eT eI) f1])
  (show Sp g_taken_back 1000000 b_taken_back [some ((eT eI) f1), none, none, none, none, none, none] (t_taken_back f1) (Qt (eT eI)) by
  unfold t_taken_back b_taken_back; exact
  S_nameI (e := (.bi .len [(.var 0)])) (p_bi (b := .len) (evs_cons (p_var (i := 0) (d := (eT eI) f1) rfl) evs_nil) (b_lenT (f := eI) f1)) fun most2 hmost2 =>
  S_asg (σ' := [some ((eT eI) f1), some (eI most2), none, none, none, none, none]) hmost2 rfl <|
  S_let (a := (.bin .mul (.lst [(.cst (.int 0))]) (.bin .add (.var 1) (.cst (.int 1))))) (m_repL (p_lstL (xs := [(0 : Int)]) (f := eI) (evs_cons p_cst evs_nil) rfl) (p_add (p_var (i := 1) (d := eI most2) rfl) p_cst)) fun t3 ht3 =>
  S_asg (σ' := [some ((eT eI) f1), some (eI most2), some ((eL eI) t3), none, none, none, none]) ht3 rfl <|
  S_name (f := (eL eI)) (e := (.lst [])) (p_lstL (xs := ([] : List Int)) (f := eI) evs_nil rfl) fun found4 hfound4 =>
  S_asg (σ' := [some ((eT eI) f1), some (eI most2), some ((eL eI) t3), some ((eL eI) found4), none, none, none]) hfound4 rfl <|
  S_let (a := (.bi .range [(.cst (.int 1)), (.bin .add (.var 1) (.cst (.int 1)))])) (m_bi (b := .range) (f := (eL eI)) (evs_cons p_cst (evs_cons (p_add (p_var (i := 1) (d := eI most2) rfl) p_cst) evs_nil)) (b_range2 (1 : Int) (most2 + (1 : Int)))) fun r5 hr5 =>
  S_for (f := eI) (fun (v : ((List Int) × (List Int))) (σ : Sg) => ∃ (g4 g5 g6 : Option D), σ = [some ((eT eI) f1), some (eI most2), some ((eL eI) v.1), some ((eL eI) v.2), g4, g5, g6]) hr5 rfl ⟨none, none, none, rfl⟩ (fun x6 s7 σ h => by
  obtain ⟨g8, g9, g10, rfl⟩ := h; exact ⟨[some ((eT eI) f1), some (eI most2), some ((eL eI) s7.1), some ((eL eI) s7.2), some (eI x6), g9, g10], rfl, 
  S_let (a := (.idx (.var 0) (.cst (.int 0)))) (m_idxT (f := eI) (p_var (i := 0) (d := (eT eI) f1) rfl) p_cst) fun t11 ht11 =>
  S_let (a := (.idx (.var 2) (.var 4))) (m_idxL (f := eI) (p_var (i := 2) (d := (eL eI) s7.1) rfl) (p_var (i := 4) (d := eI x6) rfl)) fun t12 ht12 =>
  S_let (a := (.bin .mul (.idx (.var 0) (.cst (.int 0))) (.bin .sub (.bi .int [(.cmp .eq (.var 4) (.cst (.int 1)))]) (.idx (.var 2) (.var 4))))) (m_mul ht11 (p_sub (p_bi (b := .int) (evs_cons (p_eqI (p_var (i := 4) (d := eI x6) rfl) p_cst) evs_nil) (b_intB (decide (x6 = (1 : Int))))) ht12)) fun t13 ht13 =>
  S_asg (σ' := [some ((eT eI) f1), some (eI most2), some ((eL eI) s7.1), some ((eL eI) s7.2), some (eI x6), some (eI t13), g10]) ht13 rfl <|
  S_fre <|
  S_app (f := eI) (σ' := fun found14 => [some ((eT eI) f1), some (eI most2), some ((eL eI) s7.1), some ((eL eI) found14), some (eI x6), some (eI t13), g10]) rfl (p_var (i := 5) (d := eI t13) rfl) (fun _ => rfl) fun found14 =>
  S_let (a := (.bin .fdiv (.var 1) (.var 4))) (m_fdiv (p_var (i := 1) (d := eI most2) rfl) (p_var (i := 4) (d := eI x6) rfl)) fun t15 ht15 =>
  S_let (a := (.bi .range [(.cst (.int 2)), (.bin .add (.bin .fdiv (.var 1) (.var 4)) (.cst (.int 1)))])) (m_bi (b := .range) (f := (eL eI)) (evs_cons p_cst (evs_cons (p_add ht15 p_cst) evs_nil)) (b_range2 (2 : Int) (t15 + (1 : Int)))) fun r16 hr16 =>
  S_for (f := eI) (fun (v : List Int) (σ : Sg) => ∃ (g6 : Option D), σ = [some ((eT eI) f1), some (eI most2), some ((eL eI) v), some ((eL eI) found14), some (eI x6), some (eI t13), g6]) hr16 rfl ⟨g10, rfl⟩ (fun x17 s18 σ h => by
  obtain ⟨g19, rfl⟩ := h; exact ⟨[some ((eT eI) f1), some (eI most2), some ((eL eI) s18), some ((eL eI) found14), some (eI x6), some (eI t13), some (eI x17)], rfl, 
  S_let (a := (.bin .mul (.var 6) (.var 4))) (m_mul (p_var (i := 6) (d := eI x17) rfl) (p_var (i := 4) (d := eI x6) rfl)) fun t21 ht21 =>
  S_let (a := (.idx (.var 0) (.bin .sub (.var 6) (.cst (.int 1))))) (m_idxT (f := eI) (p_var (i := 0) (d := (eT eI) f1) rfl) (p_sub (p_var (i := 6) (d := eI x17) rfl) p_cst)) fun t22 ht22 =>
  S_let (a := (.bin .mul (.idx (.var 0) (.bin .sub (.var 6) (.cst (.int 1)))) (.var 5))) (m_mul ht22 (p_var (i := 5) (d := eI t13) rfl)) fun t23 ht23 =>
  S_augIx (O := addM) (σ' := fun known20 => [some ((eT eI) f1), some (eI most2), some ((eL eI) known20), some ((eL eI) found14), some (eI x6), some (eI t13), some (eI x17)]) rfl ht21 ht23 (fun _ _ => bI_add _) (fun _ => rfl) fun known20 =>
  S_nil (q_N ⟨some (eI x17), rfl⟩)⟩) (fun s24 σ h => by
  obtain ⟨g25, rfl⟩ := h; exact
  S_nil (q_N ⟨some (eI x6), some (eI t13), g25, rfl⟩))⟩) (fun s26 σ h => by
  obtain ⟨g27, g28, g29, rfl⟩ := h; exact
  S_ret (d := (eT eI) s26.2) (p_bi (b := .tuple) (evs_cons (p_var (i := 3) (d := (eL eI) s26.2) rfl) evs_nil) (b_tupleL (f := eI) s26.2)) rfl rfl))
def t_together (pairs1 : List ((Int × Int))) : Option (Option ((Int × Int))) :=
  (idxM pairs1 (0 : Int)).bind fun t2 =>
  (forX (s := ((Int) × (Int))) (r := Option ((Int × Int))) (fun (x3 : (Int × Int)) (s4 : ((Int) × (Int))) =>
  (t_shared_sum s4.2 x3.2).bind fun t10 =>
  (modM (x3.1 - s4.1) t10.1).bind fun t11 =>
  bif (!(decide (t11 = (0 : Int)))) then (
  some (Fw.rt (none : Option ((Int × Int)))))
  else
  (fdivM (x3.1 - s4.1) t10.1).bind fun t12 =>
  (mulM t12 t10.2.1).bind fun t13 =>
  (fdivM x3.2 t10.1).bind fun t14 =>
  (modM t13 t14).bind fun t15 =>
  (mulM s4.2 t15).bind fun t16 =>
  ltI (s4.1 + t16) fun r17 =>
  (mulM s4.2 x3.2).bind fun t18 =>
  (fdivM t18 t10.1).bind fun t19 =>
  some (Fw.nx (r17, t19))) (cutT pairs1 (some (1 : Int)) none) (t2.1, t2.2)).bind (aft (fun (s20 : ((Int) × (Int))) =>
  some (some (s20.1, s20.2))) (fun r => some r))
theorem ok_together (pairs1 : List ((Int × Int))) : ∀ v, t_together pairs1 = some v → s_together [(eT (eP eI eI)) pairs1] = some ((eO (eP eI eI)) v) := run_ok (Γ := g_together) (W := 1000000) (n := I_together.N.length) (body := b_together) (ds := [(eT (eP eI eI)) pairs1])
  (show Sp g_together 1000000 b_together [some ((eT (eP eI eI)) pairs1), none, none, none, none, none, none, none] (t_together pairs1) (Qt (eO (eP eI eI))) by
  unfold t_together b_together; exact
  S_let (a := (.idx (.var 0) (.cst (.int 0)))) (m_idxT (f := (eP eI eI)) (p_var (i := 0) (d := (eT (eP eI eI)) pairs1) rfl) p_cst) fun t2 ht2 =>
  S_asg (σ' := [some ((eT (eP eI eI)) pairs1), some (eI t2.1), some (eI t2.2), none, none, none, none, none]) ht2 rfl <|
  S_forX (f := (eP eI eI)) (g := (eO (eP eI eI))) (fun (v : ((Int) × (Int))) (σ : Sg) => ∃ (g3 g4 g5 g6 g7 : Option D), σ = [some ((eT (eP eI eI)) pairs1), some (eI v.1), some (eI v.2), g3, g4, g5, g6, g7]) (p_sl10 (p_var (i := 0) (d := (eT (eP eI eI)) pairs1) rfl) p_cst (slT (f := (eP eI eI)) pairs1 (some (1 : Int)) none)) rfl ⟨none, none, none, none, none, rfl⟩ (fun x3 s4 σ h => by
  obtain ⟨g5, g6, g7, g8, g9, rfl⟩ := h; exact ⟨[some ((eT (eP eI eI)) pairs1), some (eI s4.1), some (eI s4.2), some (eI x3.1), some (eI x3.2), g7, g8, g9], rfl, 
  S_let (a := (.call 0 false [(.var 2), (.var 4)])) (m_call (n := 0) (f := (eP3 eI eI eI)) (evs_cons (p_var (i := 2) (d := eI s4.2) rfl) (evs_cons (p_var (i := 4) (d := eI x3.2) rfl) evs_nil)) (fun v hv => ok_shared_sum s4.2 x3.2 v hv)) fun t10 ht10 =>
  S_asg (σ' := [some ((eT (eP eI eI)) pairs1), some (eI s4.1), some (eI s4.2), some (eI x3.1), some (eI x3.2), some (eI t10.1), some (eI t10.2.1), some (eI t10.2.2)]) ht10 rfl <|
  S_let (a := (.bin .mod (.bin .sub (.var 3) (.var 1)) (.var 5))) (m_mod (p_sub (p_var (i := 3) (d := eI x3.1) rfl) (p_var (i := 1) (d := eI s4.1) rfl)) (p_var (i := 5) (d := eI t10.1) rfl)) fun t11 ht11 =>
  S_ite (tr_B (p_neI ht11 p_cst)) (
  S_ret (d := (eO (eP eI eI)) (none : Option ((Int × Int)))) p_cst rfl rfl) <|
  S_let (a := (.bin .fdiv (.bin .sub (.var 3) (.var 1)) (.var 5))) (m_fdiv (p_sub (p_var (i := 3) (d := eI x3.1) rfl) (p_var (i := 1) (d := eI s4.1) rfl)) (p_var (i := 5) (d := eI t10.1) rfl)) fun t12 ht12 =>
  S_let (a := (.bin .mul (.bin .fdiv (.bin .sub (.var 3) (.var 1)) (.var 5)) (.var 6))) (m_mul ht12 (p_var (i := 6) (d := eI t10.2.1) rfl)) fun t13 ht13 =>
  S_let (a := (.bin .fdiv (.var 4) (.var 5))) (m_fdiv (p_var (i := 4) (d := eI x3.2) rfl) (p_var (i := 5) (d := eI t10.1) rfl)) fun t14 ht14 =>
  S_let (a := (.bin .mod (.bin .mul (.bin .fdiv (.bin .sub (.var 3) (.var 1)) (.var 5)) (.var 6)) (.bin .fdiv (.var 4) (.var 5)))) (m_mod ht13 ht14) fun t15 ht15 =>
  S_let (a := (.bin .mul (.var 2) (.bin .mod (.bin .mul (.bin .fdiv (.bin .sub (.var 3) (.var 1)) (.var 5)) (.var 6)) (.bin .fdiv (.var 4) (.var 5))))) (m_mul (p_var (i := 2) (d := eI s4.2) rfl) ht15) fun t16 ht16 =>
  S_augP (σ' := fun r17 => [some ((eT (eP eI eI)) pairs1), some (eI r17), some (eI s4.2), some (eI x3.1), some (eI x3.2), some (eI t10.1), some (eI t10.2.1), some (eI t10.2.2)]) rfl ht16 rfl (fun _ => rfl) fun r17 =>
  S_let (a := (.bin .mul (.var 2) (.var 4))) (m_mul (p_var (i := 2) (d := eI s4.2) rfl) (p_var (i := 4) (d := eI x3.2) rfl)) fun t18 ht18 =>
  S_let (a := (.bin .fdiv (.bin .mul (.var 2) (.var 4)) (.var 5))) (m_fdiv ht18 (p_var (i := 5) (d := eI t10.1) rfl)) fun t19 ht19 =>
  S_asg (σ' := [some ((eT (eP eI eI)) pairs1), some (eI r17), some (eI t19), some (eI x3.1), some (eI x3.2), some (eI t10.1), some (eI t10.2.1), some (eI t10.2.2)]) ht19 rfl <|
  S_nil (q_Xn ⟨some (eI x3.1), some (eI x3.2), some (eI t10.1), some (eI t10.2.1), some (eI t10.2.2), rfl⟩)⟩) (fun s20 σ h => by
  obtain ⟨g21, g22, g23, g24, g25, rfl⟩ := h; exact
  S_ret (d := (eO (eP eI eI)) (some (s20.1, s20.2))) (p_tup (evs_cons (p_var (i := 1) (d := eI s20.1) rfl) (evs_cons (p_var (i := 2) (d := eI s20.2) rfl) evs_nil)) rfl) rfl rfl) j_id)
def t__law_gcd (one1 : Int) (other2 : Int) : Option (Int) :=
  (rng1M (60 : Int)).bind fun r3 =>
  (forX (s := ((Int) × (Int))) (r := Int) (fun (x4 : Int) (s5 : ((Int) × (Int))) =>
  bif (decide (s5.2 = (0 : Int))) then (
  some (Fw.rt s5.1))
  else
  (modM s5.1 s5.2).bind fun t7 =>
  some (Fw.nx (s5.2, t7))) r3 (one1, other2)).bind (aft (fun (s8 : ((Int) × (Int))) =>
  some s8.1) (fun r => some r))
theorem ok__law_gcd (one1 : Int) (other2 : Int) : ∀ v, t__law_gcd one1 other2 = some v → s__law_gcd [eI one1, eI other2] = some (eI v) := run_ok (Γ := g__law_gcd) (W := 1000000) (n := I__law_gcd.N.length) (body := b__law_gcd) (ds := [eI one1, eI other2])
  (show Sp g__law_gcd 1000000 b__law_gcd [some (eI one1), some (eI other2), none] (t__law_gcd one1 other2) (Qt eI) by
  unfold t__law_gcd b__law_gcd; exact
  S_let (a := (.bi .range [(.cst (.int 60))])) (m_bi (b := .range) (f := (eL eI)) (evs_cons p_cst evs_nil) (b_range1 (60 : Int))) fun r3 hr3 =>
  S_forX (f := eI) (g := eI) (fun (v : ((Int) × (Int))) (σ : Sg) => ∃ (g2 : Option D), σ = [some (eI v.1), some (eI v.2), g2]) hr3 rfl ⟨none, rfl⟩ (fun x4 s5 σ h => by
  obtain ⟨g6, rfl⟩ := h; exact ⟨[some (eI s5.1), some (eI s5.2), some (eI x4)], rfl, 
  S_ite (tr_B (p_eqI (p_var (i := 1) (d := eI s5.2) rfl) p_cst)) (
  S_ret (d := eI s5.1) (p_var (i := 0) (d := eI s5.1) rfl) rfl rfl) <|
  S_let (a := (.bin .mod (.bi .int [(.var 0)]) (.var 1))) (m_mod (p_bi (b := .int) (evs_cons (p_var (i := 0) (d := eI s5.1) rfl) evs_nil) (b_intI s5.1)) (p_var (i := 1) (d := eI s5.2) rfl)) fun t7 ht7 =>
  S_par (σ' := [some (eI s5.2), some (eI t7), some (eI x4)]) (evs_cons (p_var (i := 1) (d := eI s5.2) rfl) (evs_cons ht7 evs_nil)) rfl <|
  S_nil (q_Xn ⟨some (eI x4), rfl⟩)⟩) (fun s8 σ h => by
  obtain ⟨g9, rfl⟩ := h; exact
  S_ret (d := eI s8.1) (p_var (i := 0) (d := eI s8.1) rfl) rfl rfl) j_id)
def t__law_ways (a1 : Int) (b2 : Int) (c3 : Int) : Option (Int) :=
  (fdivM (max2T (0 : Int) c3) a1).bind fun t4 =>
  (rng1M (t4 + (1 : Int))).bind fun r5 =>
  (mapM' (fun (x6 : Int) => (((mulM a1 x6).bind fun t7 => ((bif (decide (t7 ≤ c3)) then ((mulM a1 x6).bind fun t8 => (modM (c3 - t8) b2).bind fun t9 => some (decide (t9 = (0 : Int)))) else some false)).bind fun c10 => some c10)).bind fun t12 => bif t12 then (some x6).bind fun y11 => some (some y11) else some none) r5).bind fun l13 =>
  some (l13.length : Int)
theorem ok__law_ways (a1 : Int) (b2 : Int) (c3 : Int) : ∀ v, t__law_ways a1 b2 c3 = some v → s__law_ways [eI a1, eI b2, eI c3] = some (eI v) := run_ok (Γ := g__law_ways) (W := 1000000) (n := I__law_ways.N.length) (body := b__law_ways) (ds := [eI a1, eI b2, eI c3])
  (show Sp g__law_ways 1000000 b__law_ways [some (eI a1), some (eI b2), some (eI c3), none] (t__law_ways a1 b2 c3) (Qt eI) by
  unfold t__law_ways b__law_ways; exact
  S_let (a := (.bin .fdiv (.bi .max2 [(.cst (.int 0)), (.var 2)]) (.var 0))) (m_fdiv (p_bi (b := .max2) (evs_cons p_cst (evs_cons (p_var (i := 2) (d := eI c3) rfl) evs_nil)) (b_max2 (0 : Int) c3)) (p_var (i := 0) (d := eI a1) rfl)) fun t4 ht4 =>
  S_let (a := (.bi .range [(.bin .add (.bin .fdiv (.bi .max2 [(.cst (.int 0)), (.var 2)]) (.var 0)) (.cst (.int 1)))])) (m_bi (b := .range) (f := (eL eI)) (evs_cons (p_add ht4 p_cst) evs_nil) (b_range1 (t4 + (1 : Int)))) fun r5 hr5 =>
  S_let (a := (.comp (.one 3) [("x", 3)] (.bi .range [(.bin .add (.bin .fdiv (.bi .max2 [(.cst (.int 0)), (.var 2)]) (.var 0)) (.cst (.int 1)))]) [(.and (.cmp .ge (.var 2) (.bin .mul (.var 0) (.var 3))) (.cmp .eq (.bin .mod (.bi .int [(.bin .sub (.var 2) (.bin .mul (.var 0) (.var 3)))]) (.var 1)) (.cst (.int 0))))] (.var 3))) (m_mapM (f := eI) (g := eI) hr5 rfl (fun x6 => T_cond (σ' := [some (eI a1), some (eI b2), some (eI c3), some (eI x6)]) rfl (C_let (a := (.bin .mul (.var 0) (.var 3))) (m_mul (p_var (i := 0) (d := eI a1) rfl) (p_var (i := 3) (d := eI x6) rfl)) fun t7 ht7 => C_letC (a := (.and (.cmp .ge (.var 2) (.bin .mul (.var 0) (.var 3))) (.cmp .eq (.bin .mod (.bi .int [(.bin .sub (.var 2) (.bin .mul (.var 0) (.var 3)))]) (.var 1)) (.cst (.int 0))))) (C_and (tr_B (p_ge (p_var (i := 2) (d := eI c3) rfl) ht7)) (C_let (a := (.bin .mul (.var 0) (.var 3))) (m_mul (p_var (i := 0) (d := eI a1) rfl) (p_var (i := 3) (d := eI x6) rfl)) fun t8 ht8 => C_let (a := (.bin .mod (.bi .int [(.bin .sub (.var 2) (.bin .mul (.var 0) (.var 3)))]) (.var 1))) (m_mod (p_bi (b := .int) (evs_cons (p_sub (p_var (i := 2) (d := eI c3) rfl) ht8) evs_nil) (b_intI (c3 - t8))) (p_var (i := 1) (d := eI b2) rfl)) fun t9 ht9 => C_of (tr_B (p_eqI ht9 p_cst)))) fun c10 hc10 => C_of hc10) (E_of (f := eI) (t := x6) (p_var (i := 3) (d := eI x6) rfl)))) fun l13 hl13 =>
  S_ret (d := eI (l13.length : Int)) (p_bi (b := .len) (evs_cons hl13 evs_nil) (b_lenL (f := eI) l13)) rfl rfl)
def t__law_made_right (a1 : Int) (b2 : Int) (c3 : Int) (k4 : Int) : Option (Bool) :=
  (mulM a1 b2).bind fun t5 =>
  (mulM a1 b2).bind fun t6 =>
  ltI ((t6 - a1) - b2) fun most7 =>
  (t_count_solutions a1 b2 c3).bind fun t8 =>
  (t_count_solutions a1 b2 (c3 + t5)).bind fun t9 =>
  (mulM k4 a1).bind fun t10 =>
  (mulM k4 b2).bind fun t11 =>
  (mulM k4 c3).bind fun t12 =>
  (t_count_solutions t10 t11 t12).bind fun t13 =>
  lt (t8, t9, t13) fun told14 =>
  (t__law_ways a1 b2 c3).bind fun t15 =>
  (likeM (okP okU (okP okU okU)) told14 (t15, (t15 + (1 : Int)), t15)).bind fun k16 =>
  bif (!k16) then (
  some false)
  else
  ((bif (decide ((1 : Int) < k4)) then ((mulM k4 a1).bind fun t17 => (mulM k4 b2).bind fun t18 => (mulM k4 c3).bind fun t19 => (t_count_solutions t17 t18 (t19 + (1 : Int))).bind fun t20 => some (!(decide (t20 = (0 : Int))))) else some false)).bind fun c21 =>
  bif c21 then (
  some false)
  else
  (fdivM (max2T (0 : Int) most7) (40 : Int)).bind fun t22 =>
  (rng3M (0 : Int) (most7 + (1 : Int)) ((1 : Int) + t22)).bind fun r23 =>
  (forX (s := Unit) (r := Bool) (fun (x24 : Int) (s25 : Unit) =>
  (t_count_solutions a1 b2 x24).bind fun t27 =>
  (t_count_solutions a1 b2 (most7 - x24)).bind fun t28 =>
  bif (!(decide ((t27 + t28) = (1 : Int)))) then (
  some (Fw.rt false))
  else
  some (Fw.nx ())) r23 ()).bind (aft (fun (s29 : Unit) =>
  (t_solutions a1 b2 c3).bind fun t31 =>
  (t31).bind fun o32 =>
  (mulM a1 o32.1).bind fun t33 =>
  (mulM b2 o32.2.1).bind fun t34 =>
  bif ((!(decide ((t33 + t34) = c3))) || ((!((decide ((0 : Int) ≤ o32.1)) && (decide (o32.1 < b2)))) || (!(decide ((o32.2.2.1, o32.2.2.2) = (b2, ((0 : Int) - a1))))))) then (
  some false)
  else
  (bif (decide (k4 = (1 : Int))) then some true else ((mulM k4 a1).bind fun t35 => (mulM k4 b2).bind fun t36 => (mulM k4 c3).bind fun t37 => (t_solutions t35 t36 (t37 + (1 : Int))).bind fun t38 => some t38.isNone))) (fun r => some r))
theorem ok__law_made_right (a1 : Int) (b2 : Int) (c3 : Int) (k4 : Int) : ∀ v, t__law_made_right a1 b2 c3 k4 = some v → s__law_made_right [eI a1, eI b2, eI c3, eI k4] = some (eB v) := run_ok (Γ := g__law_made_right) (W := 1000000) (n := I__law_made_right.N.length) (body := b__law_made_right) (ds := [eI a1, eI b2, eI c3, eI k4])
  (show Sp g__law_made_right 1000000 b__law_made_right [some (eI a1), some (eI b2), some (eI c3), some (eI k4), none, none, none, none, none, none, none, none, none] (t__law_made_right a1 b2 c3 k4) (Qt eB) by
  unfold t__law_made_right b__law_made_right; exact
  S_let (a := (.bin .mul (.var 0) (.var 1))) (m_mul (p_var (i := 0) (d := eI a1) rfl) (p_var (i := 1) (d := eI b2) rfl)) fun t5 ht5 =>
  S_let (a := (.bin .mul (.var 0) (.var 1))) (m_mul (p_var (i := 0) (d := eI a1) rfl) (p_var (i := 1) (d := eI b2) rfl)) fun t6 ht6 =>
  S_nameI (e := (.bin .sub (.bin .sub (.bin .mul (.var 0) (.var 1)) (.var 0)) (.var 1))) (p_sub (p_sub ht6 (p_var (i := 0) (d := eI a1) rfl)) (p_var (i := 1) (d := eI b2) rfl)) fun most7 hmost7 =>
  S_par (σ' := [some (eI a1), some (eI b2), some (eI c3), some (eI k4), some (eI t5), some (eI most7), none, none, none, none, none, none, none]) (evs_cons ht5 (evs_cons hmost7 evs_nil)) rfl <|
  S_let (a := (.call 0 false [(.var 0), (.var 1), (.var 2)])) (m_call (n := 0) (f := eI) (evs_cons (p_var (i := 0) (d := eI a1) rfl) (evs_cons (p_var (i := 1) (d := eI b2) rfl) (evs_cons (p_var (i := 2) (d := eI c3) rfl) evs_nil))) (fun v hv => ok_count_solutions a1 b2 c3 v hv)) fun t8 ht8 =>
  S_let (a := (.call 0 false [(.var 0), (.var 1), (.bin .add (.var 2) (.var 4))])) (m_call (n := 0) (f := eI) (evs_cons (p_var (i := 0) (d := eI a1) rfl) (evs_cons (p_var (i := 1) (d := eI b2) rfl) (evs_cons (p_add (p_var (i := 2) (d := eI c3) rfl) (p_var (i := 4) (d := eI t5) rfl)) evs_nil))) (fun v hv => ok_count_solutions a1 b2 (c3 + t5) v hv)) fun t9 ht9 =>
  S_let (a := (.bin .mul (.var 3) (.var 0))) (m_mul (p_var (i := 3) (d := eI k4) rfl) (p_var (i := 0) (d := eI a1) rfl)) fun t10 ht10 =>
  S_let (a := (.bin .mul (.var 3) (.var 1))) (m_mul (p_var (i := 3) (d := eI k4) rfl) (p_var (i := 1) (d := eI b2) rfl)) fun t11 ht11 =>
  S_let (a := (.bin .mul (.var 3) (.var 2))) (m_mul (p_var (i := 3) (d := eI k4) rfl) (p_var (i := 2) (d := eI c3) rfl)) fun t12 ht12 =>
  S_let (a := (.call 0 false [(.bin .mul (.var 3) (.var 0)), (.bin .mul (.var 3) (.var 1)), (.bin .mul (.var 3) (.var 2))])) (m_call (n := 0) (f := eI) (evs_cons ht10 (evs_cons ht11 (evs_cons ht12 evs_nil))) (fun v hv => ok_count_solutions t10 t11 t12 v hv)) fun t13 ht13 =>
  S_name (f := (eP3 eI eI eI)) (e := (.tup [(.call 0 false [(.var 0), (.var 1), (.var 2)]), (.call 0 false [(.var 0), (.var 1), (.bin .add (.var 2) (.var 4))]), (.call 0 false [(.bin .mul (.var 3) (.var 0)), (.bin .mul (.var 3) (.var 1)), (.bin .mul (.var 3) (.var 2))])])) (p_tup (evs_cons ht8 (evs_cons ht9 (evs_cons ht13 evs_nil))) rfl) fun told14 htold14 =>
  S_asg (σ' := [some (eI a1), some (eI b2), some (eI c3), some (eI k4), some (eI t5), some (eI most7), some ((eP3 eI eI eI) told14), none, none, none, none, none, none]) htold14 rfl <|
  S_let (a := (.call 1 false [(.var 0), (.var 1), (.var 2)])) (m_call (n := 1) (f := eI) (evs_cons (p_var (i := 0) (d := eI a1) rfl) (evs_cons (p_var (i := 1) (d := eI b2) rfl) (evs_cons (p_var (i := 2) (d := eI c3) rfl) evs_nil))) (fun v hv => ok__law_ways a1 b2 c3 v hv)) fun t15 ht15 =>
  S_asg (σ' := [some (eI a1), some (eI b2), some (eI c3), some (eI k4), some (eI t5), some (eI most7), some ((eP3 eI eI eI) told14), some (eI t15), none, none, none, none, none]) ht15 rfl <|
  S_fre <|
  S_let (a := (.call 2 true [(.var 6), (.tup [(.var 7), (.bin .add (.var 7) (.cst (.int 1))), (.var 7)])])) (m_callB (n := 2) (evs_cons (p_var (i := 6) (d := (eP3 eI eI eI) told14) rfl) (evs_cons (p_tup (evs_cons (p_var (i := 7) (d := eI t15) rfl) (evs_cons (p_add (p_var (i := 7) (d := eI t15) rfl) p_cst) (evs_cons (p_var (i := 7) (d := eI t15) rfl) evs_nil))) rfl) evs_nil)) (fun v hv => likeM_ok like_ok (f := (eP3 eI eI eI)) (o1 := (okP okU (okP okU okU))) (a := told14) (b := (t15, (t15 + (1 : Int)), t15)) (k_P3 k_I k_I k_I) v hv) (fb_of u_B)) fun k16 hk16 =>
  S_ite (c_not (tr_B hk16)) (
  S_ret (d := eB false) p_cst rfl rfl) <|
  S_letC (a := (.and (.cmp .gt (.var 3) (.cst (.int 1))) (.cmp .ne (.call 0 false [(.bin .mul (.var 3) (.var 0)), (.bin .mul (.var 3) (.var 1)), (.bin .add (.bin .mul (.var 3) (.var 2)) (.cst (.int 1)))]) (.cst (.int 0))))) (C_and (tr_B (p_gt (p_var (i := 3) (d := eI k4) rfl) p_cst)) (C_let (a := (.bin .mul (.var 3) (.var 0))) (m_mul (p_var (i := 3) (d := eI k4) rfl) (p_var (i := 0) (d := eI a1) rfl)) fun t17 ht17 => C_let (a := (.bin .mul (.var 3) (.var 1))) (m_mul (p_var (i := 3) (d := eI k4) rfl) (p_var (i := 1) (d := eI b2) rfl)) fun t18 ht18 => C_let (a := (.bin .mul (.var 3) (.var 2))) (m_mul (p_var (i := 3) (d := eI k4) rfl) (p_var (i := 2) (d := eI c3) rfl)) fun t19 ht19 => C_let (a := (.call 0 false [(.bin .mul (.var 3) (.var 0)), (.bin .mul (.var 3) (.var 1)), (.bin .add (.bin .mul (.var 3) (.var 2)) (.cst (.int 1)))])) (m_call (n := 0) (f := eI) (evs_cons ht17 (evs_cons ht18 (evs_cons (p_add ht19 p_cst) evs_nil))) (fun v hv => ok_count_solutions t17 t18 (t19 + (1 : Int)) v hv)) fun t20 ht20 => C_of (tr_B (p_neI ht20 p_cst)))) fun c21 hc21 =>
  S_ite hc21 (
  S_ret (d := eB false) p_cst rfl rfl) <|
  S_let (a := (.bin .fdiv (.bi .max2 [(.cst (.int 0)), (.var 5)]) (.cst (.int 40)))) (m_fdiv (p_bi (b := .max2) (evs_cons p_cst (evs_cons (p_var (i := 5) (d := eI most7) rfl) evs_nil)) (b_max2 (0 : Int) most7)) p_cst) fun t22 ht22 =>
  S_let (a := (.bi .range [(.cst (.int 0)), (.bin .add (.var 5) (.cst (.int 1))), (.bin .add (.cst (.int 1)) (.bin .fdiv (.bi .max2 [(.cst (.int 0)), (.var 5)]) (.cst (.int 40))))])) (m_bi (b := .range) (f := (eL eI)) (evs_cons p_cst (evs_cons (p_add (p_var (i := 5) (d := eI most7) rfl) p_cst) (evs_cons (p_add p_cst ht22) evs_nil))) (b_range3 (0 : Int) (most7 + (1 : Int)) ((1 : Int) + t22))) fun r23 hr23 =>
  S_forX (f := eI) (g := eB) (fun (v : Unit) (σ : Sg) => ∃ (g8 : Option D), σ = [some (eI a1), some (eI b2), some (eI c3), some (eI k4), some (eI t5), some (eI most7), some ((eP3 eI eI eI) told14), some (eI t15), g8, none, none, none, none]) hr23 rfl ⟨none, rfl⟩ (fun x24 s25 σ h => by
  obtain ⟨g26, rfl⟩ := h; exact ⟨[some (eI a1), some (eI b2), some (eI c3), some (eI k4), some (eI t5), some (eI most7), some ((eP3 eI eI eI) told14), some (eI t15), some (eI x24), none, none, none, none], rfl, 
  S_let (a := (.call 0 false [(.var 0), (.var 1), (.var 8)])) (m_call (n := 0) (f := eI) (evs_cons (p_var (i := 0) (d := eI a1) rfl) (evs_cons (p_var (i := 1) (d := eI b2) rfl) (evs_cons (p_var (i := 8) (d := eI x24) rfl) evs_nil))) (fun v hv => ok_count_solutions a1 b2 x24 v hv)) fun t27 ht27 =>
  S_let (a := (.call 0 false [(.var 0), (.var 1), (.bin .sub (.var 5) (.var 8))])) (m_call (n := 0) (f := eI) (evs_cons (p_var (i := 0) (d := eI a1) rfl) (evs_cons (p_var (i := 1) (d := eI b2) rfl) (evs_cons (p_sub (p_var (i := 5) (d := eI most7) rfl) (p_var (i := 8) (d := eI x24) rfl)) evs_nil))) (fun v hv => ok_count_solutions a1 b2 (most7 - x24) v hv)) fun t28 ht28 =>
  S_ite (tr_B (p_neI (p_add ht27 ht28) p_cst)) (
  S_ret (d := eB false) p_cst rfl rfl) <|
  S_nil (q_Xn ⟨some (eI x24), rfl⟩)⟩) (fun s29 σ h => by
  obtain ⟨g30, rfl⟩ := h; exact
  S_let (a := (.call 3 false [(.var 0), (.var 1), (.var 2)])) (m_call (n := 3) (f := (eO (eP4 eI eI eI eI))) (evs_cons (p_var (i := 0) (d := eI a1) rfl) (evs_cons (p_var (i := 1) (d := eI b2) rfl) (evs_cons (p_var (i := 2) (d := eI c3) rfl) evs_nil))) (fun v hv => ok_solutions a1 b2 c3 v hv)) fun t31 ht31 =>
  S_let (a := (.call 3 false [(.var 0), (.var 1), (.var 2)])) (m_unO (f := (eP4 eI eI eI eI)) ht31) fun o32 ho32 =>
  S_asg (σ' := [some (eI a1), some (eI b2), some (eI c3), some (eI k4), some (eI t5), some (eI most7), some ((eP3 eI eI eI) told14), some (eI t15), g30, some (eI o32.1), some (eI o32.2.1), some (eI o32.2.2.1), some (eI o32.2.2.2)]) ho32 rfl <|
  S_let (a := (.bin .mul (.var 0) (.var 9))) (m_mul (p_var (i := 0) (d := eI a1) rfl) (p_var (i := 9) (d := eI o32.1) rfl)) fun t33 ht33 =>
  S_let (a := (.bin .mul (.var 1) (.var 10))) (m_mul (p_var (i := 1) (d := eI b2) rfl) (p_var (i := 10) (d := eI o32.2.1) rfl)) fun t34 ht34 =>
  S_ite (c_or (tr_B (p_neI (p_add ht33 ht34) (p_var (i := 2) (d := eI c3) rfl))) (c_or (c_not (tr_B (p_chain p_cst (p_var (i := 9) (d := eI o32.1) rfl) (p_var (i := 1) (d := eI b2) rfl) cmpI_le cmpI_lt))) (tr_B (p_cmp (p_tup (evs_cons (p_var (i := 11) (d := eI o32.2.2.1) rfl) (evs_cons (p_var (i := 12) (d := eI o32.2.2.2) rfl) evs_nil)) rfl) (p_tup (evs_cons (p_var (i := 1) (d := eI b2) rfl) (evs_cons (p_sub p_cst (p_var (i := 0) (d := eI a1) rfl)) evs_nil)) rfl) (cmp_neE (q_P q_I q_I) rfl (o32.2.2.1, o32.2.2.2) (b2, ((0 : Int) - a1))))))) (
  S_ret (d := eB false) p_cst rfl rfl) <|
  S_retM (f := eB) (m_orB (p_eqI (p_var (i := 3) (d := eI k4) rfl) p_cst) (E_let (a := (.bin .mul (.var 3) (.var 0))) (m_mul (p_var (i := 3) (d := eI k4) rfl) (p_var (i := 0) (d := eI a1) rfl)) fun t35 ht35 => E_let (a := (.bin .mul (.var 3) (.var 1))) (m_mul (p_var (i := 3) (d := eI k4) rfl) (p_var (i := 1) (d := eI b2) rfl)) fun t36 ht36 => E_let (a := (.bin .mul (.var 3) (.var 2))) (m_mul (p_var (i := 3) (d := eI k4) rfl) (p_var (i := 2) (d := eI c3) rfl)) fun t37 ht37 => E_let (a := (.call 3 false [(.bin .mul (.var 3) (.var 0)), (.bin .mul (.var 3) (.var 1)), (.bin .add (.bin .mul (.var 3) (.var 2)) (.cst (.int 1)))])) (m_call (n := 3) (f := (eO (eP4 eI eI eI eI))) (evs_cons ht35 (evs_cons ht36 (evs_cons (p_add ht37 p_cst) evs_nil))) (fun v hv => ok_solutions t35 t36 (t37 + (1 : Int)) v hv)) fun t38 ht38 => E_of (p_cmp ht38 p_cst (cmp_isO (fun _ => rfl) t38)))) (fun _ => rfl)) j_id)
def t__law_shared_right (one1 : Int) (other2 : Int) (third3 : Int) : Option (Bool) :=
  (t__law_gcd (absT one1) (absT other2)).bind fun t4 =>
  (t_shared one1 other2).bind fun t5 =>
  (t_shared other2 one1).bind fun t6 =>
  (mulM third3 other2).bind fun t7 =>
  (t_shared (one1 + t7) other2).bind fun t8 =>
  lt (t5, t6, t8) fun told9 =>
  (likeM (okP okU (okP okU okU)) told9 (t4, t4, t4)).bind fun k10 =>
  ((bif (!k10) then some true else ((mulM third3 one1).bind fun t11 => (mulM third3 other2).bind fun t12 => (t_shared t11 t12).bind fun t13 => (mulM (absT third3) t4).bind fun t14 => (likeM okU t13 t14).bind fun k15 => some (!k15)))).bind fun c16 =>
  bif c16 then (
  some false)
  else
  (t__law_gcd t4 (absT third3)).bind fun t17 =>
  (t_shared one1 other2).bind fun t18 =>
  (t_shared t18 third3).bind fun t19 =>
  (t_shared other2 third3).bind fun t20 =>
  (t_shared one1 t20).bind fun t21 =>
  (likeM (okP okU okU) (t19, t21) (t17, t17)).bind fun k22 =>
  bif (!k22) then (
  some false)
  else
  bif ((decide (one1 < (1 : Int))) || (decide (other2 < (1 : Int)))) then (
  some true)
  else
  (t_shared_sum one1 other2).bind fun t23 =>
  (bif (decide (t23.1 = t4)) then ((mulM one1 t23.2.1).bind fun t24 => (mulM other2 t23.2.2).bind fun t25 => ((bif (decide ((t24 + t25) = t23.1)) then (((bif (decide ((0 : Int) ≤ t23.2.1)) then (((fdivM other2 t23.1).bind fun t26 => some t26)).bind fun z27 => some (decide (t23.2.1 < z27)) else some false)).bind fun c28 => some c28) else some false)).bind fun c29 => some c29) else some false)
theorem ok__law_shared_right (one1 : Int) (other2 : Int) (third3 : Int) : ∀ v, t__law_shared_right one1 other2 third3 = some v → s__law_shared_right [eI one1, eI other2, eI third3] = some (eB v) := run_ok (Γ := g__law_shared_right) (W := 1000000) (n := I__law_shared_right.N.length) (body := b__law_shared_right) (ds := [eI one1, eI other2, eI third3])
  (show Sp g__law_shared_right 1000000 b__law_shared_right [some (eI one1), some (eI other2), some (eI third3), none, none, none, none, none, none] (t__law_shared_right one1 other2 third3) (Qt eB) by
  unfold t__law_shared_right b__law_shared_right; exact
  S_let (a := (.call 0 false [(.bi .abs [(.var 0)]), (.bi .abs [(.var 1)])])) (m_call (n := 0) (f := eI) (evs_cons (p_bi (b := .abs) (evs_cons (p_var (i := 0) (d := eI one1) rfl) evs_nil) (b_abs one1)) (evs_cons (p_bi (b := .abs) (evs_cons (p_var (i := 1) (d := eI other2) rfl) evs_nil) (b_abs other2)) evs_nil)) (fun v hv => ok__law_gcd (absT one1) (absT other2) v hv)) fun t4 ht4 =>
  S_asg (σ' := [some (eI one1), some (eI other2), some (eI third3), some (eI t4), none, none, none, none, none]) ht4 rfl <|
  S_let (a := (.call 1 false [(.var 0), (.var 1)])) (m_call (n := 1) (f := eI) (evs_cons (p_var (i := 0) (d := eI one1) rfl) (evs_cons (p_var (i := 1) (d := eI other2) rfl) evs_nil)) (fun v hv => ok_shared one1 other2 v hv)) fun t5 ht5 =>
  S_let (a := (.call 1 false [(.var 1), (.var 0)])) (m_call (n := 1) (f := eI) (evs_cons (p_var (i := 1) (d := eI other2) rfl) (evs_cons (p_var (i := 0) (d := eI one1) rfl) evs_nil)) (fun v hv => ok_shared other2 one1 v hv)) fun t6 ht6 =>
  S_let (a := (.bin .mul (.var 2) (.var 1))) (m_mul (p_var (i := 2) (d := eI third3) rfl) (p_var (i := 1) (d := eI other2) rfl)) fun t7 ht7 =>
  S_let (a := (.call 1 false [(.bin .add (.var 0) (.bin .mul (.var 2) (.var 1))), (.var 1)])) (m_call (n := 1) (f := eI) (evs_cons (p_add (p_var (i := 0) (d := eI one1) rfl) ht7) (evs_cons (p_var (i := 1) (d := eI other2) rfl) evs_nil)) (fun v hv => ok_shared (one1 + t7) other2 v hv)) fun t8 ht8 =>
  S_name (f := (eP3 eI eI eI)) (e := (.tup [(.call 1 false [(.var 0), (.var 1)]), (.call 1 false [(.var 1), (.var 0)]), (.call 1 false [(.bin .add (.var 0) (.bin .mul (.var 2) (.var 1))), (.var 1)])])) (p_tup (evs_cons ht5 (evs_cons ht6 (evs_cons ht8 evs_nil))) rfl) fun told9 htold9 =>
  S_asg (σ' := [some (eI one1), some (eI other2), some (eI third3), some (eI t4), some ((eP3 eI eI eI) told9), none, none, none, none]) htold9 rfl <|
  S_fre <|
  S_let (a := (.call 2 true [(.var 4), (.tup [(.var 3), (.var 3), (.var 3)])])) (m_callB (n := 2) (evs_cons (p_var (i := 4) (d := (eP3 eI eI eI) told9) rfl) (evs_cons (p_tup (evs_cons (p_var (i := 3) (d := eI t4) rfl) (evs_cons (p_var (i := 3) (d := eI t4) rfl) (evs_cons (p_var (i := 3) (d := eI t4) rfl) evs_nil))) rfl) evs_nil)) (fun v hv => likeM_ok like_ok (f := (eP3 eI eI eI)) (o1 := (okP okU (okP okU okU))) (a := told9) (b := (t4, t4, t4)) (k_P3 k_I k_I k_I) v hv) (fb_of u_B)) fun k10 hk10 =>
  S_letC (a := (.or (.not (.call 2 true [(.var 4), (.tup [(.var 3), (.var 3), (.var 3)])])) (.not (.call 2 false [(.call 1 false [(.bin .mul (.var 2) (.var 0)), (.bin .mul (.var 2) (.var 1))]), (.bin .mul (.bi .abs [(.var 2)]) (.var 3))])))) (C_or (c_not (tr_B hk10)) (C_let (a := (.bin .mul (.var 2) (.var 0))) (m_mul (p_var (i := 2) (d := eI third3) rfl) (p_var (i := 0) (d := eI one1) rfl)) fun t11 ht11 => C_let (a := (.bin .mul (.var 2) (.var 1))) (m_mul (p_var (i := 2) (d := eI third3) rfl) (p_var (i := 1) (d := eI other2) rfl)) fun t12 ht12 => C_let (a := (.call 1 false [(.bin .mul (.var 2) (.var 0)), (.bin .mul (.var 2) (.var 1))])) (m_call (n := 1) (f := eI) (evs_cons ht11 (evs_cons ht12 evs_nil)) (fun v hv => ok_shared t11 t12 v hv)) fun t13 ht13 => C_let (a := (.bin .mul (.bi .abs [(.var 2)]) (.var 3))) (m_mul (p_bi (b := .abs) (evs_cons (p_var (i := 2) (d := eI third3) rfl) evs_nil) (b_abs third3)) (p_var (i := 3) (d := eI t4) rfl)) fun t14 ht14 => C_let (a := (.call 2 false [(.call 1 false [(.bin .mul (.var 2) (.var 0)), (.bin .mul (.var 2) (.var 1))]), (.bin .mul (.bi .abs [(.var 2)]) (.var 3))])) (m_call (n := 2) (evs_cons ht13 (evs_cons ht14 evs_nil)) (fun v hv => likeM_ok like_ok (f := eI) (o1 := okU) (a := t13) (b := t14) k_I v hv)) fun k15 hk15 => C_of (c_not (tr_B hk15)))) fun c16 hc16 =>
  S_ite hc16 (
  S_ret (d := eB false) p_cst rfl rfl) <|
  S_let (a := (.call 0 false [(.var 3), (.bi .abs [(.var 2)])])) (m_call (n := 0) (f := eI) (evs_cons (p_var (i := 3) (d := eI t4) rfl) (evs_cons (p_bi (b := .abs) (evs_cons (p_var (i := 2) (d := eI third3) rfl) evs_nil) (b_abs third3)) evs_nil)) (fun v hv => ok__law_gcd t4 (absT third3) v hv)) fun t17 ht17 =>
  S_asg (σ' := [some (eI one1), some (eI other2), some (eI third3), some (eI t4), some ((eP3 eI eI eI) told9), some (eI t17), none, none, none]) ht17 rfl <|
  S_fre <|
  S_let (a := (.call 1 false [(.var 0), (.var 1)])) (m_call (n := 1) (f := eI) (evs_cons (p_var (i := 0) (d := eI one1) rfl) (evs_cons (p_var (i := 1) (d := eI other2) rfl) evs_nil)) (fun v hv => ok_shared one1 other2 v hv)) fun t18 ht18 =>
  S_let (a := (.call 1 false [(.call 1 false [(.var 0), (.var 1)]), (.var 2)])) (m_call (n := 1) (f := eI) (evs_cons ht18 (evs_cons (p_var (i := 2) (d := eI third3) rfl) evs_nil)) (fun v hv => ok_shared t18 third3 v hv)) fun t19 ht19 =>
  S_let (a := (.call 1 false [(.var 1), (.var 2)])) (m_call (n := 1) (f := eI) (evs_cons (p_var (i := 1) (d := eI other2) rfl) (evs_cons (p_var (i := 2) (d := eI third3) rfl) evs_nil)) (fun v hv => ok_shared other2 third3 v hv)) fun t20 ht20 =>
  S_let (a := (.call 1 false [(.var 0), (.call 1 false [(.var 1), (.var 2)])])) (m_call (n := 1) (f := eI) (evs_cons (p_var (i := 0) (d := eI one1) rfl) (evs_cons ht20 evs_nil)) (fun v hv => ok_shared one1 t20 v hv)) fun t21 ht21 =>
  S_let (a := (.call 2 false [(.tup [(.call 1 false [(.call 1 false [(.var 0), (.var 1)]), (.var 2)]), (.call 1 false [(.var 0), (.call 1 false [(.var 1), (.var 2)])])]), (.tup [(.var 5), (.var 5)])])) (m_call (n := 2) (evs_cons (p_tup (evs_cons ht19 (evs_cons ht21 evs_nil)) rfl) (evs_cons (p_tup (evs_cons (p_var (i := 5) (d := eI t17) rfl) (evs_cons (p_var (i := 5) (d := eI t17) rfl) evs_nil)) rfl) evs_nil)) (fun v hv => likeM_ok like_ok (f := (eP eI eI)) (o1 := (okP okU okU)) (a := (t19, t21)) (b := (t17, t17)) (k_P k_I k_I) v hv)) fun k22 hk22 =>
  S_ite (c_not (tr_B hk22)) (
  S_ret (d := eB false) p_cst rfl rfl) <|
  S_ite (c_or (tr_B (p_lt (p_var (i := 0) (d := eI one1) rfl) p_cst)) (tr_B (p_lt (p_var (i := 1) (d := eI other2) rfl) p_cst))) (
  S_ret (d := eB true) p_cst rfl rfl) <|
  S_let (a := (.call 3 false [(.var 0), (.var 1)])) (m_call (n := 3) (f := (eP3 eI eI eI)) (evs_cons (p_var (i := 0) (d := eI one1) rfl) (evs_cons (p_var (i := 1) (d := eI other2) rfl) evs_nil)) (fun v hv => ok_shared_sum one1 other2 v hv)) fun t23 ht23 =>
  S_asg (σ' := [some (eI one1), some (eI other2), some (eI third3), some (eI t4), some ((eP3 eI eI eI) told9), some (eI t17), some (eI t23.1), some (eI t23.2.1), some (eI t23.2.2)]) ht23 rfl <|
  S_retM (f := eB) (m_andB (p_eqI (p_var (i := 6) (d := eI t23.1) rfl) (p_var (i := 3) (d := eI t4) rfl)) (E_let (a := (.bin .mul (.var 0) (.var 7))) (m_mul (p_var (i := 0) (d := eI one1) rfl) (p_var (i := 7) (d := eI t23.2.1) rfl)) fun t24 ht24 => E_let (a := (.bin .mul (.var 1) (.var 8))) (m_mul (p_var (i := 1) (d := eI other2) rfl) (p_var (i := 8) (d := eI t23.2.2) rfl)) fun t25 ht25 => E_let (a := (.and (.cmp .eq (.bin .add (.bin .mul (.var 0) (.var 7)) (.bin .mul (.var 1) (.var 8))) (.var 6)) (.chain .le .lt (.cst (.int 0)) (.var 7) (.bin .fdiv (.var 1) (.var 6))))) (m_andB (p_eqI (p_add ht24 ht25) (p_var (i := 6) (d := eI t23.1) rfl)) (E_let (a := (.chain .le .lt (.cst (.int 0)) (.var 7) (.bin .fdiv (.var 1) (.var 6)))) (m_chain (f := eI) (F := fun z27 => (decide (t23.2.1 < z27))) p_cst (p_var (i := 7) (d := eI t23.2.1) rfl) cmpI_le (E_let (a := (.bin .fdiv (.var 1) (.var 6))) (m_fdiv (p_var (i := 1) (d := eI other2) rfl) (p_var (i := 6) (d := eI t23.1) rfl)) fun t26 ht26 => E_of ht26) (fun z27 => cmpI_lt)) fun c28 hc28 => E_of hc28)) fun c29 hc29 => E_of hc29)) (fun _ => rfl))
def t__law_factors (n1 : Int) : Option (List ((Int × Int))) :=
  lt ([] : List ((Int × Int))) fun found2 =>
  (rng2M (2 : Int) (101 : Int)).bind fun r3 =>
  (forN (fun (x4 : Int) (s5 : ((List ((Int × Int))) × (Int))) =>
  (modM s5.2 x4).bind fun t9 =>
  bif (decide (t9 = (0 : Int))) then (
  (rng1M (20 : Int)).bind fun r10 =>
  (forN (fun (x11 : Int) (s12 : ((Int) × (Int))) =>
  (modM s12.1 x4).bind fun t14 =>
  bif (decide (t14 = (0 : Int))) then (
  (fdivM s12.1 x4).bind fun t15 =>
  ltI (s12.2 + (1 : Int)) fun many16 =>
  some (t15, many16))
  else
  some (s12.1, s12.2)) r10 (s5.2, (0 : Int))).bind fun (s17 : ((Int) × (Int))) =>
  (appM s5.1 (x4, s17.2)).bind fun found19 =>
  some (found19, s17.1))
  else
  some (s5.1, s5.2)) r3 (found2, n1)).bind fun (s20 : ((List ((Int × Int))) × (Int))) =>
  (bif (decide ((1 : Int) < s20.2)) then (
  (appM s20.1 (s20.2, (1 : Int))).bind fun found24 =>
  some found24)
  else (
  some s20.1)).bind fun (s25 : List ((Int × Int))) =>
  some s25
theorem ok__law_factors (n1 : Int) : ∀ v, t__law_factors n1 = some v → s__law_factors [eI n1] = some ((eT (eP eI eI)) v) := run_ok (Γ := g__law_factors) (W := 1000000) (n := I__law_factors.N.length) (body := b__law_factors) (ds := [eI n1])
  (show Sp g__law_factors 1000000 b__law_factors [some (eI n1), none, none, none, none, none] (t__law_factors n1) (Qt (eT (eP eI eI))) by
  unfold t__law_factors b__law_factors; exact
  S_name (f := (eL (eP eI eI))) (e := (.lst [])) (p_lstL (xs := ([] : List ((Int × Int)))) (f := (eP eI eI)) evs_nil rfl) fun found2 hfound2 =>
  S_par (σ' := [some (eI n1), some ((eL (eP eI eI)) found2), some (eI n1), none, none, none]) (evs_cons hfound2 (evs_cons (p_var (i := 0) (d := eI n1) rfl) evs_nil)) rfl <|
  S_let (a := (.bi .range [(.cst (.int 2)), (.cst (.int 101))])) (m_bi (b := .range) (f := (eL eI)) (evs_cons p_cst (evs_cons p_cst evs_nil)) (b_range2 (2 : Int) (101 : Int))) fun r3 hr3 =>
  S_for (f := eI) (fun (v : ((List ((Int × Int))) × (Int))) (σ : Sg) => ∃ (g3 g4 g5 : Option D), σ = [some (eI n1), some ((eL (eP eI eI)) v.1), some (eI v.2), g3, g4, g5]) hr3 rfl ⟨none, none, none, rfl⟩ (fun x4 s5 σ h => by
  obtain ⟨g6, g7, g8, rfl⟩ := h; exact ⟨[some (eI n1), some ((eL (eP eI eI)) s5.1), some (eI s5.2), some (eI x4), g7, g8], rfl, 
  S_let (a := (.bin .mod (.bi .int [(.var 2)]) (.var 3))) (m_mod (p_bi (b := .int) (evs_cons (p_var (i := 2) (d := eI s5.2) rfl) evs_nil) (b_intI s5.2)) (p_var (i := 3) (d := eI x4) rfl)) fun t9 ht9 =>
  S_ite (tr_B (p_eqI ht9 p_cst)) (
  S_asg (σ' := [some (eI n1), some ((eL (eP eI eI)) s5.1), some (eI s5.2), some (eI x4), some (eI (0 : Int)), g8]) p_cst rfl <|
  S_let (a := (.bi .range [(.cst (.int 20))])) (m_bi (b := .range) (f := (eL eI)) (evs_cons p_cst evs_nil) (b_range1 (20 : Int))) fun r10 hr10 =>
  S_for (f := eI) (fun (v : ((Int) × (Int))) (σ : Sg) => ∃ (g5 : Option D), σ = [some (eI n1), some ((eL (eP eI eI)) s5.1), some (eI v.1), some (eI x4), some (eI v.2), g5]) hr10 rfl ⟨g8, rfl⟩ (fun x11 s12 σ h => by
  obtain ⟨g13, rfl⟩ := h; exact ⟨[some (eI n1), some ((eL (eP eI eI)) s5.1), some (eI s12.1), some (eI x4), some (eI s12.2), some (eI x11)], rfl, 
  S_let (a := (.bin .mod (.bi .int [(.var 2)]) (.var 3))) (m_mod (p_bi (b := .int) (evs_cons (p_var (i := 2) (d := eI s12.1) rfl) evs_nil) (b_intI s12.1)) (p_var (i := 3) (d := eI x4) rfl)) fun t14 ht14 =>
  S_ite (tr_B (p_eqI ht14 p_cst)) (
  S_let (a := (.bin .fdiv (.var 2) (.var 3))) (m_fdiv (p_var (i := 2) (d := eI s12.1) rfl) (p_var (i := 3) (d := eI x4) rfl)) fun t15 ht15 =>
  S_nameI (e := (.bin .add (.var 4) (.cst (.int 1)))) (p_add (p_var (i := 4) (d := eI s12.2) rfl) p_cst) fun many16 hmany16 =>
  S_par (σ' := [some (eI n1), some ((eL (eP eI eI)) s5.1), some (eI t15), some (eI x4), some (eI many16), some (eI x11)]) (evs_cons ht15 (evs_cons hmany16 evs_nil)) rfl <|
  S_nil (q_N ⟨some (eI x11), rfl⟩)) <|
  S_nil (q_N ⟨some (eI x11), rfl⟩)⟩) (fun s17 σ h => by
  obtain ⟨g18, rfl⟩ := h; exact
  S_fre <|
  S_app (f := (eP eI eI)) (σ' := fun found19 => [some (eI n1), some ((eL (eP eI eI)) found19), some (eI s17.1), some (eI x4), some (eI s17.2), g18]) rfl (p_tup (evs_cons (p_var (i := 3) (d := eI x4) rfl) (evs_cons (p_var (i := 4) (d := eI s17.2) rfl) evs_nil)) rfl) (fun _ => rfl) fun found19 =>
  S_nil (q_N ⟨some (eI x4), some (eI s17.2), g18, rfl⟩))) <|
  S_nil (q_N ⟨some (eI x4), g7, g8, rfl⟩)⟩) (fun s20 σ h => by
  obtain ⟨g21, g22, g23, rfl⟩ := h; exact
  S_join (fun (v : List ((Int × Int))) (σ : Sg) => σ = [some (eI n1), some ((eL (eP eI eI)) v), some (eI s20.2), g21, g22, g23]) (tr_B (p_gt (p_var (i := 2) (d := eI s20.2) rfl) p_cst)) (
  S_app (f := (eP eI eI)) (σ' := fun found24 => [some (eI n1), some ((eL (eP eI eI)) found24), some (eI s20.2), g21, g22, g23]) rfl (p_tup (evs_cons (p_var (i := 2) (d := eI s20.2) rfl) (evs_cons p_cst evs_nil)) rfl) (fun _ => rfl) fun found24 =>
  S_nil (q_J rfl)) (
  S_nil (q_J rfl)) (fun s25 σ h => by
  obtain rfl := h; exact
  S_ret (d := (eT (eP eI eI)) s25) (p_bi (b := .tuple) (evs_cons (p_var (i := 1) (d := (eL (eP eI eI)) s25) rfl) evs_nil) (b_tupleL (f := (eP eI eI)) s25)) rfl rfl)))
def t__law_products_right (n1 : Int) (m2 : Int) : Option (Bool) :=
  (t__law_factors n1).bind fun t3 =>
  (t_primes_of n1).bind fun t4 =>
  (likeM (okT (okP okU okU)) t4 t3).bind fun k5 =>
  bif (!k5) then (
  some false)
  else
  lt [(1 : Int)] fun own6 =>
  (forN (fun (x7 : (Int × Int)) (s8 : List Int) =>
  lt ([] : List Int) fun grown14 =>
  (rng1M (x7.2 + (1 : Int))).bind fun r15 =>
  (forN (fun (x16 : Int) (s17 : ((List Int) × (Int))) =>
  (mapM' (fun (x25 : Int) => (((mulM x25 s17.2).bind fun t26 => some t26)).bind fun y27 => some (some y27)) s8).bind fun l29 =>
  (catM s17.1 l29).bind fun grown24 =>
  (mulM s17.2 x7.1).bind fun t30 =>
  some (grown24, t30)) r15 (grown14, (1 : Int))).bind fun (s31 : ((List Int) × (Int))) =>
  some s31.1) t3 own6).bind fun (s33 : List Int) =>
  (t_divisors n1).bind fun t39 =>
  (likeM (okT okU) t39 (sortI s33)).bind fun k40 =>
  bif (!k40) then (
  some false)
  else
  (forN (fun (x41 : (Int × Int)) (s42 : ((Int) × (Int))) =>
  (mulM s42.1 (x41.1 - (1 : Int))).bind fun t46 =>
  ltI ((0 : Int) - s42.2) fun sign47 =>
  (rng1M (x41.2 - (1 : Int))).bind fun r48 =>
  (forN (fun (x49 : Int) (s50 : ((Int) × (Int))) =>
  (mulM s50.1 x41.1).bind fun t52 =>
  some (t52, (0 : Int))) r48 (t46, sign47)).bind fun (s53 : ((Int) × (Int))) =>
  some (s53.1, s53.2)) t3 ((1 : Int), (1 : Int))).bind fun (s55 : ((Int) × (Int))) =>
  (t_count_apart n1).bind fun t59 =>
  (t_square_sign n1).bind fun t60 =>
  (likeM (okP okU okU) (t59, t60) (s55.1, s55.2)).bind fun k61 =>
  bif (!k61) then (
  some false)
  else
  (t__law_gcd n1 m2).bind fun t62 =>
  bif (!(decide (t62 = (1 : Int)))) then (
  some true)
  else
  lt ([] : List Int) fun both63 =>
  (t_divisors n1).bind fun t64 =>
  (forN (fun (x65 : Int) (s66 : List Int) =>
  (t_divisors m2).bind fun t75 =>
  (mapM' (fun (x76 : Int) => (((mulM x65 x76).bind fun t77 => some t77)).bind fun y78 => some (some y78)) t75).bind fun l80 =>
  (catM s66 l80).bind fun both74 =>
  some both74) t64 both63).bind fun (s81 : List Int) =>
  (t_primes_of n1).bind fun t83 =>
  (t_primes_of m2).bind fun t84 =>
  (catM t83 t84).bind fun t85 =>
  lt (sortP t85) fun primes86 =>
  (mulM n1 m2).bind fun t87 =>
  (t_divisors t87).bind fun t88 =>
  (mulM n1 m2).bind fun t89 =>
  (t_primes_of t89).bind fun t90 =>
  (likeM (okP (okT okU) (okT (okP okU okU))) (t88, t90) ((sortI s81), primes86)).bind fun k91 =>
  bif (!k91) then (
  some false)
  else
  (t_count_apart m2).bind fun t92 =>
  (mulM s55.1 t92).bind fun t93 =>
  (t_square_sign m2).bind fun t94 =>
  (mulM s55.2 t94).bind fun t95 =>
  lt (t93, t95) fun due96 =>
  (mulM n1 m2).bind fun t97 =>
  (t_count_apart t97).bind fun t98 =>
  (mulM n1 m2).bind fun t99 =>
  (t_square_sign t99).bind fun t100 =>
  likeM (okP okU okU) (t98, t100) due96
theorem ok__law_products_right (n1 : Int) (m2 : Int) : ∀ v, t__law_products_right n1 m2 = some v → s__law_products_right [eI n1, eI m2] = some (eB v) := run_ok (Γ := g__law_products_right) (W := 1000000) (n := I__law_products_right.N.length) (body := b__law_products_right) (ds := [eI n1, eI m2])
  (show Sp g__law_products_right 1000000 b__law_products_right [some (eI n1), some (eI m2), none, none, none, none, none, none, none, none, none, none, none, none, none, none, none] (t__law_products_right n1 m2) (Qt eB) by
  unfold t__law_products_right b__law_products_right; exact
  S_let (a := (.call 0 false [(.var 0)])) (m_call (n := 0) (f := (eT (eP eI eI))) (evs_cons (p_var (i := 0) (d := eI n1) rfl) evs_nil) (fun v hv => ok__law_factors n1 v hv)) fun t3 ht3 =>
  S_asg (σ' := [some (eI n1), some (eI m2), some ((eT (eP eI eI)) t3), none, none, none, none, none, none, none, none, none, none, none, none, none, none]) ht3 rfl <|
  S_let (a := (.call 2 false [(.var 0)])) (m_call (n := 2) (f := (eT (eP eI eI))) (evs_cons (p_var (i := 0) (d := eI n1) rfl) evs_nil) (fun v hv => ok_primes_of n1 v hv)) fun t4 ht4 =>
  S_let (a := (.call 1 true [(.call 2 false [(.var 0)]), (.var 2)])) (m_callB (n := 1) (evs_cons ht4 (evs_cons (p_var (i := 2) (d := (eT (eP eI eI)) t3) rfl) evs_nil)) (fun v hv => likeM_ok like_ok (f := (eT (eP eI eI))) (o1 := (okT (okP okU okU))) (a := t4) (b := t3) (k_T (k_P k_I k_I)) v hv) (fb_of u_B)) fun k5 hk5 =>
  S_ite (c_not (tr_B hk5)) (
  S_ret (d := eB false) p_cst rfl rfl) <|
  S_name (f := (eL eI)) (e := (.lst [(.cst (.int 1))])) (p_lstL (xs := [(1 : Int)]) (f := eI) (evs_cons p_cst evs_nil) rfl) fun own6 hown6 =>
  S_asg (σ' := [some (eI n1), some (eI m2), some ((eT (eP eI eI)) t3), some ((eL eI) own6), none, none, none, none, none, none, none, none, none, none, none, none, none]) hown6 rfl <|
  S_for (f := (eP eI eI)) (fun (v : List Int) (σ : Sg) => ∃ (g4 g5 g6 g7 g8 : Option D), σ = [some (eI n1), some (eI m2), some ((eT (eP eI eI)) t3), some ((eL eI) v), g4, g5, g6, g7, g8, none, none, none, none, none, none, none, none]) (p_var (i := 2) (d := (eT (eP eI eI)) t3) rfl) rfl ⟨none, none, none, none, none, rfl⟩ (fun x7 s8 σ h => by
  obtain ⟨g9, g10, g11, g12, g13, rfl⟩ := h; exact ⟨[some (eI n1), some (eI m2), some ((eT (eP eI eI)) t3), some ((eL eI) s8), some (eI x7.1), some (eI x7.2), g11, g12, g13, none, none, none, none, none, none, none, none], rfl, 
  S_name (f := (eL eI)) (e := (.lst [])) (p_lstL (xs := ([] : List Int)) (f := eI) evs_nil rfl) fun grown14 hgrown14 =>
  S_par (σ' := [some (eI n1), some (eI m2), some ((eT (eP eI eI)) t3), some ((eL eI) s8), some (eI x7.1), some (eI x7.2), some ((eL eI) grown14), some (eI (1 : Int)), g13, none, none, none, none, none, none, none, none]) (evs_cons hgrown14 (evs_cons p_cst evs_nil)) rfl <|
  S_let (a := (.bi .range [(.bin .add (.var 5) (.cst (.int 1)))])) (m_bi (b := .range) (f := (eL eI)) (evs_cons (p_add (p_var (i := 5) (d := eI x7.2) rfl) p_cst) evs_nil) (b_range1 (x7.2 + (1 : Int)))) fun r15 hr15 =>
  S_for (f := eI) (fun (v : ((List Int) × (Int))) (σ : Sg) => ∃ (g8 : Option D), σ = [some (eI n1), some (eI m2), some ((eT (eP eI eI)) t3), some ((eL eI) s8), some (eI x7.1), some (eI x7.2), some ((eL eI) v.1), some (eI v.2), g8, none, none, none, none, none, none, none, none]) hr15 rfl ⟨g13, rfl⟩ (fun x16 s17 σ h => by
  obtain ⟨g18, rfl⟩ := h; exact ⟨[some (eI n1), some (eI m2), some ((eT (eP eI eI)) t3), some ((eL eI) s8), some (eI x7.1), some (eI x7.2), some ((eL eI) s17.1), some (eI s17.2), some (eI x16), none, none, none, none, none, none, none, none], rfl, 
  S_let (a := (.comp (.one 9) [("part", 9)] (.var 3) [] (.bin .mul (.var 9) (.var 7)))) (m_mapM (f := eI) (g := eI) (p_var (i := 3) (d := (eL eI) s8) rfl) rfl (fun x25 => T_plain (σ' := [some (eI n1), some (eI m2), some ((eT (eP eI eI)) t3), some ((eL eI) s8), some (eI x7.1), some (eI x7.2), some ((eL eI) s17.1), some (eI s17.2), some (eI x16), some (eI x25), none, none, none, none, none, none, none]) rfl (E_let (a := (.bin .mul (.var 9) (.var 7))) (m_mul (p_var (i := 9) (d := eI x25) rfl) (p_var (i := 7) (d := eI s17.2) rfl)) fun t26 ht26 => E_of (f := eI) (t := t26) ht26))) fun l29 hl29 =>
  S_ext (f := eI) (σ' := fun grown24 => [some (eI n1), some (eI m2), some ((eT (eP eI eI)) t3), some ((eL eI) s8), some (eI x7.1), some (eI x7.2), some ((eL eI) grown24), some (eI s17.2), some (eI x16), none, none, none, none, none, none, none, none]) rfl hl29 (fun _ => rfl) fun grown24 =>
  S_let (a := (.bin .mul (.var 7) (.var 4))) (m_mul (p_var (i := 7) (d := eI s17.2) rfl) (p_var (i := 4) (d := eI x7.1) rfl)) fun t30 ht30 =>
  S_asg (σ' := [some (eI n1), some (eI m2), some ((eT (eP eI eI)) t3), some ((eL eI) s8), some (eI x7.1), some (eI x7.2), some ((eL eI) grown24), some (eI t30), some (eI x16), none, none, none, none, none, none, none, none]) ht30 rfl <|
  S_nil (q_N ⟨some (eI x16), rfl⟩)⟩) (fun s31 σ h => by
  obtain ⟨g32, rfl⟩ := h; exact
  S_fre <|
  S_asg (σ' := [some (eI n1), some (eI m2), some ((eT (eP eI eI)) t3), some ((eL eI) s31.1), some (eI x7.1), some (eI x7.2), some ((eL eI) s31.1), some (eI s31.2), g32, none, none, none, none, none, none, none, none]) (p_var (i := 6) (d := (eL eI) s31.1) rfl) rfl <|
  S_nil (q_N ⟨some (eI x7.1), some (eI x7.2), some ((eL eI) s31.1), some (eI s31.2), g32, rfl⟩))⟩) (fun s33 σ h => by
  obtain ⟨g34, g35, g36, g37, g38, rfl⟩ := h; exact
  S_let (a := (.call 3 false [(.var 0)])) (m_call (n := 3) (f := (eT eI)) (evs_cons (p_var (i := 0) (d := eI n1) rfl) evs_nil) (fun v hv => ok_divisors n1 v hv)) fun t39 ht39 =>
  S_let (a := (.call 1 false [(.call 3 false [(.var 0)]), (.bi .tuple [(.bi .sorted [(.var 3)])])])) (m_call (n := 1) (evs_cons ht39 (evs_cons (p_bi (b := .tuple) (evs_cons (p_bi (b := .sorted) (evs_cons (p_var (i := 3) (d := (eL eI) s33) rfl) evs_nil) (b_sorted s33)) evs_nil) (b_tupleL (f := eI) (sortI s33))) evs_nil)) (fun v hv => likeM_ok like_ok (f := (eT eI)) (o1 := (okT okU)) (a := t39) (b := (sortI s33)) (k_T k_I) v hv)) fun k40 hk40 =>
  S_ite (c_not (tr_B hk40)) (
  S_ret (d := eB false) p_cst rfl rfl) <|
  S_asg (σ' := [some (eI n1), some (eI m2), some ((eT (eP eI eI)) t3), some ((eL eI) s33), g34, g35, g36, g37, g38, none, some (eI (1 : Int)), some (eI (1 : Int)), none, none, none, none, none]) (p_tup (evs_cons p_cst (evs_cons p_cst evs_nil)) rfl) rfl <|
  S_for (f := (eP eI eI)) (fun (v : ((Int) × (Int))) (σ : Sg) => ∃ (g4 g5 g8 : Option D), σ = [some (eI n1), some (eI m2), some ((eT (eP eI eI)) t3), some ((eL eI) s33), g4, g5, g36, g37, g8, none, some (eI v.1), some (eI v.2), none, none, none, none, none]) (p_var (i := 2) (d := (eT (eP eI eI)) t3) rfl) rfl ⟨g34, g35, g38, rfl⟩ (fun x41 s42 σ h => by
  obtain ⟨g43, g44, g45, rfl⟩ := h; exact ⟨[some (eI n1), some (eI m2), some ((eT (eP eI eI)) t3), some ((eL eI) s33), some (eI x41.1), some (eI x41.2), g36, g37, g45, none, some (eI s42.1), some (eI s42.2), none, none, none, none, none], rfl, 
  S_let (a := (.bin .mul (.var 10) (.bin .sub (.var 4) (.cst (.int 1))))) (m_mul (p_var (i := 10) (d := eI s42.1) rfl) (p_sub (p_var (i := 4) (d := eI x41.1) rfl) p_cst)) fun t46 ht46 =>
  S_nameI (e := (.bin .sub (.cst (.int 0)) (.var 11))) (p_sub p_cst (p_var (i := 11) (d := eI s42.2) rfl)) fun sign47 hsign47 =>
  S_par (σ' := [some (eI n1), some (eI m2), some ((eT (eP eI eI)) t3), some ((eL eI) s33), some (eI x41.1), some (eI x41.2), g36, g37, g45, none, some (eI t46), some (eI sign47), none, none, none, none, none]) (evs_cons ht46 (evs_cons hsign47 evs_nil)) rfl <|
  S_let (a := (.bi .range [(.bin .sub (.var 5) (.cst (.int 1)))])) (m_bi (b := .range) (f := (eL eI)) (evs_cons (p_sub (p_var (i := 5) (d := eI x41.2) rfl) p_cst) evs_nil) (b_range1 (x41.2 - (1 : Int)))) fun r48 hr48 =>
  S_for (f := eI) (fun (v : ((Int) × (Int))) (σ : Sg) => ∃ (g8 : Option D), σ = [some (eI n1), some (eI m2), some ((eT (eP eI eI)) t3), some ((eL eI) s33), some (eI x41.1), some (eI x41.2), g36, g37, g8, none, some (eI v.1), some (eI v.2), none, none, none, none, none]) hr48 rfl ⟨g45, rfl⟩ (fun x49 s50 σ h => by
  obtain ⟨g51, rfl⟩ := h; exact ⟨[some (eI n1), some (eI m2), some ((eT (eP eI eI)) t3), some ((eL eI) s33), some (eI x41.1), some (eI x41.2), g36, g37, some (eI x49), none, some (eI s50.1), some (eI s50.2), none, none, none, none, none], rfl, 
  S_let (a := (.bin .mul (.var 10) (.var 4))) (m_mul (p_var (i := 10) (d := eI s50.1) rfl) (p_var (i := 4) (d := eI x41.1) rfl)) fun t52 ht52 =>
  S_par (σ' := [some (eI n1), some (eI m2), some ((eT (eP eI eI)) t3), some ((eL eI) s33), some (eI x41.1), some (eI x41.2), g36, g37, some (eI x49), none, some (eI t52), some (eI (0 : Int)), none, none, none, none, none]) (evs_cons ht52 (evs_cons p_cst evs_nil)) rfl <|
  S_nil (q_N ⟨some (eI x49), rfl⟩)⟩) (fun s53 σ h => by
  obtain ⟨g54, rfl⟩ := h; exact
  S_nil (q_N ⟨some (eI x41.1), some (eI x41.2), g54, rfl⟩))⟩) (fun s55 σ h => by
  obtain ⟨g56, g57, g58, rfl⟩ := h; exact
  S_let (a := (.call 4 false [(.var 0)])) (m_call (n := 4) (f := eI) (evs_cons (p_var (i := 0) (d := eI n1) rfl) evs_nil) (fun v hv => ok_count_apart n1 v hv)) fun t59 ht59 =>
  S_let (a := (.call 5 false [(.var 0)])) (m_call (n := 5) (f := eI) (evs_cons (p_var (i := 0) (d := eI n1) rfl) evs_nil) (fun v hv => ok_square_sign n1 v hv)) fun t60 ht60 =>
  S_let (a := (.call 1 false [(.tup [(.call 4 false [(.var 0)]), (.call 5 false [(.var 0)])]), (.tup [(.var 10), (.var 11)])])) (m_call (n := 1) (evs_cons (p_tup (evs_cons ht59 (evs_cons ht60 evs_nil)) rfl) (evs_cons (p_tup (evs_cons (p_var (i := 10) (d := eI s55.1) rfl) (evs_cons (p_var (i := 11) (d := eI s55.2) rfl) evs_nil)) rfl) evs_nil)) (fun v hv => likeM_ok like_ok (f := (eP eI eI)) (o1 := (okP okU okU)) (a := (t59, t60)) (b := (s55.1, s55.2)) (k_P k_I k_I) v hv)) fun k61 hk61 =>
  S_ite (c_not (tr_B hk61)) (
  S_ret (d := eB false) p_cst rfl rfl) <|
  S_let (a := (.call 6 false [(.var 0), (.var 1)])) (m_call (n := 6) (f := eI) (evs_cons (p_var (i := 0) (d := eI n1) rfl) (evs_cons (p_var (i := 1) (d := eI m2) rfl) evs_nil)) (fun v hv => ok__law_gcd n1 m2 v hv)) fun t62 ht62 =>
  S_ite (tr_B (p_neI ht62 p_cst)) (
  S_ret (d := eB true) p_cst rfl rfl) <|
  S_name (f := (eL eI)) (e := (.lst [])) (p_lstL (xs := ([] : List Int)) (f := eI) evs_nil rfl) fun both63 hboth63 =>
  S_asg (σ' := [some (eI n1), some (eI m2), some ((eT (eP eI eI)) t3), some ((eL eI) s33), g56, g57, g36, g37, g58, none, some (eI s55.1), some (eI s55.2), some ((eL eI) both63), none, none, none, none]) hboth63 rfl <|
  S_let (a := (.call 3 false [(.var 0)])) (m_call (n := 3) (f := (eT eI)) (evs_cons (p_var (i := 0) (d := eI n1) rfl) evs_nil) (fun v hv => ok_divisors n1 v hv)) fun t64 ht64 =>
  S_for (f := eI) (fun (v : List Int) (σ : Sg) => ∃ (g13 : Option D), σ = [some (eI n1), some (eI m2), some ((eT (eP eI eI)) t3), some ((eL eI) s33), g56, g57, g36, g37, g58, none, some (eI s55.1), some (eI s55.2), some ((eL eI) v), g13, none, none, none]) ht64 rfl ⟨none, rfl⟩ (fun x65 s66 σ h => by
  obtain ⟨g67, rfl⟩ := h; exact ⟨[some (eI n1), some (eI m2), some ((eT (eP eI eI)) t3), some ((eL eI) s33), g56, g57, g36, g37, g58, none, some (eI s55.1), some (eI s55.2), some ((eL eI) s66), some (eI x65), none, none, none], rfl, 
  S_let (a := (.call 3 false [(.var 1)])) (m_call (n := 3) (f := (eT eI)) (evs_cons (p_var (i := 1) (d := eI m2) rfl) evs_nil) (fun v hv => ok_divisors m2 v hv)) fun t75 ht75 =>
  S_let (a := (.comp (.one 14) [("e", 14)] (.call 3 false [(.var 1)]) [] (.bin .mul (.var 13) (.var 14)))) (m_mapM (f := eI) (g := eI) ht75 rfl (fun x76 => T_plain (σ' := [some (eI n1), some (eI m2), some ((eT (eP eI eI)) t3), some ((eL eI) s33), g56, g57, g36, g37, g58, none, some (eI s55.1), some (eI s55.2), some ((eL eI) s66), some (eI x65), some (eI x76), none, none]) rfl (E_let (a := (.bin .mul (.var 13) (.var 14))) (m_mul (p_var (i := 13) (d := eI x65) rfl) (p_var (i := 14) (d := eI x76) rfl)) fun t77 ht77 => E_of (f := eI) (t := t77) ht77))) fun l80 hl80 =>
  S_ext (f := eI) (σ' := fun both74 => [some (eI n1), some (eI m2), some ((eT (eP eI eI)) t3), some ((eL eI) s33), g56, g57, g36, g37, g58, none, some (eI s55.1), some (eI s55.2), some ((eL eI) both74), some (eI x65), none, none, none]) rfl hl80 (fun _ => rfl) fun both74 =>
  S_nil (q_N ⟨some (eI x65), rfl⟩)⟩) (fun s81 σ h => by
  obtain ⟨g82, rfl⟩ := h; exact
  S_let (a := (.call 2 false [(.var 0)])) (m_call (n := 2) (f := (eT (eP eI eI))) (evs_cons (p_var (i := 0) (d := eI n1) rfl) evs_nil) (fun v hv => ok_primes_of n1 v hv)) fun t83 ht83 =>
  S_let (a := (.call 2 false [(.var 1)])) (m_call (n := 2) (f := (eT (eP eI eI))) (evs_cons (p_var (i := 1) (d := eI m2) rfl) evs_nil) (fun v hv => ok_primes_of m2 v hv)) fun t84 ht84 =>
  S_let (a := (.bin .add (.call 2 false [(.var 0)]) (.call 2 false [(.var 1)]))) (m_catT ht83 ht84) fun t85 ht85 =>
  S_name (f := (eT (eP eI eI))) (e := (.bi .tuple [(.bi .sorted [(.bin .add (.call 2 false [(.var 0)]) (.call 2 false [(.var 1)]))])])) (p_bi (b := .tuple) (evs_cons (p_bi (b := .sorted) (evs_cons ht85 evs_nil) (b_sortedPT t85)) evs_nil) (b_tupleL (f := (eP eI eI)) (sortP t85))) fun primes86 hprimes86 =>
  S_asg (σ' := [some (eI n1), some (eI m2), some ((eT (eP eI eI)) t3), some ((eL eI) s33), g56, g57, g36, g37, g58, none, some (eI s55.1), some (eI s55.2), some ((eL eI) s81), g82, none, some ((eT (eP eI eI)) primes86), none]) hprimes86 rfl <|
  S_fre <|
  S_let (a := (.bin .mul (.var 0) (.var 1))) (m_mul (p_var (i := 0) (d := eI n1) rfl) (p_var (i := 1) (d := eI m2) rfl)) fun t87 ht87 =>
  S_let (a := (.call 3 false [(.bin .mul (.var 0) (.var 1))])) (m_call (n := 3) (f := (eT eI)) (evs_cons ht87 evs_nil) (fun v hv => ok_divisors t87 v hv)) fun t88 ht88 =>
  S_let (a := (.bin .mul (.var 0) (.var 1))) (m_mul (p_var (i := 0) (d := eI n1) rfl) (p_var (i := 1) (d := eI m2) rfl)) fun t89 ht89 =>
  S_let (a := (.call 2 false [(.bin .mul (.var 0) (.var 1))])) (m_call (n := 2) (f := (eT (eP eI eI))) (evs_cons ht89 evs_nil) (fun v hv => ok_primes_of t89 v hv)) fun t90 ht90 =>
  S_let (a := (.call 1 false [(.tup [(.call 3 false [(.bin .mul (.var 0) (.var 1))]), (.call 2 false [(.bin .mul (.var 0) (.var 1))])]), (.tup [(.bi .tuple [(.bi .sorted [(.var 12)])]), (.var 15)])])) (m_call (n := 1) (evs_cons (p_tup (evs_cons ht88 (evs_cons ht90 evs_nil)) rfl) (evs_cons (p_tup (evs_cons (p_bi (b := .tuple) (evs_cons (p_bi (b := .sorted) (evs_cons (p_var (i := 12) (d := (eL eI) s81) rfl) evs_nil) (b_sorted s81)) evs_nil) (b_tupleL (f := eI) (sortI s81))) (evs_cons (p_var (i := 15) (d := (eT (eP eI eI)) primes86) rfl) evs_nil)) rfl) evs_nil)) (fun v hv => likeM_ok like_ok (f := (eP (eT eI) (eT (eP eI eI)))) (o1 := (okP (okT okU) (okT (okP okU okU)))) (a := (t88, t90)) (b := ((sortI s81), primes86)) (k_P (k_T k_I) (k_T (k_P k_I k_I))) v hv)) fun k91 hk91 =>
  S_ite (c_not (tr_B hk91)) (
  S_ret (d := eB false) p_cst rfl rfl) <|
  S_let (a := (.call 4 false [(.var 1)])) (m_call (n := 4) (f := eI) (evs_cons (p_var (i := 1) (d := eI m2) rfl) evs_nil) (fun v hv => ok_count_apart m2 v hv)) fun t92 ht92 =>
  S_let (a := (.bin .mul (.var 10) (.call 4 false [(.var 1)]))) (m_mul (p_var (i := 10) (d := eI s55.1) rfl) ht92) fun t93 ht93 =>
  S_let (a := (.call 5 false [(.var 1)])) (m_call (n := 5) (f := eI) (evs_cons (p_var (i := 1) (d := eI m2) rfl) evs_nil) (fun v hv => ok_square_sign m2 v hv)) fun t94 ht94 =>
  S_let (a := (.bin .mul (.var 11) (.call 5 false [(.var 1)]))) (m_mul (p_var (i := 11) (d := eI s55.2) rfl) ht94) fun t95 ht95 =>
  S_name (f := (eP eI eI)) (e := (.tup [(.bin .mul (.var 10) (.call 4 false [(.var 1)])), (.bin .mul (.var 11) (.call 5 false [(.var 1)]))])) (p_tup (evs_cons ht93 (evs_cons ht95 evs_nil)) rfl) fun due96 hdue96 =>
  S_asg (σ' := [some (eI n1), some (eI m2), some ((eT (eP eI eI)) t3), some ((eL eI) s33), g56, g57, g36, g37, g58, none, some (eI s55.1), some (eI s55.2), some ((eL eI) s81), g82, none, some ((eT (eP eI eI)) primes86), some ((eP eI eI) due96)]) hdue96 rfl <|
  S_let (a := (.bin .mul (.var 0) (.var 1))) (m_mul (p_var (i := 0) (d := eI n1) rfl) (p_var (i := 1) (d := eI m2) rfl)) fun t97 ht97 =>
  S_let (a := (.call 4 false [(.bin .mul (.var 0) (.var 1))])) (m_call (n := 4) (f := eI) (evs_cons ht97 evs_nil) (fun v hv => ok_count_apart t97 v hv)) fun t98 ht98 =>
  S_let (a := (.bin .mul (.var 0) (.var 1))) (m_mul (p_var (i := 0) (d := eI n1) rfl) (p_var (i := 1) (d := eI m2) rfl)) fun t99 ht99 =>
  S_let (a := (.call 5 false [(.bin .mul (.var 0) (.var 1))])) (m_call (n := 5) (f := eI) (evs_cons ht99 evs_nil) (fun v hv => ok_square_sign t99 v hv)) fun t100 ht100 =>
  S_retM (f := eB) (m_callB (n := 1) (evs_cons (p_tup (evs_cons ht98 (evs_cons ht100 evs_nil)) rfl) (evs_cons (p_var (i := 16) (d := (eP eI eI) due96) rfl) evs_nil)) (fun v hv => likeM_ok like_ok (f := (eP eI eI)) (o1 := (okP okU okU)) (a := (t98, t100)) (b := due96) (k_P k_I k_I) v hv) (fb_of u_B)) (fun _ => rfl)))))
def t__law_combined (f1 : List Int) (g2 : List Int) : Option (List Int) :=
  (repM [(0 : Int)] (f1.length : Int)).bind fun t3 =>
  (rng2M (1 : Int) ((f1.length : Int) + (1 : Int))).bind fun r4 =>
  (forN (fun (x5 : Int) (s6 : List Int) =>
  (fdivM (f1.length : Int) x5).bind fun t9 =>
  (rng2M (1 : Int) (t9 + (1 : Int))).bind fun r10 =>
  (forN (fun (x11 : Int) (s12 : List Int) =>
  (mulM x5 x11).bind fun t15 =>
  (mulM x5 x11).bind fun t16 =>
  (idxM s12 (t16 - (1 : Int))).bind fun t17 =>
  (idxM f1 (x5 - (1 : Int))).bind fun t18 =>
  (idxM g2 (x11 - (1 : Int))).bind fun t19 =>
  (mulM t18 t19).bind fun t20 =>
  (setM s12 (t15 - (1 : Int)) (t17 + t20)).bind fun found14 =>
  some found14) r10 s6).bind fun (s21 : List Int) =>
  some s21) r4 t3).bind fun (s23 : List Int) =>
  some s23
theorem ok__law_combined (f1 : List Int) (g2 : List Int) : ∀ v, t__law_combined f1 g2 = some v → s__law_combined [(eT eI) f1, (eT eI) g2] = some ((eT eI) v) := run_ok (Γ := g__law_combined) (W := 1000000) (n := I__law_combined.N.length) (body := b__law_combined) (ds := [(eT eI) f1, (eT eI) g2])
  (show Sp g__law_combined 1000000 b__law_combined [some ((eT eI) f1), some ((eT eI) g2), none, none, none] (t__law_combined f1 g2) (Qt (eT eI)) by
  unfold t__law_combined b__law_combined; exact
  S_let (a := (.bin .mul (.lst [(.cst (.int 0))]) (.bi .len [(.var 0)]))) (m_repL (p_lstL (xs := [(0 : Int)]) (f := eI) (evs_cons p_cst evs_nil) rfl) (p_bi (b := .len) (evs_cons (p_var (i := 0) (d := (eT eI) f1) rfl) evs_nil) (b_lenT (f := eI) f1))) fun t3 ht3 =>
  S_asg (σ' := [some ((eT eI) f1), some ((eT eI) g2), some ((eL eI) t3), none, none]) ht3 rfl <|
  S_let (a := (.bi .range [(.cst (.int 1)), (.bin .add (.bi .len [(.var 0)]) (.cst (.int 1)))])) (m_bi (b := .range) (f := (eL eI)) (evs_cons p_cst (evs_cons (p_add (p_bi (b := .len) (evs_cons (p_var (i := 0) (d := (eT eI) f1) rfl) evs_nil) (b_lenT (f := eI) f1)) p_cst) evs_nil)) (b_range2 (1 : Int) ((f1.length : Int) + (1 : Int)))) fun r4 hr4 =>
  S_for (f := eI) (fun (v : List Int) (σ : Sg) => ∃ (g3 g4 : Option D), σ = [some ((eT eI) f1), some ((eT eI) g2), some ((eL eI) v), g3, g4]) hr4 rfl ⟨none, none, rfl⟩ (fun x5 s6 σ h => by
  obtain ⟨g7, g8, rfl⟩ := h; exact ⟨[some ((eT eI) f1), some ((eT eI) g2), some ((eL eI) s6), some (eI x5), g8], rfl, 
  S_let (a := (.bin .fdiv (.bi .len [(.var 0)]) (.var 3))) (m_fdiv (p_bi (b := .len) (evs_cons (p_var (i := 0) (d := (eT eI) f1) rfl) evs_nil) (b_lenT (f := eI) f1)) (p_var (i := 3) (d := eI x5) rfl)) fun t9 ht9 =>
  S_let (a := (.bi .range [(.cst (.int 1)), (.bin .add (.bin .fdiv (.bi .len [(.var 0)]) (.var 3)) (.cst (.int 1)))])) (m_bi (b := .range) (f := (eL eI)) (evs_cons p_cst (evs_cons (p_add ht9 p_cst) evs_nil)) (b_range2 (1 : Int) (t9 + (1 : Int)))) fun r10 hr10 =>
  S_for (f := eI) (fun (v : List Int) (σ : Sg) => ∃ (g4 : Option D), σ = [some ((eT eI) f1), some ((eT eI) g2), some ((eL eI) v), some (eI x5), g4]) hr10 rfl ⟨g8, rfl⟩ (fun x11 s12 σ h => by
  obtain ⟨g13, rfl⟩ := h; exact ⟨[some ((eT eI) f1), some ((eT eI) g2), some ((eL eI) s12), some (eI x5), some (eI x11)], rfl, 
  S_let (a := (.bin .mul (.var 3) (.var 4))) (m_mul (p_var (i := 3) (d := eI x5) rfl) (p_var (i := 4) (d := eI x11) rfl)) fun t15 ht15 =>
  S_let (a := (.bin .mul (.var 3) (.var 4))) (m_mul (p_var (i := 3) (d := eI x5) rfl) (p_var (i := 4) (d := eI x11) rfl)) fun t16 ht16 =>
  S_let (a := (.idx (.var 2) (.bin .sub (.bin .mul (.var 3) (.var 4)) (.cst (.int 1))))) (m_idxL (f := eI) (p_var (i := 2) (d := (eL eI) s12) rfl) (p_sub ht16 p_cst)) fun t17 ht17 =>
  S_let (a := (.idx (.var 0) (.bin .sub (.var 3) (.cst (.int 1))))) (m_idxT (f := eI) (p_var (i := 0) (d := (eT eI) f1) rfl) (p_sub (p_var (i := 3) (d := eI x5) rfl) p_cst)) fun t18 ht18 =>
  S_let (a := (.idx (.var 1) (.bin .sub (.var 4) (.cst (.int 1))))) (m_idxT (f := eI) (p_var (i := 1) (d := (eT eI) g2) rfl) (p_sub (p_var (i := 4) (d := eI x11) rfl) p_cst)) fun t19 ht19 =>
  S_let (a := (.bin .mul (.idx (.var 0) (.bin .sub (.var 3) (.cst (.int 1)))) (.idx (.var 1) (.bin .sub (.var 4) (.cst (.int 1)))))) (m_mul ht18 ht19) fun t20 ht20 =>
  S_setIx (f := eI) (σ' := fun found14 => [some ((eT eI) f1), some ((eT eI) g2), some ((eL eI) found14), some (eI x5), some (eI x11)]) (p_add ht17 ht20) rfl (p_sub ht15 p_cst) (fun _ => rfl) fun found14 =>
  S_nil (q_N ⟨some (eI x11), rfl⟩)⟩) (fun s21 σ h => by
  obtain ⟨g22, rfl⟩ := h; exact
  S_nil (q_N ⟨some (eI x5), g22, rfl⟩))⟩) (fun s23 σ h => by
  obtain ⟨g24, g25, rfl⟩ := h; exact
  S_ret (d := (eT eI) s23) (p_bi (b := .tuple) (evs_cons (p_var (i := 2) (d := (eL eI) s23) rfl) evs_nil) (b_tupleL (f := eI) s23)) rfl rfl))
def t__law_rows_right (f1 : List Int) (g2 : List Int) (h3 : List Int) : Option (Bool) :=
  ltI (f1.length : Int) fun many4 =>
  (t__law_combined f1 g2).bind fun t5 =>
  (repM [(0 : Int)] (many4 - (1 : Int))).bind fun t6 =>
  (catM [(1 : Int)] t6).bind fun t7 =>
  (t_combined f1 g2).bind fun t8 =>
  (t_combined g2 f1).bind fun t9 =>
  (t_combined t5 h3).bind fun t10 =>
  (t_combined g2 h3).bind fun t11 =>
  (t_combined f1 t11).bind fun t12 =>
  (likeM (okP (okT okU) (okP (okT okU) (okT okU))) (t8, t9, t10) (t5, t5, t12)).bind fun k13 =>
  bif (!k13) then (
  some false)
  else
  (rng1M many4).bind fun r14 =>
  (mapM' (fun (x15 : Int) => (((idxM g2 x15).bind fun t16 => (idxM h3 x15).bind fun t17 => some (t16 + t17))).bind fun y18 => some (some y18)) r14).bind fun l20 =>
  (rng1M many4).bind fun r21 =>
  (mapM' (fun (x22 : Int) => (((idxM t5 x22).bind fun t23 => (t__law_combined f1 h3).bind fun t24 => (idxM t24 x22).bind fun t25 => some (t23 + t25))).bind fun y26 => some (some y26)) r21).bind fun l28 =>
  (t_combined f1 l20).bind fun t29 =>
  (t_combined f1 t7).bind fun t30 =>
  (likeM (okP (okT okU) (okT okU)) (t29, t30) (l28, f1)).bind fun k31 =>
  bif (!k31) then (
  some false)
  else
  (t_taken_back f1).bind fun t32 =>
  (t_taken_back g2).bind fun t33 =>
  (t__law_combined f1 t32).bind fun t34 =>
  (t__law_combined g2 t33).bind fun t35 =>
  (likeM (okP (okT okU) (okT okU)) (t34, t35) (t7, t7)).bind fun k36 =>
  bif (!k36) then (
  some false)
  else
  (t_taken_back t5).bind fun t37 =>
  (t_taken_back t32).bind fun t38 =>
  (t__law_combined t32 t33).bind fun t39 =>
  likeM (okP (okT okU) (okT okU)) (t37, t38) (t39, f1)
theorem ok__law_rows_right (f1 : List Int) (g2 : List Int) (h3 : List Int) : ∀ v, t__law_rows_right f1 g2 h3 = some v → s__law_rows_right [(eT eI) f1, (eT eI) g2, (eT eI) h3] = some (eB v) := run_ok (Γ := g__law_rows_right) (W := 1000000) (n := I__law_rows_right.N.length) (body := b__law_rows_right) (ds := [(eT eI) f1, (eT eI) g2, (eT eI) h3])
  (show Sp g__law_rows_right 1000000 b__law_rows_right [some ((eT eI) f1), some ((eT eI) g2), some ((eT eI) h3), none, none, none, none, none, none, none, none] (t__law_rows_right f1 g2 h3) (Qt eB) by
  unfold t__law_rows_right b__law_rows_right; exact
  S_nameI (e := (.bi .len [(.var 0)])) (p_bi (b := .len) (evs_cons (p_var (i := 0) (d := (eT eI) f1) rfl) evs_nil) (b_lenT (f := eI) f1)) fun many4 hmany4 =>
  S_asg (σ' := [some ((eT eI) f1), some ((eT eI) g2), some ((eT eI) h3), some (eI many4), none, none, none, none, none, none, none]) hmany4 rfl <|
  S_let (a := (.call 0 false [(.var 0), (.var 1)])) (m_call (n := 0) (f := (eT eI)) (evs_cons (p_var (i := 0) (d := (eT eI) f1) rfl) (evs_cons (p_var (i := 1) (d := (eT eI) g2) rfl) evs_nil)) (fun v hv => ok__law_combined f1 g2 v hv)) fun t5 ht5 =>
  S_let (a := (.bin .mul (.tup [(.cst (.int 0))]) (.bin .sub (.var 3) (.cst (.int 1))))) (m_repT (p_tupT (xs := [(0 : Int)]) (f := eI) (evs_cons p_cst evs_nil) rfl) (p_sub (p_var (i := 3) (d := eI many4) rfl) p_cst)) fun t6 ht6 =>
  S_let (a := (.bin .add (.tup [(.cst (.int 1))]) (.bin .mul (.tup [(.cst (.int 0))]) (.bin .sub (.var 3) (.cst (.int 1)))))) (m_catT (p_tupT (xs := [(1 : Int)]) (f := eI) (evs_cons p_cst evs_nil) rfl) ht6) fun t7 ht7 =>
  S_par (σ' := [some ((eT eI) f1), some ((eT eI) g2), some ((eT eI) h3), some (eI many4), some ((eT eI) t5), some ((eT eI) t7), none, none, none, none, none]) (evs_cons ht5 (evs_cons ht7 evs_nil)) rfl <|
  S_fre <|
  S_let (a := (.call 2 false [(.var 0), (.var 1)])) (m_call (n := 2) (f := (eT eI)) (evs_cons (p_var (i := 0) (d := (eT eI) f1) rfl) (evs_cons (p_var (i := 1) (d := (eT eI) g2) rfl) evs_nil)) (fun v hv => ok_combined f1 g2 v hv)) fun t8 ht8 =>
  S_let (a := (.call 2 false [(.var 1), (.var 0)])) (m_call (n := 2) (f := (eT eI)) (evs_cons (p_var (i := 1) (d := (eT eI) g2) rfl) (evs_cons (p_var (i := 0) (d := (eT eI) f1) rfl) evs_nil)) (fun v hv => ok_combined g2 f1 v hv)) fun t9 ht9 =>
  S_let (a := (.call 2 false [(.var 4), (.var 2)])) (m_call (n := 2) (f := (eT eI)) (evs_cons (p_var (i := 4) (d := (eT eI) t5) rfl) (evs_cons (p_var (i := 2) (d := (eT eI) h3) rfl) evs_nil)) (fun v hv => ok_combined t5 h3 v hv)) fun t10 ht10 =>
  S_let (a := (.call 2 false [(.var 1), (.var 2)])) (m_call (n := 2) (f := (eT eI)) (evs_cons (p_var (i := 1) (d := (eT eI) g2) rfl) (evs_cons (p_var (i := 2) (d := (eT eI) h3) rfl) evs_nil)) (fun v hv => ok_combined g2 h3 v hv)) fun t11 ht11 =>
  S_let (a := (.call 2 false [(.var 0), (.call 2 false [(.var 1), (.var 2)])])) (m_call (n := 2) (f := (eT eI)) (evs_cons (p_var (i := 0) (d := (eT eI) f1) rfl) (evs_cons ht11 evs_nil)) (fun v hv => ok_combined f1 t11 v hv)) fun t12 ht12 =>
  S_let (a := (.call 1 false [(.tup [(.call 2 false [(.var 0), (.var 1)]), (.call 2 false [(.var 1), (.var 0)]), (.call 2 false [(.var 4), (.var 2)])]), (.tup [(.var 4), (.var 4), (.call 2 false [(.var 0), (.call 2 false [(.var 1), (.var 2)])])])])) (m_call (n := 1) (evs_cons (p_tup (evs_cons ht8 (evs_cons ht9 (evs_cons ht10 evs_nil))) rfl) (evs_cons (p_tup (evs_cons (p_var (i := 4) (d := (eT eI) t5) rfl) (evs_cons (p_var (i := 4) (d := (eT eI) t5) rfl) (evs_cons ht12 evs_nil))) rfl) evs_nil)) (fun v hv => likeM_ok like_ok (f := (eP3 (eT eI) (eT eI) (eT eI))) (o1 := (okP (okT okU) (okP (okT okU) (okT okU)))) (a := (t8, t9, t10)) (b := (t5, t5, t12)) (k_P3 (k_T k_I) (k_T k_I) (k_T k_I)) v hv)) fun k13 hk13 =>
  S_ite (c_not (tr_B hk13)) (
  S_ret (d := eB false) p_cst rfl rfl) <|
  S_let (a := (.bi .range [(.var 3)])) (m_bi (b := .range) (f := (eL eI)) (evs_cons (p_var (i := 3) (d := eI many4) rfl) evs_nil) (b_range1 many4)) fun r14 hr14 =>
  S_let (a := (.comp (.one 7) [("k", 7)] (.bi .range [(.var 3)]) [] (.bin .add (.idx (.var 1) (.var 7)) (.idx (.var 2) (.var 7))))) (m_mapM (f := eI) (g := eI) hr14 rfl (fun x15 => T_plain (σ' := [some ((eT eI) f1), some ((eT eI) g2), some ((eT eI) h3), some (eI many4), some ((eT eI) t5), some ((eT eI) t7), none, some (eI x15), none, none, none]) rfl (E_let (a := (.idx (.var 1) (.var 7))) (m_idxT (f := eI) (p_var (i := 1) (d := (eT eI) g2) rfl) (p_var (i := 7) (d := eI x15) rfl)) fun t16 ht16 => E_let (a := (.idx (.var 2) (.var 7))) (m_idxT (f := eI) (p_var (i := 2) (d := (eT eI) h3) rfl) (p_var (i := 7) (d := eI x15) rfl)) fun t17 ht17 => E_of (f := eI) (t := (t16 + t17)) (p_add ht16 ht17)))) fun l20 hl20 =>
  S_asg (σ' := [some ((eT eI) f1), some ((eT eI) g2), some ((eT eI) h3), some (eI many4), some ((eT eI) t5), some ((eT eI) t7), some ((eT eI) l20), none, none, none, none]) (p_bi (b := .tuple) (evs_cons hl20 evs_nil) (b_tupleL (f := eI) l20)) rfl <|
  S_let (a := (.bi .range [(.var 3)])) (m_bi (b := .range) (f := (eL eI)) (evs_cons (p_var (i := 3) (d := eI many4) rfl) evs_nil) (b_range1 many4)) fun r21 hr21 =>
  S_let (a := (.comp (.one 7) [("k", 7)] (.bi .range [(.var 3)]) [] (.bin .add (.idx (.var 4) (.var 7)) (.idx (.call 0 false [(.var 0), (.var 2)]) (.var 7))))) (m_mapM (f := eI) (g := eI) hr21 rfl (fun x22 => T_plain (σ' := [some ((eT eI) f1), some ((eT eI) g2), some ((eT eI) h3), some (eI many4), some ((eT eI) t5), some ((eT eI) t7), some ((eT eI) l20), some (eI x22), none, none, none]) rfl (E_let (a := (.idx (.var 4) (.var 7))) (m_idxT (f := eI) (p_var (i := 4) (d := (eT eI) t5) rfl) (p_var (i := 7) (d := eI x22) rfl)) fun t23 ht23 => E_let (a := (.call 0 false [(.var 0), (.var 2)])) (m_call (n := 0) (f := (eT eI)) (evs_cons (p_var (i := 0) (d := (eT eI) f1) rfl) (evs_cons (p_var (i := 2) (d := (eT eI) h3) rfl) evs_nil)) (fun v hv => ok__law_combined f1 h3 v hv)) fun t24 ht24 => E_let (a := (.idx (.call 0 false [(.var 0), (.var 2)]) (.var 7))) (m_idxT (f := eI) ht24 (p_var (i := 7) (d := eI x22) rfl)) fun t25 ht25 => E_of (f := eI) (t := (t23 + t25)) (p_add ht23 ht25)))) fun l28 hl28 =>
  S_asg (σ' := [some ((eT eI) f1), some ((eT eI) g2), some ((eT eI) h3), some (eI many4), some ((eT eI) t5), some ((eT eI) t7), some ((eT eI) l20), none, some ((eT eI) l28), none, none]) (p_bi (b := .tuple) (evs_cons hl28 evs_nil) (b_tupleL (f := eI) l28)) rfl <|
  S_fre <|
  S_let (a := (.call 2 true [(.var 0), (.var 6)])) (m_callB (n := 2) (f := (eT eI)) (evs_cons (p_var (i := 0) (d := (eT eI) f1) rfl) (evs_cons (p_var (i := 6) (d := (eT eI) l20) rfl) evs_nil)) (fun v hv => ok_combined f1 l20 v hv) (fb_of (u_T u_I))) fun t29 ht29 =>
  S_let (a := (.call 2 true [(.var 0), (.var 5)])) (m_callB (n := 2) (f := (eT eI)) (evs_cons (p_var (i := 0) (d := (eT eI) f1) rfl) (evs_cons (p_var (i := 5) (d := (eT eI) t7) rfl) evs_nil)) (fun v hv => ok_combined f1 t7 v hv) (fb_of (u_T u_I))) fun t30 ht30 =>
  S_let (a := (.call 1 false [(.tup [(.call 2 true [(.var 0), (.var 6)]), (.call 2 true [(.var 0), (.var 5)])]), (.tup [(.var 8), (.var 0)])])) (m_call (n := 1) (evs_cons (p_tup (evs_cons ht29 (evs_cons ht30 evs_nil)) rfl) (evs_cons (p_tup (evs_cons (p_var (i := 8) (d := (eT eI) l28) rfl) (evs_cons (p_var (i := 0) (d := (eT eI) f1) rfl) evs_nil)) rfl) evs_nil)) (fun v hv => likeM_ok like_ok (f := (eP (eT eI) (eT eI))) (o1 := (okP (okT okU) (okT okU))) (a := (t29, t30)) (b := (l28, f1)) (k_P (k_T k_I) (k_T k_I)) v hv)) fun k31 hk31 =>
  S_ite (c_not (tr_B hk31)) (
  S_ret (d := eB false) p_cst rfl rfl) <|
  S_let (a := (.call 3 false [(.var 0)])) (m_call (n := 3) (f := (eT eI)) (evs_cons (p_var (i := 0) (d := (eT eI) f1) rfl) evs_nil) (fun v hv => ok_taken_back f1 v hv)) fun t32 ht32 =>
  S_let (a := (.call 3 false [(.var 1)])) (m_call (n := 3) (f := (eT eI)) (evs_cons (p_var (i := 1) (d := (eT eI) g2) rfl) evs_nil) (fun v hv => ok_taken_back g2 v hv)) fun t33 ht33 =>
  S_par (σ' := [some ((eT eI) f1), some ((eT eI) g2), some ((eT eI) h3), some (eI many4), some ((eT eI) t5), some ((eT eI) t7), some ((eT eI) l20), none, some ((eT eI) l28), some ((eT eI) t32), some ((eT eI) t33)]) (evs_cons ht32 (evs_cons ht33 evs_nil)) rfl <|
  S_fre <|
  S_let (a := (.call 0 true [(.var 0), (.var 9)])) (m_callB (n := 0) (f := (eT eI)) (evs_cons (p_var (i := 0) (d := (eT eI) f1) rfl) (evs_cons (p_var (i := 9) (d := (eT eI) t32) rfl) evs_nil)) (fun v hv => ok__law_combined f1 t32 v hv) (fb_of (u_T u_I))) fun t34 ht34 =>
  S_let (a := (.call 0 true [(.var 1), (.var 10)])) (m_callB (n := 0) (f := (eT eI)) (evs_cons (p_var (i := 1) (d := (eT eI) g2) rfl) (evs_cons (p_var (i := 10) (d := (eT eI) t33) rfl) evs_nil)) (fun v hv => ok__law_combined g2 t33 v hv) (fb_of (u_T u_I))) fun t35 ht35 =>
  S_let (a := (.call 1 false [(.tup [(.call 0 true [(.var 0), (.var 9)]), (.call 0 true [(.var 1), (.var 10)])]), (.tup [(.var 5), (.var 5)])])) (m_call (n := 1) (evs_cons (p_tup (evs_cons ht34 (evs_cons ht35 evs_nil)) rfl) (evs_cons (p_tup (evs_cons (p_var (i := 5) (d := (eT eI) t7) rfl) (evs_cons (p_var (i := 5) (d := (eT eI) t7) rfl) evs_nil)) rfl) evs_nil)) (fun v hv => likeM_ok like_ok (f := (eP (eT eI) (eT eI))) (o1 := (okP (okT okU) (okT okU))) (a := (t34, t35)) (b := (t7, t7)) (k_P (k_T k_I) (k_T k_I)) v hv)) fun k36 hk36 =>
  S_ite (c_not (tr_B hk36)) (
  S_ret (d := eB false) p_cst rfl rfl) <|
  S_let (a := (.call 3 false [(.var 4)])) (m_call (n := 3) (f := (eT eI)) (evs_cons (p_var (i := 4) (d := (eT eI) t5) rfl) evs_nil) (fun v hv => ok_taken_back t5 v hv)) fun t37 ht37 =>
  S_let (a := (.call 3 true [(.var 9)])) (m_callB (n := 3) (f := (eT eI)) (evs_cons (p_var (i := 9) (d := (eT eI) t32) rfl) evs_nil) (fun v hv => ok_taken_back t32 v hv) (fb_of (u_T u_I))) fun t38 ht38 =>
  S_let (a := (.call 0 true [(.var 9), (.var 10)])) (m_callB (n := 0) (f := (eT eI)) (evs_cons (p_var (i := 9) (d := (eT eI) t32) rfl) (evs_cons (p_var (i := 10) (d := (eT eI) t33) rfl) evs_nil)) (fun v hv => ok__law_combined t32 t33 v hv) (fb_of (u_T u_I))) fun t39 ht39 =>
  S_retM (f := eB) (m_call (n := 1) (evs_cons (p_tup (evs_cons ht37 (evs_cons ht38 evs_nil)) rfl) (evs_cons (p_tup (evs_cons ht39 (evs_cons (p_var (i := 0) (d := (eT eI) f1) rfl) evs_nil)) rfl) evs_nil)) (fun v hv => likeM_ok like_ok (f := (eP (eT eI) (eT eI))) (o1 := (okP (okT okU) (okT okU))) (a := (t37, t38)) (b := (t39, f1)) (k_P (k_T k_I) (k_T k_I)) v hv)) (fun _ => rfl))
def t__law_together_right (pairs1 : List ((Int × Int))) (cut2 : Int) : Option (Bool) :=
  (forN (fun (x3 : (Int × Int)) (s4 : Int) =>
  (mulM s4 x3.2).bind fun t7 =>
  (t__law_gcd s4 x3.2).bind fun t8 =>
  (fdivM t7 t8).bind fun t9 =>
  some t9) pairs1 (1 : Int)).bind fun (s10 : Int) =>
  lt (none : Option ((Int × Int))) fun due13 =>
  (idxM pairs1 (0 : Int)).bind fun t14 =>
  (idxM pairs1 (0 : Int)).bind fun t15 =>
  (rng3M t14.1 s10 t15.2).bind fun r16 =>
  (forN (fun (x17 : Int) (s18 : Option ((Int × Int))) =>
  ((bif s18.isNone then ((mapM' (fun (x20 : (Int × Int)) => (((modM x17 x20.2).bind fun t21 => some (decide (t21 = x20.1)))).bind fun y22 => some (some y22)) pairs1).bind fun l24 => some (l24.all id)) else some false)).bind fun c25 =>
  bif c25 then (
  lt (some (x17, s10)) fun due26 =>
  some due26)
  else
  some s18) r16 due13).bind fun (s27 : Option ((Int × Int))) =>
  (t_together pairs1).bind fun t29 =>
  (t_together pairs1.reverse).bind fun t30 =>
  (likeM (okP (okO (okP okU okU)) (okO (okP okU okU))) (t29, t30) (s27, s27)).bind fun k31 =>
  bif (!k31) then (
  some false)
  else
  bif ((decide (cut2 = (0 : Int))) || (decide ((pairs1.length : Int) ≤ cut2))) then (
  some true)
  else
  (t_together (cutT pairs1 none (some cut2))).bind fun t32 =>
  (t_together (cutT pairs1 (some cut2) none)).bind fun t33 =>
  lt [t32, t33] fun parts34 =>
  (idxM parts34 (0 : Int)).bind fun t35 =>
  ((bif t35.isNone then some true else ((idxM parts34 (1 : Int)).bind fun t36 => some t36.isNone))).bind fun c37 =>
  bif c37 then (
  some s27.isNone)
  else
  (idxM parts34 (0 : Int)).bind fun t38 =>
  (t38).bind fun o39 =>
  (idxM parts34 (1 : Int)).bind fun t40 =>
  (t40).bind fun o41 =>
  (bif (decide ((1000 : Int) < (max2T o39.2 o41.2))) then some true else ((unsM parts34).bind fun o42 => (t_together o42).bind fun t43 => (likeM (okO (okP okU okU)) t43 s27).bind fun k44 => some k44))
theorem ok__law_together_right (pairs1 : List ((Int × Int))) (cut2 : Int) : ∀ v, t__law_together_right pairs1 cut2 = some v → s__law_together_right [(eT (eP eI eI)) pairs1, eI cut2] = some (eB v) := run_ok (Γ := g__law_together_right) (W := 1000000) (n := I__law_together_right.N.length) (body := b__law_together_right) (ds := [(eT (eP eI eI)) pairs1, eI cut2])
  (show Sp g__law_together_right 1000000 b__law_together_right [some ((eT (eP eI eI)) pairs1), some (eI cut2), none, none, none, none, none, none] (t__law_together_right pairs1 cut2) (Qt eB) by
  unfold t__law_together_right b__law_together_right; exact
  S_asg (σ' := [some ((eT (eP eI eI)) pairs1), some (eI cut2), some (eI (1 : Int)), none, none, none, none, none]) p_cst rfl <|
  S_for (f := (eP eI eI)) (fun (v : Int) (σ : Sg) => ∃ (g3 g4 : Option D), σ = [some ((eT (eP eI eI)) pairs1), some (eI cut2), some (eI v), g3, g4, none, none, none]) (p_var (i := 0) (d := (eT (eP eI eI)) pairs1) rfl) rfl ⟨none, none, rfl⟩ (fun x3 s4 σ h => by
  obtain ⟨g5, g6, rfl⟩ := h; exact ⟨[some ((eT (eP eI eI)) pairs1), some (eI cut2), some (eI s4), some (eI x3.1), some (eI x3.2), none, none, none], rfl, 
  S_let (a := (.bin .mul (.var 2) (.var 4))) (m_mul (p_var (i := 2) (d := eI s4) rfl) (p_var (i := 4) (d := eI x3.2) rfl)) fun t7 ht7 =>
  S_let (a := (.call 0 true [(.var 2), (.var 4)])) (m_callB (n := 0) (f := eI) (evs_cons (p_var (i := 2) (d := eI s4) rfl) (evs_cons (p_var (i := 4) (d := eI x3.2) rfl) evs_nil)) (fun v hv => ok__law_gcd s4 x3.2 v hv) (fb_of u_I)) fun t8 ht8 =>
  S_let (a := (.bin .fdiv (.bin .mul (.var 2) (.var 4)) (.call 0 true [(.var 2), (.var 4)]))) (m_fdiv ht7 ht8) fun t9 ht9 =>
  S_asg (σ' := [some ((eT (eP eI eI)) pairs1), some (eI cut2), some (eI t9), some (eI x3.1), some (eI x3.2), none, none, none]) ht9 rfl <|
  S_nil (q_N ⟨some (eI x3.1), some (eI x3.2), rfl⟩)⟩) (fun s10 σ h => by
  obtain ⟨g11, g12, rfl⟩ := h; exact
  S_name (f := (eO (eP eI eI))) (e := (.cst .none)) p_cst fun due13 hdue13 =>
  S_asg (σ' := [some ((eT (eP eI eI)) pairs1), some (eI cut2), some (eI s10), g11, g12, some ((eO (eP eI eI)) due13), none, none]) hdue13 rfl <|
  S_let (a := (.idx (.var 0) (.cst (.int 0)))) (m_idxT (f := (eP eI eI)) (p_var (i := 0) (d := (eT (eP eI eI)) pairs1) rfl) p_cst) fun t14 ht14 =>
  S_let (a := (.idx (.var 0) (.cst (.int 0)))) (m_idxT (f := (eP eI eI)) (p_var (i := 0) (d := (eT (eP eI eI)) pairs1) rfl) p_cst) fun t15 ht15 =>
  S_let (a := (.bi .range [(.idx (.idx (.var 0) (.cst (.int 0))) (.cst (.int 0))), (.var 2), (.idx (.idx (.var 0) (.cst (.int 0))) (.cst (.int 1)))])) (m_bi (b := .range) (f := (eL eI)) (evs_cons (p_idx ht14 p_cst rfl) (evs_cons (p_var (i := 2) (d := eI s10) rfl) (evs_cons (p_idx ht15 p_cst rfl) evs_nil))) (b_range3 t14.1 s10 t15.2)) fun r16 hr16 =>
  S_for (f := eI) (fun (v : Option ((Int × Int))) (σ : Sg) => ∃ (g3 : Option D), σ = [some ((eT (eP eI eI)) pairs1), some (eI cut2), some (eI s10), g3, g12, some ((eO (eP eI eI)) v), none, none]) hr16 rfl ⟨g11, rfl⟩ (fun x17 s18 σ h => by
  obtain ⟨g19, rfl⟩ := h; exact ⟨[some ((eT (eP eI eI)) pairs1), some (eI cut2), some (eI s10), some (eI x17), g12, some ((eO (eP eI eI)) s18), none, none], rfl, 
  S_letC (a := (.and (.cmp .is (.var 5) (.cst .none)) (.bi .all [(.comp (.many [(.one 6), (.one 4)]) [("left", 6), ("m", 4)] (.var 0) [] (.cmp .eq (.bin .mod (.bi .int [(.var 3)]) (.var 4)) (.var 6)))]))) (C_and (tr_B (p_cmp (p_var (i := 5) (d := (eO (eP eI eI)) s18) rfl) p_cst (cmp_isO (fun _ => rfl) s18))) (C_let (a := (.comp (.many [(.one 6), (.one 4)]) [("left", 6), ("m", 4)] (.var 0) [] (.cmp .eq (.bin .mod (.bi .int [(.var 3)]) (.var 4)) (.var 6)))) (m_mapM (f := (eP eI eI)) (g := eB) (p_var (i := 0) (d := (eT (eP eI eI)) pairs1) rfl) rfl (fun x20 => T_plain (σ' := [some ((eT (eP eI eI)) pairs1), some (eI cut2), some (eI s10), some (eI x17), some (eI x20.2), some ((eO (eP eI eI)) s18), some (eI x20.1), none]) rfl (E_let (a := (.bin .mod (.bi .int [(.var 3)]) (.var 4))) (m_mod (p_bi (b := .int) (evs_cons (p_var (i := 3) (d := eI x17) rfl) evs_nil) (b_intI x17)) (p_var (i := 4) (d := eI x20.2) rfl)) fun t21 ht21 => E_of (f := eB) (t := (decide (t21 = x20.1))) (p_eqI ht21 (p_var (i := 6) (d := eI x20.1) rfl))))) fun l24 hl24 => C_of (tr_B (p_bi (b := .all) (evs_cons hl24 evs_nil) (b_all l24))))) fun c25 hc25 =>
  S_ite hc25 (
  S_name (f := (eO (eP eI eI))) (e := (.tup [(.var 3), (.var 2)])) (p_tup (evs_cons (p_var (i := 3) (d := eI x17) rfl) (evs_cons (p_var (i := 2) (d := eI s10) rfl) evs_nil)) rfl) fun due26 hdue26 =>
  S_asg (σ' := [some ((eT (eP eI eI)) pairs1), some (eI cut2), some (eI s10), some (eI x17), g12, some ((eO (eP eI eI)) due26), none, none]) hdue26 rfl <|
  S_nil (q_N ⟨some (eI x17), rfl⟩)) <|
  S_nil (q_N ⟨some (eI x17), rfl⟩)⟩) (fun s27 σ h => by
  obtain ⟨g28, rfl⟩ := h; exact
  S_fre <|
  S_let (a := (.call 2 false [(.var 0)])) (m_call (n := 2) (f := (eO (eP eI eI))) (evs_cons (p_var (i := 0) (d := (eT (eP eI eI)) pairs1) rfl) evs_nil) (fun v hv => ok_together pairs1 v hv)) fun t29 ht29 =>
  S_let (a := (.call 2 false [(.rev (.var 0))])) (m_call (n := 2) (f := (eO (eP eI eI))) (evs_cons (p_revT (f := (eP eI eI)) (p_var (i := 0) (d := (eT (eP eI eI)) pairs1) rfl)) evs_nil) (fun v hv => ok_together pairs1.reverse v hv)) fun t30 ht30 =>
  S_let (a := (.call 1 false [(.tup [(.call 2 false [(.var 0)]), (.call 2 false [(.rev (.var 0))])]), (.tup [(.var 5), (.var 5)])])) (m_call (n := 1) (evs_cons (p_tup (evs_cons ht29 (evs_cons ht30 evs_nil)) rfl) (evs_cons (p_tup (evs_cons (p_var (i := 5) (d := (eO (eP eI eI)) s27) rfl) (evs_cons (p_var (i := 5) (d := (eO (eP eI eI)) s27) rfl) evs_nil)) rfl) evs_nil)) (fun v hv => likeM_ok like_ok (f := (eP (eO (eP eI eI)) (eO (eP eI eI)))) (o1 := (okP (okO (okP okU okU)) (okO (okP okU okU)))) (a := (t29, t30)) (b := (s27, s27)) (k_P (k_O (k_P k_I k_I)) (k_O (k_P k_I k_I))) v hv)) fun k31 hk31 =>
  S_ite (c_not (tr_B hk31)) (
  S_ret (d := eB false) p_cst rfl rfl) <|
  S_ite (c_or (tr_B (p_eqI (p_var (i := 1) (d := eI cut2) rfl) p_cst)) (tr_B (p_ge (p_var (i := 1) (d := eI cut2) rfl) (p_bi (b := .len) (evs_cons (p_var (i := 0) (d := (eT (eP eI eI)) pairs1) rfl) evs_nil) (b_lenT (f := (eP eI eI)) pairs1))))) (
  S_ret (d := eB true) p_cst rfl rfl) <|
  S_let (a := (.call 2 false [(.sl (.var 0) [] [(.var 1)])])) (m_call (n := 2) (f := (eO (eP eI eI))) (evs_cons (p_sl01 (p_var (i := 0) (d := (eT (eP eI eI)) pairs1) rfl) (p_var (i := 1) (d := eI cut2) rfl) (slT (f := (eP eI eI)) pairs1 none (some cut2))) evs_nil) (fun v hv => ok_together (cutT pairs1 none (some cut2)) v hv)) fun t32 ht32 =>
  S_let (a := (.call 2 false [(.sl (.var 0) [(.var 1)] [])])) (m_call (n := 2) (f := (eO (eP eI eI))) (evs_cons (p_sl10 (p_var (i := 0) (d := (eT (eP eI eI)) pairs1) rfl) (p_var (i := 1) (d := eI cut2) rfl) (slT (f := (eP eI eI)) pairs1 (some cut2) none)) evs_nil) (fun v hv => ok_together (cutT pairs1 (some cut2) none) v hv)) fun t33 ht33 =>
  S_name (f := (eL (eO (eP eI eI)))) (e := (.lst [(.call 2 false [(.sl (.var 0) [] [(.var 1)])]), (.call 2 false [(.sl (.var 0) [(.var 1)] [])])])) (p_lstL (xs := [t32, t33]) (f := (eO (eP eI eI))) (evs_cons ht32 (evs_cons ht33 evs_nil)) rfl) fun parts34 hparts34 =>
  S_asg (σ' := [some ((eT (eP eI eI)) pairs1), some (eI cut2), some (eI s10), g28, g12, some ((eO (eP eI eI)) s27), none, some ((eL (eO (eP eI eI))) parts34)]) hparts34 rfl <|
  S_let (a := (.idx (.var 7) (.cst (.int 0)))) (m_idxL (f := (eO (eP eI eI))) (p_var (i := 7) (d := (eL (eO (eP eI eI))) parts34) rfl) p_cst) fun t35 ht35 =>
  S_letC (a := (.or (.cmp .is (.idx (.var 7) (.cst (.int 0))) (.cst .none)) (.cmp .is (.idx (.var 7) (.cst (.int 1))) (.cst .none)))) (C_or (tr_B (p_cmp ht35 p_cst (cmp_isO (fun _ => rfl) t35))) (C_let (a := (.idx (.var 7) (.cst (.int 1)))) (m_idxL (f := (eO (eP eI eI))) (p_var (i := 7) (d := (eL (eO (eP eI eI))) parts34) rfl) p_cst) fun t36 ht36 => C_of (tr_B (p_cmp ht36 p_cst (cmp_isO (fun _ => rfl) t36))))) fun c37 hc37 =>
  S_ite hc37 (
  S_ret (d := eB s27.isNone) (p_cmp (p_var (i := 5) (d := (eO (eP eI eI)) s27) rfl) p_cst (cmp_isO (fun _ => rfl) s27)) rfl rfl) <|
  S_let (a := (.idx (.var 7) (.cst (.int 0)))) (m_idxL (f := (eO (eP eI eI))) (p_var (i := 7) (d := (eL (eO (eP eI eI))) parts34) rfl) p_cst) fun t38 ht38 =>
  S_let (a := (.idx (.var 7) (.cst (.int 0)))) (m_unO (f := (eP eI eI)) ht38) fun o39 ho39 =>
  S_let (a := (.idx (.var 7) (.cst (.int 1)))) (m_idxL (f := (eO (eP eI eI))) (p_var (i := 7) (d := (eL (eO (eP eI eI))) parts34) rfl) p_cst) fun t40 ht40 =>
  S_let (a := (.idx (.var 7) (.cst (.int 1)))) (m_unO (f := (eP eI eI)) ht40) fun o41 ho41 =>
  S_retM (f := eB) (m_orB (p_gt (p_bi (b := .max2) (evs_cons (p_idx ho39 p_cst rfl) (evs_cons (p_idx ho41 p_cst rfl) evs_nil)) (b_max2 o39.2 o41.2)) p_cst) (E_let (a := (.var 7)) (m_unsL (f := (eP eI eI)) (p_var (i := 7) (d := (eL (eO (eP eI eI))) parts34) rfl)) fun o42 ho42 => E_let (a := (.call 2 false [(.bi .tuple [(.var 7)])])) (m_call (n := 2) (f := (eO (eP eI eI))) (evs_cons (p_bi (b := .tuple) (evs_cons ho42 evs_nil) (b_tupleL (f := (eP eI eI)) o42)) evs_nil) (fun v hv => ok_together o42 v hv)) fun t43 ht43 => E_let (a := (.call 1 false [(.call 2 false [(.bi .tuple [(.var 7)])]), (.var 5)])) (m_call (n := 1) (evs_cons ht43 (evs_cons (p_var (i := 5) (d := (eO (eP eI eI)) s27) rfl) evs_nil)) (fun v hv => likeM_ok like_ok (f := (eO (eP eI eI))) (o1 := (okO (okP okU okU))) (a := t43) (b := s27) (k_O (k_P k_I k_I)) v hv)) fun k44 hk44 => E_of hk44)) (fun _ => rfl))))
def t_law (row : List Int) : Option Bool :=
  (idxM row (0 : Int)).bind fun t1 =>
  (modM t1 (30 : Int)).bind fun t2 =>
  ltI ((1 : Int) + t2) fun a3 =>
  (idxM row (1 : Int)).bind fun t4 =>
  (modM t4 (30 : Int)).bind fun t5 =>
  ltI ((1 : Int) + t5) fun b6 =>
  (t__law_gcd a3 b6).bind fun t7 =>
  (fdivM a3 t7).bind fun t8 =>
  (fdivM b6 t7).bind fun t9 =>
  (idxM row (2 : Int)).bind fun t10 =>
  (modM t10 (2000 : Int)).bind fun t11 =>
  (idxM row (3 : Int)).bind fun t12 =>
  (modM t12 (4 : Int)).bind fun t13 =>
  (t__law_made_right t8 t9 t11 ((1 : Int) + t13)).bind fun t14 =>
  bif (!t14) then (
  some false)
  else
  (idxM row (4 : Int)).bind fun t15 =>
  (modM t15 (1000001 : Int)).bind fun t16 =>
  (idxM row (5 : Int)).bind fun t17 =>
  (modM t17 (2 : Int)).bind fun t18 =>
  (mulM (500 : Int) t18).bind fun t19 =>
  ltI (t16 - t19) fun one20 =>
  (idxM row (6 : Int)).bind fun t21 =>
  (modM t21 (1000001 : Int)).bind fun t22 =>
  (idxM row (5 : Int)).bind fun t23 =>
  (fdivM t23 (2 : Int)).bind fun t24 =>
  (modM t24 (2 : Int)).bind fun t25 =>
  (mulM (500 : Int) t25).bind fun t26 =>
  ltI (t22 - t26) fun other27 =>
  (idxM row (7 : Int)).bind fun t28 =>
  (modM t28 (2001 : Int)).bind fun t29 =>
  (t__law_shared_right one20 other27 (t29 - (1000 : Int))).bind fun t30 =>
  bif (!t30) then (
  some false)
  else
  (idxM row (8 : Int)).bind fun t31 =>
  (modM t31 (10000 : Int)).bind fun t32 =>
  (idxM row (9 : Int)).bind fun t33 =>
  (modM t33 (100 : Int)).bind fun t34 =>
  (t__law_products_right ((1 : Int) + t32) ((1 : Int) + t34)).bind fun t35 =>
  bif (!t35) then (
  some false)
  else
  (idxM row (10 : Int)).bind fun t36 =>
  (modM t36 (30 : Int)).bind fun t37 =>
  ltI ((1 : Int) + t37) fun many38 =>
  lt ([] : List (List Int)) fun rows39 =>
  (rng1M (3 : Int)).bind fun r40 =>
  (forN (fun (x41 : Int) (s42 : List (List Int)) =>
  (idxM row ((11 : Int) + x41)).bind fun t45 =>
  (modM t45 (2 : Int)).bind fun t46 =>
  (mulM (2 : Int) t46).bind fun t47 =>
  ltI ((1 : Int) - t47) fun first48 =>
  (rng1M (many38 - (1 : Int))).bind fun r59 =>
  (mapM' (fun (x60 : Int) => (((mulM (30 : Int) x41).bind fun t61 => (idxM row (((14 : Int) + t61) + x60)).bind fun t62 => (modM t62 (11 : Int)).bind fun t63 => some (t63 - (5 : Int)))).bind fun y64 => some (some y64)) r59).bind fun l66 =>
  (catM [first48] l66).bind fun t67 =>
  (appM s42 t67).bind fun rows58 =>
  some rows58) r40 rows39).bind fun (s68 : List (List Int)) =>
  (idxM s68 (0 : Int)).bind fun t71 =>
  (idxM s68 (1 : Int)).bind fun t72 =>
  (idxM s68 (2 : Int)).bind fun t73 =>
  (t__law_rows_right t71 t72 t73).bind fun t74 =>
  bif (!t74) then (
  some false)
  else
  lt ([] : List ((Int × Int))) fun pairs75 =>
  (idxM row (110 : Int)).bind fun t76 =>
  (modM t76 (4 : Int)).bind fun t77 =>
  (rng1M ((1 : Int) + t77)).bind fun r78 =>
  (forN (fun (x79 : Int) (s80 : List ((Int × Int))) =>
  (idxM row ((111 : Int) + x79)).bind fun t83 =>
  (modM t83 (12 : Int)).bind fun t84 =>
  ltI ((1 : Int) + t84) fun m85 =>
  (idxM row ((115 : Int) + x79)).bind fun t89 =>
  (modM t89 m85).bind fun t90 =>
  (appM s80 (t90, m85)).bind fun pairs88 =>
  some pairs88) r78 pairs75).bind fun (s91 : List ((Int × Int))) =>
  (idxM row (120 : Int)).bind fun t94 =>
  (modM t94 (2 : Int)).bind fun t95 =>
  (bif (decide (t95 = (0 : Int))) then (
  (mapM' (fun (x96 : (Int × Int)) => (((idxM row (121 : Int)).bind fun t97 => (modM t97 x96.2).bind fun t98 => some (t98, x96.2))).bind fun y99 => some (some y99)) s91).bind fun l101 =>
  some l101)
  else (
  some s91)).bind fun (s102 : List ((Int × Int))) =>
  (idxM row (122 : Int)).bind fun t103 =>
  (modM t103 (4 : Int)).bind fun t104 =>
  t__law_together_right s102 t104
theorem sp_law (ns row : List Int) : Sp g_law 1000000 (b_law.drop 1) [some (eZ ns), some ((eL eI) row), none, none, none, none, none, none, none, none, none, none, none, none, none] (t_law row) (Qt eB) := by
  show Sp g_law 1000000 [
  .par [2, 3] [(.bin .add (.cst (.int 1)) (.bin .mod (.bi .int [(.idx (.var 1) (.cst (.int 0)))]) (.cst (.int 30)))), (.bin .add (.cst (.int 1)) (.bin .mod (.bi .int [(.idx (.var 1) (.cst (.int 1)))]) (.cst (.int 30))))],
  .asg (.one 4) (.call 1 true [(.var 2), (.var 3)]),
  .par [2, 3] [(.bin .fdiv (.var 2) (.var 4)), (.bin .fdiv (.var 3) (.var 4))],
  .ite (.not (.call 2 true [(.var 2), (.var 3), (.bin .mod (.bi .int [(.idx (.var 1) (.cst (.int 2)))]) (.cst (.int 2000))), (.bin .add (.cst (.int 1)) (.bin .mod (.bi .int [(.idx (.var 1) (.cst (.int 3)))]) (.cst (.int 4))))]))
    [.ret true (.cst (.bool false))]
    [],
  .par [5, 6] [(.bin .sub (.bin .mod (.bi .int [(.idx (.var 1) (.cst (.int 4)))]) (.cst (.int 1000001))) (.bin .mul (.cst (.int 500)) (.bin .mod (.bi .int [(.idx (.var 1) (.cst (.int 5)))]) (.cst (.int 2))))), (.bin .sub (.bin .mod (.bi .int [(.idx (.var 1) (.cst (.int 6)))]) (.cst (.int 1000001))) (.bin .mul (.cst (.int 500)) (.bin .mod (.bin .fdiv (.bi .int [(.idx (.var 1) (.cst (.int 5)))]) (.cst (.int 2))) (.cst (.int 2)))))],
  .ite (.not (.call 3 true [(.var 5), (.var 6), (.bin .sub (.bin .mod (.bi .int [(.idx (.var 1) (.cst (.int 7)))]) (.cst (.int 2001))) (.cst (.int 1000)))]))
    [.ret true (.cst (.bool false))]
    [],
  .ite (.not (.call 4 false [(.bin .add (.cst (.int 1)) (.bin .mod (.bi .int [(.idx (.var 1) (.cst (.int 8)))]) (.cst (.int 10000)))), (.bin .add (.cst (.int 1)) (.bin .mod (.bi .int [(.idx (.var 1) (.cst (.int 9)))]) (.cst (.int 100))))]))
    [.ret true (.cst (.bool false))]
    [],
  .par [7, 8] [(.bin .add (.cst (.int 1)) (.bin .mod (.bi .int [(.idx (.var 1) (.cst (.int 10)))]) (.cst (.int 30)))), (.lst [])],
  .loop [] (.one 9) (.bi .range [(.cst (.int 3))])
    [.asg (.one 10) (.bin .sub (.cst (.int 1)) (.bin .mul (.cst (.int 2)) (.bin .mod (.bi .int [(.idx (.var 1) (.bin .add (.cst (.int 11)) (.var 9)))]) (.cst (.int 2))))),
    .fre 10,
    .app 8 (.bin .add (.tup [(.var 10)]) (.bi .tuple [(.comp (.one 11) [("j", 11)] (.bi .range [(.bin .sub (.var 7) (.cst (.int 1)))]) [] (.bin .sub (.bin .mod (.bi .int [(.idx (.var 1) (.bin .add (.bin .add (.cst (.int 14)) (.bin .mul (.cst (.int 30)) (.var 9))) (.var 11)))]) (.cst (.int 11))) (.cst (.int 5))))]))],
  .ite (.not (.call 5 false [(.idx (.var 8) (.cst (.int 0))), (.idx (.var 8) (.cst (.int 1))), (.idx (.var 8) (.cst (.int 2)))]))
    [.ret true (.cst (.bool false))]
    [],
  .asg (.one 12) (.lst []),
  .loop [] (.one 9) (.bi .range [(.bin .add (.cst (.int 1)) (.bin .mod (.bi .int [(.idx (.var 1) (.cst (.int 110)))]) (.cst (.int 4))))])
    [.asg (.one 13) (.bin .add (.cst (.int 1)) (.bin .mod (.bi .int [(.idx (.var 1) (.bin .add (.cst (.int 111)) (.var 9)))]) (.cst (.int 12)))),
    .fre 13,
    .app 12 (.tup [(.bin .mod (.bi .int [(.idx (.var 1) (.bin .add (.cst (.int 115)) (.var 9)))]) (.var 13)), (.var 13)])],
  .ite (.cmp .eq (.bin .mod (.bi .int [(.idx (.var 1) (.cst (.int 120)))]) (.cst (.int 2))) (.cst (.int 0)))
    [.asg (.one 12) (.comp (.many [(.one 14), (.one 13)]) [("r", 14), ("m", 13)] (.var 12) [] (.tup [(.bin .mod (.bi .int [(.idx (.var 1) (.cst (.int 121)))]) (.var 13)), (.var 13)]))]
    [],
  .ret true (.call 6 false [(.bi .tuple [(.var 12)]), (.bin .mod (.bi .int [(.idx (.var 1) (.cst (.int 122)))]) (.cst (.int 4)))])] [some (eZ ns), some ((eL eI) row), none, none, none, none, none, none, none, none, none, none, none, none, none] (t_law row) (Qt eB)
  unfold t_law; exact
  S_let (a := (.idx (.var 1) (.cst (.int 0)))) (m_idxL (f := eI) (p_var (i := 1) (d := (eL eI) row) rfl) p_cst) fun t1 ht1 =>
  S_let (a := (.bin .mod (.bi .int [(.idx (.var 1) (.cst (.int 0)))]) (.cst (.int 30)))) (m_mod (p_bi (b := .int) (evs_cons ht1 evs_nil) (b_intI t1)) p_cst) fun t2 ht2 =>
  S_nameI (e := (.bin .add (.cst (.int 1)) (.bin .mod (.bi .int [(.idx (.var 1) (.cst (.int 0)))]) (.cst (.int 30))))) (p_add p_cst ht2) fun a3 ha3 =>
  S_let (a := (.idx (.var 1) (.cst (.int 1)))) (m_idxL (f := eI) (p_var (i := 1) (d := (eL eI) row) rfl) p_cst) fun t4 ht4 =>
  S_let (a := (.bin .mod (.bi .int [(.idx (.var 1) (.cst (.int 1)))]) (.cst (.int 30)))) (m_mod (p_bi (b := .int) (evs_cons ht4 evs_nil) (b_intI t4)) p_cst) fun t5 ht5 =>
  S_nameI (e := (.bin .add (.cst (.int 1)) (.bin .mod (.bi .int [(.idx (.var 1) (.cst (.int 1)))]) (.cst (.int 30))))) (p_add p_cst ht5) fun b6 hb6 =>
  S_par (σ' := [some (eZ ns), some ((eL eI) row), some (eI a3), some (eI b6), none, none, none, none, none, none, none, none, none, none, none]) (evs_cons ha3 (evs_cons hb6 evs_nil)) rfl <|
  S_let (a := (.call 1 true [(.var 2), (.var 3)])) (m_callB (n := 1) (f := eI) (evs_cons (p_var (i := 2) (d := eI a3) rfl) (evs_cons (p_var (i := 3) (d := eI b6) rfl) evs_nil)) (fun v hv => ok__law_gcd a3 b6 v hv) (fb_of u_I)) fun t7 ht7 =>
  S_asg (σ' := [some (eZ ns), some ((eL eI) row), some (eI a3), some (eI b6), some (eI t7), none, none, none, none, none, none, none, none, none, none]) ht7 rfl <|
  S_let (a := (.bin .fdiv (.var 2) (.var 4))) (m_fdiv (p_var (i := 2) (d := eI a3) rfl) (p_var (i := 4) (d := eI t7) rfl)) fun t8 ht8 =>
  S_let (a := (.bin .fdiv (.var 3) (.var 4))) (m_fdiv (p_var (i := 3) (d := eI b6) rfl) (p_var (i := 4) (d := eI t7) rfl)) fun t9 ht9 =>
  S_par (σ' := [some (eZ ns), some ((eL eI) row), some (eI t8), some (eI t9), some (eI t7), none, none, none, none, none, none, none, none, none, none]) (evs_cons ht8 (evs_cons ht9 evs_nil)) rfl <|
  S_let (a := (.idx (.var 1) (.cst (.int 2)))) (m_idxL (f := eI) (p_var (i := 1) (d := (eL eI) row) rfl) p_cst) fun t10 ht10 =>
  S_let (a := (.bin .mod (.bi .int [(.idx (.var 1) (.cst (.int 2)))]) (.cst (.int 2000)))) (m_mod (p_bi (b := .int) (evs_cons ht10 evs_nil) (b_intI t10)) p_cst) fun t11 ht11 =>
  S_let (a := (.idx (.var 1) (.cst (.int 3)))) (m_idxL (f := eI) (p_var (i := 1) (d := (eL eI) row) rfl) p_cst) fun t12 ht12 =>
  S_let (a := (.bin .mod (.bi .int [(.idx (.var 1) (.cst (.int 3)))]) (.cst (.int 4)))) (m_mod (p_bi (b := .int) (evs_cons ht12 evs_nil) (b_intI t12)) p_cst) fun t13 ht13 =>
  S_let (a := (.call 2 true [(.var 2), (.var 3), (.bin .mod (.bi .int [(.idx (.var 1) (.cst (.int 2)))]) (.cst (.int 2000))), (.bin .add (.cst (.int 1)) (.bin .mod (.bi .int [(.idx (.var 1) (.cst (.int 3)))]) (.cst (.int 4))))])) (m_callB (n := 2) (f := eB) (evs_cons (p_var (i := 2) (d := eI t8) rfl) (evs_cons (p_var (i := 3) (d := eI t9) rfl) (evs_cons ht11 (evs_cons (p_add p_cst ht13) evs_nil)))) (fun v hv => ok__law_made_right t8 t9 t11 ((1 : Int) + t13) v hv) (fb_of u_B)) fun t14 ht14 =>
  S_ite (c_not (tr_B ht14)) (
  S_ret (d := eB false) p_cst rfl rfl) <|
  S_let (a := (.idx (.var 1) (.cst (.int 4)))) (m_idxL (f := eI) (p_var (i := 1) (d := (eL eI) row) rfl) p_cst) fun t15 ht15 =>
  S_let (a := (.bin .mod (.bi .int [(.idx (.var 1) (.cst (.int 4)))]) (.cst (.int 1000001)))) (m_mod (p_bi (b := .int) (evs_cons ht15 evs_nil) (b_intI t15)) p_cst) fun t16 ht16 =>
  S_let (a := (.idx (.var 1) (.cst (.int 5)))) (m_idxL (f := eI) (p_var (i := 1) (d := (eL eI) row) rfl) p_cst) fun t17 ht17 =>
  S_let (a := (.bin .mod (.bi .int [(.idx (.var 1) (.cst (.int 5)))]) (.cst (.int 2)))) (m_mod (p_bi (b := .int) (evs_cons ht17 evs_nil) (b_intI t17)) p_cst) fun t18 ht18 =>
  S_let (a := (.bin .mul (.cst (.int 500)) (.bin .mod (.bi .int [(.idx (.var 1) (.cst (.int 5)))]) (.cst (.int 2))))) (m_mul p_cst ht18) fun t19 ht19 =>
  S_nameI (e := (.bin .sub (.bin .mod (.bi .int [(.idx (.var 1) (.cst (.int 4)))]) (.cst (.int 1000001))) (.bin .mul (.cst (.int 500)) (.bin .mod (.bi .int [(.idx (.var 1) (.cst (.int 5)))]) (.cst (.int 2)))))) (p_sub ht16 ht19) fun one20 hone20 =>
  S_let (a := (.idx (.var 1) (.cst (.int 6)))) (m_idxL (f := eI) (p_var (i := 1) (d := (eL eI) row) rfl) p_cst) fun t21 ht21 =>
  S_let (a := (.bin .mod (.bi .int [(.idx (.var 1) (.cst (.int 6)))]) (.cst (.int 1000001)))) (m_mod (p_bi (b := .int) (evs_cons ht21 evs_nil) (b_intI t21)) p_cst) fun t22 ht22 =>
  S_let (a := (.idx (.var 1) (.cst (.int 5)))) (m_idxL (f := eI) (p_var (i := 1) (d := (eL eI) row) rfl) p_cst) fun t23 ht23 =>
  S_let (a := (.bin .fdiv (.bi .int [(.idx (.var 1) (.cst (.int 5)))]) (.cst (.int 2)))) (m_fdiv (p_bi (b := .int) (evs_cons ht23 evs_nil) (b_intI t23)) p_cst) fun t24 ht24 =>
  S_let (a := (.bin .mod (.bin .fdiv (.bi .int [(.idx (.var 1) (.cst (.int 5)))]) (.cst (.int 2))) (.cst (.int 2)))) (m_mod ht24 p_cst) fun t25 ht25 =>
  S_let (a := (.bin .mul (.cst (.int 500)) (.bin .mod (.bin .fdiv (.bi .int [(.idx (.var 1) (.cst (.int 5)))]) (.cst (.int 2))) (.cst (.int 2))))) (m_mul p_cst ht25) fun t26 ht26 =>
  S_nameI (e := (.bin .sub (.bin .mod (.bi .int [(.idx (.var 1) (.cst (.int 6)))]) (.cst (.int 1000001))) (.bin .mul (.cst (.int 500)) (.bin .mod (.bin .fdiv (.bi .int [(.idx (.var 1) (.cst (.int 5)))]) (.cst (.int 2))) (.cst (.int 2)))))) (p_sub ht22 ht26) fun other27 hother27 =>
  S_par (σ' := [some (eZ ns), some ((eL eI) row), some (eI t8), some (eI t9), some (eI t7), some (eI one20), some (eI other27), none, none, none, none, none, none, none, none]) (evs_cons hone20 (evs_cons hother27 evs_nil)) rfl <|
  S_let (a := (.idx (.var 1) (.cst (.int 7)))) (m_idxL (f := eI) (p_var (i := 1) (d := (eL eI) row) rfl) p_cst) fun t28 ht28 =>
  S_let (a := (.bin .mod (.bi .int [(.idx (.var 1) (.cst (.int 7)))]) (.cst (.int 2001)))) (m_mod (p_bi (b := .int) (evs_cons ht28 evs_nil) (b_intI t28)) p_cst) fun t29 ht29 =>
  S_let (a := (.call 3 true [(.var 5), (.var 6), (.bin .sub (.bin .mod (.bi .int [(.idx (.var 1) (.cst (.int 7)))]) (.cst (.int 2001))) (.cst (.int 1000)))])) (m_callB (n := 3) (f := eB) (evs_cons (p_var (i := 5) (d := eI one20) rfl) (evs_cons (p_var (i := 6) (d := eI other27) rfl) (evs_cons (p_sub ht29 p_cst) evs_nil))) (fun v hv => ok__law_shared_right one20 other27 (t29 - (1000 : Int)) v hv) (fb_of u_B)) fun t30 ht30 =>
  S_ite (c_not (tr_B ht30)) (
  S_ret (d := eB false) p_cst rfl rfl) <|
  S_let (a := (.idx (.var 1) (.cst (.int 8)))) (m_idxL (f := eI) (p_var (i := 1) (d := (eL eI) row) rfl) p_cst) fun t31 ht31 =>
  S_let (a := (.bin .mod (.bi .int [(.idx (.var 1) (.cst (.int 8)))]) (.cst (.int 10000)))) (m_mod (p_bi (b := .int) (evs_cons ht31 evs_nil) (b_intI t31)) p_cst) fun t32 ht32 =>
  S_let (a := (.idx (.var 1) (.cst (.int 9)))) (m_idxL (f := eI) (p_var (i := 1) (d := (eL eI) row) rfl) p_cst) fun t33 ht33 =>
  S_let (a := (.bin .mod (.bi .int [(.idx (.var 1) (.cst (.int 9)))]) (.cst (.int 100)))) (m_mod (p_bi (b := .int) (evs_cons ht33 evs_nil) (b_intI t33)) p_cst) fun t34 ht34 =>
  S_let (a := (.call 4 false [(.bin .add (.cst (.int 1)) (.bin .mod (.bi .int [(.idx (.var 1) (.cst (.int 8)))]) (.cst (.int 10000)))), (.bin .add (.cst (.int 1)) (.bin .mod (.bi .int [(.idx (.var 1) (.cst (.int 9)))]) (.cst (.int 100))))])) (m_call (n := 4) (f := eB) (evs_cons (p_add p_cst ht32) (evs_cons (p_add p_cst ht34) evs_nil)) (fun v hv => ok__law_products_right ((1 : Int) + t32) ((1 : Int) + t34) v hv)) fun t35 ht35 =>
  S_ite (c_not (tr_B ht35)) (
  S_ret (d := eB false) p_cst rfl rfl) <|
  S_let (a := (.idx (.var 1) (.cst (.int 10)))) (m_idxL (f := eI) (p_var (i := 1) (d := (eL eI) row) rfl) p_cst) fun t36 ht36 =>
  S_let (a := (.bin .mod (.bi .int [(.idx (.var 1) (.cst (.int 10)))]) (.cst (.int 30)))) (m_mod (p_bi (b := .int) (evs_cons ht36 evs_nil) (b_intI t36)) p_cst) fun t37 ht37 =>
  S_nameI (e := (.bin .add (.cst (.int 1)) (.bin .mod (.bi .int [(.idx (.var 1) (.cst (.int 10)))]) (.cst (.int 30))))) (p_add p_cst ht37) fun many38 hmany38 =>
  S_name (f := (eL (eT eI))) (e := (.lst [])) (p_lstL (xs := ([] : List (List Int))) (f := (eT eI)) evs_nil rfl) fun rows39 hrows39 =>
  S_par (σ' := [some (eZ ns), some ((eL eI) row), some (eI t8), some (eI t9), some (eI t7), some (eI one20), some (eI other27), some (eI many38), some ((eL (eT eI)) rows39), none, none, none, none, none, none]) (evs_cons hmany38 (evs_cons hrows39 evs_nil)) rfl <|
  S_let (a := (.bi .range [(.cst (.int 3))])) (m_bi (b := .range) (f := (eL eI)) (evs_cons p_cst evs_nil) (b_range1 (3 : Int))) fun r40 hr40 =>
  S_for (f := eI) (fun (v : List (List Int)) (σ : Sg) => ∃ (g9 g10 : Option D), σ = [some (eZ ns), some ((eL eI) row), some (eI t8), some (eI t9), some (eI t7), some (eI one20), some (eI other27), some (eI many38), some ((eL (eT eI)) v), g9, g10, none, none, none, none]) hr40 rfl ⟨none, none, rfl⟩ (fun x41 s42 σ h => by
  obtain ⟨g43, g44, rfl⟩ := h; exact ⟨[some (eZ ns), some ((eL eI) row), some (eI t8), some (eI t9), some (eI t7), some (eI one20), some (eI other27), some (eI many38), some ((eL (eT eI)) s42), some (eI x41), g44, none, none, none, none], rfl, 
  S_let (a := (.idx (.var 1) (.bin .add (.cst (.int 11)) (.var 9)))) (m_idxL (f := eI) (p_var (i := 1) (d := (eL eI) row) rfl) (p_add p_cst (p_var (i := 9) (d := eI x41) rfl))) fun t45 ht45 =>
  S_let (a := (.bin .mod (.bi .int [(.idx (.var 1) (.bin .add (.cst (.int 11)) (.var 9)))]) (.cst (.int 2)))) (m_mod (p_bi (b := .int) (evs_cons ht45 evs_nil) (b_intI t45)) p_cst) fun t46 ht46 =>
  S_let (a := (.bin .mul (.cst (.int 2)) (.bin .mod (.bi .int [(.idx (.var 1) (.bin .add (.cst (.int 11)) (.var 9)))]) (.cst (.int 2))))) (m_mul p_cst ht46) fun t47 ht47 =>
  S_nameI (e := (.bin .sub (.cst (.int 1)) (.bin .mul (.cst (.int 2)) (.bin .mod (.bi .int [(.idx (.var 1) (.bin .add (.cst (.int 11)) (.var 9)))]) (.cst (.int 2)))))) (p_sub p_cst ht47) fun first48 hfirst48 =>
  S_asg (σ' := [some (eZ ns), some ((eL eI) row), some (eI t8), some (eI t9), some (eI t7), some (eI one20), some (eI other27), some (eI many38), some ((eL (eT eI)) s42), some (eI x41), some (eI first48), none, none, none, none]) hfirst48 rfl <|
  S_fre <|
  S_let (a := (.bi .range [(.bin .sub (.var 7) (.cst (.int 1)))])) (m_bi (b := .range) (f := (eL eI)) (evs_cons (p_sub (p_var (i := 7) (d := eI many38) rfl) p_cst) evs_nil) (b_range1 (many38 - (1 : Int)))) fun r59 hr59 =>
  S_let (a := (.comp (.one 11) [("j", 11)] (.bi .range [(.bin .sub (.var 7) (.cst (.int 1)))]) [] (.bin .sub (.bin .mod (.bi .int [(.idx (.var 1) (.bin .add (.bin .add (.cst (.int 14)) (.bin .mul (.cst (.int 30)) (.var 9))) (.var 11)))]) (.cst (.int 11))) (.cst (.int 5))))) (m_mapM (f := eI) (g := eI) hr59 rfl (fun x60 => T_plain (σ' := [some (eZ ns), some ((eL eI) row), some (eI t8), some (eI t9), some (eI t7), some (eI one20), some (eI other27), some (eI many38), some ((eL (eT eI)) s42), some (eI x41), some (eI first48), some (eI x60), none, none, none]) rfl (E_let (a := (.bin .mul (.cst (.int 30)) (.var 9))) (m_mul p_cst (p_var (i := 9) (d := eI x41) rfl)) fun t61 ht61 => E_let (a := (.idx (.var 1) (.bin .add (.bin .add (.cst (.int 14)) (.bin .mul (.cst (.int 30)) (.var 9))) (.var 11)))) (m_idxL (f := eI) (p_var (i := 1) (d := (eL eI) row) rfl) (p_add (p_add p_cst ht61) (p_var (i := 11) (d := eI x60) rfl))) fun t62 ht62 => E_let (a := (.bin .mod (.bi .int [(.idx (.var 1) (.bin .add (.bin .add (.cst (.int 14)) (.bin .mul (.cst (.int 30)) (.var 9))) (.var 11)))]) (.cst (.int 11)))) (m_mod (p_bi (b := .int) (evs_cons ht62 evs_nil) (b_intI t62)) p_cst) fun t63 ht63 => E_of (f := eI) (t := (t63 - (5 : Int))) (p_sub ht63 p_cst)))) fun l66 hl66 =>
  S_let (a := (.bin .add (.tup [(.var 10)]) (.bi .tuple [(.comp (.one 11) [("j", 11)] (.bi .range [(.bin .sub (.var 7) (.cst (.int 1)))]) [] (.bin .sub (.bin .mod (.bi .int [(.idx (.var 1) (.bin .add (.bin .add (.cst (.int 14)) (.bin .mul (.cst (.int 30)) (.var 9))) (.var 11)))]) (.cst (.int 11))) (.cst (.int 5))))]))) (m_catT (p_tupT (xs := [first48]) (f := eI) (evs_cons (p_var (i := 10) (d := eI first48) rfl) evs_nil) rfl) (p_bi (b := .tuple) (evs_cons hl66 evs_nil) (b_tupleL (f := eI) l66))) fun t67 ht67 =>
  S_app (f := (eT eI)) (σ' := fun rows58 => [some (eZ ns), some ((eL eI) row), some (eI t8), some (eI t9), some (eI t7), some (eI one20), some (eI other27), some (eI many38), some ((eL (eT eI)) rows58), some (eI x41), some (eI first48), none, none, none, none]) rfl ht67 (fun _ => rfl) fun rows58 =>
  S_nil (q_N ⟨some (eI x41), some (eI first48), rfl⟩)⟩) (fun s68 σ h => by
  obtain ⟨g69, g70, rfl⟩ := h; exact
  S_let (a := (.idx (.var 8) (.cst (.int 0)))) (m_idxL (f := (eT eI)) (p_var (i := 8) (d := (eL (eT eI)) s68) rfl) p_cst) fun t71 ht71 =>
  S_let (a := (.idx (.var 8) (.cst (.int 1)))) (m_idxL (f := (eT eI)) (p_var (i := 8) (d := (eL (eT eI)) s68) rfl) p_cst) fun t72 ht72 =>
  S_let (a := (.idx (.var 8) (.cst (.int 2)))) (m_idxL (f := (eT eI)) (p_var (i := 8) (d := (eL (eT eI)) s68) rfl) p_cst) fun t73 ht73 =>
  S_let (a := (.call 5 false [(.idx (.var 8) (.cst (.int 0))), (.idx (.var 8) (.cst (.int 1))), (.idx (.var 8) (.cst (.int 2)))])) (m_call (n := 5) (f := eB) (evs_cons ht71 (evs_cons ht72 (evs_cons ht73 evs_nil))) (fun v hv => ok__law_rows_right t71 t72 t73 v hv)) fun t74 ht74 =>
  S_ite (c_not (tr_B ht74)) (
  S_ret (d := eB false) p_cst rfl rfl) <|
  S_name (f := (eL (eP eI eI))) (e := (.lst [])) (p_lstL (xs := ([] : List ((Int × Int)))) (f := (eP eI eI)) evs_nil rfl) fun pairs75 hpairs75 =>
  S_asg (σ' := [some (eZ ns), some ((eL eI) row), some (eI t8), some (eI t9), some (eI t7), some (eI one20), some (eI other27), some (eI many38), some ((eL (eT eI)) s68), g69, g70, none, some ((eL (eP eI eI)) pairs75), none, none]) hpairs75 rfl <|
  S_let (a := (.idx (.var 1) (.cst (.int 110)))) (m_idxL (f := eI) (p_var (i := 1) (d := (eL eI) row) rfl) p_cst) fun t76 ht76 =>
  S_let (a := (.bin .mod (.bi .int [(.idx (.var 1) (.cst (.int 110)))]) (.cst (.int 4)))) (m_mod (p_bi (b := .int) (evs_cons ht76 evs_nil) (b_intI t76)) p_cst) fun t77 ht77 =>
  S_let (a := (.bi .range [(.bin .add (.cst (.int 1)) (.bin .mod (.bi .int [(.idx (.var 1) (.cst (.int 110)))]) (.cst (.int 4))))])) (m_bi (b := .range) (f := (eL eI)) (evs_cons (p_add p_cst ht77) evs_nil) (b_range1 ((1 : Int) + t77))) fun r78 hr78 =>
  S_for (f := eI) (fun (v : List ((Int × Int))) (σ : Sg) => ∃ (g9 g13 : Option D), σ = [some (eZ ns), some ((eL eI) row), some (eI t8), some (eI t9), some (eI t7), some (eI one20), some (eI other27), some (eI many38), some ((eL (eT eI)) s68), g9, g70, none, some ((eL (eP eI eI)) v), g13, none]) hr78 rfl ⟨g69, none, rfl⟩ (fun x79 s80 σ h => by
  obtain ⟨g81, g82, rfl⟩ := h; exact ⟨[some (eZ ns), some ((eL eI) row), some (eI t8), some (eI t9), some (eI t7), some (eI one20), some (eI other27), some (eI many38), some ((eL (eT eI)) s68), some (eI x79), g70, none, some ((eL (eP eI eI)) s80), g82, none], rfl, 
  S_let (a := (.idx (.var 1) (.bin .add (.cst (.int 111)) (.var 9)))) (m_idxL (f := eI) (p_var (i := 1) (d := (eL eI) row) rfl) (p_add p_cst (p_var (i := 9) (d := eI x79) rfl))) fun t83 ht83 =>
  S_let (a := (.bin .mod (.bi .int [(.idx (.var 1) (.bin .add (.cst (.int 111)) (.var 9)))]) (.cst (.int 12)))) (m_mod (p_bi (b := .int) (evs_cons ht83 evs_nil) (b_intI t83)) p_cst) fun t84 ht84 =>
  S_nameI (e := (.bin .add (.cst (.int 1)) (.bin .mod (.bi .int [(.idx (.var 1) (.bin .add (.cst (.int 111)) (.var 9)))]) (.cst (.int 12))))) (p_add p_cst ht84) fun m85 hm85 =>
  S_asg (σ' := [some (eZ ns), some ((eL eI) row), some (eI t8), some (eI t9), some (eI t7), some (eI one20), some (eI other27), some (eI many38), some ((eL (eT eI)) s68), some (eI x79), g70, none, some ((eL (eP eI eI)) s80), some (eI m85), none]) hm85 rfl <|
  S_fre <|
  S_let (a := (.idx (.var 1) (.bin .add (.cst (.int 115)) (.var 9)))) (m_idxL (f := eI) (p_var (i := 1) (d := (eL eI) row) rfl) (p_add p_cst (p_var (i := 9) (d := eI x79) rfl))) fun t89 ht89 =>
  S_let (a := (.bin .mod (.bi .int [(.idx (.var 1) (.bin .add (.cst (.int 115)) (.var 9)))]) (.var 13))) (m_mod (p_bi (b := .int) (evs_cons ht89 evs_nil) (b_intI t89)) (p_var (i := 13) (d := eI m85) rfl)) fun t90 ht90 =>
  S_app (f := (eP eI eI)) (σ' := fun pairs88 => [some (eZ ns), some ((eL eI) row), some (eI t8), some (eI t9), some (eI t7), some (eI one20), some (eI other27), some (eI many38), some ((eL (eT eI)) s68), some (eI x79), g70, none, some ((eL (eP eI eI)) pairs88), some (eI m85), none]) rfl (p_tup (evs_cons ht90 (evs_cons (p_var (i := 13) (d := eI m85) rfl) evs_nil)) rfl) (fun _ => rfl) fun pairs88 =>
  S_nil (q_N ⟨some (eI x79), some (eI m85), rfl⟩)⟩) (fun s91 σ h => by
  obtain ⟨g92, g93, rfl⟩ := h; exact
  S_let (a := (.idx (.var 1) (.cst (.int 120)))) (m_idxL (f := eI) (p_var (i := 1) (d := (eL eI) row) rfl) p_cst) fun t94 ht94 =>
  S_let (a := (.bin .mod (.bi .int [(.idx (.var 1) (.cst (.int 120)))]) (.cst (.int 2)))) (m_mod (p_bi (b := .int) (evs_cons ht94 evs_nil) (b_intI t94)) p_cst) fun t95 ht95 =>
  S_join (fun (v : List ((Int × Int))) (σ : Sg) => σ = [some (eZ ns), some ((eL eI) row), some (eI t8), some (eI t9), some (eI t7), some (eI one20), some (eI other27), some (eI many38), some ((eL (eT eI)) s68), g92, g70, none, some ((eL (eP eI eI)) v), g93, none]) (tr_B (p_eqI ht95 p_cst)) (
  S_let (a := (.comp (.many [(.one 14), (.one 13)]) [("r", 14), ("m", 13)] (.var 12) [] (.tup [(.bin .mod (.bi .int [(.idx (.var 1) (.cst (.int 121)))]) (.var 13)), (.var 13)]))) (m_mapM (f := (eP eI eI)) (g := (eP eI eI)) (p_var (i := 12) (d := (eL (eP eI eI)) s91) rfl) rfl (fun x96 => T_plain (σ' := [some (eZ ns), some ((eL eI) row), some (eI t8), some (eI t9), some (eI t7), some (eI one20), some (eI other27), some (eI many38), some ((eL (eT eI)) s68), g92, g70, none, some ((eL (eP eI eI)) s91), some (eI x96.2), some (eI x96.1)]) rfl (E_let (a := (.idx (.var 1) (.cst (.int 121)))) (m_idxL (f := eI) (p_var (i := 1) (d := (eL eI) row) rfl) p_cst) fun t97 ht97 => E_let (a := (.bin .mod (.bi .int [(.idx (.var 1) (.cst (.int 121)))]) (.var 13))) (m_mod (p_bi (b := .int) (evs_cons ht97 evs_nil) (b_intI t97)) (p_var (i := 13) (d := eI x96.2) rfl)) fun t98 ht98 => E_of (f := (eP eI eI)) (t := (t98, x96.2)) (p_tup (evs_cons ht98 (evs_cons (p_var (i := 13) (d := eI x96.2) rfl) evs_nil)) rfl)))) fun l101 hl101 =>
  S_asg (σ' := [some (eZ ns), some ((eL eI) row), some (eI t8), some (eI t9), some (eI t7), some (eI one20), some (eI other27), some (eI many38), some ((eL (eT eI)) s68), g92, g70, none, some ((eL (eP eI eI)) l101), g93, none]) hl101 rfl <|
  S_nil (q_J rfl)) (
  S_nil (q_J rfl)) (fun s102 σ h => by
  obtain rfl := h; exact
  S_let (a := (.idx (.var 1) (.cst (.int 122)))) (m_idxL (f := eI) (p_var (i := 1) (d := (eL eI) row) rfl) p_cst) fun t103 ht103 =>
  S_let (a := (.bin .mod (.bi .int [(.idx (.var 1) (.cst (.int 122)))]) (.cst (.int 4)))) (m_mod (p_bi (b := .int) (evs_cons ht103 evs_nil) (b_intI t103)) p_cst) fun t104 ht104 =>
  S_retM (f := eB) (m_call (n := 6) (f := eB) (evs_cons (p_bi (b := .tuple) (evs_cons (p_var (i := 12) (d := (eL (eP eI eI)) s102) rfl) evs_nil) (b_tupleL (f := (eP eI eI)) s102)) (evs_cons ht104 evs_nil)) (fun v hv => ok__law_together_right s102 t104 v hv)) (fun _ => rfl))))
theorem law_of (h : ∀ row : List Int, row.length = 130 → (∀ v ∈ row, 0 ≤ v) → t_law row = some true) (ns : List Int) : s_law [eZ ns] = some (.bool true) := by
  obtain ⟨vs, hl, hp, hrow⟩ := row_k ns (m := 130) (by decide)
  refine run_rt ?_
  show exs g_law 1000000 (.asg (.one 1) (.call 0 false [(.var 0), (.cst (.int 130))]) :: b_law.drop 1) [some (eZ ns), none, none, none, none, none, none, none, none, none, none, none, none, none, none] = _
  have h0 : ev g_law (.call 0 false [(.var 0), (.cst (.int 130))]) [some (eZ ns), none, none, none, none, none, none, none, none, none, none, none, none, none, none] = some (.list (vs.map .int)) := ev_call (ds := [eZ ns, .int ((130 : Nat) : Int)]) rfl hrow
  refine exs_nx (ex_asg (σ' := [some (eZ ns), some ((eL eI) vs), none, none, none, none, none, none, none, none, none, none, none, none, none]) h0 rfl) ?_
  exact sp_law ns vs true (h vs hl hp)
end K12
end
section
set_option Elab.async false
set_option linter.all false
set_option maxRecDepth 100000
set_option maxHeartbeats 2000000
/-! EngN: typed readings told: what the small words give. -/
namespace Lf
open PySem Eng
/-! steps that simp must not take for granted: the kernel would look into mulM -/
theorem sb_ {α β : Type} (a : α) (f : α → Option β) : Option.bind (some a) f = f a := Eq.trans (Eq.refl _) (Eq.refl _)
theorem ls_ {α β : Type} (t : α) (k : α → Option β) : lt t k = k t := Eq.trans (Eq.refl _) (Eq.refl _)
theorem bt_ {α : Type} (a b : α) : (bif true then a else b) = a := Eq.trans (Eq.refl _) (Eq.refl _)
theorem bf_ {α : Type} (a b : α) : (bif false then a else b) = b := Eq.trans (Eq.refl _) (Eq.refl _)
theorem mulM_eq {i j : Int} (h : mulOk i j = true) : mulM i j = some (i * j) := by unfold mulM; rw [h]; rfl
theorem mulM_l {i j : Int} (h1 : -18446744073709551616 < i) (h2 : i < 18446744073709551616) : mulM i j = some (i * j) := mulM_eq (mulOk_l h1 h2)
theorem mulM_r {i j : Int} (h1 : -18446744073709551616 < j) (h2 : j < 18446744073709551616) : mulM i j = some (i * j) := mulM_eq (mulOk_r h1 h2)
theorem mulM_N {a b : Nat} (h : a < 18446744073709551616) : mulM (a : Int) (b : Int) = some ((a * b : Nat) : Int) := by
  rw [mulM_l (by omega) (by omega), Int.natCast_mul]
theorem log2_lt {n k : Nat} (h : n < 2 ^ k) (hk : 0 < k) : n.log2 < k := by
  by_cases h0 : n = 0
  · subst h0; exact hk
  · exact (Nat.log2_lt h0).mpr h
theorem mulM_big {i j : Int} {k : Nat} (h1 : i.natAbs < 2 ^ k) (h2 : j.natAbs < 2 ^ k) (hk : k ≤ 400000) : mulM i j = some (i * j) := by
  refine mulM_eq ?_
  unfold mulOk
  have a1 : i.natAbs.log2 < k + 1 := log2_lt (Nat.lt_trans h1 (Nat.pow_lt_pow_right (by omega) (by omega))) (by omega)
  have a2 : j.natAbs.log2 < k + 1 := log2_lt (Nat.lt_trans h2 (Nat.pow_lt_pow_right (by omega) (by omega))) (by omega)
  have a3 : Nat.blt (i.natAbs.log2 + j.natAbs.log2) 1000000 = true := Nat.ble_eq_true_of_le (by omega)
  rw [a3, Bool.or_true]
theorem divOk_N {b : Nat} (h : 0 < b) (h2 : b < 18446744073709551616) : divOk (b : Int) = true := by
  unfold divOk
  have a1 : (b : Int).natAbs.log2 < 64 := log2_lt (by rw [Int.natAbs_natCast]; exact h2) (by decide)
  rw [decide_eq_false (by omega : ¬ (b : Int) = 0), show Nat.blt (b : Int).natAbs.log2 9000 = true from Nat.ble_eq_true_of_le (by omega)]
  rfl
theorem fdivM_N {a b : Nat} (h : 0 < b) (h2 : b < 18446744073709551616) : fdivM (a : Int) (b : Int) = some ((a / b : Nat) : Int) := by
  unfold fdivM
  rw [divOk_N h h2, fdivN]; rfl
theorem fdivM_I {i : Int} {b : Nat} (h : 0 < b) (h2 : b < 18446744073709551616) : fdivM i (b : Int) = some (i / b) := by
  unfold fdivM
  rw [divOk_N h h2, Int.fdiv_eq_ediv_of_nonneg _ (by omega)]; rfl
theorem modM_N {a b : Nat} (h : 0 < b) : modM (a : Int) (b : Int) = some ((a % b : Nat) : Int) := by
  unfold modM
  rw [decide_eq_false (by omega : ¬ (b : Int) = 0), fmodN]; rfl
theorem modM_I {i : Int} {b : Nat} (h : 0 < b) : modM i (b : Int) = some (i % b) := by
  unfold modM
  rw [decide_eq_false (by omega : ¬ (b : Int) = 0), Int.fmod_eq_emod_of_nonneg _ (by omega)]; rfl
/-- 0 .. n - 1 -/
def nL (n : Nat) : List Int := (List.range n).map fun (i : Nat) => (i : Int)
theorem rngI_nL (n : Nat) : rngI 0 n = nL n := by
  unfold rngI nL
  exact List.map_congr_left fun i _ => Int.zero_add _
theorem rng1M_N {n : Nat} (h : n ≤ 1000000) : rng1M (n : Int) = some (nL n) := by
  unfold rng1M
  rw [rngOk_of (by omega) (by omega) (by omega) (by omega) (by rw [SL_eq]; omega), show ((n : Int) - 0).toNat = n by omega, rngI_nL]; rfl
theorem rng2M_N {a b : Nat} (h : b ≤ 1000000) (h' : a ≤ 1000000) : rng2M (a : Int) (b : Int) = some (rngI a (b - a)) := by
  unfold rng2M
  rw [rngOk_of (by omega) (by omega) (by omega) (by omega) (by rw [SL_eq]; omega), show ((b : Int) - a).toNat = b - a by omega]; rfl
theorem nL_len (n : Nat) : (nL n).length = n := by simp [nL]
theorem rngI_len (a : Int) (n : Nat) : (rngI a n).length = n := by simp [rngI]
theorem nL_at {n i : Nat} {x : Int} (h : (nL n)[i]? = some x) : i < n ∧ x = i := by
  have hi : i < n := by
    rcases Nat.lt_or_ge i n with q | q
    · exact q
    · rw [List.getElem?_eq_none (by rw [nL_len]; exact q)] at h; cases h
  refine ⟨hi, ?_⟩
  unfold nL at h
  rw [List.getElem?_map, List.getElem?_range hi] at h
  exact (Option.some.inj h).symm
theorem rngI_at {a : Int} {n i : Nat} {x : Int} (h : (rngI a n)[i]? = some x) : i < n ∧ x = a + i := by
  have hi : i < n := by
    rcases Nat.lt_or_ge i n with q | q
    · exact q
    · rw [List.getElem?_eq_none (by rw [rngI_len]; exact q)] at h; cases h
  refine ⟨hi, ?_⟩
  unfold rngI at h
  rw [List.getElem?_map, List.getElem?_range hi] at h
  exact (Option.some.inj h).symm
theorem mem_nL {n : Nat} {x : Int} : x ∈ nL n ↔ ∃ i : Nat, i < n ∧ x = i := by
  unfold nL
  rw [List.mem_map]
  exact ⟨fun ⟨i, h1, h2⟩ => ⟨i, List.mem_range.mp h1, h2.symm⟩, fun ⟨i, h1, h2⟩ => ⟨i, List.mem_range.mpr h1, h2.symm⟩⟩
theorem idxM_N {α : Type} {xs : List α} {i : Nat} (h : i < xs.length) : idxM xs (i : Int) = some xs[i] := by
  unfold idxM
  rw [atI_nat h, List.getElem?_eq_getElem h]
theorem idxM_N? {α : Type} {xs : List α} {i : Nat} (h : i < xs.length) : idxM xs (i : Int) = xs[i]? := by
  rw [idxM_N h, List.getElem?_eq_getElem h]
theorem lenOk_N {n : Nat} (h : n ≤ 1000000) : lenOk n = true := lenOk_of (by rw [SL_eq]; omega)
theorem catM_N {α : Type} {xs ys : List α} (h : xs.length + ys.length ≤ 1000000) : catM xs ys = some (xs ++ ys) := by unfold catM; rw [lenOk_N h]; rfl
theorem appM_N {α : Type} {xs : List α} {v : α} (h : xs.length < 1000000) : appM xs v = some (xs ++ [v]) := by unfold appM; rw [lenLt_of (by rw [SL_eq]; omega)]; rfl
theorem setM_N {α : Type} {xs : List α} {i : Nat} {v : α} (h : i < xs.length) : setM xs (i : Int) v = some (xs.set i v) := by
  unfold setM
  rw [ixN_nat h]; rfl
theorem repT_one {α : Type} (x : α) (n : Nat) : repT [x] (n : Int) = List.replicate n x := by
  unfold repT
  rw [Int.toNat_natCast]
  induction n with
  | zero => rfl
  | succ n ih => rw [List.replicate_succ, List.flatten_cons, ih]; rfl
theorem repM_one {α : Type} (x : α) {n : Nat} (h : n ≤ 1000000) : repM [x] (n : Int) = some (List.replicate n x) := by
  unfold repM
  have : repOk [x].length (n : Int) = true := by
    unfold repOk
    rw [decide_eq_true (by omega), decide_eq_true (by omega), show Nat.ble ([x].length * (n : Int).toNat) SL = true from Nat.ble_eq_true_of_le (by rw [SL_eq, Int.toNat_natCast]; simp; omega)]
    rfl
  rw [this, repT_one]; rfl
/-! loops -/
theorem forN_inv {α s : Type} {f : α → s → Option s} {P : Nat → s → Prop} : ∀ (xs : List α) (v : s) (k : Nat), P k v → (∀ i x v, xs[i]? = some x → P (k + i) v → ∃ v', f x v = some v' ∧ P (k + i + 1) v') → ∃ w, forN f xs v = some w ∧ P (k + xs.length) w
  | [], v, k, h0, _ => ⟨v, rfl, h0⟩
  | x :: xs, v, k, h0, h => by
    obtain ⟨v1, h1, p1⟩ := h 0 x v rfl h0
    obtain ⟨w, h2, p2⟩ := forN_inv (f := f) (P := P) xs v1 (k + 1) p1 fun i y v hy p => by
      have e : k + 1 + i = k + (i + 1) := by omega
      rw [e] at p ⊢
      exact h (i + 1) y v hy p
    refine ⟨w, ?_, ?_⟩
    · show ((f x v).bind fun v => forN f xs v) = _
      rw [h1]; exact h2
    · have e : k + (x :: xs).length = k + 1 + xs.length := by simp; omega
      rw [e]; exact p2
theorem forN_to {α s : Type} {f : α → s → Option s} (P : Nat → s → Prop) {xs : List α} {v : s} (h0 : P 0 v) (h : ∀ i x v, xs[i]? = some x → P i v → ∃ v', f x v = some v' ∧ P (i + 1) v') : ∃ w, forN f xs v = some w ∧ P xs.length w := by
  have := forN_inv (f := f) (P := P) xs v 0 h0 fun i x v hx p => by
    rw [Nat.zero_add] at p ⊢
    exact h i x v hx p
  rwa [Nat.zero_add] at this
theorem forN_fold {α s : Type} {f : α → s → Option s} {g : s → α → s} (I : s → Prop) : ∀ {xs : List α} {v : s}, I v → (∀ x ∈ xs, ∀ v, I v → f x v = some (g v x) ∧ I (g v x)) → forN f xs v = some (xs.foldl g v) ∧ I (xs.foldl g v)
  | [], v, h0, _ => ⟨rfl, h0⟩
  | x :: xs, v, h0, h => by
    obtain ⟨h1, i1⟩ := h x (by simp) v h0
    obtain ⟨h2, i2⟩ := forN_fold (f := f) (g := g) I (xs := xs) i1 fun y hy => h y (by simp [hy])
    refine ⟨?_, i2⟩
    show ((f x v).bind fun v => forN f xs v) = _
    rw [h1]; exact h2
theorem forN_map {α β s : Type} {f : β → s → Option s} {g : α → β} : ∀ {xs : List α} {v : s}, forN f (xs.map g) v = forN (fun x => f (g x)) xs v
  | [], v => rfl
  | x :: xs, v => by
    show ((f (g x) v).bind fun v => forN f (xs.map g) v) = ((f (g x) v).bind fun v => forN (fun x => f (g x)) xs v)
    congr 1; funext v; exact forN_map
/-- a for that may leave, never leaving -/
theorem forX_stay {α s r : Type} {f : α → s → Option (Fw s r)} (P : s → Prop) : ∀ {xs : List α} {v : s}, P v → (∀ x ∈ xs, ∀ v, P v → ∃ v', f x v = some (.nx v') ∧ P v') → ∃ w, forX f xs v = some (.nx w) ∧ P w
  | [], v, h0, _ => ⟨v, rfl, h0⟩
  | x :: xs, v, h0, h => by
    obtain ⟨v1, h1, p1⟩ := h x (by simp) v h0
    obtain ⟨w, h2, p2⟩ := forX_stay (f := f) P (xs := xs) p1 fun y hy => h y (by simp [hy])
    refine ⟨w, ?_, p2⟩
    show ((f x v).bind _) = _
    rw [h1]; exact h2
theorem whN_inv {s : Type} {c : s → Option Bool} {f : s → Option s} (P : s → Prop) (μ : s → Nat) {Q : s → Prop} : ∀ (N : Nat) (v : s), P v → μ v < N →
    (∀ v, P v → (c v = some false ∧ Q v) ∨ (c v = some true ∧ ∃ v', f v = some v' ∧ P v' ∧ μ v' < μ v)) → ∃ w, whN c f N v = some w ∧ Q w
  | 0, v, _, h, _ => absurd h (Nat.not_lt_zero _)
  | N + 1, v, p, h, st => by
    rcases st v p with ⟨h1, q⟩ | ⟨h1, v', h2, p', hm⟩
    · refine ⟨v, ?_, q⟩
      show ((c v).bind _) = _
      rw [h1]; rfl
    · obtain ⟨w, h3, q⟩ := whN_inv P μ (Q := Q) N v' p' (by omega) st
      refine ⟨w, ?_, q⟩
      show ((c v).bind _) = _
      rw [h1]
      show ((f v).bind _) = _
      rw [h2]; exact h3
/-- Euclid's turns: at most two for each power of 2 -/
theorem whN_eu {s : Type} {c : s → Option Bool} {f : s → Option s} (P : s → Prop) (g r : s → Nat) (hc : ∀ v, P v → c v = some (decide (0 < r v))) (hf : ∀ v, P v → 0 < r v → ∃ v', f v = some v' ∧ P v' ∧ g v' = r v ∧ r v' = g v % r v) :
    ∀ (k N : Nat) (v : s), P v → r v < 2 ^ k → 2 * k + 1 ≤ N → ∃ w, whN c f N v = some w ∧ P w ∧ r w = 0 := by
  have stop : ∀ (N : Nat) (v : s), P v → r v = 0 → 1 ≤ N → ∃ w, whN c f N v = some w ∧ P w ∧ r w = 0 := fun N v p h hN => by
    obtain ⟨N, rfl⟩ : ∃ M, N = M + 1 := ⟨N - 1, by omega⟩
    refine ⟨v, ?_, p, h⟩
    show ((c v).bind _) = _
    rw [hc v p, decide_eq_false (by omega)]; rfl
  have go : ∀ (N : Nat) (v v' : s), P v → 0 < r v → f v = some v' → (∃ w, whN c f N v' = some w ∧ P w ∧ r w = 0) → ∃ w, whN c f (N + 1) v = some w ∧ P w ∧ r w = 0 := fun N v v' p h hv ⟨w, h1, h2⟩ => by
    refine ⟨w, ?_, h2⟩
    show ((c v).bind _) = _
    rw [hc v p, decide_eq_true h]
    show ((f v).bind _) = _
    rw [hv]; exact h1
  intro k
  induction k with
  | zero =>
    intro N v p h hN
    exact stop N v p (by omega) (by omega)
  | succ k ih =>
    intro N v p h hN
    obtain ⟨N, rfl⟩ : ∃ M, N = M + 2 := ⟨N - 2, by omega⟩
    by_cases h0 : r v = 0
    · exact stop _ v p h0 (by omega)
    · obtain ⟨v1, e1, p1, g1, r1⟩ := hf v p (by omega)
      refine go (N + 1) v v1 p (by omega) e1 ?_
      by_cases h1 : r v1 = 0
      · exact stop _ v1 p1 h1 (by omega)
      · obtain ⟨v2, e2, p2, g2, r2⟩ := hf v1 p1 (by omega)
        refine go N v1 v2 p1 (by omega) e2 (ih N v2 p2 ?_ (by omega))
        rw [r2, g1]
        have a1 : r v1 < r v := by rw [r1]; exact Nat.mod_lt _ (by omega)
        have a2 : r v % r v1 < r v1 := Nat.mod_lt _ (by omega)
        have a3 : r v1 * (r v / r v1) + r v % r v1 = r v := Nat.div_add_mod _ _
        have a4 : 1 ≤ r v / r v1 := (Nat.one_le_div_iff (by omega)).mpr (by omega)
        have a5 : r v1 * 1 ≤ r v1 * (r v / r v1) := Nat.mul_le_mul_left _ a4
        rw [Nat.pow_succ] at h
        omega
/-! comprehensions -/
theorem mapK_N {α β : Type} {f : α → β} {xs : List α} (h : xs.length ≤ 1000000) : mapK f xs = some (xs.map f) := by unfold mapK; rw [lenOk_N h]; rfl
theorem filtK_N {α β : Type} {p : α → Bool} {f : α → β} {xs : List α} (h : xs.length ≤ 1000000) : filtK p f xs = some ((xs.filter p).map f) := by unfold filtK; rw [lenOk_N h]; rfl
theorem mapL_all {α β : Type} {F : α → Option (Option β)} {p : α → Option β} : ∀ {xs : List α}, (∀ x ∈ xs, F x = some (p x)) → mapL F xs = some (xs.filterMap p)
  | [], _ => rfl
  | x :: xs, h => by
    have h0 := h x (by simp)
    have h1 := mapL_all (F := F) (p := p) (xs := xs) fun y hy => h y (by simp [hy])
    show ((F x).bind fun r => (mapL F xs).bind _) = _
    rw [h0, h1]
    show (match p x with | some y => some (y :: xs.filterMap p) | none => some (xs.filterMap p)) = _
    cases hp : p x with
    | none => rw [List.filterMap_cons_none hp]
    | some y => rw [List.filterMap_cons_some hp]
theorem mapM_N {α β : Type} {F : α → Option (Option β)} {p : α → Option β} {xs : List α} (hl : xs.length ≤ 1000000) (h : ∀ x ∈ xs, F x = some (p x)) : mapM' F xs = some (xs.filterMap p) := by
  unfold mapM'
  rw [lenOk_N hl, mapL_all h]; rfl
theorem mapM_all {α β : Type} {F : α → Option (Option β)} {f : α → β} {xs : List α} (hl : xs.length ≤ 1000000) (h : ∀ x ∈ xs, F x = some (some (f x))) : mapM' F xs = some (xs.map f) := by
  rw [mapM_N (p := fun x => some (f x)) hl h, List.filterMap_eq_map']
theorem mapM_filt {α β : Type} {F : α → Option (Option β)} {p : α → Bool} {f : α → β} {xs : List α} (hl : xs.length ≤ 1000000) (h : ∀ x ∈ xs, F x = some (bif p x then some (f x) else none)) : mapM' F xs = some ((xs.filter p).map f) := by
  rw [mapM_N (p := fun x => bif p x then some (f x) else none) hl h, filt_map]
theorem flatL_all {α β : Type} {F : α → Option (List β)} {f : α → List β} : ∀ {xs : List α}, (∀ x ∈ xs, F x = some (f x)) → flatL F xs = some (xs.map f).flatten
  | [], _ => rfl
  | x :: xs, h => by
    have h0 := h x (by simp)
    have h1 := flatL_all (F := F) (f := f) (xs := xs) fun y hy => h y (by simp [hy])
    show ((F x).bind fun r => (flatL F xs).bind _) = _
    rw [h0, h1]; rfl
theorem flatM_N {α β : Type} {F : α → Option (List β)} {f : α → List β} {xs : List α} (h : ∀ x ∈ xs, F x = some (f x)) (hl : (xs.map f).flatten.length ≤ 1000000) : flatM' F xs = some (xs.map f).flatten := by
  unfold flatM'
  rw [flatL_all h]
  show (bif lenOk (xs.map f).flatten.length then some (xs.map f).flatten else none) = _
  rw [lenOk_N hl]; rfl
theorem like_same {α : Type} [DecidableEq α] {ok : α → Bool} {a b : α} (h : a = b) (h2 : ok a = true) : likeM ok a b = some true := by
  subst h
  unfold likeM
  rw [decide_eq_true rfl, h2]; rfl
theorem okT_U {α : Type} {xs : List α} (h : xs.length ≤ 1000000) : okT okU xs = true := by
  unfold okT
  rw [show Nat.ble xs.length 1000000 = true from Nat.ble_eq_true_of_le h, Bool.true_and]
  exact List.all_eq_true.mpr fun _ _ => rfl
theorem okT_of {α : Type} {ok : α → Bool} {xs : List α} (h : xs.length ≤ 1000000) (h2 : ∀ x ∈ xs, ok x = true) : okT ok xs = true := by
  unfold okT
  rw [show Nat.ble xs.length 1000000 = true from Nat.ble_eq_true_of_le h, Bool.true_and]
  exact List.all_eq_true.mpr h2
theorem absT_N (i : Int) : absT i = (i.natAbs : Int) := by unfold absT; split <;> omega
end Lf
namespace Lf
open PySem Eng
theorem rng3M_up {a c : Nat} {b : Int} (hc : 1 ≤ c) (hc2 : c ≤ 1000000) (ha : a ≤ 1000000) (hb : b ≤ 1000000) (hb2 : -1000000 ≤ b) : ∃ xs, rng3M (a : Int) b (c : Int) = some xs ∧ ∀ x ∈ xs, ∃ i : Nat, x = ((a + i * c : Nat) : Int) ∧ x < b := by
  have hs : Builtin.Range.rangeSize (a : Int) b (c : Int) = if (a : Int) < b then (b - a - 1) / (c : Int) + 1 else 0 := by
    unfold Builtin.Range.rangeSize
    rw [if_pos (show (c : Int) > 0 by omega)]
  have h0 : 0 ≤ Builtin.Range.rangeSize (a : Int) b (c : Int) := by
    rw [hs]
    split
    · have := Int.ediv_nonneg (show 0 ≤ b - a - 1 by omega) (show 0 ≤ (c : Int) by omega)
      omega
    · omega
  have hq : ∀ q : Int, 0 ≤ q → q ≤ 2000000 → q / (c : Int) ≤ 2000000 := fun q h1 h2 => by
    have := Int.ediv_le_self (c : Int) h1
    omega
  have h1 : Builtin.Range.rangeSize (a : Int) b (c : Int) ≤ 2000001 := by
    rw [hs]
    split
    · have := hq (b - a - 1) (by omega) (by omega)
      omega
    · omega
  have ok : rng3Ok (a : Int) b (c : Int) = true := by
    unfold rng3Ok small62 Builtin.Range.small
    simp only [Bool.and_eq_true, decide_eq_true_eq, Bool.not_eq_true', decide_eq_false_iff_not]
    have l1 : ∀ z : Int, -4000000 ≤ z → z ≤ 4000000 → Builtin.Range.rangeFitsLong z = true := fun z h1 h2 => by
      unfold Builtin.Range.rangeFitsLong
      simp only [Bool.and_eq_true, decide_eq_true_eq]
      constructor <;> omega
    refine ⟨⟨⟨⟨⟨⟨by omega, by omega⟩, ⟨by omega, by omega⟩⟩, by omega⟩, Nat.ble_eq_true_of_le (by omega)⟩, ?_⟩, h0⟩
    refine ⟨⟨⟨⟨l1 _ (by omega) (by omega), l1 _ (by omega) (by omega)⟩, l1 _ (by omega) (by omega)⟩, l1 _ (by omega) (by omega)⟩, ?_⟩
    rw [if_pos (show (c : Int) > 0 by omega), l1 (b + ((c : Int) - 1)) (by omega) (by omega), Bool.or_true]
  refine ⟨_, by unfold rng3M; rw [ok]; rfl, fun x hx => ?_⟩
  unfold rngByI at hx
  obtain ⟨i, hi, rfl⟩ := List.mem_map.mp hx
  rw [List.mem_range] at hi
  refine ⟨i, by push_cast; rfl, ?_⟩
  rw [hs] at hi
  split at hi
  · have h3 : (i : Int) ≤ (b - a - 1) / (c : Int) := by omega
    have h4 := (Int.le_ediv_iff_mul_le (show 0 < (c : Int) by omega)).mp h3
    omega
  · omega
end Lf
namespace Lf
open PySem Eng
/-- a loop, and what is said of the rest -/
theorem wh_then {s β : Type} {c : s → Option Bool} {f : s → Option s} {N : Nat} {v : s} {K : s → Option β} (R : Option β → Prop) (P : s → Prop) (μ : s → Nat) (Q : s → Prop) (hp : P v) (hm : μ v < N)
    (st : ∀ v, P v → (c v = some false ∧ Q v) ∨ (c v = some true ∧ ∃ v', f v = some v' ∧ P v' ∧ μ v' < μ v)) (hk : ∀ w, Q w → R (K w)) : R ((whN c f N v).bind K) := by
  obtain ⟨w, h1, h2⟩ := whN_inv P μ (Q := Q) N v hp hm st
  rw [h1]; exact hk w h2
theorem for_then {α s β : Type} {f : α → s → Option s} {xs : List α} {v : s} {K : s → Option β} (R : Option β → Prop) (P : Nat → s → Prop) (h0 : P 0 v) (st : ∀ i x v, xs[i]? = some x → P i v → ∃ v', f x v = some v' ∧ P (i + 1) v') (hk : ∀ w, P xs.length w → R (K w)) : R ((forN f xs v).bind K) := by
  obtain ⟨w, h1, h2⟩ := forN_to P h0 st
  rw [h1]; exact hk w h2
end Lf
namespace Lf
open PySem Eng
theorem forX_inv {α s r : Type} {f : α → s → Option (Fw s r)} {P : Nat → s → Prop} {E : r → Prop} : ∀ (xs : List α) (v : s) (k : Nat), P k v → (∀ i x v, xs[i]? = some x → P (k + i) v → (∃ v', f x v = some (.nx v') ∧ P (k + i + 1) v') ∨ ∃ e, f x v = some (.rt e) ∧ E e) →
    (∃ w, forX f xs v = some (.nx w) ∧ P (k + xs.length) w) ∨ ∃ e, forX f xs v = some (.rt e) ∧ E e
  | [], v, k, h0, _ => .inl ⟨v, rfl, h0⟩
  | x :: xs, v, k, h0, h => by
    rcases h 0 x v rfl h0 with ⟨v1, h1, p1⟩ | ⟨e, h1, p1⟩
    · have st : forX f (x :: xs) v = forX f xs v1 := by
        show ((f x v).bind _) = _
        rw [h1]; rfl
      rw [st]
      have e : k + (x :: xs).length = k + 1 + xs.length := by simp; omega
      rw [e]
      exact forX_inv xs v1 (k + 1) p1 fun i y v hy p => by
        have e : k + 1 + i = k + (i + 1) := by omega
        rw [e] at p ⊢
        exact h (i + 1) y v hy p
    · refine .inr ⟨e, ?_, p1⟩
      show ((f x v).bind _) = _
      rw [h1]; rfl
theorem forX_then {α s r β : Type} {f : α → s → Option (Fw s r)} {xs : List α} {v : s} {K : s → Option β} {J : r → Option β} (R : Option β → Prop) (P : Nat → s → Prop) (E : r → Prop) (h0 : P 0 v)
    (st : ∀ i x v, xs[i]? = some x → P i v → (∃ v', f x v = some (.nx v') ∧ P (i + 1) v') ∨ ∃ e, f x v = some (.rt e) ∧ E e) (hk : ∀ w, P xs.length w → R (K w)) (he : ∀ e, E e → R (J e)) : R ((forX f xs v).bind (aft K J)) := by
  rcases forX_inv (P := P) (E := E) xs v 0 h0 fun i x v hx p => by
    rw [Nat.zero_add] at p ⊢
    exact st i x v hx p with ⟨w, h1, h2⟩ | ⟨e, h1, h2⟩
  · rw [Nat.zero_add] at h2
    rw [h1]; exact hk w h2
  · rw [h1]; exact he e h2
end Lf
end
section
set_option Elab.async false
set_option linter.all false
set_option maxRecDepth 100000
set_option maxHeartbeats 2000000
namespace K12
open PySem Eng Lf
theorem div_k {a b : Int} (hb : b.natAbs < 2 ^ 100) : t_divisor a b = some ((Int.gcd a b : Nat) : Int) := by
  unfold t_divisor
  rw [ltI_eq, ltI_eq, absT_N, absT_N]
  obtain ⟨w, h1, ⟨x, y, rfl, hg⟩, h3⟩ := whN_eu (c := fun s6 : Int × Int => some (decide ((0 : Int) < s6.2))) (f := fun s6 : Int × Int => (modM s6.1 s6.2).bind fun t7 => some (s6.2, t7))
    (fun v => ∃ x y : Nat, v = ((x : Int), (y : Int)) ∧ Nat.gcd x y = Nat.gcd a.natAbs b.natAbs) (fun v => v.1.toNat) (fun v => v.2.toNat)
    (by
      rintro _ ⟨x, y, rfl, _⟩
      show some (decide ((0 : Int) < (y : Int))) = some (decide (0 < (y : Int).toNat))
      congr 1
      exact decide_eq_decide.mpr (by omega))
    (by
      rintro _ ⟨x, y, rfl, hg⟩ hp
      have hp : 0 < (y : Int).toNat := hp
      refine ⟨((y : Int), ((x % y : Nat) : Int)), ?_, ⟨y, x % y, rfl, ?_⟩, rfl, ?_⟩
      · show ((modM (x : Int) (y : Int)).bind fun t7 => some ((y : Int), t7)) = _
        rw [modM_N (by omega)]; rfl
      · rw [← hg, Nat.gcd_comm x y, Nat.gcd_rec y x, Nat.gcd_comm]
      · show ((x % y : Nat) : Int).toNat = (x : Int).toNat % (y : Int).toNat
        simp only [Int.toNat_natCast])
    100 1000000 ((a.natAbs : Int), (b.natAbs : Int)) ⟨_, _, rfl, rfl⟩ (by show (b.natAbs : Int).toNat < _; rw [Int.toNat_natCast]; exact hb) (by decide)
  have h4 : y = 0 := by
    have : (y : Int).toNat = 0 := h3
    omega
  subst h4
  rw [Nat.gcd_zero_right] at hg
  rw [h1]
  show some (x : Int) = _
  rw [hg]; rfl
theorem shared_k {a b : Int} (hb : b.natAbs < 2 ^ 100) : t_shared a b = some ((Int.gcd a b : Nat) : Int) := div_k hb
theorem ss_k {a b : Nat} (ha : 1 ≤ a) (hb : 1 ≤ b) (ha2 : a < 1000000000000000000) (hb2 : b < 1000000000000000000) : ∃ u v : Int, t_shared_sum a b = some (((Nat.gcd a b : Nat) : Int), u, v) ∧ 0 ≤ u ∧ u < ((b / Nat.gcd a b : Nat) : Int) ∧ (a : Int) * u + (b : Int) * v = (Nat.gcd a b : Nat) := by
  unfold t_shared_sum
  obtain ⟨w, h1, ⟨g, r, u, l, rfl, hg, ⟨t, ht⟩, _, g1, g2, r2⟩, h3⟩ := whN_eu (c := fun s4 : Int × Int × Int × Int => some (decide ((0 : Int) < s4.2.1)))
    (f := fun s4 : Int × Int × Int × Int => (fdivM s4.1 s4.2.1).bind fun t6 =>
  (mulM t6 s4.2.1).bind fun t7 =>
  ltI (s4.1 - t7) fun rest8 =>
  (mulM t6 s4.2.2.2).bind fun t9 =>
  ltI (s4.2.2.1 - t9) fun later10 =>
  some (s4.2.1, rest8, s4.2.2.2, later10))
    (fun v => ∃ (g r : Nat) (u l : Int), v = ((g : Int), (r : Int), u, l) ∧ Nat.gcd g r = Nat.gcd a b ∧ (∃ t, (a : Int) * u + (b : Int) * t = g) ∧ (∃ t, (a : Int) * l + (b : Int) * t = r) ∧ 1 ≤ g ∧ g < 1000000000000000000 ∧ r < 1000000000000000000) (fun v => v.1.toNat) (fun v => v.2.1.toNat)
    (by
      rintro _ ⟨g, r, u, l, rfl, _⟩
      show some (decide ((0 : Int) < (r : Int))) = some (decide (0 < (r : Int).toNat))
      congr 1
      exact decide_eq_decide.mpr (by omega))
    (by
      rintro _ ⟨g, r, u, l, rfl, hg, ⟨t, ht⟩, ⟨t', ht'⟩, g1, g2, r2⟩ hp
      have hp : 0 < (r : Int).toNat := hp
      rw [Int.toNat_natCast] at hp
      have hdm : r * (g / r) + g % r = g := Nat.div_add_mod _ _
      have hml : g % r < r := Nat.mod_lt _ hp
      have hq : g / r < 1000000000000000000 := Nat.lt_of_le_of_lt (Nat.div_le_self _ _) g2
      have e : ((g % r : Nat) : Int) = (g : Int) - ((g / r : Nat) : Int) * (r : Int) := by
        have : ((r * (g / r) + g % r : Nat) : Int) = (g : Int) := by rw [hdm]
        rw [Int.natCast_add, Int.natCast_mul] at this
        rw [Int.mul_comm]
        omega
      refine ⟨((r : Int), ((g % r : Nat) : Int), l, u - ((g / r : Nat) : Int) * l), ?_, ⟨r, g % r, l, u - ((g / r : Nat) : Int) * l, rfl, ?_, ⟨t', ht'⟩, ⟨t - ((g / r : Nat) : Int) * t', ?_⟩, hp, r2, Nat.lt_trans hml r2⟩, rfl, ?_⟩
      · show ((fdivM (g : Int) (r : Int)).bind fun t6 => (mulM t6 (r : Int)).bind fun t7 => ltI ((g : Int) - t7) fun rest8 => (mulM t6 l).bind fun t9 => ltI (u - t9) fun later10 => some ((r : Int), rest8, l, later10)) = _
        rw [fdivM_N hp (by omega)]
        have hq0 : (0 : Int) ≤ ((g / r : Nat) : Int) := Int.natCast_nonneg _
        have hq1 : ((g / r : Nat) : Int) < 1000000000000000000 := Int.ofNat_lt.mpr hq
        generalize ((g / r : Nat) : Int) = q at *
        simp only [sb_]
        rw [mulM_l (by omega) (by omega)]
        simp only [sb_, ltI_eq]
        rw [mulM_l (by omega) (by omega), e]
        rfl
      · rw [← hg, Nat.gcd_comm g r, Nat.gcd_rec r g, Nat.gcd_comm]
      · rw [e, ← ht, ← ht']
        grind
      · show ((g % r : Nat) : Int).toNat = (g : Int).toNat % (r : Int).toNat
        simp only [Int.toNat_natCast])
    60 1000000 ((a : Int), (b : Int), 1, 0) ⟨a, b, 1, 0, rfl, rfl, ⟨0, by omega⟩, ⟨1, by omega⟩, ha, ha2, hb2⟩ (by show (b : Int).toNat < _; rw [Int.toNat_natCast]; omega) (by decide)
  have h4 : r = 0 := by
    have : (r : Int).toNat = 0 := h3
    rwa [Int.toNat_natCast] at this
  subst h4
  rw [Nat.gcd_zero_right] at hg
  subst hg
  rw [h1]
  generalize hG : Nat.gcd a b = G at *
  have dA : G ∣ a := hG ▸ Nat.gcd_dvd_left a b
  have dB : G ∣ b := hG ▸ Nat.gcd_dvd_right a b
  have eA : a / G * G = a := Nat.div_mul_cancel dA
  have eB : b / G * G = b := Nat.div_mul_cancel dB
  have pB : 0 < b / G := Nat.div_pos (Nat.le_of_dvd (by omega) dB) g1
  have hB : b / G < 1000000000000000000 := Nat.lt_of_le_of_lt (Nat.div_le_self _ _) hb2
  generalize hBB : b / G = B at *
  generalize hAA : a / G = A at *
  have hm := Int.emod_add_mul_ediv u (B : Int)
  have hm0 := Int.emod_nonneg u (b := (B : Int)) (by omega)
  have hm1 := Int.emod_lt_of_pos u (b := (B : Int)) (by omega)
  have key : (G : Int) - (a : Int) * (u % (B : Int)) = (b : Int) * (t + (A : Int) * (u / (B : Int))) := by
    have e1 : (a : Int) = (A : Int) * (G : Int) := by rw [← Int.natCast_mul, eA]
    have e2 : (b : Int) = (B : Int) * (G : Int) := by rw [← Int.natCast_mul, eB]
    rw [← ht]
    have : u % (B : Int) = u - (B : Int) * (u / (B : Int)) := by omega
    rw [this, e1, e2]
    grind
  refine ⟨u % (B : Int), t + (A : Int) * (u / (B : Int)), ?_, hm0, hm1, ?_⟩
  · show ((fdivM (b : Int) (G : Int)).bind fun t13 => (modM u t13).bind fun t14 => (mulM (a : Int) t14).bind fun t15 => (fdivM ((G : Int) - t15) (b : Int)).bind fun t16 => some ((G : Int), t14, t16)) = _
    rw [fdivM_N g1 (by omega), hBB]
    simp only [sb_]
    rw [modM_I pB]
    simp only [sb_]
    rw [mulM_l (by omega) (by omega)]
    simp only [sb_]
    rw [key, fdivM_I hb (by omega), Int.mul_ediv_cancel_left _ (by omega)]
    rfl
  · omega
end K12
end
section
set_option Elab.async false
set_option linter.all false
set_option maxRecDepth 100000
set_option maxHeartbeats 2000000
namespace K12
open PySem Eng Lf
def Pr (p : Nat) : Prop := 2 ≤ p ∧ ∀ d, d ∣ p → d = 1 ∨ d = p
def pw : List (Nat × Nat) → Nat
  | [] => 1
  | q :: l => q.1 ^ q.2 * pw l
structure IsFac (n : Nat) (l : List (Nat × Nat)) : Prop where
  up : l.Pairwise fun p q => p.1 < q.1
  pr : ∀ q ∈ l, Pr q.1 ∧ 1 ≤ q.2
  eq : pw l = n
theorem euclid {p a b : Nat} (hp : Pr p) (h : p ∣ a * b) : p ∣ a ∨ p ∣ b := by
  rcases hp.2 (Nat.gcd p a) (Nat.gcd_dvd_left p a) with h1 | h1
  · exact .inr (Nat.Coprime.dvd_of_dvd_mul_left h1 h)
  · exact .inl (h1 ▸ Nat.gcd_dvd_right p a)
theorem pr_pow {p q : Nat} (hp : Pr p) (hq : Pr q) : ∀ e : Nat, p ∣ q ^ e → p = q
  | 0, h => by
    rw [Nat.pow_zero, Nat.dvd_one] at h
    have := hp.1
    omega
  | e + 1, h => by
    rw [Nat.pow_succ] at h
    rcases euclid hp h with h | h
    · exact pr_pow hp hq e h
    · rcases hq.2 p h with h | h
      · have := hp.1; omega
      · exact h
theorem pr_pw {p : Nat} (hp : Pr p) : ∀ {l : List (Nat × Nat)}, (∀ q ∈ l, Pr q.1 ∧ 1 ≤ q.2) → p ∣ pw l → ∃ q ∈ l, p = q.1
  | [], _, h => by
    have : pw [] = 1 := rfl
    rw [this, Nat.dvd_one] at h
    have := hp.1
    omega
  | q :: l, hl, h => by
    rcases euclid hp (show p ∣ q.1 ^ q.2 * pw l from h) with h | h
    · exact ⟨q, by simp, pr_pow hp (hl q (by simp)).1 _ h⟩
    · obtain ⟨r, h1, h2⟩ := pr_pw hp (l := l) (fun r hr => hl r (by simp [hr])) h
      exact ⟨r, by simp [h1], h2⟩
theorem dvd_pw {q : Nat × Nat} : ∀ {l : List (Nat × Nat)}, q ∈ l → 1 ≤ q.2 → q.1 ∣ pw l
  | r :: l, h, he => by
    rcases List.mem_cons.mp h with rfl | h
    · exact Nat.dvd_trans (Nat.dvd_trans (Nat.dvd_refl _) (by obtain ⟨e, he⟩ : ∃ e, q.2 = e + 1 := ⟨q.2 - 1, by omega⟩; rw [he, Nat.pow_succ]; exact Nat.dvd_mul_left _ _)) (Nat.dvd_mul_right (q.1 ^ q.2) (pw l))
    · exact Nat.dvd_trans (dvd_pw h he) (Nat.dvd_mul_left _ _)
theorem pw_pos : ∀ {l : List (Nat × Nat)}, (∀ q ∈ l, Pr q.1 ∧ 1 ≤ q.2) → 1 ≤ pw l
  | [], _ => Nat.le_refl _
  | q :: l, h => Nat.mul_pos (Nat.pow_pos (by have := (h q (by simp)).1.1; omega)) (pw_pos fun r hr => h r (by simp [hr]))
theorem fac_unique : ∀ {n : Nat} {l l' : List (Nat × Nat)}, IsFac n l → IsFac n l' → l = l'
  | n, [], [], _, _ => rfl
  | n, [], q :: l', h, h' => by
    exfalso
    have h1 := dvd_pw (q := q) (l := q :: l') (by simp) (h'.pr q (by simp)).2
    rw [h'.eq, ← h.eq, show pw [] = 1 from rfl, Nat.dvd_one] at h1
    have := (h'.pr q (by simp)).1.1
    omega
  | n, q :: l, [], h, h' => by
    exfalso
    have h1 := dvd_pw (q := q) (l := q :: l) (by simp) (h.pr q (by simp)).2
    rw [h.eq, ← h'.eq, show pw [] = 1 from rfl, Nat.dvd_one] at h1
    have := (h.pr q (by simp)).1.1
    omega
  | n, q :: l, q' :: l', h, h' => by
    have a1 := (h.pr q (by simp))
    have a1' := (h'.pr q' (by simp))
    have u := List.pairwise_cons.mp h.up
    have u' := List.pairwise_cons.mp h'.up
    have le1 : q'.1 ≤ q.1 := by
      have h1 := dvd_pw (q := q) (l := q :: l) (by simp) a1.2
      rw [h.eq, ← h'.eq] at h1
      obtain ⟨r, hr, e⟩ := pr_pw a1.1 h'.pr h1
      rcases List.mem_cons.mp hr with rfl | hr
      · omega
      · have := u'.1 r hr; omega
    have le2 : q.1 ≤ q'.1 := by
      have h1 := dvd_pw (q := q') (l := q' :: l') (by simp) a1'.2
      rw [h'.eq, ← h.eq] at h1
      obtain ⟨r, hr, e⟩ := pr_pw a1'.1 h.pr h1
      rcases List.mem_cons.mp hr with rfl | hr
      · omega
      · have := u.1 r hr; omega
    have pe : q.1 = q'.1 := by omega
    have nd : ¬ q.1 ∣ pw l := fun z => by
      obtain ⟨r, hr, e⟩ := pr_pw a1.1 (fun r hr => h.pr r (by simp [hr])) z
      have := u.1 r hr; omega
    have nd' : ¬ q.1 ∣ pw l' := fun z => by
      obtain ⟨r, hr, e⟩ := pr_pw a1.1 (fun r hr => h'.pr r (by simp [hr])) z
      have := u'.1 r hr; omega
    have e0 : q.1 ^ q.2 * pw l = q.1 ^ q'.2 * pw l' := by
      have : q.1 ^ q.2 * pw l = q'.1 ^ q'.2 * pw l' := h.eq.trans h'.eq.symm
      rwa [← pe] at this
    have pp : ∀ k, 0 < q.1 ^ k := fun k => Nat.pow_pos (by have := a1.1.1; omega)
    have ee : q.2 = q'.2 := by
      rcases Nat.lt_trichotomy q.2 q'.2 with z | z | z
      · exfalso
        obtain ⟨d, hd⟩ : ∃ d, q'.2 = q.2 + (d + 1) := ⟨q'.2 - q.2 - 1, by omega⟩
        rw [hd, Nat.pow_add, Nat.mul_assoc] at e0
        have := Nat.eq_of_mul_eq_mul_left (pp _) e0
        exact nd ⟨q.1 ^ d * pw l', by rw [this, Nat.pow_succ]; simp only [Nat.mul_comm, Nat.mul_left_comm, Nat.mul_assoc]⟩
      · exact z
      · exfalso
        obtain ⟨d, hd⟩ : ∃ d, q.2 = q'.2 + (d + 1) := ⟨q.2 - q'.2 - 1, by omega⟩
        rw [hd, Nat.pow_add, Nat.mul_assoc] at e0
        have := Nat.eq_of_mul_eq_mul_left (pp _) e0
        exact nd' ⟨q.1 ^ d * pw l, by rw [← this, Nat.pow_succ]; simp only [Nat.mul_comm, Nat.mul_left_comm, Nat.mul_assoc]⟩
    have et : pw l = pw l' := by
      rw [ee] at e0
      exact Nat.eq_of_mul_eq_mul_left (pp _) e0
    have ht := fac_unique (n := pw l) (l := l) (l' := l') ⟨u.2, fun r hr => h.pr r (by simp [hr]), rfl⟩ ⟨u'.2, fun r hr => h'.pr r (by simp [hr]), et.symm⟩
    rw [ht, show q = q' from Prod.ext pe ee]
theorem pw_append : ∀ l l' : List (Nat × Nat), pw (l ++ l') = pw l * pw l'
  | [], l' => (Nat.one_mul _).symm
  | q :: l, l' => by
    show q.1 ^ q.2 * pw (l ++ l') = q.1 ^ q.2 * pw l * pw l'
    rw [pw_append l l', Nat.mul_assoc]
def toI (q : Nat × Nat) : Int × Int := ((q.1 : Int), (q.2 : Int))
/-- what is told of a number half parted -/
structure Half (n N p : Nat) (l : List (Nat × Nat)) : Prop where
  p2 : 2 ≤ p
  n1 : 1 ≤ N
  up : l.Pairwise fun p q => p.1 < q.1
  pr : ∀ q ∈ l, Pr q.1 ∧ 1 ≤ q.2
  lt : ∀ q ∈ l, q.1 < p
  len : l.length < p
  eq : pw l * N = n
  no : ∀ d, d ∣ N → d = 1 ∨ p ≤ d
theorem Half.le {n N p : Nat} {l : List (Nat × Nat)} (h : Half n N p l) : N ≤ n := by
  rw [← h.eq]
  exact Nat.le_mul_of_pos_left _ (pw_pos h.pr)
/-- p does not divide: on -/
theorem Half.skip {n N p : Nat} {l : List (Nat × Nat)} (h : Half n N p l) (hp : N % p ≠ 0) : Half n N (p + 1) l :=
  ⟨by have := h.p2; omega, h.n1, h.up, h.pr, fun q hq => by have := h.lt q hq; omega, by have := h.len; omega, h.eq, fun d hd => by
    rcases h.no d hd with z | z
    · exact .inl z
    · refine .inr ?_
      rcases Nat.lt_or_ge p d with y | y
      · exact y
      · have : d = p := by omega
        subst this
        exact absurd (Nat.mod_eq_zero_of_dvd hd) hp⟩
/-- p divides o times -/
theorem Half.take {n N M p o : Nat} {l : List (Nat × Nat)} (h : Half n N p l) (ho : 1 ≤ o) (e : M * p ^ o = N) (hM : M % p ≠ 0) (hM1 : 1 ≤ M) : Half n M (p + 1) (l ++ [(p, o)]) := by
  have dM : M ∣ N := ⟨p ^ o, e.symm⟩
  have dp : p ∣ N := by
    obtain ⟨k, rfl⟩ : ∃ k, o = k + 1 := ⟨o - 1, by omega⟩
    exact ⟨M * p ^ k, by rw [← e, Nat.pow_succ]; simp only [Nat.mul_comm, Nat.mul_left_comm]⟩
  have pp : Pr p := ⟨h.p2, fun d hd => by
    rcases h.no d (Nat.dvd_trans hd dp) with z | z
    · exact .inl z
    · exact .inr (Nat.le_antisymm (Nat.le_of_dvd (by have := h.p2; omega) hd) z)⟩
  refine ⟨by have := h.p2; omega, hM1, ?_, ?_, ?_, ?_, ?_, ?_⟩
  · rw [List.pairwise_append]
    refine ⟨h.up, List.pairwise_singleton _ _, fun a ha b hb => ?_⟩
    rw [List.mem_singleton] at hb
    subst hb
    exact h.lt a ha
  · intro q hq
    rcases List.mem_append.mp hq with z | z
    · exact h.pr q z
    · rw [List.mem_singleton] at z; subst z; exact ⟨pp, ho⟩
  · intro q hq
    rcases List.mem_append.mp hq with z | z
    · have := h.lt q z; omega
    · rw [List.mem_singleton] at z; subst z; exact Nat.lt_succ_self p
  · rw [List.length_append]
    have := h.len
    simp; omega
  · rw [pw_append]
    show pw l * (p ^ o * 1) * M = n
    rw [← h.eq, ← e, Nat.mul_one, Nat.mul_assoc, Nat.mul_comm (p ^ o)]
  · intro d hd
    rcases h.no d (Nat.dvd_trans hd dM) with z | z
    · exact .inl z
    · refine .inr ?_
      rcases Nat.lt_or_ge p d with y | y
      · exact y
      · have : d = p := by omega
        subst this
        exact absurd (Nat.mod_eq_zero_of_dvd hd) hM
/-- all parted -/
theorem Half.last1 {n p : Nat} {l : List (Nat × Nat)} (h : Half n 1 p l) : IsFac n l := ⟨h.up, h.pr, by rw [← h.eq, Nat.mul_one]⟩
theorem Half.lastN {n N p : Nat} {l : List (Nat × Nat)} (h : Half n N p l) (h1 : 1 < N) (h2 : N < p * p) : IsFac n (l ++ [(N, 1)]) := by
  have hp : p ≤ N := by
    rcases h.no N (Nat.dvd_refl N) with z | z
    · omega
    · exact z
  have pN : Pr N := ⟨by omega, fun d hd => by
    rcases h.no d hd with z | z
    · exact .inl z
    · obtain ⟨e, he⟩ := hd
      rcases h.no e ⟨d, by rw [he, Nat.mul_comm]⟩ with y | y
      · right; rw [he, y, Nat.mul_one]
      · have := Nat.mul_le_mul z y
        omega⟩
  refine ⟨?_, ?_, ?_⟩
  · rw [List.pairwise_append]
    refine ⟨h.up, List.pairwise_singleton _ _, fun a ha b hb => ?_⟩
    rw [List.mem_singleton] at hb
    subst hb
    have := h.lt a ha
    show a.1 < N
    omega
  · intro q hq
    rcases List.mem_append.mp hq with z | z
    · exact h.pr q z
    · rw [List.mem_singleton] at z; subst z; exact ⟨pN, Nat.le_refl 1⟩
  · rw [pw_append]
    show pw l * (N ^ 1 * 1) = n
    rw [Nat.pow_one, Nat.mul_one, h.eq]
theorem at_map {α β : Type} {f : α → β} {l : List α} {i : Nat} {x : β} (h : (l.map f)[i]? = some x) : ∃ q, l[i]? = some q ∧ x = f q := by
  rw [List.getElem?_map] at h
  obtain ⟨q, h1, h2⟩ := Option.map_eq_some_iff.mp h
  exact ⟨q, h1, h2.symm⟩
def Ex (n : Nat) (z : Option (List (Int × Int))) : Prop := ∃ l, IsFac n l ∧ z = some (l.map toI)
theorem fac_end {n N p : Nat} {l : List (Nat × Nat)} {K : List (Int × Int) → Option (List (Int × Int))} (h : Half n N p l) (hl : l.length < 100000) (h2 : N < p * p) (hK : ∀ x, K x = some x) :
    Ex n ((bif (decide ((1 : Int) < (N : Int))) then ((appM (l.map toI) ((N : Int), (1 : Int))).bind fun f => some f) else some (l.map toI)).bind K) := by
  by_cases h1 : 1 < N
  · rw [decide_eq_true (show (1 : Int) < (N : Int) by omega), bt_, appM_N (by rw [List.length_map]; omega)]
    simp only [sb_]
    rw [hK]
    exact ⟨_, h.lastN h1 h2, by rw [List.map_append]; rfl⟩
  · have h1' := h.n1
    have : N = 1 := by omega
    subst this
    rw [decide_eq_false (show ¬ (1 : Int) < ((1 : Nat) : Int) by omega), bf_]
    simp only [sb_]
    rw [hK]
    exact ⟨_, h.last1, rfl⟩
theorem primes_k {n : Nat} (h1 : 1 ≤ n) (h2 : n ≤ 1000000) : Ex n (t_primes_of n) := by
  unfold t_primes_of
  rw [ls_]
  refine wh_then (Ex n) (fun v => ∃ (N p : Nat) (l : List (Nat × Nat)), v = ((N : Int), l.map toI, (p : Int)) ∧ Half n N p l ∧ p ≤ 1001) (fun v => 2000 - v.2.2.toNat)
    (fun v => ∃ (N p : Nat) (l : List (Nat × Nat)), v = ((N : Int), l.map toI, (p : Int)) ∧ Half n N p l ∧ p ≤ 1001 ∧ N < p * p)
    ⟨n, 2, [], rfl, ⟨by omega, h1, .nil, by simp, by simp, by simp, by show 1 * n = n; omega, fun d hd => ?_⟩, by omega⟩ (by omega) ?_ ?_
  · rcases Nat.lt_or_ge d 2 with z | z
    · have : d ≠ 0 := fun y => by subst y; rw [Nat.zero_dvd] at hd; omega
      left; omega
    · exact .inr z
  · rintro _ ⟨N, p, l, rfl, h, hp⟩
    have hN := h.le
    have hp2 := h.p2
    have hpp : p * p ≤ 1001 * 1001 := Nat.mul_le_mul hp hp
    show (((mulM (p : Int) (p : Int)).bind fun t19 => some (decide (t19 ≤ (N : Int)))) = some false ∧ _) ∨ (((mulM (p : Int) (p : Int)).bind fun t19 => some (decide (t19 ≤ (N : Int)))) = some true ∧ _)
    rw [mulM_N (by omega)]
    simp only [sb_]
    by_cases hc : p * p ≤ N
    · right
      refine ⟨by rw [decide_eq_true (show ((p * p : Nat) : Int) ≤ (N : Int) by omega)], ?_⟩
      have hp3 : p ≤ 1000 := by
        rcases Nat.lt_or_ge 1000 p with z | z
        · have := Nat.mul_le_mul z z
          omega
        · exact z
      refine wh_then (fun z => ∃ v', z = some v' ∧ (∃ (N p : Nat) (l : List (Nat × Nat)), v' = ((N : Int), l.map toI, (p : Int)) ∧ Half n N p l ∧ p ≤ 1001) ∧ 2000 - v'.2.2.toNat < 2000 - (p : Int).toNat)
        (fun v => ∃ M o : Nat, v = ((M : Int), (o : Int)) ∧ M * p ^ o = N ∧ 1 ≤ M) (fun v => v.1.toNat - 1) (fun v => ∃ M o : Nat, v = ((M : Int), (o : Int)) ∧ M * p ^ o = N ∧ 1 ≤ M ∧ M % p ≠ 0)
        ⟨N, 0, rfl, by rw [Nat.pow_zero, Nat.mul_one], h.n1⟩ (by show (N : Int).toNat - 1 < 1000000; have := h.n1; omega) ?_ ?_
      · rintro _ ⟨M, o, rfl, e, hM⟩
        show (((modM (M : Int) (p : Int)).bind fun t14 => some (decide (t14 = (0 : Int)))) = some false ∧ _) ∨ (((modM (M : Int) (p : Int)).bind fun t14 => some (decide (t14 = (0 : Int)))) = some true ∧ _)
        rw [modM_N (by omega)]
        simp only [sb_]
        by_cases hm : M % p = 0
        · right
          have hdm : M / p * p = M := Nat.div_mul_cancel (Nat.dvd_of_mod_eq_zero hm)
          have hq1 : 1 ≤ M / p := Nat.div_pos (Nat.le_of_dvd (by omega) (Nat.dvd_of_mod_eq_zero hm)) (by omega)
          have hlt : M / p < M := Nat.div_lt_self (by omega) (by omega)
          refine ⟨by rw [decide_eq_true (show ((M % p : Nat) : Int) = 0 by omega)], (((M / p : Nat) : Int), ((o + 1 : Nat) : Int)), ?_, ⟨M / p, o + 1, rfl, ?_, hq1⟩, ?_⟩
          · show ((fdivM (M : Int) (p : Int)).bind fun n8 => ltI ((o : Int) + 1) fun often9 => some (n8, often9)) = _
            rw [fdivM_N (by omega) (by omega)]
            simp only [sb_, ltI_eq]
            rfl
          · rw [Nat.pow_succ, Nat.mul_comm (p ^ o), ← Nat.mul_assoc, hdm, e]
          · show ((M / p : Nat) : Int).toNat - 1 < (M : Int).toNat - 1
            rw [Int.toNat_natCast, Int.toNat_natCast]
            omega
        · left
          exact ⟨by rw [decide_eq_false (show ¬ ((M % p : Nat) : Int) = 0 by omega)], M, o, rfl, e, hM, hm⟩
      · rintro _ ⟨M, o, rfl, e, hM, hm⟩
        have hl := h.len
        have tk : ∃ l', ((bif (decide ((0 : Int) < (o : Int))) then (appM (l.map toI) ((p : Int), (o : Int))).bind (fun found11 => some found11) else some (l.map toI))) = some (l'.map toI) ∧ Half n M (p + 1) l' := by
          by_cases ho : o = 0
          · subst ho
            rw [Nat.pow_zero, Nat.mul_one] at e
            subst e
            exact ⟨l, by rw [decide_eq_false (show ¬ (0 : Int) < ((0 : Nat) : Int) by omega), bf_], h.skip hm⟩
          · refine ⟨l ++ [(p, o)], ?_, h.take (by omega) e hm hM⟩
            rw [decide_eq_true (show (0 : Int) < (o : Int) by omega), bt_, appM_N (by rw [List.length_map]; omega)]
            simp only [sb_]
            rw [List.map_append]; rfl
        obtain ⟨l', e1, h'⟩ := tk
        show ∃ v', ((bif (decide ((0 : Int) < (o : Int))) then (appM (l.map toI) ((p : Int), (o : Int))).bind (fun found11 => some found11) else some (l.map toI)).bind fun s12 => ltI ((p : Int) + 1) fun part13 => some ((M : Int), s12, part13)) = some v' ∧ _
        rw [e1]
        simp only [sb_, ltI_eq]
        refine ⟨_, rfl, ⟨M, p + 1, l', rfl, h', by omega⟩, ?_⟩
        show 2000 - ((p + 1 : Nat) : Int).toNat < 2000 - (p : Int).toNat
        rw [Int.toNat_natCast, Int.toNat_natCast]
        omega
    · left
      exact ⟨by rw [decide_eq_false (show ¬ ((p * p : Nat) : Int) ≤ (N : Int) by omega)], N, p, l, rfl, h, hp, by omega⟩
  · rintro _ ⟨N, p, l, rfl, h, hp, hlt⟩
    exact fac_end h (by have := h.len; omega) hlt fun x => rfl
theorem lfac_k {n : Nat} (h1 : 1 ≤ n) (h2 : n ≤ 10000) : Ex n (t__law_factors n) := by
  unfold t__law_factors
  rw [ls_, show (2 : Int) = ((2 : Nat) : Int) from rfl, show (101 : Int) = ((101 : Nat) : Int) from rfl, rng2M_N (by omega) (by omega)]
  simp only [sb_]
  refine for_then (Ex n) (fun i v => ∃ (N : Nat) (l : List (Nat × Nat)), v = (l.map toI, (N : Int)) ∧ Half n N (2 + i) l) ⟨n, [], rfl, ⟨by omega, h1, .nil, by simp, by simp, by simp, by show 1 * n = n; omega, fun d hd => ?_⟩⟩ ?_ ?_
  · rcases Nat.lt_or_ge d 2 with z | z
    · have : d ≠ 0 := fun y => by subst y; rw [Nat.zero_dvd] at hd; omega
      left; omega
    · exact .inr z
  · rintro i x _ hx ⟨N, l, rfl, h⟩
    obtain ⟨hi, rfl⟩ := rngI_at hx
    rw [show ((2 : Nat) : Int) + (i : Int) = ((2 + i : Nat) : Int) by omega]
    have hN := h.le
    have hp2 := h.p2
    have hl := h.len
    generalize hp : 2 + i = p at *
    show ∃ v', ((modM (N : Int) (p : Int)).bind fun t9 => bif (decide (t9 = (0 : Int))) then (
  (rng1M (20 : Int)).bind fun r10 =>
  (forN (fun (x11 : Int) (s12 : ((Int) × (Int))) =>
  (modM s12.1 (p : Int)).bind fun t14 =>
  bif (decide (t14 = (0 : Int))) then (
  (fdivM s12.1 (p : Int)).bind fun t15 =>
  ltI (s12.2 + (1 : Int)) fun many16 =>
  some (t15, many16))
  else
  some (s12.1, s12.2)) r10 ((N : Int), (0 : Int))).bind fun (s17 : ((Int) × (Int))) =>
  (appM (l.map toI) ((p : Int), s17.2)).bind fun found19 =>
  some (found19, s17.1))
  else
  some (l.map toI, (N : Int))) = some v' ∧ _
    rw [modM_N (by omega)]
    simp only [sb_]
    by_cases hm : N % p = 0
    · rw [decide_eq_true (show ((N % p : Nat) : Int) = 0 by omega), bt_, show (20 : Int) = ((20 : Nat) : Int) from rfl, rng1M_N (by omega)]
      simp only [sb_]
      refine for_then (fun z => ∃ v', z = some v' ∧ ∃ (M : Nat) (l' : List (Nat × Nat)), v' = (l'.map toI, (M : Int)) ∧ Half n M (2 + (i + 1)) l')
        (fun j v => ∃ M o : Nat, v = ((M : Int), (o : Int)) ∧ M * p ^ o = N ∧ 1 ≤ M ∧ (M % p ≠ 0 ∨ o = j) ∧ (o = 0 → j = 0)) ⟨N, 0, rfl, by rw [Nat.pow_zero, Nat.mul_one], h.n1, .inr rfl, fun _ => rfl⟩ ?_ ?_
      · rintro j y _ _ ⟨M, o, rfl, e, hM, hor, hz⟩
        show ∃ v', ((modM (M : Int) (p : Int)).bind fun t14 => bif (decide (t14 = (0 : Int))) then ((fdivM (M : Int) (p : Int)).bind fun t15 => ltI ((o : Int) + (1 : Int)) fun many16 => some (t15, many16)) else some ((M : Int), (o : Int))) = some v' ∧ _
        rw [modM_N (by omega)]
        simp only [sb_]
        by_cases hm2 : M % p = 0
        · have hdm : M / p * p = M := Nat.div_mul_cancel (Nat.dvd_of_mod_eq_zero hm2)
          have hq1 : 1 ≤ M / p := Nat.div_pos (Nat.le_of_dvd (by omega) (Nat.dvd_of_mod_eq_zero hm2)) (by omega)
          rw [decide_eq_true (show ((M % p : Nat) : Int) = 0 by omega), bt_, fdivM_N (by omega) (by omega)]
          simp only [sb_, ltI_eq]
          refine ⟨_, rfl, M / p, o + 1, rfl, ?_, hq1, ?_, fun z => by omega⟩
          · rw [Nat.pow_succ, Nat.mul_comm (p ^ o), ← Nat.mul_assoc, hdm, e]
          · rcases hor with z | z
            · exact absurd hm2 z
            · right; omega
        · rw [decide_eq_false (show ¬ ((M % p : Nat) : Int) = 0 by omega), bf_]
          refine ⟨_, rfl, M, o, rfl, e, hM, .inl hm2, fun z => ?_⟩
          subst z
          rw [Nat.pow_zero, Nat.mul_one] at e
          subst e
          exact absurd hm hm2
      · rintro _ ⟨M, o, rfl, e, hM, hor, hz⟩
        rw [nL_len] at hor hz
        have ho : 1 ≤ o := by
          rcases Nat.eq_zero_or_pos o with z | z
          · have := hz z; omega
          · exact z
        have hm2 : M % p ≠ 0 := by
          rcases hor with z | z
          · exact z
          · exfalso
            subst z
            have a1 : 2 ^ 20 ≤ p ^ 20 := Nat.pow_le_pow_left hp2 20
            have a2 : 1 * p ^ 20 ≤ M * p ^ 20 := Nat.mul_le_mul_right _ hM
            have a3 : (2 : Nat) ^ 20 = 1048576 := rfl
            omega
        show ∃ v', ((appM (l.map toI) ((p : Int), (o : Int))).bind fun found19 => some (found19, (M : Int))) = some v' ∧ _
        rw [appM_N (by rw [List.length_map]; omega)]
        simp only [sb_]
        refine ⟨_, rfl, M, l ++ [(p, o)], by rw [List.map_append]; rfl, ?_⟩
        rw [show 2 + (i + 1) = p + 1 by omega]
        exact h.take ho e hm2 hM
    · rw [decide_eq_false (show ¬ ((N % p : Nat) : Int) = 0 by omega), bf_]
      refine ⟨_, rfl, N, l, rfl, ?_⟩
      rw [show 2 + (i + 1) = p + 1 by omega]
      exact h.skip hm
  · rintro _ ⟨N, l, rfl, h⟩
    rw [rngI_len] at h
    have hN := h.le
    exact fac_end h (by have := h.len; omega) (by omega) fun x => rfl
end K12
end
section
set_option Elab.async false
set_option linter.all false
set_option maxRecDepth 100000
set_option maxHeartbeats 2000000
namespace K12
open PySem Eng Lf
def gF (x4 : Int) (s5 : Int × Int) : Option (Fw (Int × Int) Int) :=
  bif (decide (s5.2 = (0 : Int))) then (
  some (Fw.rt s5.1))
  else
  (modM s5.1 s5.2).bind fun t7 =>
  some (Fw.nx (s5.2, t7))
def gK : Fw (Int × Int) Int → Option Int := aft (fun (s8 : ((Int) × (Int))) => some s8.1) (fun r => some r)
theorem gF_0 (x a : Int) : gF x (a, 0) = some (Fw.rt a) := rfl
theorem gF_s (x : Int) {a b : Nat} (h : 0 < b) : gF x ((a : Int), (b : Int)) = some (Fw.nx ((b : Int), ((a % b : Nat) : Int))) := by
  unfold gF
  rw [decide_eq_false (show ¬ (b : Int) = 0 by omega), bf_, modM_N h]; rfl
theorem g_loop : ∀ (k : Nat) (xs : List Int) (a b : Nat), b < 2 ^ k → 2 * k + 1 ≤ xs.length → (forX gF xs ((a : Int), (b : Int))).bind gK = some ((Nat.gcd a b : Nat) : Int) := by
  have stop : ∀ (xs : List Int) (a : Nat), 1 ≤ xs.length → (forX gF xs ((a : Int), ((0 : Nat) : Int))).bind gK = some ((Nat.gcd a 0 : Nat) : Int) := fun xs a h => by
    cases xs with
    | nil => simp at h
    | cons x xs =>
      show ((gF x ((a : Int), 0)).bind _).bind gK = _
      rw [gF_0, Nat.gcd_zero_right]; rfl
  have go : ∀ (x : Int) (xs : List Int) (a b : Nat), 0 < b → (forX gF (x :: xs) ((a : Int), (b : Int))).bind gK = (forX gF xs ((b : Int), ((a % b : Nat) : Int))).bind gK := fun x xs a b h => by
    show ((gF x ((a : Int), (b : Int))).bind _).bind gK = _
    rw [gF_s x h]; rfl
  have gg : ∀ a b : Nat, Nat.gcd b (a % b) = Nat.gcd a b := fun a b => by rw [Nat.gcd_comm a b, Nat.gcd_rec b a, Nat.gcd_comm]
  intro k
  induction k with
  | zero =>
    intro xs a b h hl
    have : b = 0 := by omega
    subst this
    exact stop xs a (by omega)
  | succ k ih =>
    intro xs a b h hl
    match xs, hl with
    | x :: y :: xs, hl =>
      by_cases h0 : b = 0
      · subst h0; exact stop _ a (by simp)
      · rw [go x _ a b (by omega)]
        by_cases h1 : a % b = 0
        · rw [h1, stop _ b (by simp), ← gg a b, h1]
        · rw [go y xs b (a % b) (by omega), ih xs (a % b) (b % (a % b)) ?_ (by simp at hl; omega), gg, gg]
          have a1 : a % b < b := Nat.mod_lt _ (by omega)
          generalize hr : a % b = r at *
          have a2 : b % r < r := Nat.mod_lt _ (by omega)
          have a3 : r * (b / r) + b % r = b := Nat.div_add_mod _ _
          have a4 : 1 ≤ b / r := (Nat.one_le_div_iff (by omega)).mpr (by omega)
          have a5 : r * 1 ≤ r * (b / r) := Nat.mul_le_mul_left _ a4
          rw [Nat.pow_succ] at h
          omega
theorem lgcd_k {a b : Nat} (h : b < 2 ^ 29) : t__law_gcd (a : Int) (b : Int) = some ((Nat.gcd a b : Nat) : Int) := by
  unfold t__law_gcd
  rw [show (60 : Int) = ((60 : Nat) : Int) from rfl, rng1M_N (by omega)]
  simp only [sb_]
  exact g_loop 29 (nL 60) a b h (by rw [nL_len]; omega)
theorem shared_right_k {one other third : Int} (h1 : one.natAbs ≤ 2000000) (h2 : other.natAbs ≤ 2000000) (h3 : third.natAbs ≤ 1000) : t__law_shared_right one other third = some true := by
  have p29 : (2 : Nat) ^ 29 = 536870912 := rfl
  have p100 : (2000000000000 : Nat) < 2 ^ 100 := by decide +kernel
  have m1 : (third * other).natAbs ≤ 1000 * 2000000 := by rw [Int.natAbs_mul]; exact Nat.mul_le_mul h3 h2
  have m2 : (third * one).natAbs ≤ 1000 * 2000000 := by rw [Int.natAbs_mul]; exact Nat.mul_le_mul h3 h1
  generalize hG : Int.gcd one other = g
  have g0 : Nat.gcd one.natAbs other.natAbs = g := hG
  have gle : g ≤ 2000000 ∨ one = 0 := by
    by_cases h : one = 0
    · exact .inr h
    · refine .inl (Nat.le_trans (Nat.le_of_dvd (by omega) ?_) h1)
      rw [← g0]; exact Nat.gcd_dvd_left _ _
  have gle : g ≤ 2000000 := by
    rcases gle with z | z
    · exact z
    · rw [← g0, z, show (0 : Int).natAbs = 0 from rfl, Nat.gcd_zero_left]; exact h2
  unfold t__law_shared_right
  rw [absT_N, absT_N, absT_N, lgcd_k (by omega), g0]
  simp only [sb_]
  rw [shared_k (by omega), hG]
  simp only [sb_]
  rw [shared_k (by omega), Int.gcd_comm, hG]
  simp only [sb_]
  rw [mulM_l (by omega) (by omega)]
  simp only [sb_]
  rw [shared_k (by omega), show Int.gcd (one + third * other) other = g by rw [Int.gcd_comm, Int.gcd_add_mul_right_right, Int.gcd_comm, hG]]
  simp only [sb_, ls_]
  rw [like_same rfl rfl]
  simp only [sb_]
  rw [show (!true) = false from rfl, bf_]
  rw [mulM_l (by omega) (by omega)]
  simp only [sb_]
  rw [shared_k (by omega), Int.gcd_mul_left, hG]
  simp only [sb_]
  rw [mulM_N (by omega)]
  simp only [sb_]
  rw [like_same rfl rfl]
  simp only [sb_]
  rw [show (!true) = false from rfl, bf_]
  rw [lgcd_k (by omega)]
  simp only [sb_]
  rw [shared_k (by omega)]
  simp only [sb_]
  rw [shared_k (by omega)]
  simp only [sb_]
  have o3 : Int.gcd other third ≤ 2000000 := by
    by_cases h : other = 0
    · subst h
      show Nat.gcd 0 third.natAbs ≤ _
      rw [Nat.gcd_zero_left]; omega
    · refine Nat.le_trans (Nat.le_of_dvd (by omega) ?_) h2
      exact Nat.gcd_dvd_left _ _
  rw [shared_k (by rw [Int.natAbs_natCast]; omega)]
  simp only [sb_]
  rw [like_same (by
    have e1 : Int.gcd (g : Int) third = Nat.gcd g third.natAbs := rfl
    have e2 : Int.gcd one ((Int.gcd other third : Nat) : Int) = Nat.gcd g third.natAbs := by rw [← Int.gcd_assoc, hG]; rfl
    rw [e1, e2]) rfl]
  simp only [sb_]
  rw [show (!true) = false from rfl, bf_]
  by_cases hlt : one < 1 ∨ other < 1
  · have : (decide (one < (1 : Int)) || decide (other < (1 : Int))) = true := by
      rw [Bool.or_eq_true, decide_eq_true_eq, decide_eq_true_eq]; exact hlt
    rw [this, bt_]
  · have : (decide (one < (1 : Int)) || decide (other < (1 : Int))) = false := by
      rw [Bool.or_eq_false_iff, decide_eq_false_iff_not, decide_eq_false_iff_not]; omega
    rw [this, bf_]
    obtain ⟨a, rfl⟩ : ∃ a : Nat, one = a := ⟨one.toNat, by omega⟩
    obtain ⟨b, rfl⟩ : ∃ b : Nat, other = b := ⟨other.toNat, by omega⟩
    have g0 : Nat.gcd a b = g := g0
    obtain ⟨u, v, s1, s2, s3, s4⟩ := ss_k (a := a) (b := b) (by omega) (by omega) (by omega) (by omega)
    rw [g0] at s1 s3 s4
    have gp : 0 < g := by rw [← g0]; exact Nat.gcd_pos_of_pos_left _ (by omega)
    rw [s1]
    simp only [sb_]
    rw [decide_eq_true trivial, bt_]
    rw [mulM_l (by omega) (by omega)]
    simp only [sb_]
    rw [mulM_l (by omega) (by omega)]
    simp only [sb_]
    rw [decide_eq_true s4, bt_, decide_eq_true s2, bt_]
    rw [fdivM_N gp (by omega)]
    simp only [sb_]
    rw [decide_eq_true s3]
end K12
end
section
set_option Elab.async false
set_option linter.all false
set_option maxRecDepth 100000
set_option maxHeartbeats 2000000
namespace K12
open PySem Eng Lf
def Sol (l : List (Nat × Nat)) (x : Nat) : Prop := ∀ q ∈ l, x % q.2 = q.1
def lcmF (s : Nat) (l : List (Nat × Nat)) : Nat := l.foldl (fun s q => Nat.lcm s q.2) s
def lcmL (l : List (Nat × Nat)) : Nat := lcmF 1 l
theorem lcmF_dvd : ∀ (l : List (Nat × Nat)) (s k : Nat), lcmF s l ∣ k ↔ s ∣ k ∧ ∀ q ∈ l, q.2 ∣ k
  | [], s, k => by show s ∣ k ↔ _; simp
  | q :: l, s, k => by
    show lcmF (Nat.lcm s q.2) l ∣ k ↔ _
    rw [lcmF_dvd l, Nat.lcm_dvd_iff]
    simp only [List.mem_cons, forall_eq_or_imp, and_assoc]
theorem lcmL_dvd (l : List (Nat × Nat)) (k : Nat) : lcmL l ∣ k ↔ ∀ q ∈ l, q.2 ∣ k := by
  unfold lcmL
  rw [lcmF_dvd]
  simp
theorem lcmL_snoc (l : List (Nat × Nat)) (q : Nat × Nat) : lcmL (l ++ [q]) = Nat.lcm (lcmL l) q.2 := by
  unfold lcmL lcmF
  rw [List.foldl_append]; rfl
theorem lcmL_congr {l l' : List (Nat × Nat)} (h : ∀ q, q ∈ l ↔ q ∈ l') : lcmL l = lcmL l' :=
  Nat.dvd_antisymm ((lcmL_dvd l _).mpr fun q hq => (lcmL_dvd l' _).mp (Nat.dvd_refl _) q ((h q).mp hq)) ((lcmL_dvd l' _).mpr fun q hq => (lcmL_dvd l _).mp (Nat.dvd_refl _) q ((h q).mpr hq))
theorem lcmL_mem {l : List (Nat × Nat)} {q : Nat × Nat} (h : q ∈ l) : q.2 ∣ lcmL l := (lcmL_dvd l _).mp (Nat.dvd_refl _) q h
/-- what is told of the numbers with S, in laps of M -/
def TG (S : Nat → Prop) (M : Nat) (z : Option (Int × Int)) : Prop := (z = none ∧ ∀ x, ¬ S x) ∨ ∃ r : Nat, z = some ((r : Int), (M : Int)) ∧ r < M ∧ S r ∧ ∀ x, S x → x % M = r
theorem TG_unique {S : Nat → Prop} {M : Nat} {z z' : Option (Int × Int)} (h : TG S M z) (h' : TG S M z') : z = z' := by
  rcases h with ⟨h1, h2⟩ | ⟨r, h1, h2, h3, h4⟩
  · rcases h' with ⟨h1', _⟩ | ⟨r', _, _, h3', _⟩
    · rw [h1, h1']
    · exact absurd h3' (h2 r')
  · rcases h' with ⟨_, h2'⟩ | ⟨r', h1', h2', h3', h4'⟩
    · exact absurd h3 (h2' r)
    · have := h4 r' h3'
      rw [Nat.mod_eq_of_lt h2'] at this
      rw [h1, h1', this]
theorem TG_congr {S S' : Nat → Prop} {M : Nat} {z : Option (Int × Int)} (h : TG S M z) (hs : ∀ x, S x ↔ S' x) : TG S' M z := by
  rcases h with ⟨h1, h2⟩ | ⟨r, h1, h2, h3, h4⟩
  · exact .inl ⟨h1, fun x hx => h2 x ((hs x).mpr hx)⟩
  · exact .inr ⟨r, h1, h2, (hs r).mp h3, fun x hx => h4 x ((hs x).mpr hx)⟩
theorem mod_of_dvd {x r m : Nat} (h : (m : Int) ∣ (x : Int) - r) (hr : r < m) : x % m = r := by
  have h1 : (x : Int) % m = (r : Int) % m := Int.emod_eq_emod_iff_emod_sub_eq_zero.mpr (Int.emod_eq_zero_of_dvd h)
  have h2 : ((x % m : Nat) : Int) = ((r % m : Nat) : Int) := by rw [Int.natCast_emod, Int.natCast_emod]; exact h1
  rw [Nat.mod_eq_of_lt hr] at h2
  omega
theorem dvd_of_mod {x r m : Nat} (h : x % m = r) : (m : Int) ∣ (x : Int) - r := by
  refine ⟨((x / m : Nat) : Int), ?_⟩
  have := Nat.div_add_mod x m
  rw [h] at this
  have : ((m * (x / m) + r : Nat) : Int) = x := by rw [this]
  rw [Int.natCast_add, Int.natCast_mul] at this
  omega
theorem lcm_int {m n : Nat} {d : Int} (h1 : (m : Int) ∣ d) (h2 : (n : Int) ∣ d) : ((Nat.lcm m n : Nat) : Int) ∣ d :=
  Int.ofNat_dvd_left.mpr (Nat.lcm_dvd (Int.ofNat_dvd_left.mp h1) (Int.ofNat_dvd_left.mp h2))
/-- one step -/
theorem tg_step {M m r o : Nat} (hM : 1 ≤ M) (hm : 1 ≤ m) (hr : r < M) (ho : o < m) {u v : Int} (hu0 : 0 ≤ u) (hg : (M : Int) * u + (m : Int) * v = (Nat.gcd M m : Nat)) (hd : ((o : Int) - r) % ((Nat.gcd M m : Nat) : Int) = 0) :
    ∃ R : Nat, (r : Int) + M * (((o : Int) - r) / ((Nat.gcd M m : Nat) : Int) * u % ((m / Nat.gcd M m : Nat) : Int)) = R ∧ R < Nat.lcm M m ∧ R % M = r ∧ R % m = o := by
  generalize hG : Nat.gcd M m = G at *
  have gpos : 0 < G := by rw [← hG]; exact Nat.gcd_pos_of_pos_left _ (by omega)
  have dM : G ∣ M := hG ▸ Nat.gcd_dvd_left M m
  have dm : G ∣ m := hG ▸ Nat.gcd_dvd_right M m
  have eM : M / G * G = M := Nat.div_mul_cancel dM
  have em : m / G * G = m := Nat.div_mul_cancel dm
  have pm : 0 < m / G := Nat.div_pos (Nat.le_of_dvd (by omega) dm) gpos
  have el : Nat.lcm M m = M * (m / G) := by
    unfold Nat.lcm
    rw [hG, Nat.mul_div_assoc _ dm]
  generalize hA : M / G = A at *
  generalize hB : m / G = B at *
  obtain ⟨k, hk⟩ := Int.dvd_of_emod_eq_zero hd
  have hk2 : ((o : Int) - r) / (G : Int) = k := by rw [hk, Int.mul_ediv_cancel_left _ (by omega)]
  rw [hk2]
  have t0 := Int.emod_nonneg (k * u) (b := (B : Int)) (by omega)
  have t1 := Int.emod_lt_of_pos (k * u) (b := (B : Int)) (by omega)
  have t2 := Int.emod_add_mul_ediv (k * u) (B : Int)
  generalize hq : k * u / (B : Int) = q at *
  obtain ⟨t, ht⟩ := Int.eq_ofNat_of_zero_le t0
  rw [ht] at t1 t2 ⊢
  have t1 : t < B := by omega
  refine ⟨r + M * t, by rw [Int.natCast_add, Int.natCast_mul], ?_, ?_, ?_⟩
  · rw [el]
    have : M * (t + 1) ≤ M * B := Nat.mul_le_mul_left _ t1
    rw [Nat.mul_add, Nat.mul_one] at this
    omega
  · rw [Nat.add_mul_mod_self_left, Nat.mod_eq_of_lt hr]
  · refine mod_of_dvd ?_ ho
    have e1 : (M : Int) = (A : Int) * G := by rw [← Int.natCast_mul, eM]
    have e2 : (m : Int) = (B : Int) * G := by rw [← Int.natCast_mul, em]
    refine ⟨-(k * v) - A * q, ?_⟩
    have e3 : ((r + M * t : Nat) : Int) - o = (M : Int) * t - ((o : Int) - r) := by rw [Int.natCast_add, Int.natCast_mul]; omega
    rw [e3, hk]
    have e4 : (t : Int) = k * u - B * q := by omega
    rw [e4]
    have e5 : (G : Int) * k = ((M : Int) * u + (m : Int) * v) * k := by rw [hg]
    rw [e5, e1, e2]
    grind
theorem together_k {q0 : Nat × Nat} {l : List (Nat × Nat)} (hl : ∀ q ∈ q0 :: l, q.1 < q.2) (hB : lcmL (q0 :: l) ≤ 100000) : ∃ z, t_together ((q0 :: l).map toI) = some z ∧ TG (Sol (q0 :: l)) (lcmL (q0 :: l)) z := by
  have lpos : 0 < lcmL (q0 :: l) := by
    have : ∀ (l : List (Nat × Nat)) (s : Nat), 0 < s → (∀ q ∈ l, q.1 < q.2) → 0 < lcmF s l := fun l => by
      induction l with
      | nil => exact fun s h _ => h
      | cons q l ih => exact fun s h hq => ih _ (Nat.lcm_pos h (by have := hq q (by simp); omega)) fun r hr => hq r (by simp [hr])
    exact this _ 1 (by omega) hl
  have sub : ∀ i, lcmL (q0 :: l.take i) ≤ 100000 := fun i => Nat.le_trans (Nat.le_of_dvd lpos ((lcmL_dvd _ _).mpr fun q hq => lcmL_mem (by
    rcases List.mem_cons.mp hq with rfl | hq
    · simp
    · exact List.mem_cons_of_mem _ (List.mem_of_mem_take hq)))) hB
  have qle : ∀ q ∈ q0 :: l, q.2 ≤ 100000 := fun q hq => Nat.le_trans (Nat.le_of_dvd lpos (lcmL_mem hq)) hB
  have h0 := hl q0 (by simp)
  unfold t_together
  rw [show idxM ((q0 :: l).map toI) (0 : Int) = some (toI q0) from (idxM_N (xs := (q0 :: l).map toI) (i := 0) (by simp)).trans rfl]
  simp only [sb_]
  have ecut : cutT ((q0 :: l).map toI) (some (1 : Int)) none = l.map toI := by
    unfold cutT
    rw [show (1 : Int) = ((1 : Nat) : Int) from rfl, HT.sIx_nat, HT.sIx_none]
    have : min 1 ((q0 :: l).map toI).length = 1 := by simp
    rw [this]
    show ((l.map toI).take _) = _
    exact List.take_of_length_le (by simp)
  rw [ecut]
  refine forX_then (fun y => ∃ z, y = some z ∧ TG (Sol (q0 :: l)) (lcmL (q0 :: l)) z) (fun i v => ∃ r : Nat, v = ((r : Int), ((lcmL (q0 :: l.take i) : Nat) : Int)) ∧ r < lcmL (q0 :: l.take i) ∧ Sol (q0 :: l.take i) r ∧ ∀ x, Sol (q0 :: l.take i) x → x % lcmL (q0 :: l.take i) = r)
    (fun e => e = none ∧ ∀ x, ¬ Sol (q0 :: l) x) ⟨q0.1, ?_, ?_, ?_, ?_⟩ ?_ ?_ ?_
  · have : lcmL (q0 :: l.take 0) = q0.2 := by show Nat.lcm 1 q0.2 = _; rw [Nat.lcm_one_left]
    rw [this]; rfl
  · have : lcmL (q0 :: l.take 0) = q0.2 := by show Nat.lcm 1 q0.2 = _; rw [Nat.lcm_one_left]
    rw [this]; exact h0
  · intro q hq
    have : q = q0 := by simpa using hq
    subst this
    exact Nat.mod_eq_of_lt h0
  · intro x hx
    have : lcmL (q0 :: l.take 0) = q0.2 := by show Nat.lcm 1 q0.2 = _; rw [Nat.lcm_one_left]
    rw [this]
    exact hx q0 (by simp)
  · rintro i x _ hx ⟨r, rfl, hr, hs, hu⟩
    obtain ⟨q, hq, rfl⟩ := at_map hx
    have hm := List.mem_of_getElem? hq
    have hq1 := hl q (by simp [hm])
    have hq2 := qle q (by simp [hm])
    have hM := sub i
    have el : lcmL (q0 :: l.take (i + 1)) = Nat.lcm (lcmL (q0 :: l.take i)) q.2 := by
      rw [List.take_add_one, hq]
      exact lcmL_snoc (q0 :: l.take i) q
    have es : ∀ y, Sol (q0 :: l.take (i + 1)) y ↔ Sol (q0 :: l.take i) y ∧ y % q.2 = q.1 := fun y => by
      rw [List.take_add_one, hq]
      show Sol ((q0 :: l.take i) ++ [q]) y ↔ _
      unfold Sol
      simp only [List.mem_append, List.mem_singleton, or_imp, forall_and, forall_eq]
    rw [el]
    generalize hMM : lcmL (q0 :: l.take i) = M at *
    have hM1 : 1 ≤ M := by omega
    obtain ⟨u, v, s1, s2, s3, s4⟩ := ss_k (a := M) (b := q.2) hM1 (by omega) (by omega) (by omega)
    have gpos : 0 < Nat.gcd M q.2 := Nat.gcd_pos_of_pos_left _ (by omega)
    have gle : Nat.gcd M q.2 ≤ M := Nat.le_of_dvd (by omega) (Nat.gcd_dvd_left _ _)
    show (∃ v', ((t_shared_sum (M : Int) (q.2 : Int)).bind fun t10 => (modM ((q.1 : Int) - (r : Int)) t10.1).bind fun t11 =>
  bif (!(decide (t11 = (0 : Int)))) then (
  some (Fw.rt (none : Option ((Int × Int)))))
  else
  (fdivM ((q.1 : Int) - (r : Int)) t10.1).bind fun t12 =>
  (mulM t12 t10.2.1).bind fun t13 =>
  (fdivM (q.2 : Int) t10.1).bind fun t14 =>
  (modM t13 t14).bind fun t15 =>
  (mulM (M : Int) t15).bind fun t16 =>
  ltI ((r : Int) + t16) fun r17 =>
  (mulM (M : Int) (q.2 : Int)).bind fun t18 =>
  (fdivM t18 t10.1).bind fun t19 =>
  some (Fw.nx (r17, t19))) = some (.nx v') ∧ _) ∨ (∃ e, ((t_shared_sum (M : Int) (q.2 : Int)).bind fun t10 => (modM ((q.1 : Int) - (r : Int)) t10.1).bind fun t11 =>
  bif (!(decide (t11 = (0 : Int)))) then (
  some (Fw.rt (none : Option ((Int × Int)))))
  else
  (fdivM ((q.1 : Int) - (r : Int)) t10.1).bind fun t12 =>
  (mulM t12 t10.2.1).bind fun t13 =>
  (fdivM (q.2 : Int) t10.1).bind fun t14 =>
  (modM t13 t14).bind fun t15 =>
  (mulM (M : Int) t15).bind fun t16 =>
  ltI ((r : Int) + t16) fun r17 =>
  (mulM (M : Int) (q.2 : Int)).bind fun t18 =>
  (fdivM t18 t10.1).bind fun t19 =>
  some (Fw.nx (r17, t19))) = some (.rt e) ∧ _)
    rw [s1]
    simp only [sb_]
    rw [modM_I gpos]
    simp only [sb_]
    by_cases hd : ((q.1 : Int) - r) % ((Nat.gcd M q.2 : Nat) : Int) = 0
    · left
      obtain ⟨R, k1, k2, k3, k4⟩ := tg_step hM1 (by omega) hr hq1 s2 s4 hd
      have hdiv : (((q.1 : Int) - r) / ((Nat.gcd M q.2 : Nat) : Int)).natAbs ≤ 100000 := by
        obtain ⟨k, hk⟩ := Int.dvd_of_emod_eq_zero hd
        rw [hk, Int.mul_ediv_cancel_left _ (by omega)]
        have h1 : ((q.1 : Int) - r).natAbs = Nat.gcd M q.2 * k.natAbs := by rw [hk, Int.natAbs_mul, Int.natAbs_natCast]
        have h2 : 1 * k.natAbs ≤ Nat.gcd M q.2 * k.natAbs := Nat.mul_le_mul_right _ gpos
        omega
      rw [decide_eq_true hd, show (!true) = false from rfl, bf_, fdivM_I gpos (by omega)]
      simp only [sb_]
      rw [mulM_l (by omega) (by omega)]
      simp only [sb_]
      rw [fdivM_N gpos (by omega)]
      simp only [sb_]
      have pm : 0 < q.2 / Nat.gcd M q.2 := Nat.div_pos (Nat.le_of_dvd (by omega) (Nat.gcd_dvd_right _ _)) gpos
      rw [modM_I pm]
      simp only [sb_]
      rw [mulM_l (by omega) (by omega)]
      simp only [sb_, ltI_eq]
      rw [k1]
      have hprod : M * q.2 ≤ 100000 * 100000 := Nat.mul_le_mul hM hq2
      rw [mulM_N (by omega)]
      simp only [sb_]
      rw [fdivM_N gpos (by omega)]
      simp only [sb_]
      refine ⟨_, rfl, R, rfl, k2, (es R).mpr ⟨fun p hp => ?_, k4⟩, fun x hx => ?_⟩
      · have dp : p.2 ∣ M := hMM ▸ lcmL_mem hp
        have := hs p hp
        rw [← k3, Nat.mod_mod_of_dvd _ dp] at this
        exact this
      · obtain ⟨x1, x2⟩ := (es x).mp hx
        have x3 := hu x x1
        refine mod_of_dvd (lcm_int ?_ ?_) k2
        · have a1 := dvd_of_mod x3
          have a2 := dvd_of_mod k3
          have := Int.dvd_sub a1 a2
          rwa [show (x : Int) - r - ((R : Int) - r) = (x : Int) - R by omega] at this
        · have a1 := dvd_of_mod x2
          have a2 := dvd_of_mod k4
          have := Int.dvd_sub a1 a2
          rwa [show (x : Int) - q.1 - ((R : Int) - q.1) = (x : Int) - R by omega] at this
    · right
      rw [decide_eq_false hd, show (!false) = true from rfl, bt_]
      refine ⟨none, rfl, rfl, fun x hx => hd ?_⟩
      have x1 : Sol (q0 :: l.take i) x := fun p hp => hx p (by
        rcases List.mem_cons.mp hp with rfl | hp
        · simp
        · exact List.mem_cons_of_mem _ (List.mem_of_mem_take hp))
      have a1 := dvd_of_mod (hu x x1)
      have a2 := dvd_of_mod (hx q (by simp [hm]))
      have g1 : ((Nat.gcd M q.2 : Nat) : Int) ∣ (M : Int) := Int.ofNat_dvd.mpr (Nat.gcd_dvd_left _ _)
      have g2 : ((Nat.gcd M q.2 : Nat) : Int) ∣ (q.2 : Int) := Int.ofNat_dvd.mpr (Nat.gcd_dvd_right _ _)
      have := Int.dvd_sub (Int.dvd_trans g1 a1) (Int.dvd_trans g2 a2)
      rw [show (x : Int) - r - ((x : Int) - q.1) = (q.1 : Int) - r by omega] at this
      exact Int.emod_eq_zero_of_dvd this
  · rintro _ ⟨r, rfl, hr, hs, hu⟩
    rw [List.length_map, List.take_length] at *
    exact ⟨_, rfl, .inr ⟨r, rfl, hr, hs, hu⟩⟩
  · rintro _ ⟨rfl, hn⟩
    exact ⟨none, rfl, .inl ⟨rfl, hn⟩⟩
end K12
end
section
set_option Elab.async false
set_option linter.all false
set_option maxRecDepth 100000
set_option maxHeartbeats 2000000
namespace K12
open PySem Eng Lf
def IsX (a b c x : Nat) : Prop := x < b ∧ (b : Int) ∣ (c : Int) - (a : Int) * x
theorem isX_unique {a b c x y : Nat} (hg : Nat.gcd a b = 1) (hx : IsX a b c x) (hy : IsX a b c y) : x = y := by
  have h1 : (b : Int) ∣ ((x : Int) - y) * a := by
    have := Int.dvd_sub hy.2 hx.2
    have e : ((c : Int) - a * y) - ((c : Int) - a * x) = ((x : Int) - y) * a := by grind
    rwa [e] at this
  have h2 : b ∣ ((x : Int) - y).natAbs := by
    have := Int.ofNat_dvd_left.mp h1
    rw [Int.natAbs_mul, Int.natAbs_natCast] at this
    exact Nat.Coprime.dvd_of_dvd_mul_right (show Nat.Coprime b a from (Nat.gcd_comm b a).trans hg) this
  have h3 : (x : Int) % b = (y : Int) % b := Int.emod_eq_emod_iff_emod_sub_eq_zero.mpr (Int.emod_eq_zero_of_dvd (Int.ofNat_dvd_left.mpr h2))
  have h4 : (x : Int) % b = x := Int.emod_eq_of_lt (by omega) (by have := hx.1; omega)
  have h5 : (y : Int) % b = y := Int.emod_eq_of_lt (by omega) (by have := hy.1; omega)
  omega
theorem sol_k {a b c k : Nat} (hg : Nat.gcd a b = 1) (ha : 1 ≤ a) (hb : 1 ≤ b) (hk : 1 ≤ k) (ha2 : a ≤ 1000) (hb2 : b ≤ 1000) (hk2 : k ≤ 1000) (hc : c ≤ 1000000) :
    ∃ x : Nat, IsX a b c x ∧ ∃ y : Int, (c : Int) = a * x + b * y ∧ t_solutions ((k * a : Nat) : Int) ((k * b : Nat) : Int) ((k * c : Nat) : Int) = some (some ((x : Int), y, (b : Int), -(a : Int))) := by
  have b1 : k * a ≤ 1000 * 1000 := Nat.mul_le_mul hk2 ha2
  have b2 : k * b ≤ 1000 * 1000 := Nat.mul_le_mul hk2 hb2
  have b3 : k * c ≤ 1000 * 1000000 := Nat.mul_le_mul hk2 hc
  have p1 : 1 ≤ k * a := Nat.mul_pos hk ha
  have p2 : 1 ≤ k * b := Nat.mul_pos hk hb
  obtain ⟨u, v, h1, h2, h3, h4⟩ := ss_k (a := k * a) (b := k * b) p1 p2 (by omega) (by omega)
  have hG : Nat.gcd (k * a) (k * b) = k := by rw [Nat.gcd_mul_left, hg, Nat.mul_one]
  rw [hG] at h1 h3 h4
  rw [Nat.mul_div_cancel_left _ (by omega)] at h3
  have h5 : (a : Int) * u + (b : Int) * v = 1 := by
    have : (k : Int) * ((a : Int) * u + (b : Int) * v) = (k : Int) * 1 := by
      rw [Int.natCast_mul, Int.natCast_mul] at h4
      grind
    exact Int.eq_of_mul_eq_mul_left (by omega) this
  have hm := Int.emod_add_mul_ediv (u * (c : Int)) (b : Int)
  have hm0 := Int.emod_nonneg (u * (c : Int)) (b := (b : Int)) (by omega)
  have hm1 := Int.emod_lt_of_pos (u * (c : Int)) (b := (b : Int)) (by omega)
  obtain ⟨x, hx⟩ := Int.eq_ofNat_of_zero_le hm0
  have hxb : x < b := by omega
  have key : (c : Int) = a * x + b * ((c : Int) * v + a * (u * (c : Int) / (b : Int))) := by
    have e1 : (x : Int) = u * c - b * (u * (c : Int) / (b : Int)) := by omega
    have e2 : (c : Int) = c * ((a : Int) * u + (b : Int) * v) := by rw [h5, Int.mul_one]
    rw [e1]
    grind
  generalize hy : (c : Int) * v + a * (u * (c : Int) / (b : Int)) = y at *
  refine ⟨x, ⟨hxb, ⟨y, by omega⟩⟩, y, key, ?_⟩
  have q1 : k * c / k = c := Nat.mul_div_cancel_left _ (by omega)
  have q2 : k * b / k = b := Nat.mul_div_cancel_left _ (by omega)
  have q3 : k * a / k = a := Nat.mul_div_cancel_left _ (by omega)
  have q4 : k * c % k = 0 := Nat.mul_mod_right _ _
  have q5 : ((k * c : Nat) : Int) - ((k * a * x : Nat) : Int) = ((k * b : Nat) : Int) * y := by
    rw [Int.natCast_mul, key]
    push_cast
    grind
  unfold t_solutions
  rw [h1]
  simp only [sb_]
  rw [modM_N (by omega), q4]
  simp only [sb_]
  rw [show (!decide (((0 : Nat) : Int) = 0)) = false from rfl, bf_]
  rw [fdivM_N (by omega) (by omega), q2]
  simp only [sb_]
  rw [fdivM_N (by omega) (by omega), q1]
  simp only [sb_]
  rw [mulM_l (by omega) (by omega)]
  simp only [sb_]
  rw [modM_I (by omega), hx]
  simp only [sb_]
  rw [mulM_N (by omega)]
  simp only [sb_]
  rw [q5, fdivM_I (by omega) (by omega), Int.mul_ediv_cancel_left _ (by omega)]
  simp only [sb_]
  rw [fdivM_N (by omega) (by omega), q3]
  rfl
def cnt (a b c x : Nat) : Nat := if c < a * x then 0 else (c / a - x) / b + 1
theorem cnt_k {a b c k : Nat} (hg : Nat.gcd a b = 1) (ha : 1 ≤ a) (hb : 1 ≤ b) (hk : 1 ≤ k) (ha2 : a ≤ 1000) (hb2 : b ≤ 1000) (hk2 : k ≤ 1000) (hc : c ≤ 1000000) :
    ∃ x : Nat, IsX a b c x ∧ t_count_solutions ((k * a : Nat) : Int) ((k * b : Nat) : Int) ((k * c : Nat) : Int) = some ((cnt a b c x : Nat) : Int) := by
  obtain ⟨x, hx, y, hy, hs⟩ := sol_k hg ha hb hk ha2 hb2 hk2 hc
  refine ⟨x, hx, ?_⟩
  have b1 : k * a ≤ 1000 * 1000 := Nat.mul_le_mul hk2 ha2
  have p1 : 1 ≤ k * a := Nat.mul_pos hk ha
  unfold t_count_solutions
  rw [hs]
  simp only [sb_]
  rw [show (some ((x : Int), y, (b : Int), -(a : Int))).isNone = false from rfl, bf_]
  rw [mulM_N (by omega)]
  simp only [sb_]
  have e1 : k * c / (k * a) = c / a := Nat.mul_div_mul_left _ _ (by omega)
  by_cases h : c < a * x
  · have h2 : ((k * c : Nat) : Int) < ((k * a * x : Nat) : Int) := by
      have : k * c < k * (a * x) := Nat.mul_lt_mul_of_pos_left h (by omega)
      rw [Nat.mul_assoc]
      exact Int.ofNat_lt.mpr this
    rw [decide_eq_true h2, bt_]
    unfold cnt
    rw [if_pos h]; rfl
  · have h2 : ¬ ((k * c : Nat) : Int) < ((k * a * x : Nat) : Int) := by
      have : k * (a * x) ≤ k * c := Nat.mul_le_mul_left _ (by omega)
      rw [Nat.mul_assoc]
      omega
    rw [decide_eq_false h2, bf_]
    rw [fdivM_N (by omega) (by omega), e1]
    simp only [sb_]
    have h3 : x ≤ c / a := (Nat.le_div_iff_mul_le (by omega)).mpr (by rw [Nat.mul_comm]; omega)
    rw [show ((c / a : Nat) : Int) - (x : Int) = ((c / a - x : Nat) : Int) by omega, fdivM_N (by omega) (by omega)]
    simp only [sb_]
    unfold cnt
    rw [if_neg h, Int.natCast_add]; rfl
theorem none_k {a b c k : Nat} (hg : Nat.gcd a b = 1) (ha : 1 ≤ a) (hb : 1 ≤ b) (hk : 2 ≤ k) (ha2 : a ≤ 1000) (hb2 : b ≤ 1000) (hk2 : k ≤ 1000) :
    t_solutions ((k * a : Nat) : Int) ((k * b : Nat) : Int) ((k * c : Nat) + 1 : Int) = some none ∧ t_count_solutions ((k * a : Nat) : Int) ((k * b : Nat) : Int) ((k * c : Nat) + 1 : Int) = some 0 := by
  have b1 : k * a ≤ 1000 * 1000 := Nat.mul_le_mul hk2 ha2
  have b2 : k * b ≤ 1000 * 1000 := Nat.mul_le_mul hk2 hb2
  have p1 : 1 ≤ k * a := Nat.mul_pos (by omega) ha
  have p2 : 1 ≤ k * b := Nat.mul_pos (by omega) hb
  obtain ⟨u, v, h1, h2, h3, h4⟩ := ss_k (a := k * a) (b := k * b) p1 p2 (by omega) (by omega)
  have hG : Nat.gcd (k * a) (k * b) = k := by rw [Nat.gcd_mul_left, hg, Nat.mul_one]
  rw [hG] at h1
  have s : t_solutions ((k * a : Nat) : Int) ((k * b : Nat) : Int) ((k * c : Nat) + 1 : Int) = some none := by
    unfold t_solutions
    rw [h1]
    simp only [sb_]
    rw [show ((k * c : Nat) : Int) + 1 = ((k * c + 1 : Nat) : Int) by omega, modM_N (by omega)]
    simp only [sb_]
    have e : (k * c + 1) % k = 1 := by rw [Nat.mul_add_mod]; exact Nat.mod_eq_of_lt (by omega)
    rw [e, show (!decide (((1 : Nat) : Int) = 0)) = true from rfl, bt_]
  refine ⟨s, ?_⟩
  unfold t_count_solutions
  rw [s]
  rfl
/-! the count of a residue below n -/
theorem cnt_range {b x : Nat} (hx : x < b) : ∀ n : Nat, ((List.range n).filter fun i => decide (i % b = x)).length = if n ≤ x then 0 else (n - 1 - x) / b + 1
  | 0 => by rw [if_pos (Nat.zero_le _)]; rfl
  | n + 1 => by
    rw [List.range_succ, List.filter_append, List.length_append, cnt_range hx n]
    have e : (([n] : List Nat).filter fun i => decide (i % b = x)).length = if n % b = x then 1 else 0 := by
      by_cases h : n % b = x
      · rw [if_pos h, List.filter_cons_of_pos (by simpa using h)]; rfl
      · rw [if_neg h, List.filter_cons_of_neg (by simpa using h)]; rfl
    rw [e]
    by_cases h1 : n < x
    · rw [if_pos (show n ≤ x by omega), if_pos (show n + 1 ≤ x by omega), if_neg (show ¬ n % b = x by rw [Nat.mod_eq_of_lt (by omega)]; omega)]
    · by_cases h2 : n = x
      · subst h2
        rw [if_pos (show n ≤ n by omega), if_neg (show ¬ n + 1 ≤ n by omega), if_pos (show n % b = n from Nat.mod_eq_of_lt hx)]
        simp
      · rw [if_neg (show ¬ n ≤ x by omega), if_neg (show ¬ n + 1 ≤ x by omega)]
        obtain ⟨d, rfl⟩ : ∃ d, n = x + 1 + d := ⟨n - x - 1, by omega⟩
        have e1 : x + 1 + d - 1 - x = d := by omega
        have e2 : x + 1 + d + 1 - 1 - x = d + 1 := by omega
        rw [e1, e2, Nat.succ_div]
        have e3 : (x + 1 + d) % b = x ↔ b ∣ d + 1 := by
          constructor
          · intro h
            have := Nat.div_add_mod (x + 1 + d) b
            rw [h] at this
            exact ⟨(x + 1 + d) / b, by omega⟩
          · rintro ⟨q, hq⟩
            rw [show x + 1 + d = x + b * q by omega, Nat.add_mul_mod_self_left, Nat.mod_eq_of_lt hx]
        by_cases h3 : b ∣ d + 1
        · rw [if_pos (e3.mpr h3), if_pos h3]
        · rw [if_neg (fun z => h3 (e3.mp z)), if_neg h3]
theorem ways_k {a b c x : Nat} (hg : Nat.gcd a b = 1) (ha : 1 ≤ a) (hb : 1 ≤ b) (ha2 : a ≤ 1000) (hb2 : b ≤ 1000) (hc : c ≤ 100000) (hx : IsX a b c x) : t__law_ways a b c = some ((cnt a b c x : Nat) : Int) := by
  unfold t__law_ways
  have hd : c / a ≤ c := Nat.div_le_self _ _
  rw [show max2T 0 (c : Int) = (c : Int) by unfold max2T; split <;> omega, fdivM_N (by omega) (by omega)]
  simp only [sb_]
  rw [show ((c / a : Nat) : Int) + 1 = ((c / a + 1 : Nat) : Int) by omega, rng1M_N (by omega)]
  simp only [sb_]
  rw [mapM_filt (p := fun i : Int => decide (((c : Int) - a * i) % b = 0)) (f := fun i => i) (by rw [nL_len]; omega) (fun z hz => by
    obtain ⟨i, hi, rfl⟩ := mem_nL.mp hz
    have h1 : a * i ≤ c := by
      have : i ≤ c / a := by omega
      have := (Nat.le_div_iff_mul_le (by omega)).mp this
      rw [Nat.mul_comm]; exact this
    rw [mulM_N (by omega)]
    simp only [sb_]
    rw [decide_eq_true (show ((a * i : Nat) : Int) ≤ (c : Int) by omega), bt_]
    rw [modM_I (by omega)]
    simp only [sb_]
    rw [Int.natCast_mul]
    cases decide (((c : Int) - a * i) % b = 0) <;> rfl)]
  simp only [sb_]
  congr 1
  rw [List.map_id', show nL (c / a + 1) = (List.range (c / a + 1)).map fun (i : Nat) => (i : Int) from rfl, List.filter_map, List.length_map]
  have e : ((fun i : Int => decide (((c : Int) - a * i) % b = 0)) ∘ fun (i : Nat) => (i : Int)) = fun i => decide (i % b = x) := by
    funext i
    show decide (((c : Int) - a * (i : Int)) % b = 0) = decide (i % b = x)
    refine decide_eq_decide.mpr ⟨fun h => ?_, fun h => ?_⟩
    · have h1 : IsX a b c (i % b) := by
        refine ⟨Nat.mod_lt _ (by omega), ?_⟩
        have h2 : (b : Int) ∣ (c : Int) - a * (i : Int) := Int.dvd_of_emod_eq_zero h
        have h3 : ((i % b : Nat) : Int) = (i : Int) - b * ((i / b : Nat) : Int) := by
          have := Nat.div_add_mod i b
          have : ((b * (i / b) + i % b : Nat) : Int) = i := by rw [this]
          push_cast at this ⊢
          omega
        rw [h3, show (c : Int) - a * ((i : Int) - b * ((i / b : Nat) : Int)) = ((c : Int) - a * (i : Int)) + b * (a * ((i / b : Nat) : Int)) by grind]
        exact Int.dvd_add h2 (Int.dvd_mul_right _ _)
      exact isX_unique hg h1 hx
    · refine Int.emod_eq_zero_of_dvd ?_
      have h3 : ((i : Nat) : Int) = (x : Int) + b * ((i / b : Nat) : Int) := by
        have := Nat.div_add_mod i b
        rw [h] at this
        have : ((b * (i / b) + x : Nat) : Int) = i := by rw [this]
        push_cast at this ⊢
        omega
      rw [h3, show (c : Int) - a * ((x : Int) + b * ((i / b : Nat) : Int)) = ((c : Int) - a * (x : Int)) - b * (a * ((i / b : Nat) : Int)) by grind]
      exact Int.dvd_sub hx.2 (Int.dvd_mul_right _ _)
  rw [e, cnt_range hx.1]
  congr 1
  unfold cnt
  by_cases h : c < a * x
  · have : c / a < x := (Nat.div_lt_iff_lt_mul (by omega)).mpr (by rw [Nat.mul_comm]; exact h)
    rw [if_pos h, if_pos (by omega)]
  · have : x ≤ c / a := (Nat.le_div_iff_mul_le (by omega)).mpr (by rw [Nat.mul_comm]; omega)
    rw [if_neg h, if_neg (by omega)]
    rfl
end K12
end
section
set_option Elab.async false
set_option linter.all false
set_option maxRecDepth 100000
set_option maxHeartbeats 2000000
namespace K12
open PySem Eng Lf
theorem div_zero_of {a b x c : Nat} (ha : 1 ≤ a) (hb : 1 ≤ b) (h : c < a * b) : (c / a - x) / b = 0 := by
  have : c / a < b := (Nat.div_lt_iff_lt_mul (by omega)).mpr (by rw [Nat.mul_comm]; exact h)
  exact Nat.div_eq_of_lt (by omega)
/-- of n and what is left of a b - a - b just one is told -/
theorem syl {a b n m x y : Nat} (hg : Nat.gcd a b = 1) (ha : 1 ≤ a) (hb : 1 ≤ b) (hnm : n + m + a + b = a * b) (hx : IsX a b n x) (hy : IsX a b m y) : cnt a b n x + cnt a b m y = 1 := by
  obtain ⟨q, hq⟩ := hx.2
  have hx1 := hx.1
  have e0 : a * (b - 1 - x) + a * x + a = a * b := by
    have : a * b = a * (b - 1 - x + x + 1) := by congr 1; omega
    rw [this, Nat.mul_add, Nat.mul_add, Nat.mul_one]
  have e1 : y = b - 1 - x := by
    refine isX_unique hg hy ⟨by omega, ⟨-1 - q, ?_⟩⟩
    have h1 : ((a * (b - 1 - x) : Nat) : Int) = (a : Int) * ((b - 1 - x : Nat) : Int) := Int.natCast_mul _ _
    have h2 : ((a * x : Nat) : Int) = (a : Int) * (x : Int) := Int.natCast_mul _ _
    have h3 : (b : Int) * (-1 - q) = -b - b * q := by grind
    rw [h3, ← hq]
    omega
  subst e1
  have h2 : ((a * x : Nat) : Int) = (a : Int) * (x : Int) := Int.natCast_mul _ _
  generalize hX : a * x = X at *
  generalize hY : a * (b - 1 - x) = Y at *
  unfold cnt
  rw [hX, hY]
  by_cases h : n < X
  · have hq1 : q ≤ -1 := by
      rcases Int.lt_or_le q 0 with z | z
      · omega
      · have := Int.mul_nonneg (show 0 ≤ (b : Int) by omega) z
        omega
    have hq2 : (b : Int) * q ≤ (b : Int) * (-1) := Int.mul_le_mul_of_nonneg_left hq1 (by omega)
    rw [if_pos h, if_neg (by omega), div_zero_of ha hb (by omega)]
  · rw [if_neg h, if_pos (by omega), div_zero_of ha hb (by omega)]
theorem cnt_1 {a b c : Nat} (hg : Nat.gcd a b = 1) (ha : 1 ≤ a) (hb : 1 ≤ b) (ha2 : a ≤ 1000) (hb2 : b ≤ 1000) (hc : c ≤ 1000000) : ∃ x : Nat, IsX a b c x ∧ t_count_solutions (a : Int) (b : Int) (c : Int) = some ((cnt a b c x : Nat) : Int) := by
  have := cnt_k (k := 1) hg ha hb (by omega) ha2 hb2 (by omega) hc
  rwa [Nat.one_mul, Nat.one_mul, Nat.one_mul] at this
theorem sol_1 {a b c : Nat} (hg : Nat.gcd a b = 1) (ha : 1 ≤ a) (hb : 1 ≤ b) (ha2 : a ≤ 1000) (hb2 : b ≤ 1000) (hc : c ≤ 1000000) : ∃ x : Nat, IsX a b c x ∧ ∃ y : Int, (c : Int) = a * x + b * y ∧ t_solutions (a : Int) (b : Int) (c : Int) = some (some ((x : Int), y, (b : Int), -(a : Int))) := by
  have := sol_k (k := 1) hg ha hb (by omega) ha2 hb2 (by omega) hc
  rwa [Nat.one_mul, Nat.one_mul, Nat.one_mul] at this
theorem cnt_more {a b c x : Nat} (ha : 1 ≤ a) (hb : 1 ≤ b) (hx : x < b) : cnt a b (c + a * b) x = cnt a b c x + 1 := by
  have e0 : a * x + a ≤ a * b := by
    have : a * (x + 1) ≤ a * b := Nat.mul_le_mul_left _ hx
    rwa [Nat.mul_add, Nat.mul_one] at this
  have e1 : (c + a * b) / a = c / a + b := by rw [Nat.add_comm c, Nat.mul_add_div (by omega)]; omega
  unfold cnt
  rw [if_neg (show ¬ c + a * b < a * x by omega), e1]
  by_cases h : c < a * x
  · rw [if_pos h]
    have : c / a < x := (Nat.div_lt_iff_lt_mul (by omega)).mpr (by rw [Nat.mul_comm]; exact h)
    rw [Nat.div_eq_of_lt (by omega)]
  · rw [if_neg h]
    have : x ≤ c / a := (Nat.le_div_iff_mul_le (by omega)).mpr (by rw [Nat.mul_comm]; omega)
    rw [show c / a + b - x = c / a - x + b by omega, Nat.add_div_right _ (by omega)]
theorem made_right_k {a b c k : Nat} (hg : Nat.gcd a b = 1) (ha : 1 ≤ a) (hb : 1 ≤ b) (hk : 1 ≤ k) (ha2 : a ≤ 30) (hb2 : b ≤ 30) (hc : c ≤ 2000) (hk2 : k ≤ 4) : t__law_made_right a b c k = some true := by
  have b0 : a * b ≤ 30 * 30 := Nat.mul_le_mul ha2 hb2
  have b1 : k * a ≤ 4 * 30 := Nat.mul_le_mul hk2 ha2
  have b2 : k * b ≤ 4 * 30 := Nat.mul_le_mul hk2 hb2
  have b3 : k * c ≤ 4 * 2000 := Nat.mul_le_mul hk2 hc
  obtain ⟨x, hx, c1⟩ := cnt_1 hg ha hb (by omega) (by omega) (show c ≤ 1000000 by omega)
  obtain ⟨x2, hx2, c2⟩ := cnt_1 hg ha hb (by omega) (by omega) (show c + a * b ≤ 1000000 by omega)
  obtain ⟨x3, hx3, c3⟩ := cnt_k hg ha hb hk (by omega) (by omega) (by omega) (show c ≤ 1000000 by omega)
  obtain ⟨x4, hx4, y, hy, c4⟩ := sol_1 hg ha hb (by omega) (by omega) (show c ≤ 1000000 by omega)
  have u2 : x2 = x := by
    refine isX_unique hg ⟨hx2.1, ?_⟩ hx
    have h := Int.dvd_sub hx2.2 (Int.dvd_mul_left (a : Int) (b : Int))
    rw [show ((c + a * b : Nat) : Int) - a * x2 - a * b = (c : Int) - a * x2 by push_cast; omega] at h
    exact h
  have u3 := isX_unique hg hx3 hx
  have u4 := isX_unique hg hx4 hx
  subst u2 u3 u4
  rw [cnt_more ha hb hx.1] at c2
  have w := ways_k hg ha hb (by omega) (by omega) (by omega) hx
  unfold t__law_made_right
  rw [mulM_N (by omega)]
  simp only [sb_, ltI_eq]
  rw [c1]
  simp only [sb_]
  rw [show (c : Int) + ((a * b : Nat) : Int) = ((c + a * b : Nat) : Int) by omega, c2]
  simp only [sb_]
  rw [mulM_N (by omega), mulM_N (by omega), mulM_N (by omega)]
  simp only [sb_]
  rw [c3]
  simp only [sb_, ls_]
  rw [w]
  simp only [sb_]
  rw [like_same (by rw [Int.natCast_add]; rfl) rfl]
  simp only [sb_]
  rw [show (!true) = false from rfl, bf_]
  have second : ((bif (decide ((1 : Int) < (k : Int))) then ((some ((k * a : Nat) : Int)).bind fun t17 => (some ((k * b : Nat) : Int)).bind fun t18 => (some ((k * c : Nat) : Int)).bind fun t19 => (t_count_solutions t17 t18 (t19 + (1 : Int))).bind fun t20 => some (!(decide (t20 = (0 : Int))))) else some false)) = some false := by
    by_cases h : 1 < k
    · rw [decide_eq_true (show (1 : Int) < (k : Int) by omega), bt_]
      simp only [sb_]
      rw [(none_k hg ha hb h (by omega) (by omega) (by omega)).2]
      rfl
    · rw [decide_eq_false (show ¬ (1 : Int) < (k : Int) by omega), bf_]
  simp only [sb_] at second
  rw [second]
  simp only [sb_]
  rw [bf_]
  -- the loop
  generalize hM : ((a * b : Nat) : Int) - (a : Int) - (b : Int) = most
  have hm1 : most ≤ 900 := by omega
  have hm2 : -100 ≤ most := by omega
  obtain ⟨M, hMM⟩ : ∃ M : Nat, max2T 0 most = (M : Int) := ⟨(max2T 0 most).toNat, by unfold max2T; split <;> omega⟩
  have hM9 : M ≤ 900 := by
    have : max2T 0 most ≤ 900 := by unfold max2T; split <;> omega
    omega
  rw [hMM, show (40 : Int) = ((40 : Nat) : Int) from rfl, fdivM_N (by omega) (by omega)]
  simp only [sb_]
  have hd : M / 40 ≤ M := Nat.div_le_self _ _
  obtain ⟨xs, hr, hxs⟩ := rng3M_up (a := 0) (c := 1 + M / 40) (b := most + 1) (by omega) (by omega) (by omega) (by omega) (by omega)
  rw [show (1 : Int) + ((M / 40 : Nat) : Int) = ((1 + M / 40 : Nat) : Int) by omega, show (0 : Int) = ((0 : Nat) : Int) from rfl, hr]
  simp only [sb_]
  obtain ⟨⟨⟩, hl, _⟩ := forX_stay (f := fun (x24 : Int) (s25 : Unit) =>
  (t_count_solutions a b x24).bind fun t27 =>
  (t_count_solutions a b (most - x24)).bind fun t28 =>
  bif (!(decide ((t27 + t28) = (1 : Int)))) then (
  some (Fw.rt (s := Unit) false))
  else
  some (Fw.nx ())) (fun _ => True) (xs := xs) (v := ()) trivial (by
    intro z hz v _
    obtain ⟨i, hi, hlt⟩ := hxs z hz
    generalize hn : 0 + i * (1 + M / 40) = n at *
    obtain ⟨m, hm⟩ : ∃ m : Nat, most - (n : Int) = m := ⟨(most - (n : Int)).toNat, by omega⟩
    obtain ⟨y1, hy1, d1⟩ := cnt_1 hg ha hb (by omega) (by omega) (show n ≤ 1000000 by omega)
    obtain ⟨y2, hy2, d2⟩ := cnt_1 hg ha hb (by omega) (by omega) (show m ≤ 1000000 by omega)
    refine ⟨(), ?_, trivial⟩
    have hs := syl hg ha hb (show n + m + a + b = a * b by omega) hy1 hy2
    subst hi
    show ((t_count_solutions a b (n : Int)).bind fun t27 => (t_count_solutions a b (most - (n : Int))).bind fun t28 => bif (!(decide ((t27 + t28) = (1 : Int)))) then some (Fw.rt (s := Unit) false) else some (Fw.nx ())) = _
    rw [hm, d1]
    simp only [sb_]
    rw [d2]
    simp only [sb_]
    rw [decide_eq_true (show ((cnt a b n y1 : Nat) : Int) + ((cnt a b m y2 : Nat) : Int) = 1 by omega)]
    rfl)
  rw [hl]
  simp only [sb_]
  show ((t_solutions (a : Int) b c).bind _) = _
  rw [c4]
  simp only [sb_]
  have hx1 := hx.1
  have hax : a * x4 ≤ 30 * 30 := Nat.mul_le_mul ha2 (by omega)
  rw [mulM_N (by omega)]
  simp only [sb_]
  rw [mulM_l (by omega) (by omega)]
  simp only [sb_]
  rw [decide_eq_true (show ((a * x4 : Nat) : Int) + (b : Int) * y = (c : Int) by rw [Int.natCast_mul]; exact hy.symm), decide_eq_true (show ((0 : Nat) : Int) ≤ (x4 : Int) by omega), decide_eq_true (show (x4 : Int) < (b : Int) by omega),
    decide_eq_true (show ((b : Int), -(a : Int)) = ((b : Int), ((0 : Nat) : Int) - (a : Int)) by rw [show ((0 : Nat) : Int) - (a : Int) = -(a : Int) by omega])]
  rw [show ((!true) || ((!(true && true)) || !true)) = false from rfl, bf_]
  by_cases h : k = 1
  · rw [decide_eq_true (show (k : Int) = 1 by omega), bt_]
  · rw [decide_eq_false (show ¬ (k : Int) = 1 by omega), bf_]
    rw [(none_k hg ha hb (by omega) (by omega) (by omega) (by omega)).1]
    rfl
end K12
end
section
set_option Elab.async false
set_option linter.all false
set_option maxRecDepth 100000
set_option maxHeartbeats 2000000
namespace K12
open PySem Eng Lf
/-! products of lists -/
def prd (xs ys : List Int) : List Int := xs.flatMap fun x => ys.map fun y => x * y
def pws (q : Nat × Nat) : List Int := (List.range (q.2 + 1)).map fun k => ((q.1 ^ k : Nat) : Int)
theorem prd_len (xs ys : List Int) : (prd xs ys).length = xs.length * ys.length := by
  unfold prd
  induction xs with
  | nil => simp
  | cons x xs ih => rw [List.flatMap_cons, List.length_append, ih, List.length_map, List.length_cons, Nat.succ_mul, Nat.add_comm]
theorem prd_assoc (xs ys zs : List Int) : prd (prd xs ys) zs = prd xs (prd ys zs) := by
  unfold prd
  rw [List.flatMap_assoc]
  congr 1
  funext x
  rw [List.flatMap_map, List.map_flatMap]
  congr 1
  funext y
  rw [List.map_map]
  congr 1
  funext z
  show x * y * z = x * (y * z)
  exact Int.mul_assoc _ _ _
theorem prd_congr {xs xs' ys ys' : List Int} (h : xs.Perm xs') (h' : ys.Perm ys') : (prd xs ys).Perm (prd xs' ys') := by
  refine (h.flatMap_right _).trans ?_
  unfold prd
  clear h
  induction xs' with
  | nil => exact .refl _
  | cons x xs ih =>
    rw [List.flatMap_cons, List.flatMap_cons]
    exact (h'.map _).append ih
theorem fm_cons {α : Type} (f : Int → α) (g : Int → List α) : ∀ ys : List Int, (ys.flatMap fun b => f b :: g b).Perm (ys.map f ++ ys.flatMap g)
  | [] => .refl _
  | y :: ys => by
    rw [List.flatMap_cons, List.map_cons, List.flatMap_cons]
    refine List.Perm.cons _ ?_
    refine ((fm_cons f g ys).append_left (g y)).trans ?_
    exact List.perm_append_comm_assoc _ _ _
theorem prd_comm (xs : List Int) : ∀ ys : List Int, (prd xs ys).Perm (prd ys xs)
  | [] => by
    unfold prd
    simp
  | y :: ys => by
    have h1 : (prd xs (y :: ys)).Perm (xs.map (fun x => x * y) ++ prd xs ys) := by
      unfold prd
      exact fm_cons (fun x => x * y) (fun x => ys.map fun z => x * z) xs
    refine h1.trans ?_
    show (xs.map (fun x => x * y) ++ prd xs ys).Perm (xs.map (fun x => y * x) ++ prd ys xs)
    rw [show (fun x => x * y) = fun x => y * x from funext fun x => Int.mul_comm x y]
    exact (prd_comm xs ys).append_left _
theorem one_prd (xs : List Int) : prd [1] xs = xs := by
  unfold prd
  simp
/-- the divisors by parts, in the program's order -/
def dv (l : List (Nat × Nat)) (x : List Int) : List Int := l.foldl (fun a q => prd a (pws q)) x
theorem dv_mul : ∀ (l : List (Nat × Nat)) (x y : List Int), dv l (prd x y) = prd x (dv l y)
  | [], _, _ => rfl
  | q :: l, x, y => by
    show dv l (prd (prd x y) (pws q)) = prd x (dv l (prd y (pws q)))
    rw [prd_assoc, dv_mul l x]
theorem dv_one (l : List (Nat × Nat)) (x : List Int) : (dv l x).Perm (prd x (dv l [1])) := by
  have h := dv_mul l x [1]
  rw [← h]
  have : prd x [1] = x := by unfold prd; simp
  rw [this]
theorem dv_append (l l' : List (Nat × Nat)) (x : List Int) : dv (l ++ l') x = dv l' (dv l x) := List.foldl_append
theorem dv_congr {l l' : List (Nat × Nat)} (h : l.Perm l') : ∀ {x x' : List Int}, x.Perm x' → (dv l x).Perm (dv l' x') := by
  induction h with
  | nil => exact fun h => h
  | cons q _ ih => exact fun h => ih (prd_congr h (.refl _))
  | swap a b l =>
    intro x x' h
    have key : ∀ (l : List (Nat × Nat)) {x x' : List Int}, x.Perm x' → (dv l x).Perm (dv l x') := fun l => by
      induction l with
      | nil => exact fun h => h
      | cons q l ih => exact fun h => ih (prd_congr h (.refl _))
    refine key l ?_
    show (prd (prd x (pws b)) (pws a)).Perm (prd (prd x' (pws a)) (pws b))
    rw [prd_assoc, prd_assoc]
    exact prd_congr h (prd_comm _ _)
  | trans _ _ ih1 ih2 => exact fun h => (ih1 h).trans (ih2 (.refl _))
theorem two_pow_ge {p : Nat} (hp : 2 ≤ p) : ∀ e : Nat, e + 1 ≤ p ^ e
  | 0 => by simp
  | e + 1 => by
    have h1 := two_pow_ge hp e
    have h2 := Nat.mul_le_mul h1 hp
    rw [Nat.pow_succ]
    omega
theorem dv_len {l : List (Nat × Nat)} (h : ∀ q ∈ l, Pr q.1 ∧ 1 ≤ q.2) : ∀ x : List Int, (dv l x).length ≤ x.length * pw l := by
  induction l with
  | nil => intro x; show x.length ≤ x.length * 1; omega
  | cons q l ih =>
    intro x
    refine Nat.le_trans (ih (fun r hr => h r (by simp [hr])) (prd x (pws q))) ?_
    rw [prd_len]
    have h1 : (pws q).length = q.2 + 1 := by simp [pws]
    have h2 : q.2 + 1 ≤ q.1 ^ q.2 := two_pow_ge (h q (by simp)).1.1 _
    rw [h1]
    show x.length * (q.2 + 1) * pw l ≤ x.length * (q.1 ^ q.2 * pw l)
    rw [Nat.mul_assoc]
    exact Nat.mul_le_mul_left _ (Nat.mul_le_mul_right _ h2)
theorem pw_take {l : List (Nat × Nat)} (h : ∀ q ∈ l, Pr q.1 ∧ 1 ≤ q.2) (i : Nat) : pw (l.take i) ≤ pw l := by
  have e : pw l = pw (l.take i) * pw (l.drop i) := by rw [← pw_append, List.take_append_drop]
  rw [e]
  exact Nat.le_mul_of_pos_right _ (pw_pos fun q hq => h q (List.mem_of_mem_drop hq))
theorem take_step {α : Type} {l : List α} {i : Nat} {q : α} (h : l[i]? = some q) : l.take (i + 1) = l.take i ++ [q] := by
  rw [List.take_add_one, h]; rfl
theorem one_pow_le {n : Nat} {l : List (Nat × Nat)} (h : IsFac n l) (hn : 1 ≤ n) {q : Nat × Nat} (hq : q ∈ l) : q.1 ^ q.2 ≤ n := by
  have : ∀ {l : List (Nat × Nat)}, (∀ q ∈ l, Pr q.1 ∧ 1 ≤ q.2) → q ∈ l → q.1 ^ q.2 ≤ pw l := fun {l} => by
    induction l with
    | nil => intro _ z; cases z
    | cons r l ih =>
      intro hp hq
      have p1 := pw_pos (l := l) fun s hs => hp s (by simp [hs])
      have p2 : 0 < r.1 ^ r.2 := Nat.pow_pos (by have := (hp r (by simp)).1.1; omega)
      rcases List.mem_cons.mp hq with rfl | hq
      · exact Nat.le_mul_of_pos_right _ p1
      · exact Nat.le_trans (ih (fun s hs => hp s (by simp [hs])) hq) (Nat.le_mul_of_pos_left _ p2)
  rw [← h.eq]
  exact this h.pr hq
theorem pow_le_of {p k e n : Nat} (hp : 1 ≤ p) (hk : k ≤ e) (h : p ^ e ≤ n) : p ^ k ≤ n := Nat.le_trans (Nat.pow_le_pow_right hp hk) h
theorem exp_le {p e n : Nat} (hp : 2 ≤ p) (h : p ^ e ≤ n) : e < n := by
  have := two_pow_ge hp e
  omega
theorem base_le {p e n : Nat} (hp : 2 ≤ p) (he : 1 ≤ e) (h : p ^ e ≤ n) : p ≤ n := by
  have := pow_le_of (k := 1) (by omega) he h
  rwa [Nat.pow_one] at this
theorem power_k {p k : Nat} (hp : p ≤ 1000000000) (hk : k ≤ 1000000) : t_power p k = some ((p ^ k : Nat) : Int) := by
  unfold t_power
  rw [rng1M_N hk]
  simp only [sb_]
  refine for_then (fun z => z = some ((p ^ k : Nat) : Int)) (fun i v => v = ((p ^ i : Nat) : Int)) rfl ?_ ?_
  · rintro i x _ _ rfl
    rw [mulM_r (by omega) (by omega)]
    exact ⟨_, rfl, by rw [Nat.pow_succ, Int.natCast_mul]⟩
  · rintro _ rfl
    rw [nL_len]
theorem mapL_cast {β : Type} (F : Int → Option (Option β)) (f : Nat → β) : ∀ {n : Nat}, (∀ i : Nat, i < n → F i = some (some (f i))) → mapL F (nL n) = some ((List.range n).map f) := fun {n} h => by
  have h1 := mapL_all (F := F) (p := fun z : Int => some (f z.toNat)) (xs := nL n) fun x hx => by
    obtain ⟨i, hi, rfl⟩ := mem_nL.mp hx
    rw [h i hi, Int.toNat_natCast]
  rw [h1, List.filterMap_eq_map']
  unfold nL
  rw [List.map_map]
  rfl
theorem divisors_k {n : Nat} {l : List (Nat × Nat)} (h : IsFac n l) (h1 : 1 ≤ n) (h2 : n ≤ 1000000) : t_divisors n = some (sortI (dv l [1])) := by
  obtain ⟨l', hl', e⟩ := primes_k h1 h2
  have := fac_unique hl' h
  subst this
  unfold t_divisors
  rw [ls_, e]
  simp only [sb_]
  refine for_then (fun z => z = some (sortI (dv l' [1]))) (fun i v => v = dv (l'.take i) [1]) rfl ?_ ?_
  · rintro i x _ hx rfl
    obtain ⟨q, hq, rfl⟩ := at_map hx
    have hm := List.mem_of_getElem? hq
    have hp := h.pr q hm
    have hb := one_pow_le h h1 hm
    have he := exp_le hp.1.1 hb
    have hp1 := hp.1.1
    have hpn := base_le hp.1.1 hp.2 hb
    refine ⟨dv (l'.take (i + 1)) [1], ?_, rfl⟩
    rw [take_step hq, dv_append]
    show ((flatM' _ _).bind fun l16 => some l16) = some (prd (dv (l'.take i) [1]) (pws q))
    have hlen : (prd (dv (l'.take i) [1]) (pws q)).length ≤ 1000000 := by
      have z := dv_len (l := l'.take i ++ [q]) (fun r hr => by
        rcases List.mem_append.mp hr with y | y
        · exact h.pr r (List.mem_of_mem_take y)
        · rw [List.mem_singleton] at y; subst y; exact hp) [1]
      rw [dv_append, ← take_step hq] at z
      have y := pw_take h.pr (i + 1)
      rw [h.eq] at y
      have z' : (prd (dv (l'.take i) [1]) (pws q)).length ≤ 1 * pw (l'.take (i + 1)) := z
      omega
    have e2 : prd (dv (l'.take i) [1]) (pws q) = ((dv (l'.take i) [1]).map fun x => (List.range (q.2 + 1)).map fun k => x * ((q.1 ^ k : Nat) : Int)).flatten := by
      unfold prd pws
      rw [List.flatMap_def]
      congr 1
      refine List.map_congr_left fun x _ => ?_
      rw [List.map_map]; rfl
    rw [e2] at hlen ⊢
    rw [flatM_N (f := fun x => (List.range (q.2 + 1)).map fun k => x * ((q.1 ^ k : Nat) : Int)) (fun x hx => ?_) hlen]
    · rfl
    · show ((rng1M ((q.2 : Int) + 1)).bind fun r9 => some r9).bind _ = _
      rw [show (q.2 : Int) + 1 = ((q.2 + 1 : Nat) : Int) by omega, rng1M_N (by omega)]
      simp only [sb_]
      refine mapL_cast _ _ fun k hk => ?_
      show (((t_power (q.1 : Int) (k : Int)).bind fun t11 => (mulM x t11).bind fun t12 => some t12)).bind _ = _
      rw [power_k (by omega) (by omega)]
      simp only [sb_]
      have := pow_le_of (k := k) (by omega) (by omega) hb
      rw [mulM_r (by omega) (by omega)]
      rfl
  · rintro _ rfl
    rw [List.length_map, List.take_length]
theorem dv_bound {n : Nat} {l : List (Nat × Nat)} (h : IsFac n l) (h2 : n ≤ 1000000) : (dv l [1]).length ≤ 1000000 := by
  have := dv_len h.pr [1]
  rw [h.eq] at this
  have e : ([1] : List Int).length = 1 := rfl
  rw [e] at this
  omega
theorem sortI_congr {xs ys : List Int} (h : xs.Perm ys) : sortI xs = sortI ys := sorted_unique (sortI_sorted xs) (sortI_sorted ys) (((sortI_perm xs).trans h).trans (sortI_perm ys).symm)
end K12
end
section
set_option Elab.async false
set_option linter.all false
set_option maxRecDepth 100000
set_option maxHeartbeats 2000000
namespace K12
open PySem Eng Lf
/-! the law's own list of divisors -/
def ext (a : List Int) (q : Nat × Nat) (j : Nat) : List Int := (List.range j).flatMap fun k => a.map fun y => y * ((q.1 ^ k : Nat) : Int)
def ow (l : List (Nat × Nat)) (x : List Int) : List Int := l.foldl (fun a q => ext a q (q.2 + 1)) x
theorem ext_len (a : List Int) (q : Nat × Nat) : ∀ j : Nat, (ext a q j).length = j * a.length
  | 0 => by simp [ext]
  | j + 1 => by
    have := ext_len a q j
    unfold ext at this ⊢
    rw [List.range_succ, List.flatMap_append, List.length_append, this]
    simp [Nat.succ_mul]
theorem ext_perm (a : List Int) (q : Nat × Nat) : (ext a q (q.2 + 1)).Perm (prd a (pws q)) := by
  refine List.Perm.trans (.of_eq ?_) (prd_comm (pws q) a)
  unfold ext prd pws
  rw [List.flatMap_map]
  congr 1
  funext k
  congr 1
  funext y
  exact Int.mul_comm _ _
theorem ow_perm : ∀ (l : List (Nat × Nat)) {x x' : List Int}, x.Perm x' → (ow l x).Perm (dv l x')
  | [], _, _, h => h
  | q :: l, x, x', h => ow_perm l ((ext_perm x q).trans (prd_congr h (.refl _)))
theorem ow_append (l l' : List (Nat × Nat)) (x : List Int) : ow (l ++ l') x = ow l' (ow l x) := List.foldl_append
/-! apart numbers, signs -/
def ca : List (Nat × Nat) → Nat
  | [] => 1
  | q :: l => (q.1 - 1) * q.1 ^ (q.2 - 1) * ca l
def sg : List (Nat × Nat) → Int
  | [] => 1
  | q :: l => (if q.2 = 1 then -1 else 0) * sg l
theorem ca_append : ∀ l l' : List (Nat × Nat), ca (l ++ l') = ca l * ca l'
  | [], l' => (Nat.one_mul _).symm
  | q :: l, l' => by
    show (q.1 - 1) * q.1 ^ (q.2 - 1) * ca (l ++ l') = (q.1 - 1) * q.1 ^ (q.2 - 1) * ca l * ca l'
    rw [ca_append l l', Nat.mul_assoc ((q.1 - 1) * q.1 ^ (q.2 - 1))]
theorem sg_append : ∀ l l' : List (Nat × Nat), sg (l ++ l') = sg l * sg l'
  | [], l' => (Int.one_mul _).symm
  | q :: l, l' => by
    show (if q.2 = 1 then -1 else 0) * sg (l ++ l') = (if q.2 = 1 then -1 else 0) * sg l * sg l'
    rw [sg_append l l', Int.mul_assoc]
theorem ca_perm {l l' : List (Nat × Nat)} (h : l.Perm l') : ca l = ca l' := by
  induction h with
  | nil => rfl
  | cons q _ ih => show _ * ca _ = _ * ca _; rw [ih]
  | swap a b l => show _ * (_ * ca l) = _ * (_ * ca l); rw [Nat.mul_left_comm]
  | trans _ _ h1 h2 => exact h1.trans h2
theorem sg_perm {l l' : List (Nat × Nat)} (h : l.Perm l') : sg l = sg l' := by
  induction h with
  | nil => rfl
  | cons q _ ih => show _ * sg _ = _ * sg _; rw [ih]
  | swap a b l => show _ * (_ * sg l) = _ * (_ * sg l); rw [Int.mul_left_comm]
  | trans _ _ h1 h2 => exact h1.trans h2
theorem pw_perm {l l' : List (Nat × Nat)} (h : l.Perm l') : pw l = pw l' := by
  induction h with
  | nil => rfl
  | cons q _ ih => show _ * pw _ = _ * pw _; rw [ih]
  | swap a b l => show _ * (_ * pw l) = _ * (_ * pw l); rw [Nat.mul_left_comm]
  | trans _ _ h1 h2 => exact h1.trans h2
theorem one_ap {q : Nat × Nat} (h : Pr q.1 ∧ 1 ≤ q.2) : (q.1 - 1) * q.1 ^ (q.2 - 1) ≤ q.1 ^ q.2 := by
  obtain ⟨e, he⟩ : ∃ e, q.2 = e + 1 := ⟨q.2 - 1, by omega⟩
  rw [he, Nat.add_sub_cancel, Nat.pow_succ, Nat.mul_comm]
  exact Nat.mul_le_mul_left _ (by omega)
theorem ca_le : ∀ {l : List (Nat × Nat)}, (∀ q ∈ l, Pr q.1 ∧ 1 ≤ q.2) → ca l ≤ pw l
  | [], _ => Nat.le_refl _
  | q :: l, h => Nat.mul_le_mul (one_ap (h q (by simp))) (ca_le fun r hr => h r (by simp [hr]))
theorem apart_k {n : Nat} {l : List (Nat × Nat)} (h : IsFac n l) (h1 : 1 ≤ n) (h2 : n ≤ 1000000) : t_count_apart n = some ((ca l : Nat) : Int) := by
  obtain ⟨l', hl', e⟩ := primes_k h1 h2
  have := fac_unique hl' h
  subst this
  unfold t_count_apart
  rw [e]
  simp only [sb_]
  refine for_then (fun z => z = some ((ca l' : Nat) : Int)) (fun i v => v = ((ca (l'.take i) : Nat) : Int)) rfl ?_ ?_
  · rintro i x _ hx rfl
    obtain ⟨q, hq, rfl⟩ := at_map hx
    have hm := List.mem_of_getElem? hq
    have hp := h.pr q hm
    have hb := one_pow_le h h1 hm
    have he := exp_le hp.1.1 hb
    have hp1 := hp.1.1
    have hpn := base_le hp.1.1 hp.2 hb
    have ho := one_ap hp
    have hpe := pow_le_of (k := q.2 - 1) (by omega) (by omega) hb
    refine ⟨((ca (l'.take (i + 1)) : Nat) : Int), ?_, rfl⟩
    show ((t_power (q.1 : Int) ((q.2 : Int) - 1)).bind fun t7 => (mulM ((q.1 : Int) - 1) t7).bind fun t8 => (mulM ((ca (l'.take i) : Nat) : Int) t8).bind fun found9 => some found9) = _
    rw [show (q.2 : Int) - 1 = ((q.2 - 1 : Nat) : Int) by omega, power_k (by omega) (by omega)]
    simp only [sb_]
    rw [show (q.1 : Int) - 1 = ((q.1 - 1 : Nat) : Int) by omega, mulM_N (by omega)]
    simp only [sb_]
    rw [mulM_r (by omega) (by omega)]
    simp only [sb_]
    rw [take_step hq, ca_append, Int.natCast_mul]
    show _ = some (((ca (l'.take i) : Nat) : Int) * (((q.1 - 1) * q.1 ^ (q.2 - 1) * 1 : Nat) : Int))
    rw [Nat.mul_one, Int.natCast_mul (q.1 - 1)]
  · rintro _ rfl
    rw [List.length_map, List.take_length]
theorem sg_many : ∀ {l : List (Nat × Nat)}, (∀ q ∈ l, 1 ≤ q.2) → sg l = if l.any (fun q => decide (1 < q.2)) then 0 else 1 - 2 * ((l.length % 2 : Nat) : Int)
  | [], _ => rfl
  | q :: l, h => by
    have hq := h q (by simp)
    have ih := sg_many (l := l) fun r hr => h r (by simp [hr])
    show (if q.2 = 1 then -1 else 0) * sg l = _
    rw [List.any_cons]
    by_cases h1 : q.2 = 1
    · rw [if_pos h1, decide_eq_false (show ¬ 1 < q.2 by omega), Bool.false_or, ih]
      split
      · rfl
      · rw [List.length_cons]
        omega
    · rw [if_neg h1, decide_eq_true (show 1 < q.2 by omega), Bool.true_or, if_pos rfl, Int.zero_mul]
theorem sign_k {n : Nat} {l : List (Nat × Nat)} (h : IsFac n l) (h1 : 1 ≤ n) (h2 : n ≤ 1000000) : t_square_sign n = some (sg l) := by
  obtain ⟨l', hl', e⟩ := primes_k h1 h2
  have := fac_unique hl' h
  subst this
  have hlen : l'.length ≤ 1000000 := by
    have : ∀ {l : List (Nat × Nat)}, (∀ q ∈ l, Pr q.1 ∧ 1 ≤ q.2) → l.length < pw l := fun {l} => by
      induction l with
      | nil => intro _; exact Nat.zero_lt_one
      | cons q l ih =>
        intro hp
        have a1 := ih fun r hr => hp r (by simp [hr])
        have a2 := exp_le (e := q.2) (hp q (by simp)).1.1 (Nat.le_refl _)
        have a3 := (hp q (by simp)).2
        have a4 : 2 * pw l ≤ q.1 ^ q.2 * pw l := Nat.mul_le_mul_right _ (by omega)
        show l.length + 1 < q.1 ^ q.2 * pw l
        omega
    have := this h.pr
    rw [h.eq] at this
    omega
  unfold t_square_sign
  rw [e]
  simp only [sb_]
  rw [mapK_N (by rw [List.length_map]; exact hlen)]
  simp only [sb_]
  have ea : (((l'.map toI).map fun x3 : Int × Int => decide ((1 : Int) < x3.2)).any id) = l'.any fun q => decide (1 < q.2) := by
    rw [List.map_map, List.any_map]
    congr 1
    funext q
    show decide ((1 : Int) < (q.2 : Int)) = decide (1 < q.2)
    exact decide_eq_decide.mpr (by omega)
  rw [ea, sg_many fun q hq => (h.pr q hq).2]
  cases hany : l'.any fun q => decide (1 < q.2) with
  | true => rw [bt_, if_pos rfl]
  | false =>
    rw [bf_, if_neg (by simp), List.length_map, show (2 : Int) = ((2 : Nat) : Int) from rfl, modM_N (by omega)]
    simp only [sb_]
    rw [mulM_N (by omega)]
    simp only [sb_]
    rw [Int.natCast_mul]
/-! of n and m without a common divisor -/
theorem apart_of {n m : Nat} {l l' : List (Nat × Nat)} (h : IsFac n l) (h' : IsFac m l') (hg : Nat.gcd n m = 1) : ∀ q ∈ l, ∀ r ∈ l', q.1 ≠ r.1 := fun q hq r hr e => by
  have a1 := dvd_pw hq (h.pr q hq).2
  have a2 := dvd_pw hr (h'.pr r hr).2
  rw [h.eq] at a1
  rw [h'.eq, ← e] at a2
  have := Nat.dvd_gcd a1 a2
  rw [hg, Nat.dvd_one] at this
  have := (h.pr q hq).1.1
  omega
theorem leP_iff {p q : Int × Int} : leP p q = true ↔ (p.1 < q.1 ∨ (p.1 = q.1 ∧ p.2 ≤ q.2)) := by
  unfold leP
  rw [decide_eq_true_eq]
theorem merge_k {n m : Nat} {l l' l'' : List (Nat × Nat)} (h : IsFac n l) (h' : IsFac m l') (hg : Nat.gcd n m = 1) (h2 : IsFac (n * m) l'') : sortP (l.map toI ++ l'.map toI) = l''.map toI ∧ l''.Perm (l ++ l') := by
  let fr : Int × Int → Nat × Nat := fun z => (z.1.toNat, z.2.toNat)
  have s1 : (sortP (l.map toI ++ l'.map toI)).Pairwise fun a b => leP a b = true := List.pairwise_mergeSort (le := leP) (fun a b c h1 h2 => by rw [leP_iff] at *; omega) (fun a b => by
    rw [Bool.or_eq_true, leP_iff, leP_iff]; omega) _
  have s2 : (sortP (l.map toI ++ l'.map toI)).Perm ((l ++ l').map toI) := by
    rw [List.map_append]; exact List.mergeSort_perm _ _
  generalize sortP (l.map toI ++ l'.map toI) = r at *
  have s3 : (r.map fr).Perm (l ++ l') := by
    have := s2.map fr
    rw [List.map_map] at this
    have e : (fr ∘ toI) = id := by
      funext q
      show ((q.1 : Int).toNat, (q.2 : Int).toNat) = q
      rw [Int.toNat_natCast, Int.toNat_natCast]
    rwa [e, List.map_id] at this
  have s4 : r = (r.map fr).map toI := by
    rw [List.map_map]
    conv => lhs; rw [← List.map_id r]
    refine List.map_congr_left fun z hz => ?_
    obtain ⟨q, _, rfl⟩ := List.mem_map.mp (s2.mem_iff.mp hz)
    show ((q.1 : Int), (q.2 : Int)) = toI (((q.1 : Int)).toNat, ((q.2 : Int)).toNat)
    rw [Int.toNat_natCast, Int.toNat_natCast]; rfl
  have ne : (l ++ l').Pairwise fun p q => p.1 ≠ q.1 := by
    rw [List.pairwise_append]
    exact ⟨h.up.imp fun z => by omega, h'.up.imp fun z => by omega, fun q hq r hr => apart_of h h' hg q hq r hr⟩
  have ne2 : (r.map fr).Pairwise fun p q => p.1 ≠ q.1 := (s3.pairwise_iff (fun z => Ne.symm z)).mpr ne
  have le2 : (r.map fr).Pairwise fun p q => p.1 ≤ q.1 := by
    rw [s4, List.pairwise_map] at s1
    refine s1.imp fun {a b} z => ?_
    rw [leP_iff] at z
    have z : (a.1 : Int) < (b.1 : Int) ∨ ((a.1 : Int) = (b.1 : Int) ∧ (a.2 : Int) ≤ (b.2 : Int)) := z
    omega
  have fac : IsFac (n * m) (r.map fr) := by
    refine ⟨(le2.and ne2).imp fun z => by omega, fun q hq => ?_, ?_⟩
    · rcases List.mem_append.mp (s3.mem_iff.mp hq) with z | z
      · exact h.pr q z
      · exact h'.pr q z
    · rw [pw_perm s3, pw_append, h.eq, h'.eq]
  have := fac_unique fac h2
  rw [← this]
  exact ⟨s4, s3⟩
theorem dv_mem {l : List (Nat × Nat)} (hl : ∀ q ∈ l, Pr q.1 ∧ 1 ≤ q.2) : ∀ {y : List Int} {B : Nat}, (∀ z ∈ y, 0 ≤ z ∧ z ≤ (B : Int)) → ∀ x ∈ dv l y, 0 ≤ x ∧ x ≤ ((B * pw l : Nat) : Int) := by
  induction l with
  | nil => intro y B h x hx; show 0 ≤ x ∧ x ≤ ((B * 1 : Nat) : Int); rw [Nat.mul_one]; exact h x hx
  | cons q l ih =>
    intro y B h x hx
    have hp := hl q (by simp)
    have := ih (fun r hr => hl r (by simp [hr])) (y := prd y (pws q)) (B := B * q.1 ^ q.2) (fun z hz => by
      unfold prd pws at hz
      obtain ⟨a, ha, hz⟩ := List.mem_flatMap.mp hz
      obtain ⟨b, hb, rfl⟩ := List.mem_map.mp hz
      obtain ⟨k, hk, rfl⟩ := List.mem_map.mp hb
      rw [List.mem_range] at hk
      obtain ⟨a', rfl⟩ := Int.eq_ofNat_of_zero_le (h a ha).1
      have h1 := (h _ ha).2
      have h2 : q.1 ^ k ≤ q.1 ^ q.2 := Nat.pow_le_pow_right (by have := hp.1.1; omega) (by omega)
      have h3 : a' * q.1 ^ k ≤ B * q.1 ^ q.2 := Nat.mul_le_mul (by omega) h2
      show 0 ≤ (a' : Int) * ((q.1 ^ k : Nat) : Int) ∧ (a' : Int) * ((q.1 ^ k : Nat) : Int) ≤ _
      rw [← Int.natCast_mul]
      omega) x hx
    rw [Nat.mul_assoc] at this
    exact this
end K12
end
section
set_option Elab.async false
set_option linter.all false
set_option maxRecDepth 100000
set_option maxHeartbeats 2000000
namespace K12
open PySem Eng Lf
theorem len_le_sqrt {l : List (Nat × Nat)} (hp : ∀ q ∈ l, Pr q.1 ∧ 1 ≤ q.2) : l.length < pw l := by
  induction l with
  | nil => exact Nat.zero_lt_one
  | cons q l ih =>
    have a1 := ih fun r hr => hp r (by simp [hr])
    have a2 := exp_le (e := q.2) (hp q (by simp)).1.1 (Nat.le_refl _)
    have a3 := (hp q (by simp)).2
    have a4 : 2 * pw l ≤ q.1 ^ q.2 * pw l := Nat.mul_le_mul_right _ (by omega)
    show l.length + 1 < q.1 ^ q.2 * pw l
    omega
theorem okF {l : List (Nat × Nat)} (h : l.length ≤ 1000000) : okT (okP okU okU) (l.map toI) = true := okT_of (by rw [List.length_map]; exact h) fun _ _ => rfl
theorem sortI_len (xs : List Int) : (sortI xs).length = xs.length := (sortI_perm xs).length_eq
theorem products_right_k {n m : Nat} (h1 : 1 ≤ n) (h2 : n ≤ 10000) (h3 : 1 ≤ m) (h4 : m ≤ 100) : t__law_products_right n m = some true := by
  obtain ⟨l, hl, e1⟩ := lfac_k h1 h2
  obtain ⟨l0, hl0, e2⟩ := primes_k h1 (show n ≤ 1000000 by omega)
  have := fac_unique hl0 hl
  subst this
  have hlen := len_le_sqrt hl.pr
  rw [hl.eq] at hlen
  unfold t__law_products_right
  rw [e1]
  simp only [sb_]
  rw [e2]
  simp only [sb_]
  rw [like_same rfl (okF (by omega))]
  simp only [sb_]
  rw [show (!true) = false from rfl, bf_, ls_]
  have hdv := divisors_k hl h1 (show n ≤ 1000000 by omega)
  have hdl := dv_bound hl (show n ≤ 1000000 by omega)
  have hap := apart_k hl h1 (show n ≤ 1000000 by omega)
  have hsi := sign_k hl h1 (show n ≤ 1000000 by omega)
  refine for_then (fun z => z = some true) (fun i v => v = ow (l0.take i) [1]) rfl ?_ ?_
  · rintro i x _ hx rfl
    obtain ⟨q, hq, rfl⟩ := at_map hx
    have hm := List.mem_of_getElem? hq
    have hp := hl.pr q hm
    have hb := one_pow_le hl h1 hm
    have he := exp_le hp.1.1 hb
    have hp1 := hp.1.1
    have hpn := base_le hp.1.1 hp.2 hb
    have hsz : (q.2 + 1) * (ow (l0.take i) [1]).length ≤ 1000000 := by
      rw [← ext_len _ q]
      have z : ext (ow (l0.take i) [1]) q (q.2 + 1) = ow (l0.take (i + 1)) [1] := by rw [take_step hq, ow_append]; rfl
      rw [z, (ow_perm _ (.refl _)).length_eq]
      have y1 := dv_len (l := l0.take (i + 1)) (fun r hr => hl.pr r (List.mem_of_mem_take hr)) [1]
      have y2 := pw_take hl.pr (i + 1)
      rw [hl.eq] at y2
      have y3 : ([1] : List Int).length = 1 := rfl
      rw [y3] at y1
      omega
    generalize hs8 : ow (l0.take i) [1] = s8 at *
    refine ⟨ow (l0.take (i + 1)) [1], ?_, rfl⟩
    rw [take_step hq, ow_append, hs8]
    show (lt ([] : List Int) fun grown14 => (rng1M ((q.2 : Int) + 1)).bind fun r15 => (forN (fun (x16 : Int) (s17 : ((List Int) × (Int))) =>
  (mapM' (fun (x25 : Int) => (((mulM x25 s17.2).bind fun t26 => some t26)).bind fun y27 => some (some y27)) s8).bind fun l29 =>
  (catM s17.1 l29).bind fun grown24 =>
  (mulM s17.2 (q.1 : Int)).bind fun t30 =>
  some (grown24, t30)) r15 (grown14, (1 : Int))).bind fun (s31 : ((List Int) × (Int))) =>
  some s31.1) = some (ext s8 q (q.2 + 1))
    rw [ls_, show (q.2 : Int) + 1 = ((q.2 + 1 : Nat) : Int) by omega, rng1M_N (by omega)]
    simp only [sb_]
    have hs8l : s8.length ≤ 1000000 := Nat.le_trans (Nat.le_mul_of_pos_left _ (by omega)) hsz
    refine for_then (fun z => z = some (ext s8 q (q.2 + 1))) (fun j v => v = (ext s8 q j, ((q.1 ^ j : Nat) : Int))) rfl ?_ ?_
    · rintro j y _ hy rfl
      obtain ⟨hj, _⟩ := nL_at hy
      have hpj := pow_le_of (k := j) (by omega) (by omega) hb
      show ∃ v', ((mapM' (fun (x25 : Int) => (((mulM x25 ((q.1 ^ j : Nat) : Int)).bind fun t26 => some t26)).bind fun y27 => some (some y27)) s8).bind fun l29 => (catM (ext s8 q j) l29).bind fun grown24 => (mulM ((q.1 ^ j : Nat) : Int) (q.1 : Int)).bind fun t30 => some (grown24, t30)) = some v' ∧ _
      rw [mapM_all (f := fun y => y * ((q.1 ^ j : Nat) : Int)) hs8l fun x _ => by
        rw [mulM_r (by omega) (by omega)]; rfl]
      simp only [sb_]
      have hjl : j * s8.length + s8.length ≤ 1000000 := by
        have : (j + 1) * s8.length ≤ (q.2 + 1) * s8.length := Nat.mul_le_mul_right _ (by omega)
        rw [Nat.succ_mul] at this
        omega
      rw [catM_N (by rw [ext_len, List.length_map]; exact hjl)]
      simp only [sb_]
      rw [mulM_N (by omega)]
      simp only [sb_]
      refine ⟨_, rfl, ?_⟩
      rw [Nat.pow_succ]
      refine Prod.ext ?_ rfl
      show _ = ext s8 q (j + 1)
      unfold ext
      rw [List.range_succ, List.flatMap_append]
      simp
    · rintro _ rfl
      rw [nL_len]
  · rintro _ rfl
    rw [List.length_map, List.take_length, hdv]
    simp only [sb_]
    have hpm := ow_perm l0 (.refl [1])
    rw [like_same (sortI_congr hpm).symm (okT_U (by rw [sortI_len]; exact hdl))]
    simp only [sb_]
    rw [show (!true) = false from rfl, bf_]
    refine for_then (fun z => z = some true) (fun i v => v = (((ca (l0.take i) : Nat) : Int), sg (l0.take i))) rfl ?_ ?_
    · rintro i x _ hx rfl
      obtain ⟨q, hq, rfl⟩ := at_map hx
      have hm := List.mem_of_getElem? hq
      have hp := hl.pr q hm
      have hb := one_pow_le hl h1 hm
      have he := exp_le hp.1.1 hb
      have hp1 := hp.1.1
      have hpn := base_le hp.1.1 hp.2 hb
      refine ⟨(((ca (l0.take (i + 1)) : Nat) : Int), sg (l0.take (i + 1))), ?_, rfl⟩
      rw [take_step hq, ca_append, sg_append]
      generalize ca (l0.take i) = A
      generalize sg (l0.take i) = S
      show ((mulM (A : Int) ((q.1 : Int) - 1)).bind fun t46 => ltI ((0 : Int) - S) fun sign47 => (rng1M ((q.2 : Int) - 1)).bind fun r48 => (forN (fun (x49 : Int) (s50 : ((Int) × (Int))) => (mulM s50.1 (q.1 : Int)).bind fun t52 => some (t52, (0 : Int))) r48 (t46, sign47)).bind fun (s53 : ((Int) × (Int))) => some (s53.1, s53.2)) = some (((A * ((q.1 - 1) * q.1 ^ (q.2 - 1) * 1) : Nat) : Int), S * ((if q.2 = 1 then -1 else 0) * 1))
      rw [show (q.1 : Int) - 1 = ((q.1 - 1 : Nat) : Int) by omega, mulM_r (by omega) (by omega)]
      simp only [sb_, ltI_eq]
      rw [show (q.2 : Int) - 1 = ((q.2 - 1 : Nat) : Int) by omega, rng1M_N (by omega)]
      simp only [sb_]
      refine for_then (fun z => z = _) (fun j v => v = ((A : Int) * ((q.1 - 1 : Nat) : Int) * ((q.1 ^ j : Nat) : Int), if j = 0 then 0 - S else 0)) (by rw [if_pos rfl, Nat.pow_zero]; show _ = ((A : Int) * ((q.1 - 1 : Nat) : Int) * 1, 0 - S); rw [Int.mul_one]) ?_ ?_
      · rintro j y _ _ rfl
        show ∃ v', ((mulM ((A : Int) * ((q.1 - 1 : Nat) : Int) * ((q.1 ^ j : Nat) : Int)) (q.1 : Int)).bind fun t52 => some (t52, (0 : Int))) = some v' ∧ _
        rw [mulM_r (by omega) (by omega)]
        simp only [sb_]
        refine ⟨_, rfl, ?_⟩
        rw [if_neg (by omega), Nat.pow_succ, Int.natCast_mul, ← Int.mul_assoc]
      · rintro _ rfl
        rw [nL_len]
        show some ((A : Int) * ((q.1 - 1 : Nat) : Int) * ((q.1 ^ (q.2 - 1) : Nat) : Int), if q.2 - 1 = 0 then 0 - S else 0) = _
        have e3 : (if q.2 - 1 = 0 then 0 - S else 0) = S * ((if q.2 = 1 then -1 else 0) * 1) := by
          by_cases z : q.2 = 1
          · rw [if_pos (by omega), if_pos z]; omega
          · rw [if_neg (by have := hp.2; omega), if_neg z]; simp
        rw [e3, Nat.mul_one, Int.natCast_mul, Int.natCast_mul, Int.mul_assoc]
    · rintro _ rfl
      rw [List.length_map, List.take_length, hap]
      simp only [sb_]
      rw [hsi]
      simp only [sb_]
      rw [like_same rfl rfl]
      simp only [sb_]
      rw [show (!true) = false from rfl, bf_]
      rw [lgcd_k (Nat.lt_of_le_of_lt h4 (by decide))]
      simp only [sb_]
      by_cases hg : Nat.gcd n m = 1
      · rw [hg, show (!decide (((1 : Nat) : Int) = 1)) = false from rfl, bf_, ls_]
        have hnm : n * m ≤ 10000 * 100 := Nat.mul_le_mul h2 h4
        have hnm1 : 1 ≤ n * m := Nat.mul_pos h1 h3
        obtain ⟨l1, hl1, e3⟩ := primes_k h3 (show m ≤ 1000000 by omega)
        obtain ⟨l2, hl2, e4⟩ := primes_k hnm1 (show n * m ≤ 1000000 by omega)
        have hlen1 := len_le_sqrt hl1.pr
        rw [hl1.eq] at hlen1
        have hlen2 := len_le_sqrt hl2.pr
        rw [hl2.eq] at hlen2
        have hdv1 := divisors_k hl1 h3 (show m ≤ 1000000 by omega)
        have hdv2 := divisors_k hl2 hnm1 (show n * m ≤ 1000000 by omega)
        have hdl2 := dv_bound hl2 (show n * m ≤ 1000000 by omega)
        obtain ⟨hmg, hpl⟩ := merge_k hl hl1 hg hl2
        have hD : (sortI (dv l0 [1])).length ≤ n := by
          rw [sortI_len]
          have := dv_len hl.pr [1]
          rw [hl.eq] at this
          have z : ([1] : List Int).length = 1 := rfl
          rw [z] at this; omega
        have hE : (sortI (dv l1 [1])).length ≤ m := by
          rw [sortI_len]
          have := dv_len hl1.pr [1]
          rw [hl1.eq] at this
          have z : ([1] : List Int).length = 1 := rfl
          rw [z] at this; omega
        have hEb : ∀ x ∈ sortI (dv l1 [1]), 0 ≤ x ∧ x ≤ (m : Int) := fun x hx => by
          have := dv_mem hl1.pr (y := [1]) (B := 1) (fun z hz => by rw [List.mem_singleton] at hz; subst hz; omega) x ((sortI_perm _).mem_iff.mp hx)
          rwa [Nat.one_mul, hl1.eq] at this
        have hperm : (prd (sortI (dv l0 [1])) (sortI (dv l1 [1]))).Perm (dv l2 [1]) := by
          refine (prd_congr (sortI_perm _) (sortI_perm _)).trans ?_
          refine (dv_one l1 (dv l0 [1])).symm.trans ?_
          rw [← dv_append]
          exact (dv_congr hpl (.refl _)).symm
        generalize sortI (dv l0 [1]) = Dn at *
        generalize sortI (dv l1 [1]) = Em at *
        refine for_then (fun z => z = some true) (fun i v => v = prd (Dn.take i) Em) rfl ?_ ?_
        · rintro i x _ hx rfl
          show ∃ v', ((t_divisors (m : Int)).bind fun t75 => (mapM' (fun (x76 : Int) => (((mulM x x76).bind fun t77 => some t77)).bind fun y78 => some (some y78)) t75).bind fun l80 => (catM (prd (Dn.take i) Em) l80).bind fun both74 => some both74) = some v' ∧ _
          rw [hdv1]
          simp only [sb_]
          rw [mapM_all (f := fun y => x * y) (by omega) fun y hy => by
            have := hEb y hy
            rw [mulM_r (by omega) (by omega)]; rfl]
          simp only [sb_]
          have hi : i < Dn.length := by
            rcases Nat.lt_or_ge i Dn.length with z | z
            · exact z
            · rw [List.getElem?_eq_none z] at hx; cases hx
          have hl3 : i * Em.length + Em.length ≤ 1000000 := by
            have : (i + 1) * Em.length ≤ n * m := Nat.mul_le_mul (by omega) hE
            rw [Nat.succ_mul] at this
            omega
          rw [catM_N (by rw [prd_len, List.length_take, List.length_map, Nat.min_eq_left (by omega)]; exact hl3)]
          simp only [sb_]
          refine ⟨_, rfl, ?_⟩
          rw [take_step hx]
          unfold prd
          rw [List.flatMap_append]
          simp
        · rintro _ rfl
          rw [List.take_length, e3]
          simp only [sb_]
          rw [catM_N (by rw [List.length_map, List.length_map]; omega)]
          simp only [sb_, ls_]
          rw [mulM_N (by omega)]
          simp only [sb_]
          rw [hdv2]
          simp only [sb_]
          rw [e4]
          simp only [sb_]
          rw [like_same (by rw [hmg, sortI_congr hperm]) (by
            show (okT okU _ && okT (okP okU okU) _) = true
            rw [okT_U (by rw [sortI_len]; exact hdl2), okF (by omega)]; rfl)]
          simp only [sb_]
          rw [show (!true) = false from rfl, bf_]
          rw [apart_k hl1 h3 (by omega)]
          simp only [sb_]
          have hcm := ca_le hl1.pr
          rw [hl1.eq] at hcm
          rw [mulM_r (by omega) (by omega)]
          simp only [sb_]
          rw [sign_k hl1 h3 (by omega)]
          simp only [sb_]
          have sb : ∀ {l : List (Nat × Nat)}, -1 ≤ sg l ∧ sg l ≤ 1 := fun {l} => by
            induction l with
            | nil => exact ⟨by decide, by decide⟩
            | cons q l ih =>
              show -1 ≤ (if q.2 = 1 then -1 else 0) * sg l ∧ (if q.2 = 1 then -1 else 0) * sg l ≤ 1
              split <;> omega
          have s1 := sb (l := l1)
          rw [mulM_r (by omega) (by omega)]
          simp only [sb_, ls_]
          rw [apart_k hl2 hnm1 (by omega)]
          simp only [sb_]
          rw [sign_k hl2 hnm1 (by omega)]
          simp only [sb_]
          refine like_same ?_ rfl
          rw [ca_perm hpl, sg_perm hpl, ca_append, sg_append, Int.natCast_mul]
      · rw [show (!decide (((Nat.gcd n m : Nat) : Int) = 1)) = true by rw [decide_eq_false (by omega)]; rfl, bt_]
end K12
end
section
set_option Elab.async false
set_option linter.all false
set_option maxRecDepth 100000
set_option maxHeartbeats 2000000
namespace K12
open PySem Eng Lf
/-! sums -/
def sm : Nat → (Nat → Int) → Int
  | 0, _ => 0
  | n + 1, f => sm n f + f n
theorem sm_congr : ∀ {n : Nat} {f g : Nat → Int}, (∀ i, i < n → f i = g i) → sm n f = sm n g
  | 0, _, _, _ => rfl
  | n + 1, f, g, h => by
    show sm n f + f n = sm n g + g n
    rw [sm_congr fun i hi => h i (by omega), h n (by omega)]
theorem sm_zero : ∀ {n : Nat} {f : Nat → Int}, (∀ i, i < n → f i = 0) → sm n f = 0
  | 0, _, _ => rfl
  | n + 1, f, h => by
    show sm n f + f n = 0
    rw [sm_zero fun i hi => h i (by omega), h n (by omega)]; rfl
theorem sm_add : ∀ (n : Nat) (f g : Nat → Int), sm n (fun i => f i + g i) = sm n f + sm n g
  | 0, _, _ => rfl
  | n + 1, f, g => by
    show sm n (fun i => f i + g i) + (f n + g n) = sm n f + f n + (sm n g + g n)
    rw [sm_add n f g]; omega
theorem sm_mul (c : Int) : ∀ (n : Nat) (f : Nat → Int), sm n (fun i => c * f i) = c * sm n f
  | 0, _ => (Int.mul_zero c).symm
  | n + 1, f => by
    show sm n (fun i => c * f i) + c * f n = c * (sm n f + f n)
    rw [sm_mul c n f, Int.mul_add]
theorem sm_mulr (c : Int) (n : Nat) (f : Nat → Int) : sm n (fun i => f i * c) = sm n f * c := by
  rw [Int.mul_comm, ← sm_mul]
  exact sm_congr fun i _ => Int.mul_comm _ _
theorem sm_swap : ∀ (n m : Nat) (f : Nat → Nat → Int), sm n (fun i => sm m fun j => f i j) = sm m fun j => sm n fun i => f i j
  | 0, m, f => (sm_zero fun _ _ => rfl).symm
  | n + 1, m, f => by
    show sm n (fun i => sm m fun j => f i j) + sm m (fun j => f n j) = sm m fun j => (sm n fun i => f i j) + f n j
    rw [sm_swap n m f, sm_add]
theorem sm_one {n k : Nat} (hk : k < n) {f : Nat → Int} (h : ∀ i, i < n → i ≠ k → f i = 0) : sm n f = f k := by
  induction n with
  | zero => omega
  | succ n ih =>
    show sm n f + f n = f k
    by_cases e : k = n
    · subst e
      rw [sm_zero fun i hi => h i (by omega) (by omega)]; omega
    · rw [ih (by omega) fun i hi hne => h i (by omega) hne, h n (by omega) (fun z => e z.symm)]; omega
theorem sm_more {n : Nat} {f : Nat → Int} : ∀ {k : Nat}, (∀ i, n ≤ i → i < n + k → f i = 0) → sm (n + k) f = sm n f
  | 0, _ => rfl
  | k + 1, h => by
    show sm (n + k) f + f (n + k) = sm n f
    rw [sm_more fun i h1 h2 => h i h1 (by omega), h (n + k) (by omega) (by omega)]; omega
theorem sm_abs {B : Nat} : ∀ {n : Nat} {f : Nat → Int}, (∀ i, i < n → (f i).natAbs ≤ B) → (sm n f).natAbs ≤ n * B
  | 0, _, _ => by show (0 : Int).natAbs ≤ _; simp
  | n + 1, f, h => by
    show (sm n f + f n).natAbs ≤ (n + 1) * B
    have h1 := sm_abs (n := n) fun i hi => h i (by omega)
    have h2 := h n (by omega)
    rw [Nat.succ_mul]
    omega
/-- where the product is n -/
def tm (n a b : Nat) (x : Int) : Int := if (a + 1) * (b + 1) = n then x else 0
def C (N : Nat) (F G : Nat → Int) (n : Nat) : Int := sm N fun a => sm N fun b => tm n a b (F a * G b)
theorem C_comm (N : Nat) (F G : Nat → Int) (n : Nat) : C N F G n = C N G F n := by
  unfold C
  rw [sm_swap]
  refine sm_congr fun b _ => sm_congr fun a _ => ?_
  unfold tm
  rw [Nat.mul_comm, Int.mul_comm]
theorem C_congr {N : Nat} {F F' G G' : Nat → Int} (hF : ∀ i, i < N → F i = F' i) (hG : ∀ i, i < N → G i = G' i) (n : Nat) : C N F G n = C N F' G' n :=
  sm_congr fun a ha => sm_congr fun b hb => by rw [hF a ha, hG b hb]
theorem C_add (N : Nat) (F G H : Nat → Int) (n : Nat) : C N F (fun i => G i + H i) n = C N F G n + C N F H n := by
  unfold C
  rw [← sm_add]
  refine sm_congr fun a _ => ?_
  rw [← sm_add]
  refine sm_congr fun b _ => ?_
  unfold tm
  split
  · exact Int.mul_add _ _ _
  · rfl
theorem C_assoc {N : Nat} (F G H : Nat → Int) {n : Nat} (hn : n ≤ N) : C N (fun i => C N F G (i + 1)) H n = C N F (fun i => C N G H (i + 1)) n := by
  -- both are a sum over three
  have e1 : C N (fun i => C N F G (i + 1)) H n = sm N fun a => sm N fun b => sm N fun d => if (a + 1) * ((b + 1) * (d + 1)) = n then F a * G b * H d else 0 := by
    have s1 : C N (fun i => C N F G (i + 1)) H n = sm N fun c => sm N fun d => sm N fun a => sm N fun b => tm n c d (tm (c + 1) a b (F a * G b * H d)) := by
      unfold C
      refine sm_congr fun c _ => sm_congr fun d _ => ?_
      unfold tm
      by_cases h : (c + 1) * (d + 1) = n
      · simp only [if_pos h]
        rw [← sm_mulr]
        refine sm_congr fun a _ => ?_
        rw [← sm_mulr]
        refine sm_congr fun b _ => ?_
        split
        · rfl
        · exact Int.zero_mul _
      · simp only [if_neg h]
        exact (sm_zero fun _ _ => sm_zero fun _ _ => rfl).symm
    rw [s1]
    have s2 : (sm N fun c => sm N fun d => sm N fun a => sm N fun b => tm n c d (tm (c + 1) a b (F a * G b * H d))) = sm N fun a => sm N fun b => sm N fun d => sm N fun c => tm n c d (tm (c + 1) a b (F a * G b * H d)) := by
      rw [sm_swap]
      rw [sm_congr (fun d _ => sm_swap N N fun c a => sm N fun b => tm n c d (tm (c + 1) a b (F a * G b * H d)))]
      rw [sm_swap]
      refine sm_congr fun a _ => ?_
      rw [sm_congr (fun d _ => sm_swap N N fun c b => tm n c d (tm (c + 1) a b (F a * G b * H d)))]
      rw [sm_swap]
    rw [s2]
    refine sm_congr fun a _ => sm_congr fun b _ => sm_congr fun d _ => ?_
    by_cases hk : (a + 1) * (b + 1) ≤ N
    · have hpos : 1 ≤ (a + 1) * (b + 1) := Nat.mul_pos (by omega) (by omega)
      rw [sm_one (k := (a + 1) * (b + 1) - 1) (by omega) fun c _ hc => by
        unfold tm
        rw [if_neg (show ¬ (a + 1) * (b + 1) = c + 1 by omega)]
        split <;> rfl]
      unfold tm
      rw [show (a + 1) * (b + 1) - 1 + 1 = (a + 1) * (b + 1) by omega, if_pos rfl, Nat.mul_assoc]
    · rw [sm_zero fun c hc => by
        unfold tm
        rw [if_neg (show ¬ (a + 1) * (b + 1) = c + 1 by omega)]
        split <;> rfl]
      rw [if_neg]
      intro h
      rw [← Nat.mul_assoc] at h
      have := Nat.le_mul_of_pos_right ((a + 1) * (b + 1)) (show 0 < d + 1 by omega)
      omega
  have e2 : C N F (fun i => C N G H (i + 1)) n = sm N fun a => sm N fun b => sm N fun d => if (a + 1) * ((b + 1) * (d + 1)) = n then F a * G b * H d else 0 := by
    unfold C
    refine sm_congr fun a _ => ?_
    have s1 : (sm N fun e => tm n a e (F a * sm N fun b => sm N fun d => tm (e + 1) b d (G b * H d))) = sm N fun e => sm N fun b => sm N fun d => tm n a e (tm (e + 1) b d (F a * G b * H d)) := by
      refine sm_congr fun e _ => ?_
      unfold tm
      by_cases h : (a + 1) * (e + 1) = n
      · simp only [if_pos h]
        rw [← sm_mul]
        refine sm_congr fun b _ => ?_
        rw [← sm_mul]
        refine sm_congr fun d _ => ?_
        split
        · exact (Int.mul_assoc _ _ _).symm
        · exact Int.mul_zero _
      · simp only [if_neg h]
        exact (sm_zero fun _ _ => sm_zero fun _ _ => rfl).symm
    rw [s1, sm_swap]
    refine sm_congr fun b _ => ?_
    rw [sm_swap]
    refine sm_congr fun d _ => ?_
    by_cases hk : (b + 1) * (d + 1) ≤ N
    · have hpos : 1 ≤ (b + 1) * (d + 1) := Nat.mul_pos (by omega) (by omega)
      rw [sm_one (k := (b + 1) * (d + 1) - 1) (by omega) fun c _ hc => by
        unfold tm
        rw [if_neg (show ¬ (b + 1) * (d + 1) = c + 1 by omega)]
        split <;> rfl]
      unfold tm
      rw [show (b + 1) * (d + 1) - 1 + 1 = (b + 1) * (d + 1) by omega, if_pos rfl]
    · rw [sm_zero fun c hc => by
        unfold tm
        rw [if_neg (show ¬ (b + 1) * (d + 1) = c + 1 by omega)]
        split <;> rfl]
      rw [if_neg]
      intro h
      have := Nat.le_mul_of_pos_left ((b + 1) * (d + 1)) (show 0 < a + 1 by omega)
      omega
  rw [e1, e2]
/-- 1 and then 0s -/
def U (i : Nat) : Int := if i = 0 then 1 else 0
theorem C_one {N : Nat} (F : Nat → Int) {n : Nat} (hn : n < N) : C N F U (n + 1) = F n := by
  unfold C
  rw [sm_congr (g := fun a => tm (n + 1) a 0 (F a)) fun a _ => by
    rw [sm_one (k := 0) (by omega) fun b _ hb => by
      unfold tm U
      rw [if_neg hb, Int.mul_zero]
      split <;> rfl]
    unfold U
    rw [if_pos rfl, Int.mul_one]]
  rw [sm_one (k := n) hn fun a _ ha => by
    unfold tm
    rw [if_neg (by omega)]]
  unfold tm
  rw [if_pos (by omega)]
/-- one inverse only -/
theorem inv_unique {N : Nat} {F X Y : Nat → Int} (hx : ∀ n, n < N → C N F X (n + 1) = U n) (hy : ∀ n, n < N → C N F Y (n + 1) = U n) {n : Nat} (hn : n < N) : X n = Y n := by
  have a1 : C N Y (fun i => C N F X (i + 1)) (n + 1) = Y n := by
    rw [C_congr (F' := Y) (G' := U) (fun _ _ => rfl) (fun i hi => hx i hi), C_one Y hn]
  have a2 : C N (fun i => C N Y F (i + 1)) X (n + 1) = X n := by
    rw [C_congr (F' := U) (G' := X) (fun i hi => by rw [C_comm]; exact hy i hi) (fun _ _ => rfl), C_comm, C_one X hn]
  rw [← a1, ← a2]
  exact C_assoc Y F X (by omega)
end K12
end
section
set_option Elab.async false
set_option linter.all false
set_option maxRecDepth 100000
set_option maxHeartbeats 2000000
namespace K12
open PySem Eng Lf
def at0 (f : List Int) (i : Nat) : Int := f.getD i 0
def cv (N : Nat) (f g : List Int) : List Int := (List.range N).map fun i => C N (at0 f) (at0 g) (i + 1)
theorem cv_len (N : Nat) (f g : List Int) : (cv N f g).length = N := by simp [cv]
theorem at0_get {f : List Int} {i : Nat} (h : i < f.length) : f[i] = at0 f i := by
  unfold at0
  rw [List.getD_eq_getElem?_getD, List.getElem?_eq_getElem h]; rfl
theorem at0_cv {N : Nat} {f g : List Int} {i : Nat} (h : i < N) : at0 (cv N f g) i = C N (at0 f) (at0 g) (i + 1) := by
  unfold at0 cv
  rw [List.getD_eq_getElem?_getD, List.getElem?_map, List.getElem?_range h]; rfl
theorem list_ext {N : Nat} {f g : List Int} (hf : f.length = N) (hg : g.length = N) (h : ∀ i, i < N → at0 f i = at0 g i) : f = g := by
  refine List.ext_getElem (by omega) fun i h1 h2 => ?_
  rw [at0_get h1, at0_get h2]
  exact h i (by omega)
theorem at0_set {s : List Int} {k n : Nat} {v : Int} (hk : k < s.length) : at0 (s.set k v) n = if n = k then v else at0 s n := by
  unfold at0
  rw [List.getD_eq_getElem?_getD, List.getD_eq_getElem?_getD]
  by_cases h : n = k
  · subst h
    rw [List.getElem?_set_self hk, if_pos rfl]; rfl
  · rw [List.getElem?_set_ne (fun z => h z.symm), if_neg h]
theorem at0_rep (N n : Nat) : at0 (List.replicate N 0) n = 0 := by
  unfold at0
  rw [List.getD_eq_getElem?_getD, List.getElem?_replicate]
  split <;> rfl
theorem idx_at {f : List Int} {i : Nat} (h : i < f.length) : idxM f (i : Int) = some (at0 f i) := by rw [idxM_N h, at0_get h]
theorem aug_at {s : List Int} {k : Nat} (h : k < s.length) (v : Int) : augIxM addM s (k : Int) v = some (s.set k (at0 s k + v)) := by
  unfold augIxM addM
  rw [idx_at h]
  simp only [sb_]
  rw [setM_N h]
/-- the terms of the first i rows -/
def Dw (N i : Nat) (F G : Nat → Int) (n : Nat) : Int := sm i fun a => sm N fun b => tm n a b (F a * G b)
theorem row_cut {N i n : Nat} (F G : Nat → Int) (hn : n ≤ N) (hi : i < N) : (sm (N / (i + 1)) fun b => tm n i b (F i * G b)) = sm N fun b => tm n i b (F i * G b) := by
  have hle : N / (i + 1) ≤ N := Nat.div_le_self _ _
  have := sm_more (n := N / (i + 1)) (k := N - N / (i + 1)) (f := fun b => tm n i b (F i * G b)) fun b h1 h2 => by
    unfold tm
    rw [if_neg]
    intro h
    have h3 : N < (i + 1) * (N / (i + 1) + 1) := by
      have := Nat.div_add_mod N (i + 1)
      have := Nat.mod_lt N (show 0 < i + 1 by omega)
      rw [Nat.mul_add, Nat.mul_one]
      omega
    have h4 : (i + 1) * (N / (i + 1) + 1) ≤ (i + 1) * (b + 1) := Nat.mul_le_mul_left _ (by omega)
    omega
  rw [show N / (i + 1) + (N - N / (i + 1)) = N by omega] at this
  exact this.symm
theorem in_row {N i j : Nat} (hj : j < N / (i + 1)) : (1 + i) * (1 + j) ≤ N := by
  have h1 := Nat.mul_le_mul_left (i + 1) (show j + 1 ≤ N / (i + 1) by omega)
  have h2 : (i + 1) * (N / (i + 1)) ≤ N := Nat.mul_div_le _ _
  rw [Nat.add_comm 1 i, Nat.add_comm 1 j]
  omega
theorem combined_k {N : Nat} {f g : List Int} (hf : f.length = N) (hg : g.length = N) (h1 : 1 ≤ N) (h2 : N ≤ 1000) (hm : ∀ a b, a < N → b < N → mulM (at0 f a) (at0 g b) = some (at0 f a * at0 g b)) : t_combined f g = some (cv N f g) := by
  unfold t_combined
  rw [hf, ltI_eq, show (N : Int) + 1 = ((N + 1 : Nat) : Int) by omega, repM_one _ (by omega)]
  simp only [sb_]
  rw [show (1 : Int) = ((1 : Nat) : Int) from rfl, rng2M_N (by omega) (by omega)]
  simp only [sb_]
  refine for_then (fun z => z = some (cv N f g)) (fun i s => s.length = N + 1 ∧ ∀ n, n ≤ N → at0 s n = Dw N i (at0 f) (at0 g) n) ⟨List.length_replicate, fun n _ => at0_rep _ _⟩ ?_ ?_
  · rintro i x s hx ⟨hl, hs⟩
    obtain ⟨hi, rfl⟩ := rngI_at hx
    have hi : i < N := by omega
    rw [show ((1 : Nat) : Int) + (i : Int) = ((1 + i : Nat) : Int) by omega]
    show ∃ v', ((fdivM (N : Int) ((1 + i : Nat) : Int)).bind fun t10 => (rng2M ((1 : Nat) : Int) (t10 + ((1 : Nat) : Int))).bind fun r11 => (forN (fun (x12 : Int) (s13 : List Int) =>
  (mulM ((1 + i : Nat) : Int) x12).bind fun t16 =>
  (idxM f (((1 + i : Nat) : Int) - ((1 : Nat) : Int))).bind fun t17 =>
  (idxM g (x12 - ((1 : Nat) : Int))).bind fun t18 =>
  (mulM t17 t18).bind fun t19 =>
  (augIxM addM s13 t16 t19).bind fun found15 =>
  some found15) r11 s).bind fun (s20 : List Int) =>
  some s20) = some v' ∧ _
    rw [fdivM_N (by omega) (by omega)]
    simp only [sb_]
    have hd : N / (1 + i) ≤ N := Nat.div_le_self _ _
    rw [show ((N / (1 + i) : Nat) : Int) + ((1 : Nat) : Int) = ((N / (1 + i) + 1 : Nat) : Int) by omega, rng2M_N (by omega) (by omega), show ((1 + i : Nat) : Int) - ((1 : Nat) : Int) = (i : Int) by omega]
    simp only [sb_]
    refine for_then (fun z => ∃ v', z = some v' ∧ v'.length = N + 1 ∧ ∀ n, n ≤ N → at0 v' n = Dw N (i + 1) (at0 f) (at0 g) n) (fun j s => s.length = N + 1 ∧ ∀ n, n ≤ N → at0 s n = Dw N i (at0 f) (at0 g) n + sm j fun b => tm n i b (at0 f i * at0 g b)) ⟨hl, fun n hn => by rw [hs n hn]; show _ = _ + 0; omega⟩ ?_ ?_
    · rintro j y s hy ⟨hl, hs⟩
      obtain ⟨hj, rfl⟩ := rngI_at hy
      have hj : j < N / (i + 1) := by rw [Nat.add_comm i 1]; rwa [Nat.add_sub_cancel] at hj
      have hk := in_row hj
      have hjN : j < N := by
        have := Nat.div_le_self N (i + 1)
        omega
      rw [show ((1 : Nat) : Int) + (j : Int) = ((1 + j : Nat) : Int) by omega]
      show ∃ v', ((mulM ((1 + i : Nat) : Int) ((1 + j : Nat) : Int)).bind fun t16 => (idxM f (i : Int)).bind fun t17 => (idxM g (((1 + j : Nat) : Int) - ((1 : Nat) : Int))).bind fun t18 => (mulM t17 t18).bind fun t19 => (augIxM addM s t16 t19).bind fun found15 => some found15) = some v' ∧ _
      rw [show ((1 + j : Nat) : Int) - ((1 : Nat) : Int) = (j : Int) by omega, mulM_N (by omega), idx_at (by omega), idx_at (by omega)]
      simp only [sb_]
      rw [hm i j hi hjN]
      simp only [sb_]
      rw [aug_at (by omega)]
      refine ⟨_, rfl, by rw [List.length_set, hl], fun n hn => ?_⟩
      rw [at0_set (by omega)]
      show _ = _ + (sm j (fun b => tm n i b (at0 f i * at0 g b)) + tm n i j (at0 f i * at0 g j))
      by_cases e : n = (1 + i) * (1 + j)
      · rw [if_pos e, ← e, hs n hn]
        unfold tm
        rw [if_pos (show (i + 1) * (j + 1) = n by rw [e, Nat.add_comm i, Nat.add_comm j])]
        omega
      · rw [if_neg e, hs n hn]
        have : tm n i j (at0 f i * at0 g j) = 0 := by
          unfold tm
          rw [if_neg]
          intro z
          exact e (by rw [← z, Nat.add_comm i, Nat.add_comm j])
        rw [this]; omega
    · rintro s ⟨hl, hs⟩
      rw [rngI_len, show N / (1 + i) + 1 - 1 = N / (i + 1) by rw [Nat.add_comm i 1, Nat.add_sub_cancel]] at hs
      refine ⟨s, rfl, hl, fun n hn => ?_⟩
      rw [hs n hn, row_cut _ _ hn hi]
      rfl
  · rintro s ⟨hl, hs⟩
    rw [rngI_len, show N + 1 - 1 = N by omega] at hs
    show some (cutT s (some ((1 : Nat) : Int)) none) = _
    congr 1
    have e : cutT s (some ((1 : Nat) : Int)) none = s.drop 1 := by
      unfold cutT
      rw [HT.sIx_nat, HT.sIx_none, hl, Nat.min_eq_left (by omega)]
      exact List.take_of_length_le (by rw [List.length_drop, hl]; omega)
    rw [e]
    refine list_ext (N := N) (by rw [List.length_drop, hl]; omega) (cv_len _ _ _) fun i hi => ?_
    rw [at0_cv hi]
    have : at0 (s.drop 1) i = at0 s (i + 1) := by
      unfold at0
      rw [List.getD_eq_getElem?_getD, List.getD_eq_getElem?_getD, List.getElem?_drop, Nat.add_comm]
    rw [this, hs (i + 1) (by omega)]
    rfl
theorem lcomb_k {N : Nat} {f g : List Int} (hf : f.length = N) (hg : g.length = N) (h1 : 1 ≤ N) (h2 : N ≤ 1000) (hm : ∀ a b, a < N → b < N → mulM (at0 f a) (at0 g b) = some (at0 f a * at0 g b)) : t__law_combined f g = some (cv N f g) := by
  unfold t__law_combined
  rw [hf, repM_one _ (by omega)]
  simp only [sb_]
  rw [show (1 : Int) = ((1 : Nat) : Int) from rfl, show (N : Int) + ((1 : Nat) : Int) = ((N + 1 : Nat) : Int) by omega, rng2M_N (by omega) (by omega)]
  simp only [sb_]
  refine for_then (fun z => z = some (cv N f g)) (fun i s => s.length = N ∧ ∀ n, n < N → at0 s n = Dw N i (at0 f) (at0 g) (n + 1)) ⟨List.length_replicate, fun n _ => at0_rep _ _⟩ ?_ ?_
  · rintro i x s hx ⟨hl, hs⟩
    obtain ⟨hi, rfl⟩ := rngI_at hx
    have hi : i < N := by omega
    rw [show ((1 : Nat) : Int) + (i : Int) = ((1 + i : Nat) : Int) by omega]
    show ∃ v', ((fdivM (N : Int) ((1 + i : Nat) : Int)).bind fun t10 => (rng2M ((1 : Nat) : Int) (t10 + ((1 : Nat) : Int))).bind fun r11 => (forN (fun (x11 : Int) (s12 : List Int) =>
  (mulM ((1 + i : Nat) : Int) x11).bind fun t15 =>
  (mulM ((1 + i : Nat) : Int) x11).bind fun t16 =>
  (idxM s12 (t16 - ((1 : Nat) : Int))).bind fun t17 =>
  (idxM f (((1 + i : Nat) : Int) - ((1 : Nat) : Int))).bind fun t18 =>
  (idxM g (x11 - ((1 : Nat) : Int))).bind fun t19 =>
  (mulM t18 t19).bind fun t20 =>
  (setM s12 (t15 - ((1 : Nat) : Int)) (t17 + t20)).bind fun found14 =>
  some found14) r11 s).bind fun (s20 : List Int) =>
  some s20) = some v' ∧ _
    rw [fdivM_N (by omega) (by omega)]
    simp only [sb_]
    have hd : N / (1 + i) ≤ N := Nat.div_le_self _ _
    rw [show ((N / (1 + i) : Nat) : Int) + ((1 : Nat) : Int) = ((N / (1 + i) + 1 : Nat) : Int) by omega, rng2M_N (by omega) (by omega), show ((1 + i : Nat) : Int) - ((1 : Nat) : Int) = (i : Int) by omega]
    simp only [sb_]
    refine for_then (fun z => ∃ v', z = some v' ∧ v'.length = N ∧ ∀ n, n < N → at0 v' n = Dw N (i + 1) (at0 f) (at0 g) (n + 1)) (fun j s => s.length = N ∧ ∀ n, n < N → at0 s n = Dw N i (at0 f) (at0 g) (n + 1) + sm j fun b => tm (n + 1) i b (at0 f i * at0 g b)) ⟨hl, fun n hn => by rw [hs n hn]; show _ = _ + 0; omega⟩ ?_ ?_
    · rintro j y s hy ⟨hl, hs⟩
      obtain ⟨hj, rfl⟩ := rngI_at hy
      have hj : j < N / (i + 1) := by rw [Nat.add_comm i 1]; rwa [Nat.add_sub_cancel] at hj
      have hk := in_row hj
      have hk1 : 1 ≤ (1 + i) * (1 + j) := Nat.mul_pos (by omega) (by omega)
      have hjN : j < N := by
        have := Nat.div_le_self N (i + 1)
        omega
      rw [show ((1 : Nat) : Int) + (j : Int) = ((1 + j : Nat) : Int) by omega]
      show ∃ v', ((mulM ((1 + i : Nat) : Int) ((1 + j : Nat) : Int)).bind fun t15 => (mulM ((1 + i : Nat) : Int) ((1 + j : Nat) : Int)).bind fun t16 => (idxM s (t16 - ((1 : Nat) : Int))).bind fun t17 => (idxM f (i : Int)).bind fun t18 => (idxM g (((1 + j : Nat) : Int) - ((1 : Nat) : Int))).bind fun t19 => (mulM t18 t19).bind fun t20 => (setM s (t15 - ((1 : Nat) : Int)) (t17 + t20)).bind fun found14 => some found14) = some v' ∧ _
      rw [show ((1 + j : Nat) : Int) - ((1 : Nat) : Int) = (j : Int) by omega, mulM_N (by omega), idx_at (by omega), idx_at (by omega)]
      simp only [sb_]
      generalize hK : (1 + i) * (1 + j) = k at *
      rw [show (k : Int) - ((1 : Nat) : Int) = ((k - 1 : Nat) : Int) by omega, idx_at (by omega)]
      simp only [sb_]
      rw [hm i j hi hjN]
      simp only [sb_]
      rw [setM_N (by omega)]
      refine ⟨_, rfl, by rw [List.length_set, hl], fun n hn => ?_⟩
      rw [at0_set (by omega)]
      show _ = _ + (sm j (fun b => tm (n + 1) i b (at0 f i * at0 g b)) + tm (n + 1) i j (at0 f i * at0 g j))
      have hK' : (i + 1) * (j + 1) = k := by rw [← hK, Nat.add_comm i, Nat.add_comm j]
      by_cases e : n = k - 1
      · rw [if_pos e, ← e, hs n hn]
        unfold tm
        rw [if_pos (show (i + 1) * (j + 1) = n + 1 by omega)]
        omega
      · rw [if_neg e, hs n hn]
        have : tm (n + 1) i j (at0 f i * at0 g j) = 0 := by
          unfold tm
          rw [if_neg]
          omega
        rw [this]; omega
    · rintro s ⟨hl, hs⟩
      rw [rngI_len, show N / (1 + i) + 1 - 1 = N / (i + 1) by rw [Nat.add_comm i 1, Nat.add_sub_cancel]] at hs
      refine ⟨s, rfl, hl, fun n hn => ?_⟩
      rw [hs n hn, row_cut _ _ (by omega) hi]
      rfl
  · rintro s ⟨hl, hs⟩
    rw [rngI_len, show N + 1 - 1 = N by omega] at hs
    show some s = _
    congr 1
    refine list_ext (N := N) hl (cv_len _ _ _) fun i hi => ?_
    rw [at0_cv hi, hs i hi]
    rfl
end K12
end
section
set_option Elab.async false
set_option linter.all false
set_option maxRecDepth 100000
set_option maxHeartbeats 2000000
namespace K12
open PySem Eng Lf
/-- a term but the first -/
def te (m a b : Nat) (x : Int) : Int := if a = 0 then 0 else tm m a b x
theorem te_zero {m a b : Nat} {x : Int} (h : m ≤ b + 1) : te m a b x = 0 := by
  unfold te
  by_cases e : a = 0
  · rw [if_pos e]
  · rw [if_neg e]
    unfold tm
    rw [if_neg]
    intro z
    have := Nat.mul_le_mul_right (b + 1) (show 2 ≤ a + 1 by omega)
    omega
theorem sm_first {N : Nat} (h : 0 < N) (g : Nat → Int) : sm N g = g 0 + sm N fun a => if a = 0 then 0 else g a := by
  have e : sm N g = sm N fun a => (if a = 0 then g 0 else 0) + (if a = 0 then 0 else g a) := sm_congr fun a _ => by
    by_cases z : a = 0
    · subst z; simp
    · rw [if_neg z, if_neg z]; omega
  rw [e, sm_add, sm_one (k := 0) h fun i _ hi => if_neg hi, if_pos rfl]
theorem C_split {N : Nat} (F Y : Nat → Int) {n : Nat} (hn : n < N) : C N F Y (n + 1) = F 0 * Y n + sm N fun b => sm N fun a => te (n + 1) a b (F a * Y b) := by
  unfold C
  rw [sm_swap]
  rw [sm_congr (g := fun b => tm (n + 1) 0 b (F 0 * Y b) + sm N fun a => te (n + 1) a b (F a * Y b)) fun b _ => sm_first (by omega) _, sm_add]
  congr 1
  rw [sm_one (k := n) hn fun b _ hb => by unfold tm; rw [if_neg (by omega)]]
  unfold tm
  rw [if_pos (by omega)]
theorem te_cut {N n : Nat} (F Y : Nat → Int) (hn : n < N) {i : Nat} (hi : n ≤ i) (hiN : i ≤ N) : (sm N fun b => sm N fun a => te (n + 1) a b (F a * Y b)) = sm i fun b => sm N fun a => te (n + 1) a b (F a * Y b) := by
  have := sm_more (n := i) (k := N - i) (f := fun b => sm N fun a => te (n + 1) a b (F a * Y b)) fun b h1 h2 => sm_zero fun a _ => te_zero (by omega)
  rwa [show i + (N - i) = N by omega] at this
theorem tback_k {N : Nat} {f y : List Int} (hf : f.length = N) (hy : y.length = N) (h1 : 1 ≤ N) (h2 : N ≤ 1000) (h0 : at0 f 0 = 1 ∨ at0 f 0 = -1) (hi : ∀ n, n < N → C N (at0 f) (at0 y) (n + 1) = U n)
    (hm : ∀ a b, a < N → b < N → mulM (at0 f a) (at0 y b) = some (at0 f a * at0 y b)) : t_taken_back f = some y := by
  have hff : at0 f 0 * at0 f 0 = 1 := by rcases h0 with z | z <;> rw [z] <;> rfl
  unfold t_taken_back
  rw [hf, ltI_eq, show (N : Int) + 1 = ((N + 1 : Nat) : Int) by omega, repM_one _ (by omega)]
  simp only [sb_, ls_]
  rw [show (1 : Int) = ((1 : Nat) : Int) from rfl, rng2M_N (by omega) (by omega)]
  simp only [sb_]
  refine for_then (fun z => z = some y) (fun i v => v.1.length = N + 1 ∧ v.2 = y.take i ∧ ∀ m, m ≤ N → at0 v.1 m = sm i fun b => sm N fun a => te m a b (at0 f a * at0 y b)) ⟨List.length_replicate, rfl, fun n _ => at0_rep _ _⟩ ?_ ?_
  · rintro i x ⟨s, fo⟩ hx ⟨hl, hfo, hs⟩
    obtain ⟨hi1, rfl⟩ := rngI_at hx
    have hiN : i < N := by omega
    have hfo : fo = y.take i := hfo
    subst hfo
    have hl : s.length = N + 1 := hl
    have hs : ∀ m, m ≤ N → at0 s m = sm i fun b => sm N fun a => te m a b (at0 f a * at0 y b) := hs
    rw [show ((1 : Nat) : Int) + (i : Int) = ((1 + i : Nat) : Int) by omega]
    show ∃ v', ((idxM f (0 : Int)).bind fun t11 => (idxM s ((1 + i : Nat) : Int)).bind fun t12 =>
  (mulM t11 ((b2i (decide (((1 + i : Nat) : Int) = ((1 : Nat) : Int)))) - t12)).bind fun t13 =>
  (appM (y.take i) t13).bind fun found14 =>
  (fdivM (N : Int) ((1 + i : Nat) : Int)).bind fun t15 =>
  (rng2M (2 : Int) (t15 + ((1 : Nat) : Int))).bind fun r16 =>
  (forN (fun (x17 : Int) (s18 : List Int) =>
  (mulM x17 ((1 + i : Nat) : Int)).bind fun t21 =>
  (idxM f (x17 - ((1 : Nat) : Int))).bind fun t22 =>
  (mulM t22 t13).bind fun t23 =>
  (augIxM addM s18 t21 t23).bind fun known20 =>
  some known20) r16 s).bind fun (s24 : List Int) =>
  some (s24, found14)) = some v' ∧ _
    rw [show (0 : Int) = ((0 : Nat) : Int) from rfl, idx_at (by omega), idx_at (by omega)]
    simp only [sb_]
    have hU : b2i (decide (((1 + i : Nat) : Int) = ((1 : Nat) : Int))) = U i := by
      unfold U
      by_cases z : i = 0
      · rw [if_pos z, decide_eq_true (by omega)]; rfl
      · rw [if_neg z, decide_eq_false (by omega)]; rfl
    have hw : at0 f 0 * (U i - at0 s (1 + i)) = at0 y i := by
      have a1 := hi i hiN
      rw [C_split _ _ hiN, te_cut _ _ hiN (Nat.le_refl i) (by omega)] at a1
      rw [hs (1 + i) (by omega), Nat.add_comm 1 i, ← a1]
      generalize (sm i fun b => sm N fun a => te (i + 1) a b (at0 f a * at0 y b)) = S
      rw [show at0 f 0 * at0 y i + S - S = at0 f 0 * at0 y i by omega, ← Int.mul_assoc, hff, Int.one_mul]
    rw [hU, mulM_l (by rcases h0 with z | z <;> rw [z] <;> decide) (by rcases h0 with z | z <;> rw [z] <;> decide), hw]
    simp only [sb_]
    rw [appM_N (by rw [List.length_take]; omega)]
    simp only [sb_]
    rw [fdivM_N (by omega) (by omega)]
    simp only [sb_]
    have hd : N / (1 + i) ≤ N := Nat.div_le_self _ _
    have hd1 : 1 ≤ N / (1 + i) := Nat.div_pos (by omega) (by omega)
    rw [show ((N / (1 + i) : Nat) : Int) + ((1 : Nat) : Int) = ((N / (1 + i) + 1 : Nat) : Int) by omega, show (2 : Int) = ((2 : Nat) : Int) from rfl, rng2M_N (by omega) (by omega)]
    simp only [sb_]
    have ey : y.take i ++ [at0 y i] = y.take (i + 1) := by
      rw [List.take_add_one, List.getElem?_eq_getElem (by omega), at0_get (by omega)]; rfl
    rw [ey]
    refine for_then (fun z => ∃ v' : List Int × List Int, z = some v' ∧ v'.1.length = N + 1 ∧ v'.2 = y.take (i + 1) ∧ ∀ m, m ≤ N → at0 v'.1 m = sm (i + 1) fun b => sm N fun a => te m a b (at0 f a * at0 y b)) (fun j s => s.length = N + 1 ∧ ∀ m, m ≤ N → at0 s m = (sm i fun b => sm N fun a => te m a b (at0 f a * at0 y b)) + sm (j + 1) fun a => te m a i (at0 f a * at0 y i)) ⟨hl, fun m hm => by rw [hs m hm]; show _ = _ + (0 + te m 0 i _); unfold te; rw [if_pos rfl]; omega⟩ ?_ ?_
    · rintro j z s hz ⟨hl, hs⟩
      obtain ⟨hj, rfl⟩ := rngI_at hz
      have hj : j + 1 < N / (i + 1) := by rw [Nat.add_comm i 1]; omega
      have hk := in_row (N := N) (i := i) (j := j + 1) hj
      have hjN : j + 1 < N := by
        have := Nat.div_le_self N (i + 1)
        omega
      rw [show ((2 : Nat) : Int) + (j : Int) = ((2 + j : Nat) : Int) by omega]
      show ∃ v', ((mulM ((2 + j : Nat) : Int) ((1 + i : Nat) : Int)).bind fun t21 => (idxM f (((2 + j : Nat) : Int) - ((1 : Nat) : Int))).bind fun t22 => (mulM t22 (at0 y i)).bind fun t23 => (augIxM addM s t21 t23).bind fun known20 => some known20) = some v' ∧ _
      have hk2 : (2 + j) * (1 + i) ≤ N := by
        rw [Nat.mul_comm, show 2 + j = 1 + (j + 1) by omega]; exact hk
      rw [show ((2 + j : Nat) : Int) - ((1 : Nat) : Int) = ((j + 1 : Nat) : Int) by omega, mulM_N (by omega), idx_at (by omega)]
      simp only [sb_]
      rw [hm (j + 1) i hjN hiN]
      simp only [sb_]
      rw [aug_at (by omega)]
      refine ⟨_, rfl, by rw [List.length_set, hl], fun m hm => ?_⟩
      rw [at0_set (by omega)]
      show _ = _ + (sm (j + 1) (fun a => te m a i (at0 f a * at0 y i)) + te m (j + 1) i (at0 f (j + 1) * at0 y i))
      have hK : (j + 1 + 1) * (i + 1) = (2 + j) * (1 + i) := by rw [Nat.add_comm 1 i]; congr 1; omega
      by_cases e : m = (2 + j) * (1 + i)
      · rw [if_pos e, ← e, hs m hm]
        unfold te tm
        rw [if_neg (by omega : ¬ j + 1 = 0), if_pos (show (j + 1 + 1) * (i + 1) = m by omega)]
        omega
      · rw [if_neg e, hs m hm]
        have : te m (j + 1) i (at0 f (j + 1) * at0 y i) = 0 := by
          unfold te tm
          rw [if_neg (by omega : ¬ j + 1 = 0), if_neg (by omega)]
        rw [this]; omega
    · rintro s ⟨hl, hs⟩
      rw [rngI_len, show N / (1 + i) + 1 - 2 + 1 = N / (i + 1) by rw [Nat.add_comm i 1]; omega] at hs
      refine ⟨(s, y.take (i + 1)), rfl, hl, rfl, fun m hm => ?_⟩
      show at0 s m = _
      rw [hs m hm]
      show _ = (sm i fun b => sm N fun a => te m a b (at0 f a * at0 y b)) + sm N fun a => te m a i (at0 f a * at0 y i)
      congr 1
      have hle : N / (i + 1) ≤ N := Nat.div_le_self _ _
      have := sm_more (n := N / (i + 1)) (k := N - N / (i + 1)) (f := fun a => te m a i (at0 f a * at0 y i)) fun a h1 h2 => by
        unfold te tm
        split
        · rfl
        · rw [if_neg]
          intro h
          have h3 : N < (i + 1) * (N / (i + 1) + 1) := by
            have := Nat.div_add_mod N (i + 1)
            have := Nat.mod_lt N (show 0 < i + 1 by omega)
            rw [Nat.mul_add, Nat.mul_one]
            omega
          have h4 : (i + 1) * (N / (i + 1) + 1) ≤ (i + 1) * (a + 1) := Nat.mul_le_mul_left _ (by omega)
          rw [Nat.mul_comm] at h
          omega
      rw [show N / (i + 1) + (N - N / (i + 1)) = N by omega] at this
      exact this.symm
  · rintro ⟨s, fo⟩ ⟨_, hfo, _⟩
    rw [rngI_len, show N + 1 - 1 = N by omega] at hfo
    have hfo : fo = y.take N := hfo
    show some fo = some y
    rw [hfo, List.take_of_length_le (by omega)]
/-- there is an inverse, and it is not too great -/
theorem inv_there {N : Nat} {f : List Int} (h2 : N ≤ 30) (h0 : at0 f 0 = 1 ∨ at0 f 0 = -1) (hb : ∀ a, (at0 f a).natAbs ≤ 2 ^ 20) :
    ∀ k, k ≤ N → ∃ y : List Int, y.length = k ∧ (∀ b, (at0 y b).natAbs ≤ 2 ^ (31 * k)) ∧ ∀ n, n < k → at0 f 0 * at0 y n + (sm N fun b => sm N fun a => te (n + 1) a b (at0 f a * at0 y b)) = U n
  | 0, _ => ⟨[], rfl, fun b => by show (0 : Int).natAbs ≤ _; exact Nat.zero_le _, fun n hn => absurd hn (Nat.not_lt_zero _)⟩
  | k + 1, hk => by
    obtain ⟨y, hl, hy, hi⟩ := inv_there (N := N) h2 h0 hb k (by omega)
    have hff : at0 f 0 * at0 f 0 = 1 := by rcases h0 with z | z <;> rw [z] <;> rfl
    generalize hS : (sm N fun b => sm N fun a => te (k + 1) a b (at0 f a * at0 y b)) = S
    have old : ∀ b, b < k → ∀ w, at0 (y ++ [w]) b = at0 y b := fun b hb w => by
      unfold at0
      rw [List.getD_eq_getElem?_getD, List.getD_eq_getElem?_getD, List.getElem?_append_left (by omega)]
    have new : ∀ w, at0 (y ++ [w]) k = w := fun w => by
      unfold at0
      rw [List.getD_eq_getElem?_getD, List.getElem?_append_right (by omega), hl]
      simp
    have far : ∀ b, k < b → ∀ w, at0 (y ++ [w]) b = 0 := fun b hb w => by
      unfold at0
      rw [List.getD_eq_getElem?_getD, List.getElem?_eq_none (by simp; omega)]; rfl
    have same : ∀ n, n ≤ k → ∀ w, (sm N fun b => sm N fun a => te (n + 1) a b (at0 f a * at0 (y ++ [w]) b)) = sm N fun b => sm N fun a => te (n + 1) a b (at0 f a * at0 y b) := fun n hn w => sm_congr fun b _ => sm_congr fun a _ => by
      by_cases z : b < k
      · rw [old b z]
      · rw [te_zero (by omega), te_zero (by omega)]
    refine ⟨y ++ [at0 f 0 * (U k - S)], by simp [hl], fun b => ?_, fun n hn => ?_⟩
    · have e31 : (2 : Nat) ^ (31 * (k + 1)) = 2 ^ 31 * 2 ^ (31 * k) := by rw [← Nat.pow_add]; congr 1; omega
      have p1 : 1 ≤ (2 : Nat) ^ (31 * k) := Nat.pow_pos (by omega)
      have p31 : (2 : Nat) ^ 31 = 2147483648 := rfl
      have p20 : (2 : Nat) ^ 20 = 1048576 := rfl
      rw [e31, p31]
      rcases Nat.lt_trichotomy b k with z | z | z
      · rw [old b z]
        have := hy b
        omega
      · subst z
        rw [new, Int.natAbs_mul]
        have f1 : (at0 f 0).natAbs = 1 := by rcases h0 with z | z <;> rw [z] <;> rfl
        rw [f1, Nat.one_mul]
        have hU : (U b).natAbs ≤ 1 := by unfold U; split <;> decide
        have hS2 : S.natAbs ≤ N * (N * (2 ^ 20 * 2 ^ (31 * b))) := by
          rw [← hS]
          refine sm_abs fun c _ => sm_abs fun a _ => ?_
          unfold te tm
          have : (at0 f a * at0 y c).natAbs ≤ 2 ^ 20 * 2 ^ (31 * b) := by rw [Int.natAbs_mul]; exact Nat.mul_le_mul (hb a) (hy c)
          split
          · exact Nat.zero_le _
          · split
            · exact this
            · exact Nat.zero_le _
        have hN : N * (N * (2 ^ 20 * 2 ^ (31 * b))) ≤ 30 * (30 * (2 ^ 20 * 2 ^ (31 * b))) := Nat.mul_le_mul h2 (Nat.mul_le_mul_right _ h2)
        rw [p20] at hS2 hN
        omega
      · rw [far b z]; exact Nat.zero_le _
    · by_cases z : n < k
      · rw [old n z, same n (by omega)]
        exact hi n z
      · have : n = k := by omega
        subst this
        rw [new, same n (Nat.le_refl n), hS, ← Int.mul_assoc, hff]
        omega
end K12
end
section
set_option Elab.async false
set_option linter.all false
set_option maxRecDepth 100000
set_option maxHeartbeats 2000000
namespace K12
open PySem Eng Lf
def e1 (N : Nat) : List Int := 1 :: List.replicate (N - 1) 0
theorem e1_len {N : Nat} (h : 1 ≤ N) : (e1 N).length = N := by simp [e1]; omega
theorem at0_e1 (N i : Nat) : at0 (e1 N) i = U i := by
  unfold e1 at0 U
  cases i with
  | zero => rfl
  | succ i =>
    rw [if_neg (by omega), List.getD_cons_succ]
    exact at0_rep _ _
theorem cv_abs {N A B : Nat} {f g : List Int} (hN : N ≤ 30) (hf : ∀ a, (at0 f a).natAbs ≤ A) (hg : ∀ a, (at0 g a).natAbs ≤ B) (i : Nat) : (at0 (cv N f g) i).natAbs ≤ 900 * (A * B) := by
  by_cases h : i < N
  · rw [at0_cv h]
    have : (C N (at0 f) (at0 g) (i + 1)).natAbs ≤ N * (N * (A * B)) := sm_abs fun a _ => sm_abs fun b _ => by
      unfold tm
      split
      · rw [Int.natAbs_mul]; exact Nat.mul_le_mul (hf a) (hg b)
      · exact Nat.zero_le _
    refine Nat.le_trans this ?_
    have := Nat.mul_le_mul hN (Nat.mul_le_mul_right (A * B) hN)
    omega
  · unfold at0
    rw [List.getD_eq_getElem?_getD, List.getElem?_eq_none (by rw [cv_len]; omega)]
    exact Nat.zero_le _
theorem cv_comm (N : Nat) (f g : List Int) : cv N f g = cv N g f := list_ext (cv_len _ _ _) (cv_len _ _ _) fun i hi => by rw [at0_cv hi, at0_cv hi, C_comm]
theorem cv_assoc (N : Nat) (f g h : List Int) : cv N (cv N f g) h = cv N f (cv N g h) := list_ext (cv_len _ _ _) (cv_len _ _ _) fun i hi => by
  rw [at0_cv hi, at0_cv hi, C_congr (F' := fun i => C N (at0 f) (at0 g) (i + 1)) (G' := at0 h) (fun j hj => at0_cv hj) (fun _ _ => rfl), C_congr (F := at0 f) (F' := at0 f) (G' := fun i => C N (at0 g) (at0 h) (i + 1)) (fun _ _ => rfl) (fun j hj => at0_cv hj)]
  exact C_assoc _ _ _ (by omega)
theorem cv_one {N : Nat} {f : List Int} (hf : f.length = N) (h : 1 ≤ N) : cv N f (e1 N) = f := list_ext (cv_len _ _ _) hf fun i hi => by
  rw [at0_cv hi, C_congr (F' := at0 f) (G' := U) (fun _ _ => rfl) (fun j _ => at0_e1 N j), C_one _ hi]
theorem cv_first {N : Nat} (f g : List Int) (h : 1 ≤ N) : at0 (cv N f g) 0 = at0 f 0 * at0 g 0 := by
  rw [at0_cv (by omega), C_split _ _ (by omega), sm_zero fun b _ => sm_zero fun a _ => te_zero (by omega)]; omega
theorem inv_list {N : Nat} {f : List Int} (hN : N ≤ 30) (h1 : 1 ≤ N) (h0 : at0 f 0 = 1 ∨ at0 f 0 = -1) (hb : ∀ a, (at0 f a).natAbs ≤ 2 ^ 20) : ∃ y : List Int, y.length = N ∧ (∀ b, (at0 y b).natAbs < 2 ^ 1000) ∧ cv N f y = e1 N ∧ at0 y 0 = at0 f 0 := by
  obtain ⟨y, h2, h3, h4⟩ := inv_there hN h0 hb N (Nat.le_refl N)
  refine ⟨y, h2, fun b => ?_, ?_, ?_⟩
  · exact Nat.lt_of_le_of_lt (h3 b) (Nat.pow_lt_pow_right (by omega) (by omega))
  · refine list_ext (cv_len _ _ _) (e1_len h1) fun i hi => ?_
    rw [at0_cv hi, at0_e1, C_split _ _ hi]
    exact h4 i hi
  · have := h4 0 (by omega)
    rw [sm_zero fun b _ => sm_zero fun a _ => te_zero (by omega)] at this
    have hu : U 0 = 1 := rfl
    rw [hu] at this
    rcases h0 with z | z <;> rw [z] at this ⊢ <;> omega
theorem inv_C {N : Nat} {f y : List Int} (h : cv N f y = e1 N) {n : Nat} (hn : n < N) : C N (at0 f) (at0 y) (n + 1) = U n := by rw [← at0_cv hn, h, at0_e1]
theorem sm5 {x y : Int} (h : x.natAbs ≤ 2 ^ 20) : mulM x y = some (x * y) := by
  have p20 : (2 : Nat) ^ 20 = 1048576 := rfl
  exact mulM_l (by omega) (by omega)
theorem sm5' {x y : Int} (h : y.natAbs ≤ 2 ^ 20) : mulM x y = some (x * y) := by
  have p20 : (2 : Nat) ^ 20 = 1048576 := rfl
  exact mulM_r (by omega) (by omega)
theorem rows_right_k {N : Nat} {f g h : List Int} (hN : N ≤ 30) (h1 : 1 ≤ N) (lf : f.length = N) (lg : g.length = N) (lh : h.length = N) (f0 : at0 f 0 = 1 ∨ at0 f 0 = -1) (g0 : at0 g 0 = 1 ∨ at0 g 0 = -1)
    (bf : ∀ a, (at0 f a).natAbs ≤ 5) (bg : ∀ a, (at0 g a).natAbs ≤ 5) (bh : ∀ a, (at0 h a).natAbs ≤ 5) : t__law_rows_right f g h = some true := by
  have p20 : (2 : Nat) ^ 20 = 1048576 := rfl
  have sf : ∀ a, (at0 f a).natAbs ≤ 2 ^ 20 := fun a => by have := bf a; omega
  have sg : ∀ a, (at0 g a).natAbs ≤ 2 ^ 20 := fun a => by have := bg a; omega
  have sb : ∀ a, (at0 (cv N f g) a).natAbs ≤ 2 ^ 20 := fun a => by have := cv_abs hN bf bg a; omega
  obtain ⟨y, ly, by_, iy, y0⟩ := inv_list hN h1 f0 sf
  obtain ⟨z, lz, bz, iz, z0⟩ := inv_list hN h1 g0 sg
  have cfg := combined_k lf lg h1 (by omega) fun a b _ _ => sm5 (sf a)
  have cgf := combined_k lg lf h1 (by omega) fun a b _ _ => sm5 (sg a)
  have cbh := combined_k (cv_len N f g) lh h1 (by omega) fun a b _ _ => sm5 (sb a)
  have cgh := combined_k lg lh h1 (by omega) fun a b _ _ => sm5 (sg a)
  have cfgh := combined_k lf (cv_len N g h) h1 (by omega) fun a b _ _ => sm5 (sf a)
  have lfg := lcomb_k lf lg h1 (by omega) fun a b _ _ => sm5 (sf a)
  have lfh := lcomb_k lf lh h1 (by omega) fun a b _ _ => sm5 (sf a)
  have ok1 : ∀ f g : List Int, okT okU (cv N f g) = true := fun f g => okT_U (by rw [cv_len]; omega)
  have okf : okT okU f = true := okT_U (by omega)
  unfold t__law_rows_right
  rw [lf, ltI_eq, lfg]
  simp only [sb_]
  rw [show (N : Int) - 1 = ((N - 1 : Nat) : Int) by omega, repM_one _ (by omega)]
  simp only [sb_]
  rw [catM_N (by simp; omega), show ([1] : List Int) ++ List.replicate (N - 1) 0 = e1 N from rfl]
  simp only [sb_]
  rw [cfg]
  simp only [sb_]
  rw [cgf]
  simp only [sb_]
  rw [cbh]
  simp only [sb_]
  rw [cgh]
  simp only [sb_]
  rw [cfgh]
  simp only [sb_]
  rw [like_same (by rw [cv_comm N g f, cv_assoc]) (by
    show (okT okU _ && (okT okU _ && okT okU _)) = true
    rw [ok1, ok1, ok1]; rfl)]
  simp only [sb_]
  rw [show (!true) = false from rfl, bf_]
  rw [rng1M_N (by omega)]
  simp only [sb_]
  -- the sum
  have tot : mapM' (fun (x15 : Int) => (((idxM g x15).bind fun t16 => (idxM h x15).bind fun t17 => some (t16 + t17))).bind fun y18 => some (some y18)) (nL N) = some ((nL N).map fun x => at0 g x.toNat + at0 h x.toNat) :=
    mapM_all (by rw [nL_len]; omega) fun x hx => by
      obtain ⟨i, hi, rfl⟩ := mem_nL.mp hx
      rw [idx_at (by omega), idx_at (by omega)]
      rfl
  rw [tot]
  simp only [sb_]
  have lt_ : ((nL N).map fun x => at0 g x.toNat + at0 h x.toNat).length = N := by rw [List.length_map, nL_len]
  have at_ : ∀ (F : Nat → Int) (i : Nat), i < N → at0 ((nL N).map fun x => F x.toNat) i = F i := fun F i hi => by
    unfold at0 nL
    rw [List.getD_eq_getElem?_getD, List.map_map, List.getElem?_map, List.getElem?_range hi]
    show F ((i : Int).toNat) = F i
    rw [Int.toNat_natCast]
  have tot2 : mapM' (fun (x22 : Int) => (((idxM (cv N f g) x22).bind fun t23 => (t__law_combined f h).bind fun t24 => (idxM t24 x22).bind fun t25 => some (t23 + t25))).bind fun y26 => some (some y26)) (nL N) = some ((nL N).map fun x => at0 (cv N f g) x.toNat + at0 (cv N f h) x.toNat) :=
    mapM_all (by rw [nL_len]; omega) fun x hx => by
      obtain ⟨i, hi, rfl⟩ := mem_nL.mp hx
      rw [idx_at (by rw [cv_len]; omega), lfh]
      simp only [sb_]
      rw [idx_at (by rw [cv_len]; omega)]
      rfl
  rw [tot2]
  simp only [sb_]
  have lt2 : ((nL N).map fun x => at0 (cv N f g) x.toNat + at0 (cv N f h) x.toNat).length = N := by rw [List.length_map, nL_len]
  have key : cv N f ((nL N).map fun x => at0 g x.toNat + at0 h x.toNat) = (nL N).map fun x => at0 (cv N f g) x.toNat + at0 (cv N f h) x.toNat := by
    refine list_ext (cv_len _ _ _) lt2 fun i hi => ?_
    rw [at0_cv hi, at_ (fun i => at0 (cv N f g) i + at0 (cv N f h) i) i hi, at0_cv hi, at0_cv hi, ← C_add]
    exact C_congr (fun _ _ => rfl) (fun j hj => at_ (fun i => at0 g i + at0 h i) j hj) _
  rw [combined_k lf lt_ h1 (by omega) fun a b _ _ => sm5 (sf a), key]
  simp only [sb_]
  rw [combined_k lf (e1_len h1) h1 (by omega) fun a b _ _ => sm5 (sf a), cv_one lf h1]
  simp only [sb_]
  rw [like_same rfl (by
    show (okT okU _ && okT okU _) = true
    rw [okT_U (by rw [lt2]; omega), okf]; rfl)]
  simp only [sb_]
  rw [show (!true) = false from rfl, bf_]
  -- taken back
  rw [tback_k lf ly h1 (by omega) f0 (fun n hn => inv_C iy hn) fun a b _ _ => sm5 (sf a)]
  simp only [sb_]
  rw [tback_k lg lz h1 (by omega) g0 (fun n hn => inv_C iz hn) fun a b _ _ => sm5 (sg a)]
  simp only [sb_]
  rw [lcomb_k lf ly h1 (by omega) fun a b _ _ => sm5 (sf a), iy]
  simp only [sb_]
  rw [lcomb_k lg lz h1 (by omega) fun a b _ _ => sm5 (sg a), iz]
  simp only [sb_]
  have oke : okT okU (e1 N) = true := okT_U (by rw [e1_len h1]; omega)
  rw [like_same rfl (by
    show (okT okU _ && okT okU _) = true
    rw [oke]; rfl)]
  simp only [sb_]
  rw [show (!true) = false from rfl, bf_]
  have ib : cv N (cv N f g) (cv N y z) = e1 N := by
    rw [cv_assoc, ← cv_assoc N g y z, cv_comm N g y, cv_assoc N y g z, iz, cv_one ly h1, iy]
  have b0 : at0 (cv N f g) 0 = 1 ∨ at0 (cv N f g) 0 = -1 := by
    rw [cv_first f g h1]
    rcases f0 with q | q <;> rcases g0 with r | r <;> rw [q, r] <;> decide
  rw [tback_k (cv_len N f g) (cv_len N y z) h1 (by omega) b0 (fun n hn => inv_C ib hn) fun a b _ _ => sm5 (sb a)]
  simp only [sb_]
  rw [tback_k ly lf h1 (by omega) (by rw [y0]; exact f0) (fun n hn => inv_C (by rw [cv_comm]; exact iy) hn) fun a b _ _ => sm5' (sf b)]
  simp only [sb_]
  rw [lcomb_k ly lz h1 (by omega) fun a b _ _ => mulM_big (by_ a) (bz b) (by omega)]
  simp only [sb_]
  exact like_same rfl (by
    show (okT okU _ && okT okU _) = true
    rw [ok1, okf]; rfl)
end K12
end
section
set_option Elab.async false
set_option linter.all false
set_option maxRecDepth 100000
set_option maxHeartbeats 2000000
namespace K12
open PySem Eng Lf
theorem rng3_all {a c : Nat} {b : Int} (hc : 1 ≤ c) (hc2 : c ≤ 1000000) (ha : a ≤ 1000000) (hb : b ≤ 1000000) (hb2 : -1000000 ≤ b) : ∃ xs, rng3M (a : Int) b (c : Int) = some xs ∧ (∀ x ∈ xs, ∃ i : Nat, x = ((a + i * c : Nat) : Int) ∧ x < b) ∧ ∀ i : Nat, ((a + i * c : Nat) : Int) < b → ((a + i * c : Nat) : Int) ∈ xs := by
  obtain ⟨xs, h1, h2⟩ := rng3M_up hc hc2 ha hb hb2
  refine ⟨xs, h1, h2, fun i hi => ?_⟩
  unfold rng3M at h1
  obtain ⟨_, rfl⟩ := bif_ok h1
  unfold rngByI
  refine List.mem_map.mpr ⟨i, List.mem_range.mpr ?_, by rw [Int.natCast_add, Int.natCast_mul]⟩
  unfold Builtin.Range.rangeSize
  have hab : (a : Int) < b := by omega
  rw [if_pos (show (c : Int) > 0 by omega), if_pos hab]
  have : (i : Int) ≤ (b - a - 1) / (c : Int) := (Int.le_ediv_iff_mul_le (by omega)).mpr (by rw [Int.natCast_add, Int.natCast_mul] at hi; omega)
  omega
theorem cut_take {α : Type} (xs : List α) (k : Nat) : cutT xs none (some (k : Int)) = xs.take k := by
  unfold cutT
  rw [HT.sIx_nat, HT.sIx_none, List.drop_zero, Nat.sub_zero]
  rcases Nat.le_total k xs.length with z | z
  · rw [Nat.min_eq_left z]
  · rw [Nat.min_eq_right z, List.take_of_length_le (Nat.le_refl _), List.take_of_length_le z]
theorem cut_drop {α : Type} (xs : List α) (k : Nat) : cutT xs (some (k : Int)) none = xs.drop k := by
  unfold cutT
  rw [HT.sIx_nat, HT.sIx_none]
  rcases Nat.le_total k xs.length with z | z
  · rw [Nat.min_eq_left z]
    exact List.take_of_length_le (by rw [List.length_drop]; omega)
  · rw [Nat.min_eq_right z, List.drop_of_length_le (Nat.le_refl _), List.drop_of_length_le z, List.take_nil]
theorem okz (z : Option (Int × Int)) : okO (okP okU okU) z = true := by cases z <;> rfl
theorem div27 {m : Nat} (h1 : 1 ≤ m) (h2 : m ≤ 12) : m ∣ 27720 := by
  have : ∀ m < 13, 0 < m → m ∣ 27720 := by decide
  exact this m (by omega) (by omega)
theorem tog_k {l : List (Nat × Nat)} (hn : l ≠ []) (hl : ∀ q ∈ l, q.1 < q.2) (hd : ∀ q ∈ l, q.2 ∣ 27720) : ∃ z, t_together (l.map toI) = some z ∧ TG (Sol l) (lcmL l) z := by
  cases l with
  | nil => exact absurd rfl hn
  | cons q l => exact together_k hl (Nat.le_trans (Nat.le_of_dvd (by omega) ((lcmL_dvd _ _).mpr hd)) (by omega))
theorem together_right_k {l : List (Nat × Nat)} (hn : l ≠ []) (hlen : l.length ≤ 10) (hl : ∀ q ∈ l, q.1 < q.2 ∧ q.2 ≤ 12) (cut : Nat) : t__law_together_right (l.map toI) cut = some true := by
  have hd : ∀ q ∈ l, q.2 ∣ 27720 := fun q hq => div27 (by have := hl q hq; omega) (hl q hq).2
  have hlt : ∀ q ∈ l, q.1 < q.2 := fun q hq => (hl q hq).1
  have hB : lcmL l ≤ 27720 := Nat.le_of_dvd (by omega) ((lcmL_dvd _ _).mpr hd)
  have hB0 : 0 < lcmL l := Nat.pos_of_dvd_of_pos ((lcmL_dvd l 27720).mpr hd) (by omega)
  obtain ⟨z, tz, gz⟩ := tog_k hn hlt hd
  obtain ⟨z', tz', gz'⟩ := tog_k (l := l.reverse) (by simpa using hn) (fun q hq => hlt q (by simpa using hq)) (fun q hq => hd q (by simpa using hq))
  have ez : z' = z := by
    refine TG_unique (TG_congr gz' (S' := Sol l) fun x => ?_) ?_
    · unfold Sol; simp
    · rw [lcmL_congr (l' := l) (fun q => by simp)]
      exact gz
  subst ez
  unfold t__law_together_right
  refine for_then (fun y => y = some true) (fun i v => v = ((lcmL (l.take i) : Nat) : Int)) rfl ?_ ?_
  · rintro i x _ hx rfl
    obtain ⟨q, hq, rfl⟩ := at_map hx
    have hm := List.mem_of_getElem? hq
    have hq1 := hl q hm
    have hM : lcmL (l.take i) ≤ 27720 := Nat.le_of_dvd (by omega) ((lcmL_dvd _ _).mpr fun q hq => hd q (List.mem_of_mem_take hq))
    refine ⟨((lcmL (l.take (i + 1)) : Nat) : Int), ?_, rfl⟩
    rw [List.take_add_one, hq]
    show _ = some ((lcmL (l.take i ++ [q]) : Nat) : Int)
    rw [lcmL_snoc]
    have hM0 : 0 < lcmL (l.take i) := Nat.pos_of_dvd_of_pos ((lcmL_dvd (l.take i) 27720).mpr fun q hq => hd q (List.mem_of_mem_take hq)) (by omega)
    generalize lcmL (l.take i) = M at *
    show ((mulM (M : Int) (q.2 : Int)).bind fun t7 => (t__law_gcd (M : Int) (q.2 : Int)).bind fun t8 => (fdivM t7 t8).bind fun t9 => some t9) = _
    have gp : 0 < Nat.gcd M q.2 := Nat.gcd_pos_of_pos_left _ hM0
    have gl : Nat.gcd M q.2 ≤ M := Nat.le_of_dvd hM0 (Nat.gcd_dvd_left _ _)
    rw [mulM_N (by omega), lgcd_k (Nat.lt_of_le_of_lt hq1.2 (by decide))]
    simp only [sb_]
    rw [fdivM_N gp (by omega)]
    rfl
  · rintro _ rfl
    rw [List.length_map, List.take_length, ls_]
    obtain ⟨q0, l0, rfl⟩ : ∃ q l', l = q :: l' := by
      cases l with
      | nil => exact absurd rfl hn
      | cons q l => exact ⟨q, l, rfl⟩
    have hq0 := hl q0 (by simp)
    rw [show idxM ((q0 :: l0).map toI) (0 : Int) = some (toI q0) from (idxM_N (xs := (q0 :: l0).map toI) (i := 0) (by simp)).trans rfl]
    simp only [sb_]
    obtain ⟨xs, hr, hx1, hx2⟩ := rng3_all (a := q0.1) (c := q0.2) (b := ((lcmL (q0 :: l0) : Nat) : Int)) (by omega) (by omega) (by omega) (by omega) (by omega)
    rw [show (toI q0).1 = (q0.1 : Int) from rfl, show (toI q0).2 = (q0.2 : Int) from rfl, hr]
    simp only [sb_]
    generalize hL : q0 :: l0 = l at *
    generalize hW : lcmL l = Wh at *
    refine for_then (fun y => y = some true) (fun i v => (v = none ∧ ∀ x : Nat, (x : Int) ∈ xs.take i → ¬ Sol l x) ∨ ∃ r : Nat, (r : Int) ∈ xs ∧ Sol l r ∧ v = some ((r : Int), (Wh : Int))) (.inl ⟨rfl, fun x hx => by simp at hx⟩) ?_ ?_
    · rintro i x v hx hv
      have hmem := List.mem_of_getElem? hx
      obtain ⟨j, hj, _⟩ := hx1 x hmem
      generalize q0.1 + j * q0.2 = n at *
      subst hj
      rcases hv with ⟨rfl, hno⟩ | ⟨r, h1, h2, rfl⟩
      · have test : mapM' (fun (x20 : (Int × Int)) => (((modM (n : Int) x20.2).bind fun t21 => some (decide (t21 = x20.1)))).bind fun y22 => some (some y22)) (l.map toI) = some ((l.map toI).map fun x20 => decide ((n : Int) % x20.2 = x20.1)) :=
          mapM_all (by rw [List.length_map]; omega) fun y hy => by
            obtain ⟨q, hq, rfl⟩ := List.mem_map.mp hy
            have := hl q hq
            show ((modM (n : Int) (q.2 : Int)).bind fun t21 => some (decide (t21 = (q.1 : Int)))).bind _ = _
            rw [modM_I (by omega)]
            rfl
        have tall : ((l.map toI).map fun x20 : Int × Int => decide ((n : Int) % x20.2 = x20.1)).all id = true ↔ Sol l n := by
          rw [List.all_eq_true]
          unfold Sol
          constructor
          · intro h q hq
            have := h (decide ((n : Int) % (q.2 : Int) = (q.1 : Int))) (List.mem_map.mpr ⟨toI q, List.mem_map.mpr ⟨q, hq, rfl⟩, rfl⟩)
            have := of_decide_eq_true this
            rw [← Int.natCast_emod] at this
            omega
          · intro h b hb
            obtain ⟨y, hy, rfl⟩ := List.mem_map.mp hb
            obtain ⟨q, hq, rfl⟩ := List.mem_map.mp hy
            refine decide_eq_true ?_
            show (n : Int) % (q.2 : Int) = (q.1 : Int)
            rw [← Int.natCast_emod, h q hq]
        show ∃ v', ((bif (none : Option (Int × Int)).isNone then ((mapM' _ (l.map toI)).bind fun l24 => some (l24.all id)) else some false).bind _) = some v' ∧ _
        rw [show (none : Option (Int × Int)).isNone = true from rfl, bt_, test]
        simp only [sb_]
        by_cases hs : Sol l n
        · rw [tall.mpr hs, bt_, ls_]
          exact ⟨_, rfl, .inr ⟨n, hmem, hs, rfl⟩⟩
        · have : ((l.map toI).map fun x20 : Int × Int => decide ((n : Int) % x20.2 = x20.1)).all id = false := by
            cases hq : ((l.map toI).map fun x20 : Int × Int => decide ((n : Int) % x20.2 = x20.1)).all id with
            | false => rfl
            | true => exact absurd (tall.mp hq) hs
          rw [this, bf_]
          refine ⟨_, rfl, .inl ⟨rfl, fun y hy => ?_⟩⟩
          rw [List.take_add_one, hx] at hy
          rcases List.mem_append.mp hy with w | w
          · exact hno y w
          · have : (y : Int) = (n : Int) := by simpa using w
            have : y = n := by omega
            subst this
            exact hs
      · exact ⟨_, rfl, .inr ⟨r, h1, h2, rfl⟩⟩
    · intro s hs
      have es : s = z' := by
        rcases hs with ⟨rfl, hno⟩ | ⟨r, h1, h2, rfl⟩
        · rcases gz with ⟨h1, _⟩ | ⟨r, _, h2, h3, _⟩
          · exact h1.symm
          · exfalso
            have e0 : r % q0.2 = q0.1 := h3 q0 (by rw [← hL]; simp)
            have e1 : q0.1 + (r / q0.2) * q0.2 = r := by
              have := Nat.div_add_mod r q0.2
              rw [Nat.mul_comm] at this
              omega
            have := hx2 (r / q0.2) (by rw [e1]; omega)
            rw [e1] at this
            exact hno r (by rw [List.take_length]; exact this) h3
        · rcases gz with ⟨_, h3⟩ | ⟨r', h3, h4, h5, h6⟩
          · exact absurd h2 (h3 r)
          · have := h6 r h2
            obtain ⟨j, _, hj⟩ := hx1 _ h1
            rw [Nat.mod_eq_of_lt (by omega)] at this
            rw [h3, this]
      subst es
      rw [tz]
      simp only [sb_]
      rw [← List.map_reverse, tz']
      simp only [sb_]
      rw [like_same rfl (by
        show (okO (okP okU okU) s && okO (okP okU okU) s) = true
        rw [okz]; rfl)]
      simp only [sb_]
      rw [show (!true) = false from rfl, bf_]
      by_cases hc : cut = 0 ∨ l.length ≤ cut
      · rw [show (decide ((cut : Int) = (0 : Int)) || decide (((l.length : Nat) : Int) ≤ (cut : Int))) = true by
          rw [Bool.or_eq_true, decide_eq_true_eq, decide_eq_true_eq]; omega, bt_]
      · rw [show (decide ((cut : Int) = (0 : Int)) || decide (((l.length : Nat) : Int) ≤ (cut : Int))) = false by
          rw [Bool.or_eq_false_iff, decide_eq_false_iff_not, decide_eq_false_iff_not]; omega, bf_]
        rw [cut_take, cut_drop, ← List.map_take, ← List.map_drop]
        have nt : l.take cut ≠ [] := fun h => by
          have : min cut l.length = 0 := by rw [← List.length_take, h]; rfl
          omega
        have nd : l.drop cut ≠ [] := fun h => by
          have : l.length - cut = 0 := by rw [← List.length_drop, h]; rfl
          omega
        obtain ⟨z1, t1, g1⟩ := tog_k nt (fun q hq => hlt q (List.mem_of_mem_take hq)) (fun q hq => hd q (List.mem_of_mem_take hq))
        obtain ⟨z2, t2, g2⟩ := tog_k nd (fun q hq => hlt q (List.mem_of_mem_drop hq)) (fun q hq => hd q (List.mem_of_mem_drop hq))
        have sp : ∀ x, Sol l x ↔ Sol (l.take cut) x ∧ Sol (l.drop cut) x := fun x => by
          have : Sol (l.take cut ++ l.drop cut) x ↔ Sol (l.take cut) x ∧ Sol (l.drop cut) x := by
            unfold Sol
            simp only [List.mem_append, or_imp, forall_and]
          rwa [List.take_append_drop] at this
        rw [t1]
        simp only [sb_]
        rw [t2]
        simp only [sb_, ls_]
        have i0 : idxM [z1, z2] (0 : Int) = some z1 := (idxM_N (xs := [z1, z2]) (i := 0) (by simp)).trans rfl
        have i1 : idxM [z1, z2] (1 : Int) = some z2 := (idxM_N (xs := [z1, z2]) (i := 1) (by simp)).trans rfl
        rw [i0, i1]
        simp only [sb_]
        have none_of : (∀ x, ¬ Sol l x) → s = none := fun h => by
          rcases gz with ⟨w, _⟩ | ⟨r, _, _, w, _⟩
          · exact w
          · exact absurd w (h r)
        rcases g1 with ⟨rfl, n1⟩ | ⟨r1, rfl, a1, b1, c1⟩
        · rw [show (none : Option (Int × Int)).isNone = true from rfl, bt_]
          simp only [sb_]
          rw [bt_, none_of fun x hx => n1 x ((sp x).mp hx).1]; rfl
        · rw [show (some ((r1 : Int), ((lcmL (l.take cut) : Nat) : Int))).isNone = false from rfl, bf_]
          rcases g2 with ⟨rfl, n2⟩ | ⟨r2, rfl, a2, b2, c2⟩
          · rw [show (none : Option (Int × Int)).isNone = true from rfl]
            simp only [sb_]
            rw [bt_, none_of fun x hx => n2 x ((sp x).mp hx).2]; rfl
          · rw [show (some ((r2 : Int), ((lcmL (l.drop cut) : Nat) : Int))).isNone = false from rfl]
            simp only [sb_]
            rw [bf_]
            cases decide ((1000 : Int) < max2T ((lcmL (l.take cut) : Nat) : Int) ((lcmL (l.drop cut) : Nat) : Int)) with
            | true => rw [bt_]
            | false =>
              rw [bf_]
              have uns : unsM [some ((r1 : Int), ((lcmL (l.take cut) : Nat) : Int)), some ((r2 : Int), ((lcmL (l.drop cut) : Nat) : Int))] = some ([(r1, lcmL (l.take cut)), (r2, lcmL (l.drop cut))].map toI) := rfl
              rw [uns]
              simp only [sb_]
              have d1 : lcmL (l.take cut) ∣ 27720 := (lcmL_dvd _ _).mpr fun q hq => hd q (List.mem_of_mem_take hq)
              have d2 : lcmL (l.drop cut) ∣ 27720 := (lcmL_dvd _ _).mpr fun q hq => hd q (List.mem_of_mem_drop hq)
              obtain ⟨z3, t3, g3⟩ := tog_k (l := [(r1, lcmL (l.take cut)), (r2, lcmL (l.drop cut))]) (by simp) (fun q hq => by
                simp only [List.mem_cons, List.not_mem_nil, or_false] at hq
                rcases hq with rfl | rfl
                · exact a1
                · exact a2) (fun q hq => by
                simp only [List.mem_cons, List.not_mem_nil, or_false] at hq
                rcases hq with rfl | rfl
                · exact d1
                · exact d2)
              have e3 : z3 = s := by
                refine TG_unique (TG_congr g3 (S' := Sol l) fun x => ?_) ?_
                · rw [sp]
                  have back : ∀ {l' : List (Nat × Nat)} {r : Nat}, Sol l' r → x % lcmL l' = r → Sol l' x := fun {l' r} hr hx q hq => by
                    have := Nat.mod_mod_of_dvd x (lcmL_mem hq)
                    rw [hx, hr q hq] at this
                    exact this.symm
                  constructor
                  · intro h
                    exact ⟨back b1 (h (r1, lcmL (l.take cut)) (by simp)), back b2 (h (r2, lcmL (l.drop cut)) (by simp))⟩
                  · intro h q hq
                    simp only [List.mem_cons, List.not_mem_nil, or_false] at hq
                    rcases hq with rfl | rfl
                    · exact c1 x h.1
                    · exact c2 x h.2
                · have : lcmL [(r1, lcmL (l.take cut)), (r2, lcmL (l.drop cut))] = Wh := by
                    rw [← hW]
                    refine Nat.dvd_antisymm ((lcmL_dvd _ _).mpr fun q hq => ?_) ((lcmL_dvd _ _).mpr fun q hq => ?_)
                    · simp only [List.mem_cons, List.not_mem_nil, or_false] at hq
                      rcases hq with rfl | rfl
                      · exact (lcmL_dvd _ _).mpr fun q hq => lcmL_mem (List.mem_of_mem_take hq)
                      · exact (lcmL_dvd _ _).mpr fun q hq => lcmL_mem (List.mem_of_mem_drop hq)
                    · rw [← List.take_append_drop cut l] at hq
                      rcases List.mem_append.mp hq with w | w
                      · exact Nat.dvd_trans (lcmL_mem w) (lcmL_mem (l := [(r1, lcmL (l.take cut)), (r2, lcmL (l.drop cut))]) (q := (r1, lcmL (l.take cut))) (by simp))
                      · exact Nat.dvd_trans (lcmL_mem w) (lcmL_mem (l := [(r1, lcmL (l.take cut)), (r2, lcmL (l.drop cut))]) (q := (r2, lcmL (l.drop cut))) (by simp))
                  rw [this]
                  exact gz
              rw [t3]
              simp only [sb_]
              rw [like_same e3 (okz _)]
              rfl
end K12
end
section
set_option Elab.async false
set_option linter.all false
set_option maxRecDepth 100000
set_option maxHeartbeats 4000000
namespace K12
open PySem Eng Lf
theorem law_k (row : List Int) (hl : row.length = 130) (hp : ∀ v ∈ row, 0 ≤ v) : t_law row = some true := by
  have at_ : ∀ k : Int, 0 ≤ k → k < 130 → ∃ a : Nat, idxM row k = some (a : Int) := fun k h1 h2 => by
    obtain ⟨i, rfl⟩ := Int.eq_ofNat_of_zero_le h1
    have hi : i < row.length := by omega
    obtain ⟨a, ha⟩ := Int.eq_ofNat_of_zero_le (hp row[i] (List.getElem_mem hi))
    exact ⟨a, by rw [idxM_N hi, ha]⟩
  have md : ∀ (a : Nat) (m : Int), 0 < m → ∃ r : Nat, modM (a : Int) m = some (r : Int) ∧ (r : Int) < m := fun a m h => by
    obtain ⟨b, rfl⟩ := Int.eq_ofNat_of_zero_le (Int.le_of_lt h)
    refine ⟨a % b, modM_N (by omega), ?_⟩
    have := Nat.mod_lt a (show 0 < b by omega)
    omega
  have rd : ∀ k m : Int, 0 ≤ k → k < 130 → 0 < m → ∃ a r : Nat, idxM row k = some (a : Int) ∧ modM (a : Int) m = some (r : Int) ∧ (r : Int) < m := fun k m h1 h2 h3 => by
    obtain ⟨a, ha⟩ := at_ k h1 h2
    obtain ⟨r, hr, hlt⟩ := md a m h3
    exact ⟨a, r, ha, hr, hlt⟩
  unfold t_law
  obtain ⟨a0, r0, i0, m0, l0⟩ := rd 0 30 (by omega) (by omega) (by omega)
  rw [i0]
  simp only [sb_]
  rw [m0]
  simp only [sb_, ltI_eq]
  obtain ⟨a1, r1, i1, m1, l1⟩ := rd 1 30 (by omega) (by omega) (by omega)
  rw [i1]
  simp only [sb_]
  rw [m1]
  simp only [sb_, ltI_eq]
  rw [show (1 : Int) + (r0 : Int) = ((1 + r0 : Nat) : Int) by omega, show (1 : Int) + (r1 : Int) = ((1 + r1 : Nat) : Int) by omega]
  rw [lgcd_k (Nat.lt_of_le_of_lt (show 1 + r1 ≤ 30 by omega) (by decide))]
  simp only [sb_]
  generalize hG : Nat.gcd (1 + r0) (1 + r1) = g
  have gp : 0 < g := by rw [← hG]; exact Nat.gcd_pos_of_pos_left _ (by omega)
  have gl : g ≤ 1 + r0 := by rw [← hG]; exact Nat.le_of_dvd (by omega) (Nat.gcd_dvd_left _ _)
  have dA : g ∣ 1 + r0 := hG ▸ Nat.gcd_dvd_left _ _
  have dB : g ∣ 1 + r1 := hG ▸ Nat.gcd_dvd_right _ _
  have cop : Nat.gcd ((1 + r0) / g) ((1 + r1) / g) = 1 := by
    have := Nat.gcd_div dA dB
    rw [hG, Nat.div_self gp] at this
    exact this
  rw [fdivM_N gp (by omega)]
  simp only [sb_]
  rw [fdivM_N gp (by omega)]
  simp only [sb_]
  have pA : 1 ≤ (1 + r0) / g := Nat.div_pos (Nat.le_of_dvd (by omega) dA) gp
  have pB : 1 ≤ (1 + r1) / g := Nat.div_pos (Nat.le_of_dvd (by omega) dB) gp
  have qA : (1 + r0) / g ≤ 30 := Nat.le_trans (Nat.div_le_self _ _) (by omega)
  have qB : (1 + r1) / g ≤ 30 := Nat.le_trans (Nat.div_le_self _ _) (by omega)
  generalize (1 + r0) / g = A at *
  generalize (1 + r1) / g = B at *
  obtain ⟨a2, r2, i2, m2, l2⟩ := rd 2 2000 (by omega) (by omega) (by omega)
  rw [i2]
  simp only [sb_]
  rw [m2]
  simp only [sb_]
  obtain ⟨a3, r3, i3, m3, l3⟩ := rd 3 4 (by omega) (by omega) (by omega)
  rw [i3]
  simp only [sb_]
  rw [m3]
  simp only [sb_]
  rw [show (1 : Int) + (r3 : Int) = ((1 + r3 : Nat) : Int) by omega, made_right_k cop pA pB (by omega) qA qB (by omega) (by omega)]
  simp only [sb_]
  rw [show (!true) = false from rfl, bf_]
  -- the shared divisor
  obtain ⟨a4, r4, i4, m4, l4⟩ := rd 4 1000001 (by omega) (by omega) (by omega)
  rw [i4]
  simp only [sb_]
  rw [m4]
  simp only [sb_]
  obtain ⟨a5, r5, i5, m5, l5⟩ := rd 5 2 (by omega) (by omega) (by omega)
  rw [i5]
  simp only [sb_]
  rw [m5]
  simp only [sb_]
  rw [mulM_l (by omega) (by omega)]
  simp only [sb_, ltI_eq]
  obtain ⟨a6, r6, i6, m6, l6⟩ := rd 6 1000001 (by omega) (by omega) (by omega)
  rw [i6]
  simp only [sb_]
  rw [m6]
  simp only [sb_]
  rw [show fdivM (a5 : Int) (2 : Int) = some ((a5 / 2 : Nat) : Int) from fdivM_N (b := 2) (by omega) (by omega)]
  simp only [sb_]
  obtain ⟨r7, m7, l7⟩ := md (a5 / 2) 2 (by omega)
  rw [m7]
  simp only [sb_]
  rw [mulM_l (by omega) (by omega)]
  simp only [sb_, ltI_eq]
  obtain ⟨a8, r8, i8, m8, l8⟩ := rd 7 2001 (by omega) (by omega) (by omega)
  rw [i8]
  simp only [sb_]
  rw [m8]
  simp only [sb_]
  rw [shared_right_k (by omega) (by omega) (by omega)]
  simp only [sb_]
  rw [show (!true) = false from rfl, bf_]
  -- products
  obtain ⟨a9, r9, i9, m9, l9⟩ := rd 8 10000 (by omega) (by omega) (by omega)
  rw [i9]
  simp only [sb_]
  rw [m9]
  simp only [sb_]
  obtain ⟨a10, r10, i10, m10, l10⟩ := rd 9 100 (by omega) (by omega) (by omega)
  rw [i10]
  simp only [sb_]
  rw [m10]
  simp only [sb_]
  rw [show (1 : Int) + (r9 : Int) = ((1 + r9 : Nat) : Int) by omega, show (1 : Int) + (r10 : Int) = ((1 + r10 : Nat) : Int) by omega, products_right_k (by omega) (by omega) (by omega) (by omega)]
  simp only [sb_]
  rw [show (!true) = false from rfl, bf_]
  -- rows
  obtain ⟨a11, r11, i11, m11, l11⟩ := rd 10 30 (by omega) (by omega) (by omega)
  rw [i11]
  simp only [sb_]
  rw [m11]
  simp only [sb_, ltI_eq, ls_]
  rw [show (1 : Int) + (r11 : Int) = ((1 + r11 : Nat) : Int) by omega]
  generalize hN : 1 + r11 = N
  have hN1 : 1 ≤ N := by omega
  have hN2 : N ≤ 30 := by omega
  rw [show rng1M (3 : Int) = some (nL 3) from rng1M_N (n := 3) (by omega)]
  simp only [sb_]
  refine for_then (fun y => y = some true) (fun i v => v.length = i ∧ ∀ f ∈ v, f.length = N ∧ (at0 f 0 = 1 ∨ at0 f 0 = -1) ∧ ∀ a, (at0 f a).natAbs ≤ 5) ⟨rfl, fun f hf => by cases hf⟩ ?_ ?_
  · rintro i x v hx ⟨hvl, hv⟩
    obtain ⟨hi, rfl⟩ := nL_at hx
    obtain ⟨b0, s0, j0, n0, k0⟩ := rd ((11 : Int) + (i : Int)) 2 (by omega) (by omega) (by omega)
    show ∃ v', ((idxM row ((11 : Int) + (i : Int))).bind fun t45 => (modM t45 (2 : Int)).bind fun t46 => (mulM (2 : Int) t46).bind fun t47 => (rng1M ((N : Int) - (1 : Int))).bind fun r59 => (mapM' (fun (x60 : Int) => (((mulM (30 : Int) (i : Int)).bind fun t61 => (idxM row (((14 : Int) + t61) + x60)).bind fun t62 => (modM t62 (11 : Int)).bind fun t63 => some (t63 - (5 : Int)))).bind fun y64 => some (some y64)) r59).bind fun l66 => (catM [(1 : Int) - t47] l66).bind fun t67 => (appM v t67).bind fun rows58 => some rows58) = some v' ∧ _
    rw [j0]
    simp only [sb_]
    rw [n0]
    simp only [sb_]
    rw [mulM_l (by omega) (by omega)]
    simp only [sb_, ltI_eq]
    rw [show (N : Int) - 1 = ((N - 1 : Nat) : Int) by omega, rng1M_N (by omega)]
    simp only [sb_]
    have ent : ∀ z ∈ nL (N - 1), ∃ y : Int, (((mulM (30 : Int) (i : Int)).bind fun t61 => (idxM row (((14 : Int) + t61) + z)).bind fun t62 => (modM t62 (11 : Int)).bind fun t63 => some (t63 - (5 : Int)))).bind (fun y64 => some (some y64)) = some (some y) ∧ y.natAbs ≤ 5 := fun z hz => by
      obtain ⟨j, hj, rfl⟩ := mem_nL.mp hz
      obtain ⟨c0, t0, u0, v0, w0⟩ := rd ((14 : Int) + 30 * (i : Int) + (j : Int)) 11 (by omega) (by omega) (by omega)
      rw [mulM_l (by omega) (by omega)]
      simp only [sb_]
      rw [u0]
      simp only [sb_]
      rw [v0]
      simp only [sb_]
      exact ⟨_, rfl, by omega⟩
    obtain ⟨F, hF⟩ : ∃ F : Int → Int, ∀ z ∈ nL (N - 1), (((mulM (30 : Int) (i : Int)).bind fun t61 => (idxM row (((14 : Int) + t61) + z)).bind fun t62 => (modM t62 (11 : Int)).bind fun t63 => some (t63 - (5 : Int)))).bind (fun y64 => some (some y64)) = some (some (F z)) ∧ (F z).natAbs ≤ 5 := by
      refine ⟨fun z => if h : z ∈ nL (N - 1) then (ent z h).choose else 0, fun z hz => ?_⟩
      simp only [dif_pos hz]
      exact (ent z hz).choose_spec
    rw [mapM_all (f := F) (by rw [nL_len]; omega) fun z hz => (hF z hz).1]
    simp only [sb_]
    rw [catM_N (by rw [List.length_map, nL_len]; simp; omega)]
    simp only [sb_]
    rw [appM_N (by omega)]
    simp only [sb_]
    refine ⟨_, rfl, by rw [List.length_append, hvl]; rfl, fun f hf => ?_⟩
    rcases List.mem_append.mp hf with w | w
    · exact hv f w
    · have w : f = [1 - 2 * (s0 : Int)] ++ (nL (N - 1)).map F := by simpa using w
      subst w
      have e0 : at0 ([1 - 2 * (s0 : Int)] ++ (nL (N - 1)).map F) 0 = 1 - 2 * (s0 : Int) := rfl
      refine ⟨by simp [nL_len]; omega, by rw [e0]; omega, fun a => ?_⟩
      cases a with
      | zero => rw [e0]; omega
      | succ a =>
        show (at0 ((nL (N - 1)).map F) a).natAbs ≤ 5
        unfold at0
        rw [List.getD_eq_getElem?_getD, List.getElem?_map]
        cases hz : (nL (N - 1))[a]? with
        | none => exact Nat.zero_le _
        | some z => exact (hF z (List.mem_of_getElem? hz)).2
  · rintro s ⟨hsl, hs⟩
    rw [nL_len] at hsl
    obtain ⟨f, g', h, rfl⟩ : ∃ f g h, s = [f, g, h] := by
      match s, hsl with
      | [f, g, h], _ => exact ⟨f, g, h, rfl⟩
    have hf := hs f (by simp)
    have hg := hs g' (by simp)
    have hh := hs h (by simp)
    rw [show idxM [f, g', h] (0 : Int) = some f from (idxM_N (xs := [f, g', h]) (i := 0) (by simp)).trans rfl, show idxM [f, g', h] (1 : Int) = some g' from (idxM_N (xs := [f, g', h]) (i := 1) (by simp)).trans rfl, show idxM [f, g', h] (2 : Int) = some h from (idxM_N (xs := [f, g', h]) (i := 2) (by simp)).trans rfl]
    simp only [sb_]
    rw [rows_right_k hN2 hN1 hf.1 hg.1 hh.1 hf.2.1 hg.2.1 hf.2.2 hg.2.2 hh.2.2]
    simp only [sb_]
    rw [show (!true) = false from rfl, bf_]
    -- together
    obtain ⟨c1, t1, u1, v1, w1⟩ := rd 110 4 (by omega) (by omega) (by omega)
    rw [u1]
    simp only [sb_]
    rw [v1]
    simp only [sb_]
    rw [show (1 : Int) + (t1 : Int) = ((1 + t1 : Nat) : Int) by omega, rng1M_N (by omega)]
    simp only [sb_]
    refine for_then (fun y => y = some true) (fun i v => ∃ l : List (Nat × Nat), v = l.map toI ∧ l.length = i ∧ ∀ q ∈ l, q.1 < q.2 ∧ q.2 ≤ 12) ⟨[], rfl, rfl, fun q hq => by cases hq⟩ ?_ ?_
    · rintro i x _ hx ⟨l, rfl, hl1, hl2⟩
      obtain ⟨hi, rfl⟩ := nL_at hx
      obtain ⟨c2, t2, u2, v2, w2⟩ := rd ((111 : Int) + (i : Int)) 12 (by omega) (by omega) (by omega)
      obtain ⟨c3, t3, u3, v3, w3⟩ := rd ((115 : Int) + (i : Int)) ((1 : Int) + (t2 : Int)) (by omega) (by omega) (by omega)
      show ∃ v', ((idxM row ((111 : Int) + (i : Int))).bind fun t83 => (modM t83 (12 : Int)).bind fun t84 => (idxM row ((115 : Int) + (i : Int))).bind fun t89 => (modM t89 ((1 : Int) + t84)).bind fun t90 => (appM (l.map toI) (t90, (1 : Int) + t84)).bind fun pairs88 => some pairs88) = some v' ∧ _
      rw [u2]
      simp only [sb_]
      rw [v2]
      simp only [sb_, ltI_eq]
      rw [u3]
      simp only [sb_]
      rw [v3]
      simp only [sb_]
      rw [appM_N (by rw [List.length_map]; omega)]
      simp only [sb_]
      refine ⟨_, rfl, l ++ [(t3, 1 + t2)], ?_, by rw [List.length_append, hl1]; rfl, fun q hq => ?_⟩
      · rw [List.map_append]
        show _ = l.map toI ++ [((t3 : Int), ((1 + t2 : Nat) : Int))]
        rw [show ((1 + t2 : Nat) : Int) = 1 + (t2 : Int) by omega]
      · rcases List.mem_append.mp hq with w | w
        · exact hl2 q w
        · have : q = (t3, 1 + t2) := by simpa using w
          subst this
          exact ⟨by show t3 < 1 + t2; omega, by show 1 + t2 ≤ 12; omega⟩
    · rintro _ ⟨l, rfl, hl1, hl2⟩
      rw [nL_len] at hl1
      have fin : ∀ l : List (Nat × Nat), l.length = 1 + t1 → (∀ q ∈ l, q.1 < q.2 ∧ q.2 ≤ 12) → ((idxM row (122 : Int)).bind fun t103 => (modM t103 (4 : Int)).bind fun t104 => t__law_together_right (l.map toI) t104) = some true := fun l hl1 hl2 => by
        obtain ⟨c4, t4, u4, v4, w4⟩ := rd 122 4 (by omega) (by omega) (by omega)
        rw [u4]
        simp only [sb_]
        rw [v4]
        simp only [sb_]
        exact together_right_k (fun z => by subst z; simp at hl1; omega) (by omega) hl2 t4
      obtain ⟨c5, t5, u5, v5, w5⟩ := rd 120 2 (by omega) (by omega) (by omega)
      rw [u5]
      simp only [sb_]
      rw [v5]
      simp only [sb_]
      by_cases h5 : t5 = 0
      · rw [decide_eq_true (show (t5 : Int) = 0 by omega), bt_]
        obtain ⟨c6, u6⟩ := at_ 121 (by omega) (by omega)
        rw [mapM_all (f := fun x96 : Int × Int => ((c6 : Int) % x96.2, x96.2)) (by rw [List.length_map]; omega) fun y hy => by
          obtain ⟨q, hq, rfl⟩ := List.mem_map.mp hy
          have := hl2 q hq
          rw [u6]
          simp only [sb_]
          show ((modM (c6 : Int) (q.2 : Int)).bind fun t98 => some (t98, (q.2 : Int))).bind _ = _
          rw [modM_I (by omega)]
          rfl]
        simp only [sb_]
        have e : (l.map toI).map (fun x96 : Int × Int => ((c6 : Int) % x96.2, x96.2)) = (l.map fun q => (c6 % q.2, q.2)).map toI := by
          rw [List.map_map, List.map_map]
          refine List.map_congr_left fun q _ => ?_
          show ((c6 : Int) % (q.2 : Int), (q.2 : Int)) = (((c6 % q.2 : Nat) : Int), (q.2 : Int))
          rw [Int.natCast_emod]
        rw [e]
        refine fin _ (by rw [List.length_map]; exact hl1) fun q hq => ?_
        obtain ⟨p, hp', rfl⟩ := List.mem_map.mp hq
        have := hl2 p hp'
        exact ⟨Nat.mod_lt _ (by omega), this.2⟩
      · rw [decide_eq_false (show ¬ (t5 : Int) = 0 by omega), bf_]
        simp only [sb_]
        exact fin l hl1 hl2
end K12
end
section
set_option Elab.async false
set_option linter.all false
set_option maxRecDepth 100000
set_option maxHeartbeats 4000000
namespace K12
open PySem PySem.Spec PyProof.Rows L2 Eng
abbrev R : PySem.W.OpenRow := PySem.W.OpenLaw.row PySem.Challenge.rw_rootstold_k12_whole_divisors_and_remaind
abbrev hk : PySem.W.Hook := hookB 4 fa fn bs
def ob (s : PySem.W.SharedT) : AlB := obsB 4 fa fn bs (HandSHeadRun.getT s)
theorem ob_eq (s : PySem.W.SharedT) : ob s = hk.obs s.abs := obsB_eq (HandSHeadRun.getT_eq s)
def loose : List Str := (["divisor", "power", "shared", "shared_sum", "solutions", "count_solutions", "primes_of", "divisors", "count_apart", "square_sign", "combined", "taken_back", "together", "_law_mixed", "_law_row", "_law_is_int"] : List Str) ++ (["_law_like", "_law_gcd", "_law_ways", "_law_made_right", "_law_shared_right", "_law_factors", "_law_products_right", "_law_combined", "_law_rows_right", "_law_together_right"] : List Str)
set_option maxHeartbeats 0 in
theorem headRun (w : World) : HandSHeadRun.RunEq R (PySem.W.view R.prog [29]) hk ob 4000 loose w := by
  intro os
  kernel_rfl
end K12
open PySem PySem.W PySem.Calls PyProof.Rows
theorem K12.fin (law_runs : ∀ ns : List Int, ns.length ≤ 63 → K12.s_law [Eng.frz (ns.map PyData.int)] = some (.bool true)) : PySem.Challenge.rw_rootstold_k12_whole_divisors_and_remaind.Holds := by
  w_on; o_law
  refine HandSHeadRun.head_any (r := OpenLaw.row PySem.Challenge.rw_rootstold_k12_whole_divisors_and_remaind) (q := view (OpenLaw.row PySem.Challenge.rw_rootstold_k12_whole_divisors_and_remaind).prog [29]) (H := K12.hk) (ob := K12.ob) (M := 4000) (loose := K12.loose) (d := HandSHeadRun.topDef (OpenLaw.row PySem.Challenge.rw_rootstold_k12_whole_divisors_and_remaind).prog 29) (kwd := []) K12.ob_eq
    (by kernel_rfl) (fun s => by kernel_rfl) K12.headRun (by kernel_rfl) (by kernel_rfl) (by kernel_rfl) (by rfl) (by first | assumption | decide +kernel) (by decide +kernel) ⟨rfl, rfl, rfl, rfl, rfl, by decide +kernel⟩ ?hw ?hc
  case hw => w_witness2
  case hc =>
    refine L2.walk_ofE (l := PySem.Challenge.rw_rootstold_k12_whole_divisors_and_remaind) (n := 63) (k := 15) (x := "script") (CX := L2.CX0) rfl (by decide) (by kernel_rfl) ⟨rfl, by decide, by decide⟩ ?F (fun _ _ _ _ z => z)
    intro w mg fa h Y G hmg0
    obtain ⟨K, KX, c, cb⟩ := Y
    have hmg : mg ("law" : PySem.Str) = some (.ref fa) := by
      have e : (HandSHeadRun.topDef (OpenLaw.row PySem.Challenge.rw_rootstold_k12_whole_divisors_and_remaind).prog 29).name = ("law" : PySem.Str) := by kernel_rfl
      rw [← e]
      exact hmg0
    obtain ⟨fd, hb, hF⟩ := K12.facts (P := (PySem.Challenge.rw_rootstold_k12_whole_divisors_and_remaind).prog) (w := w) KX G hmg c cb
    exact ⟨K, fd, Eng.spD K 1 K12.s_law, KX, hb, fun H a ns hl hO hS => Eng.spD_law hO hS (law_runs ns hl), hF⟩
end
set_option Elab.async false
set_option maxRecDepth 100000 in
set_option maxHeartbeats 8000000 in
theorem PySem.Challenge.cw_rootstold_k12_whole_divisors_and_remaind_holds : PySem.Challenge.rw_rootstold_k12_whole_divisors_and_remaind.Holds :=
  K12.fin (fun ns _ => K12.law_of K12.law_k ns)
