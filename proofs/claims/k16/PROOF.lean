import PyProof.Rows.All
import Wide.All
import OpenK.AllK
import Wide.FinOn
import PySem.PyData
import HandS.ForMost
import HandS.Deep
import HandS.IsInst
import HandS.Style
import PyProof.P3In
import HandS.TupAny
import HandS.TupMul
import HandS.Sort
import HandS.TupSets
import HandS.Defaults
import HandS.Codes
import HandS.Words
import HandS.WordsExc
import HandS.HeadEnd
import HandS.HeadHook1
import HandS.HeadHook2
import HandS.Head0
import HandS.Head1
import HandS.Head2
import PySem.Challenge.RW_salvor_k16_reports
set_option Elab.async false
set_option linter.all false
set_option maxRecDepth 100000
set_option maxHeartbeats 0
/-! Sv: a small interpreter for the part of Python that is used here. Core: values, syntax, evaluation. -/
namespace Sv
open PySem

/-! ### values -/
inductive AV where
  | dat (d : PyData)
  | ref (i : Nat)
  | fd (kvs : List (Str × PyData))
  | scr (ns : List Int)
inductive AO where
  | lst (xs : List AV)
  | dct (kvs : List (Str × AV))
  | ins (c : Str) (fs : List (Str × AV))
inductive Slot where
  | emp
  | av (v : AV)
  | own (xs : List PyData)
structure MS where
  rho : List Slot
  hp : List AO
/-- what an expression gives: a value, or a list that nobody else holds (or that is only looked at) -/
inductive RV where
  | av (v : AV)
  | lst (xs : List PyData)
/-- a def of the program, by what it does to the whole small heap -/
structure Fn where
  name : Str
  run : List AV → List AO → Option (RV × List AO)

@[reducible] def LINE : Nat := 16777216
@[reducible] def B62 : Int := 4611686018427387904
@[reducible] def B63 : Int := 9223372036854775808
@[reducible] def B64 : Int := 18446744073709551616
@[reducible] def B30 : Int := 1073741824

def RV.val : RV → AV
  | .av v => v
  | .lst xs => .dat (.list xs)
def AV.d? : AV → Option PyData
  | .dat d => some d
  | _ => none
def RV.d? : RV → Option PyData
  | .av (.dat d) => some d
  | .lst xs => some (.list xs)
  | _ => none
def allD : List AV → Option (List PyData)
  | [] => some []
  | .dat d :: r => (allD r).map (d :: ·)
  | _ :: _ => none

/-! ### data: equality, depth -/
mutual
def eqq : PyData → PyData → Bool
  | .none, .none => true
  | .bool a, .bool b => a == b
  | .bool a, .int j => (if a then 1 else 0) == j
  | .int i, .bool b => i == (if b then 1 else 0)
  | .int i, .int j => i == j
  | .str x, .str y => decide (x = y)
  | .list xs, .list ys => eqqs xs ys
  | .tuple xs, .tuple ys => eqqs xs ys
  | _, _ => false
def eqqs : List PyData → List PyData → Bool
  | [], [] => true
  | x :: xs, y :: ys => eqq x y && eqqs xs ys
  | _, _ => false
end
mutual
def dep : PyData → Nat
  | .list xs => deps xs + 1
  | .tuple xs => deps xs + 1
  | .str x => if x.cps.all (fun c => decide (c < 1114112)) then 0 else 1000
  | _ => 0
def deps : List PyData → Nat
  | [] => 0
  | x :: xs => max (dep x) (deps xs)
end
def inn (x : PyData) (xs : List PyData) : Bool := xs.any fun y => eqq y x

/-! ### places -/
def ixD (n : Nat) (i : Int) : Option Nat :=
  if i < 0 then (if i + n < 0 then none else some (i + n).toNat) else (if i < n then some i.toNat else none)
def atD {α : Type} (xs : List α) (i : Int) : Option α := match ixD xs.length i with
  | some j => xs[j]?
  | none => none
def clipD (n d : Nat) : Option Int → Nat
  | none => d
  | some i => if i < 0 then (i + n).toNat else min i.toNat n
def cutD {α : Type} (xs : List α) (lo hi : Option Int) : List α :=
  (xs.drop (clipD xs.length 0 lo)).take (clipD xs.length xs.length hi - clipD xs.length 0 lo)

/-! ### syntax -/
inductive BinO | add | sub | mul | fdiv | mod
  deriving DecidableEq
inductive CmpO | eq | ne | lt | le | gt | ge
  deriving DecidableEq
inductive B1 | len | int | abs | sum | tuple | list | all
  deriving DecidableEq
mutual
inductive E where
  | lit (d : PyData)
  | glob (x : Str) (d : PyData)
  | var (i : Nat)
  | tup (es : Es)
  | lst (es : Es)
  | bin (op : BinO) (a b : E)
  | cmp (op : CmpO) (a b : E)
  | isin (neg : Bool) (a b : E)
  | inrange (neg : Bool) (a n : E)
  | isnone (neg : Bool) (a : E)
  | and (a b : E)
  | or (a b : E)
  | not (a : E)
  | ife (c a b : E)
  | sub (a i : E)
  | slice (a : E) (lo hi : Es)
  | b1 (f : B1) (a : E)
  | isi (a : E) (t : Str)
  | call (f : Fn) (es : Es)
  | callP (f : Fn) (es : Es)
  | callB (f : Fn) (es : Es)
  | alloc (e : E)
  | allocL (es : Es)
  | comp (elt : E) (tg : List Nat) (it : I) (cond : Es)
  | attr (c : Str) (a : E) (f : Str)
  | meth (c : Str) (f : Fn) (a : E) (es : Es)
  | new (c : Str) (f : Fn) (es : Es)
  | str1 (a : E)
  | join (s : Str) (a : E)
  | srt (set : Bool) (a : E)
inductive Es where
  | nil
  | cons (e : E) (es : Es)
inductive I where
  | seq (e : E)
  | range1 (e : E)
  | range2 (a b : E)
end

/-! ### operations by values -/
def intV (i : Int) : RV := .av (.dat (.int i))
def blV (b : Bool) : RV := .av (.dat (.bool b))
def binV : BinO → RV → RV → Option RV
  | .add, .av (.dat (.int i)), .av (.dat (.int j)) => some (intV (i + j))
  | .sub, .av (.dat (.int i)), .av (.dat (.int j)) => some (intV (i - j))
  | .mul, .av (.dat (.int i)), .av (.dat (.int j)) => if (-B64 < i ∧ i < B64) ∨ (-B64 < j ∧ j < B64) then some (intV (i * j)) else none
  | .fdiv, .av (.dat (.int i)), .av (.dat (.int j)) => if 0 < j ∧ j < B30 then some (intV (i / j)) else none
  | .mod, .av (.dat (.int i)), .av (.dat (.int j)) => if 0 < j then some (intV (i % j)) else none
  | .add, .av (.dat (.str x)), .av (.dat (.str y)) => if x.length + y.length ≤ LINE then some (.av (.dat (.str (x ++ y)))) else none
  | .add, .av (.dat (.tuple xs)), .av (.dat (.tuple ys)) => if xs.length + ys.length ≤ LINE then some (.av (.dat (.tuple (xs ++ ys)))) else none
  | .mul, .av (.dat (.tuple xs)), .av (.dat (.int k)) => if xs ≠ [] ∧ -1000 ≤ k ∧ k ≤ 1000 ∧ xs.length ≤ 1000 then some (.av (.dat (.tuple (List.replicate k.toNat xs).flatten))) else none
  | .add, a, b => match a.d?, b.d? with
    | some (.list xs), some (.list ys) => if xs.length + ys.length ≤ LINE then some (.lst (xs ++ ys)) else none
    | _, _ => none
  | .mul, a, .av (.dat (.int k)) => match a.d? with
    | some (.list xs) => if -B63 ≤ k ∧ k < B63 ∧ xs.length * k.toNat ≤ LINE then some (.lst (List.replicate k.toNat xs).flatten) else none
    | _ => none
  | _, _, _ => none
def cmpV : CmpO → RV → RV → Option Bool
  | .eq, a, b => match a.d?, b.d? with
    | some x, some y => if dep x ≤ 64 ∧ dep y ≤ 64 then some (eqq x y) else none
    | _, _ => none
  | .ne, a, b => match a.d?, b.d? with
    | some x, some y => if dep x ≤ 64 ∧ dep y ≤ 64 then some (!eqq x y) else none
    | _, _ => none
  | .lt, .av (.dat (.int i)), .av (.dat (.int j)) => some (decide (i < j))
  | .le, .av (.dat (.int i)), .av (.dat (.int j)) => some (decide (i ≤ j))
  | .gt, .av (.dat (.int i)), .av (.dat (.int j)) => some (decide (j < i))
  | .ge, .av (.dat (.int i)), .av (.dat (.int j)) => some (decide (j ≤ i))
  | _, _, _ => none
def inV : RV → RV → Option Bool
  | a, b => match a.d?, b.d? with
    | some x, some (.list ys) => if dep x ≤ 60 ∧ deps ys ≤ 60 then some (inn x ys) else none
    | some x, some (.tuple ys) => if dep x ≤ 60 ∧ deps ys ≤ 60 then some (inn x ys) else none
    | _, _ => none
def subV (hp : List AO) : RV → RV → Option AV
  | .av (.ref j), .av (.dat (.int i)) => match hp[j]? with
    | some (.lst xs) => atD xs i
    | _ => none
  | a, .av (.dat (.int i)) => match a.d? with
    | some (.list xs) => (atD xs i).map .dat
    | some (.tuple xs) => (atD xs i).map .dat
    | _ => none
  | _, _ => none
def partV : Option RV → Option (Option Int)
  | none => some none
  | some (.av (.dat (.int i))) => some (some i)
  | _ => none
def sliceV : RV → Option Int → Option Int → Option RV
  | .av (.scr ns), lo, hi => some (.lst ((cutD ns lo hi).map .int))
  | .av (.dat (.str x)), lo, hi => if x.length ≤ LINE then some (.av (.dat (.str ⟨(cutD x.cps.toList lo hi).toArray⟩))) else none
  | .av (.dat (.tuple xs)), lo, hi => some (.av (.dat (.tuple (cutD xs lo hi))))
  | a, lo, hi => match a.d? with
    | some (.list xs) => some (.lst (cutD xs lo hi))
    | _ => none
def intsD : List PyData → Option (List Int)
  | [] => some []
  | .int i :: r => (intsD r).map (i :: ·)
  | _ :: _ => none
def boolsD : List PyData → Option (List Bool)
  | [] => some []
  | .bool i :: r => (boolsD r).map (i :: ·)
  | _ :: _ => none
def lenV (hp : List AO) : RV → Option RV
  | .av (.ref j) => match hp[j]? with
    | some (.lst xs) => some (intV xs.length)
    | _ => none
  | a => match a.d? with
    | some (.list xs) => some (intV xs.length)
    | some (.tuple xs) => some (intV xs.length)
    | _ => none
def toInt : RV → Option RV
  | .av (.dat (.int i)) => some (intV i)
  | .av (.dat (.bool b)) => some (intV (if b then 1 else 0))
  | _ => none
def absV : RV → Option RV
  | .av (.dat (.int i)) => some (intV (if i < 0 then -i else i))
  | _ => none
def b1V (hp : List AO) (f : B1) (x : RV) : Option RV := match f with
  | .len => lenV hp x
  | .int => toInt x
  | .abs => absV x
  | .sum => match x.d? with
    | some (.list xs) => (intsD xs).map fun ns => intV ns.sum
    | _ => none
  | .tuple => match x.d? with
    | some (.list xs) => some (.av (.dat (.tuple xs)))
    | some (.tuple xs) => some (.av (.dat (.tuple xs)))
    | _ => none
  | .list => match x.d? with
    | some (.list xs) => some (.lst xs)
    | some (.tuple xs) => some (.lst xs)
    | _ => none
  | .all => match x.d? with
    | some (.list xs) => (boolsD xs).map fun bs => blV (bs.all id)
    | _ => none
def tyD : PyData → Str
  | .none => ⟨#[78, 111, 110, 101, 84, 121, 112, 101]⟩
  | .bool _ => ⟨#[98, 111, 111, 108]⟩
  | .int _ => ⟨#[105, 110, 116]⟩
  | .str _ => ⟨#[115, 116, 114]⟩
  | .list _ => ⟨#[108, 105, 115, 116]⟩
  | .tuple _ => ⟨#[116, 117, 112, 108, 101]⟩
  | .dict _ => ⟨#[100, 105, 99, 116]⟩
def sInt : Str := ⟨#[105, 110, 116]⟩
def sBool : Str := ⟨#[98, 111, 111, 108]⟩
def sList : Str := ⟨#[108, 105, 115, 116]⟩
def sTuple : Str := ⟨#[116, 117, 112, 108, 101]⟩
def sStr : Str := ⟨#[115, 116, 114]⟩
/-- isinstance(x, t) for the built-in classes int, bool, list, tuple, str -/
def isiV (a : RV) (t : Str) : Option Bool := match a.d? with
  | some d => if t = sInt ∨ t = sBool ∨ t = sList ∨ t = sTuple ∨ t = sStr then some (decide (tyD d = t) || (decide (t = sInt) && decide (tyD d = sBool))) else none
  | none => none
mutual
def noL : PyData → Bool
  | .list _ => false
  | .tuple xs => noLs xs
  | _ => true
def noLs : List PyData → Bool
  | [] => true
  | x :: xs => noL x && noLs xs
end

/-! ### what a loop goes over: items that stand, or a list of the small heap as it is at each turn -/
inductive Src where
  | fix (xs : List PyData)
  | heap (r : Nat)
def Src.item : Src → List AO → Nat → Option (Option PyData)
  | .fix xs, _, i => some xs[i]?
  | .heap r, hp, i => match hp[r]? with
    | some (.lst vs) => (match vs[i]? with
      | none => some none
      | some (.dat d) => some (some d)
      | some _ => none)
    | _ => none
def FUEL : Nat := 1000000000
/-- an attribute is set -/
def putA (f : Str) (v : AV) : List (Str × AV) → List (Str × AV)
  | [] => [(f, v)]
  | (g, x) :: r => if g = f then (g, v) :: r else (g, x) :: putA f v r
def strsD : List PyData → Option (List Str)
  | [] => some []
  | .str i :: r => (strsD r).map (i :: ·)
  | _ :: _ => none
/-- an int's text -/
def strV : RV → Option RV
  | .av (.dat (.int i)) => if i.natAbs.log2 < 1920 then some (.av (.dat (.str (toString i)))) else none
  | _ => none
def joinV (x : Str) (a : RV) : Option RV := match a.d? with
  | some (.list ds) => (match strsD ds with
    | some ys => if (ys.map (·.length)).sum + ys.length * x.length ≤ LINE then some (.av (.dat (.str (Str.join x ys)))) else none
    | none => none)
  | _ => none

/-- sorted(..) of tuples of small ints, sorted(set(..)) -/
def tupsI : List PyData → Option (List (List Int))
  | [] => some []
  | .tuple xs :: r => match intsD xs, tupsI r with
    | some n, some m => some (n :: m)
    | _, _ => none
  | _ :: _ => none
def codeI : List Int → Int
  | [] => 0
  | d :: r => d * 1024 ^ r.length + codeI r
def insC (x : List Int) : List (List Int) → List (List Int)
  | [] => [x]
  | y :: r => if codeI x ≤ codeI y then x :: y :: r else y :: insC x r
def sortC : List (List Int) → List (List Int)
  | [] => []
  | x :: r => insC x (sortC r)
def dedC : List (List Int) → List (List Int)
  | [] => []
  | x :: r => if x ∈ r then dedC r else x :: dedC r
def okT (d : Nat) (n : List Int) : Bool := decide (n.length = d) && n.all fun x => decide (0 ≤ x ∧ x < 1024)
def srtV (set : Bool) (a : RV) : Option RV := match a.d? with
  | some (.list ds) => (match tupsI ds with
    | some ns => if ns.length < 64 ∧ ns.all (okT ((ns.headD [0]).length)) ∧ 1 ≤ (ns.headD [0]).length then some (.lst ((sortC (if set then dedC ns else ns)).map fun n => .tuple (n.map .int))) else none
    | none => none)
  | _ => none

/-! ### evaluation -/
/-- the target of a for or a comprehension: one name, or several for a tuple -/
def bindT : List Nat → PyData → List Slot → Option (List Slot)
  | [i], d, rho => if i < rho.length then some (rho.set i (.av (.dat d))) else none
  | is, .tuple ds, rho => if is.length = ds.length then bindN is ds rho else none
  | _, _, _ => none
where bindN : List Nat → List PyData → List Slot → Option (List Slot)
  | i :: is, d :: ds, rho => if i < rho.length then bindN is ds (rho.set i (.av (.dat d))) else none
  | [], [], rho => some rho
  | _, _, _ => none
/-- the names of a comprehension are its own: forgotten at each turn -/
def wipeR : List Nat → List Slot → List Slot
  | [], rho => rho
  | i :: is, rho => (wipeR is rho).set i .emp
def plainAt (tg : List Nat) (rho : List Slot) : Bool := tg.all fun i => match rho[i]? with
  | some (.own _) => false
  | none => false
  | some _ => true
def back : List Nat → List Slot → List Slot → List Slot
  | [], _, new => new
  | i :: is, old, new => match old[i]? with
    | some o => (back is old new).set i o
    | none => back is old new
/-- a walk over items: the names are bound, kept items gather what elt gives -/
def compL (tg : List Nat) (test : MS → Option (Bool × MS)) (elt : MS → Option (RV × MS)) : List PyData → List PyData → MS → Option (List PyData × MS)
  | [], acc, ms => some (acc, ms)
  | x :: r, acc, ms => match bindT tg x ms.rho with
    | some rho => (match test { ms with rho := rho } with
      | some (true, ms1) => (match elt ms1 with
        | some (v, ms2) => (match v.d? with
          | some d => if acc.length < LINE then (if plainAt tg ms2.rho then compL tg test elt r (acc ++ [d]) { ms2 with rho := wipeR tg ms2.rho } else none) else none
          | none => none)
        | none => none)
      | some (false, ms1) => if plainAt tg ms1.rho then compL tg test elt r acc { ms1 with rho := wipeR tg ms1.rho } else none
      | none => none)
    | none => none
/-- .. over a source, by places -/
def compS (tg : List Nat) (test : MS → Option (Bool × MS)) (elt : MS → Option (RV × MS)) (s : Src) : Nat → Nat → List PyData → MS → Option (List PyData × MS)
  | 0, _, _, _ => none
  | n + 1, i, acc, ms => match s.item ms.hp i with
    | none => none
    | some none => some (acc, ms)
    | some (some x) => match bindT tg x ms.rho with
      | some rho => (match test { ms with rho := rho } with
        | some (true, ms1) => (match elt ms1 with
          | some (v, ms2) => (match v.d? with
            | some d => if acc.length < LINE then (if plainAt tg ms2.rho then compS tg test elt s n (i + 1) (acc ++ [d]) { ms2 with rho := wipeR tg ms2.rho } else none) else none
            | none => none)
          | none => none)
        | some (false, ms1) => if plainAt tg ms1.rho then compS tg test elt s n (i + 1) acc { ms1 with rho := wipeR tg ms1.rho } else none
        | none => none)
      | none => none
def compX (tg : List Nat) (test : MS → Option (Bool × MS)) (elt : MS → Option (RV × MS)) : Src → MS → Option (List PyData × MS)
  | .fix xs, ms => compL tg test elt xs [] ms
  | .heap r, ms => compS tg test elt (.heap r) FUEL 0 [] ms
mutual
def ev : Bool → E → MS → Option (RV × MS)
  | _, .lit d, ms => some (.av (.dat d), ms)
  | _, .glob _ d, ms => some (.av (.dat d), ms)
  | b, .var i, ms => match ms.rho[i]? with
    | some (.av v) => some (.av v, ms)
    | some (.own xs) => if b then some (.lst xs, ms) else some (.av (.dat (.list xs)), { ms with rho := ms.rho.set i (.av (.dat (.list xs))) })
    | _ => none
  | _, .tup es, ms => match evs es ms with
    | some (vs, ms1) => (match allD vs with
      | some ds => if ds.length ≤ LINE then some (.av (.dat (.tuple ds)), ms1) else none
      | none => none)
    | none => none
  | _, .lst es, ms => match evs es ms with
    | some (vs, ms1) => (match allD vs with
      | some ds => if ds.length ≤ LINE then some (.lst ds, ms1) else none
      | none => none)
    | none => none
  | _, .bin op a b, ms => match ev true a ms with
    | some (x, ms1) => (match ev true b ms1 with
      | some (y, ms2) => (binV op x y).map fun z => (z, ms2)
      | none => none)
    | none => none
  | _, .cmp op a b, ms => match ev true a ms with
    | some (x, ms1) => (match ev true b ms1 with
      | some (y, ms2) => (cmpV op x y).map fun z => (blV z, ms2)
      | none => none)
    | none => none
  | _, .isin neg a b, ms => match ev true a ms with
    | some (x, ms1) => (match ev true b ms1 with
      | some (y, ms2) => (inV x y).map fun z => (blV (if neg then !z else z), ms2)
      | none => none)
    | none => none
  | _, .inrange neg a n, ms => match ev true a ms with
    | some (.av (.dat (.int i)), ms1) => (match ev true n ms1 with
      | some (.av (.dat (.int k)), ms2) => if 0 ≤ k ∧ k < B62 then some (blV (if neg then !decide (0 ≤ i ∧ i < k) else decide (0 ≤ i ∧ i < k)), ms2) else none
      | _ => none)
    | _ => none
  | _, .isnone neg a, ms => match ev true a ms with
    | some (.av (.dat .none), ms1) => some (blV (!neg), ms1)
    | some (.av (.dat _), ms1) => some (blV neg, ms1)
    | some (.lst _, ms1) => some (blV neg, ms1)
    | _ => none
  | _, .and a b, ms => match ev true a ms with
    | some (.av (.dat (.bool c)), ms1) => if c then (match ev true b ms1 with
      | some (.av (.dat (.bool d)), ms2) => some (blV d, ms2)
      | _ => none) else some (blV false, ms1)
    | _ => none
  | _, .or a b, ms => match ev true a ms with
    | some (.av (.dat (.bool c)), ms1) => if c then some (blV true, ms1) else (match ev true b ms1 with
      | some (.av (.dat (.bool d)), ms2) => some (blV d, ms2)
      | _ => none)
    | _ => none
  | _, .not a, ms => match ev true a ms with
    | some (.av (.dat (.bool c)), ms1) => some (blV (!c), ms1)
    | _ => none
  | b, .ife c x y, ms => match ev true c ms with
    | some (.av (.dat (.bool k)), ms1) => if k then ev b x ms1 else ev b y ms1
    | _ => none
  | _, .sub a i, ms => match ev true a ms with
    | some (x, ms1) => (match ev true i ms1 with
      | some (y, ms2) => (subV ms2.hp x y).map fun z => (.av z, ms2)
      | none => none)
    | none => none
  | _, .slice a lo hi, ms => match ev true a ms with
    | some (x, ms1) => (match evP lo ms1 with
      | some (l, ms2) => (match evP hi ms2 with
        | some (h, ms3) => (sliceV x l h).map fun z => (z, ms3)
        | none => none)
      | none => none)
    | none => none
  | _, .b1 f a, ms => match ev true a ms with
    | some (x, ms1) => (b1V ms1.hp f x).map fun z => (z, ms1)
    | none => none
  | _, .isi a t, ms => match ev true a ms with
    | some (x, ms1) => (isiV x t).map fun z => (blV z, ms1)
    | none => none
  | _, .call f es, ms => match evs es ms with
    | some (vs, ms1) => (match f.run vs ms1.hp with
      | some (v, hp) => some (v, { ms1 with hp := hp })
      | none => none)
    | none => none
  | _, .callP f es, ms => match evs es ms with
    | some (vs, ms1) => (match allD vs with
      | some _ => (match f.run vs [] with
        | some (.av (.dat d), _) => some (.av (.dat d), ms1)
        | some (.lst xs, _) => some (.lst xs, ms1)
        | _ => none)
      | none => none)
    | none => none
  | _, .callB f es, ms => match evB es ms with
    | some (vs, ms1) => (match allD vs with
      | some _ => (match f.run vs [] with
        | some (.av (.dat d), _) => if noL d then some (.av (.dat d), ms1) else none
        | some (.lst xs, _) => if noLs xs then some (.lst xs, ms1) else none
        | _ => none)
      | none => none)
    | none => none
  | _, .alloc e, ms => match ev false e ms with
    | some (.lst xs, ms1) => some (.av (.ref ms1.hp.length), { ms1 with hp := ms1.hp ++ [.lst (xs.map .dat)] })
    | _ => none
  | _, .allocL es, ms => match evs es ms with
    | some (vs, ms1) => if vs.length ≤ LINE then some (.av (.ref ms1.hp.length), { ms1 with hp := ms1.hp ++ [.lst vs] }) else none
    | none => none
  | _, .comp elt tg it cond, ms => match evI it ms with
    | some (xs, ms1) => if plainAt tg ms1.rho then
        (match compX tg (evC cond) (ev false elt) xs { ms1 with rho := wipeR tg ms1.rho } with
        | some (acc, ms2) => some (.lst acc, { ms2 with rho := back tg ms1.rho ms2.rho })
        | none => none)
      else none
    | none => none
  | _, .attr c a f, ms => match ev true a ms with
    | some (.av (.ref r), ms1) => (match ms1.hp[r]? with
      | some (.ins c' fs) => if c' = c then (match fs.lookup f with
        | some v => some (.av v, ms1)
        | none => none) else none
      | _ => none)
    | _ => none
  | _, .meth c f a es, ms => match ev true a ms with
    | some (.av (.ref r), ms1) => (match ms1.hp[r]? with
      | some (.ins c' fs) => if c' = c ∧ fs.lookup f.name = none then (match evs es ms1 with
        | some (vs, ms2) => (match f.run (.ref r :: vs) ms2.hp with
          | some (v, hp) => some (v, { ms2 with hp := hp })
          | none => none)
        | none => none) else none
      | _ => none)
    | _ => none
  | _, .new c f es, ms => match evs es ms with
    | some (vs, ms1) => (match f.run (.ref ms1.hp.length :: vs) (ms1.hp ++ [.ins c []]) with
      | some (.av (.dat .none), hp) => some (.av (.ref ms1.hp.length), { ms1 with hp := hp })
      | _ => none)
    | none => none
  | _, .str1 a, ms => match ev true a ms with
    | some (x, ms1) => (strV x).map fun z => (z, ms1)
    | none => none
  | _, .srt st a, ms => match ev true a ms with
    | some (x, ms1) => (srtV st x).map fun z => (z, ms1)
    | none => none
  | _, .join s a, ms => match ev true a ms with
    | some (x, ms1) => (joinV s x).map fun z => (z, ms1)
    | none => none
def evs : Es → MS → Option (List AV × MS)
  | .nil, ms => some ([], ms)
  | .cons e es, ms => match ev false e ms with
    | some (v, ms1) => (match evs es ms1 with
      | some (vs, ms2) => some (v.val :: vs, ms2)
      | none => none)
    | none => none
/-- arguments that are only looked at -/
def evB : Es → MS → Option (List AV × MS)
  | .nil, ms => some ([], ms)
  | .cons e es, ms => match ev true e ms with
    | some (v, ms1) => (match evB es ms1 with
      | some (vs, ms2) => some (v.val :: vs, ms2)
      | none => none)
    | none => none
/-- a part of a slice: nothing, or an int -/
def evP : Es → MS → Option (Option Int × MS)
  | .nil, ms => some (none, ms)
  | .cons e .nil, ms => match ev true e ms with
    | some (.av (.dat (.int i)), ms1) => some (some i, ms1)
    | _ => none
  | .cons _ (.cons _ _), _ => none
/-- the tests of a comprehension: none, or one -/
def evC : Es → MS → Option (Bool × MS)
  | .nil, ms => some (true, ms)
  | .cons e .nil, ms => match ev true e ms with
    | some (.av (.dat (.bool c)), ms1) => some (c, ms1)
    | _ => none
  | .cons _ (.cons _ _), _ => none
def evI : I → MS → Option (Src × MS)
  | .seq e, ms => match ev false e ms with
    | some (.av (.scr ns), ms1) => some (.fix (ns.map .int), ms1)
    | some (.av (.ref r), ms1) => (match ms1.hp[r]? with
      | some (.lst _) => some (.heap r, ms1)
      | _ => none)
    | some (v, ms1) => (match v.d? with
      | some (.list xs) => some (.fix xs, ms1)
      | some (.tuple xs) => some (.fix xs, ms1)
      | _ => none)
    | none => none
  | .range1 e, ms => match ev true e ms with
    | some (.av (.dat (.int k)), ms1) => if -B62 ≤ k ∧ k < B62 then some (.fix ((List.range k.toNat).map fun (j : Nat) => PyData.int j), ms1) else none
    | _ => none
  | .range2 a b, ms => match ev true a ms with
    | some (.av (.dat (.int i)), ms1) => (match ev true b ms1 with
      | some (.av (.dat (.int j)), ms2) => if (-B62 ≤ i ∧ i < B62) ∧ (-B62 ≤ j ∧ j < B62) then some (.fix ((List.range (j - i).toNat).map fun (k : Nat) => PyData.int (i + k)), ms2) else none
      | _ => none)
    | _ => none
end

/-! ### statements -/
inductive Out where
  | nx
  | rt (v : RV)
  | bk
  | ct
mutual
inductive S where
  | set (i : Nat) (e : E)
  | setC (i : Nat) (elt : E) (tg : List Nat) (it : I) (cond : Es)
  | setT (tg : List Nat) (e : E)
  | setIx (i : Nat) (ix e : E)
  | pop0 (i : Nat)
  | append (i : Nat) (e : E)
  | setAttr (c : Str) (o : E) (f : Str) (e : E)
  | setIxE (o ix e : E)
  | appendE (o e : E)
  | never
  | expr (e : E)
  | ite (c : E) (a b : Ss)
  | for_ (tg : List Nat) (it : I) (body : Ss)
  | whil (c : E) (body : Ss)
  | ret (e : E)
  | pass
  | brk
  | cont
inductive Ss where
  | nil
  | cons (s : S) (ss : Ss)
end
def forL (tg : List Nat) (body : MS → Option (Out × MS)) : List PyData → MS → Option (Out × MS)
  | [], ms => some (.nx, ms)
  | x :: r, ms => match bindT tg x ms.rho with
    | some rho => (match body { ms with rho := rho } with
      | some (.nx, ms1) => forL tg body r ms1
      | some (.ct, ms1) => forL tg body r ms1
      | some (.bk, ms1) => some (.nx, ms1)
      | some (.rt v, ms1) => some (.rt v, ms1)
      | none => none)
    | none => none
def forS (tg : List Nat) (body : MS → Option (Out × MS)) (s : Src) : Nat → Nat → MS → Option (Out × MS)
  | 0, _, _ => none
  | n + 1, i, ms => match s.item ms.hp i with
    | none => none
    | some none => some (.nx, ms)
    | some (some x) => match bindT tg x ms.rho with
      | some rho => (match body { ms with rho := rho } with
        | some (.nx, ms1) => forS tg body s n (i + 1) ms1
        | some (.ct, ms1) => forS tg body s n (i + 1) ms1
        | some (.bk, ms1) => some (.nx, ms1)
        | some (.rt v, ms1) => some (.rt v, ms1)
        | none => none)
      | none => none
def forX (tg : List Nat) (body : MS → Option (Out × MS)) : Src → MS → Option (Out × MS)
  | .fix xs, ms => forL tg body xs ms
  | .heap r, ms => forS tg body (.heap r) FUEL 0 ms
def whileL (test : MS → Option (RV × MS)) (body : MS → Option (Out × MS)) : Nat → MS → Option (Out × MS)
  | 0, _ => none
  | n + 1, ms => match test ms with
    | some (.av (.dat (.bool true)), ms1) => (match body ms1 with
      | some (.nx, ms2) => whileL test body n ms2
      | some (.ct, ms2) => whileL test body n ms2
      | some (.bk, ms2) => some (.nx, ms2)
      | some (.rt v, ms2) => some (.rt v, ms2)
      | none => none)
    | some (.av (.dat (.bool false)), ms1) => some (.nx, ms1)
    | _ => none
def setSlot (i : Nat) : RV → MS → Option MS
  | .av v, ms => if i < ms.rho.length then some { ms with rho := ms.rho.set i (.av v) } else none
  | .lst xs, ms => if i < ms.rho.length then some { ms with rho := ms.rho.set i (.own xs) } else none
mutual
def ex : S → MS → Option (Out × MS)
  | .set i e, ms => match ev false e ms with
    | some (v, ms1) => (setSlot i v ms1).map fun m => (.nx, m)
    | none => none
  | .setC i elt tg it cond, ms => match ev false (.comp elt tg it cond) ms with
    | some (v, ms1) => (setSlot i v ms1).map fun m => (.nx, m)
    | none => none
  | .setT tg e, ms => match ev true e ms with
    | some (.av (.dat d), ms1) => (bindT tg d ms1.rho).map fun rho => (.nx, { ms1 with rho := rho })
    | _ => none
  | .setIx i ix e, ms => match ev false e ms with
    | some (v, ms1) => (match ms1.rho[i]? with
      | some (.own _) => (match ev true ix ms1 with
        | some (.av (.dat (.int k)), ms2) => (match ms2.rho[i]?, v.val with
          | some (.own xs), .dat d => (ixD xs.length k).map fun j => (.nx, { ms2 with rho := ms2.rho.set i (.own (xs.set j d)) })
          | _, _ => none)
        | _ => none)
      | some (.av (.ref r)) => (match ev true ix ms1 with
        | some (.av (.dat (.int k)), ms2) => (match ms2.hp[r]? with
          | some (.lst xs) => (ixD xs.length k).map fun j => (.nx, { ms2 with hp := ms2.hp.set r (.lst (xs.set j v.val)) })
          | _ => none)
        | _ => none)
      | _ => none)
    | none => none
  | .pop0 i, ms => match ms.rho[i]? with
    | some (.own (_ :: xs)) => some (.nx, { ms with rho := ms.rho.set i (.own xs) })
    | some (.av (.ref r)) => (match ms.hp[r]? with
      | some (.lst (_ :: xs)) => some (.nx, { ms with hp := ms.hp.set r (.lst xs) })
      | _ => none)
    | _ => none
  | .append i e, ms => match ms.rho[i]? with
    | some (.own _) => (match ev false e ms with
      | some (v, ms1) => (match ms1.rho[i]?, v.d? with
        | some (.own xs), some d => if xs.length < LINE then some (.nx, { ms1 with rho := ms1.rho.set i (.own (xs ++ [d])) }) else none
        | _, _ => none)
      | none => none)
    | some (.av (.ref r)) => (match ms.hp[r]? with
      | some (.lst _) => (match ev false e ms with
        | some (v, ms1) => (match ms1.hp[r]? with
          | some (.lst xs) => if xs.length < LINE then some (.nx, { ms1 with hp := ms1.hp.set r (.lst (xs ++ [v.val])) }) else none
          | _ => none)
        | none => none)
      | _ => none)
    | _ => none
  | .setAttr c o f e, ms => match ev false e ms with
    | some (v, ms1) => (match ev true o ms1 with
      | some (.av (.ref r), ms2) => (match ms2.hp[r]? with
        | some (.ins c' fs) => if c' = c ∧ fs.length < 1000 then some (.nx, { ms2 with hp := ms2.hp.set r (.ins c' (putA f v.val fs)) }) else none
        | _ => none)
      | _ => none)
    | none => none
  | .setIxE o ix e, ms => match ev false e ms with
    | some (v, ms1) => (match ev true o ms1 with
      | some (.av (.ref r), ms2) => (match ev true ix ms2 with
        | some (.av (.dat (.int k)), ms3) => (match ms3.hp[r]? with
          | some (.lst xs) => (ixD xs.length k).map fun j => (.nx, { ms3 with hp := ms3.hp.set r (.lst (xs.set j v.val)) })
          | _ => none)
        | _ => none)
      | _ => none)
    | none => none
  | .appendE o e, ms => match ev true o ms with
    | some (.av (.ref r), ms1) => (match ms1.hp[r]? with
      | some (.lst _) => (match ev false e ms1 with
        | some (v, ms2) => (match ms2.hp[r]? with
          | some (.lst xs) => if xs.length < LINE then some (.nx, { ms2 with hp := ms2.hp.set r (.lst (xs ++ [v.val])) }) else none
          | _ => none)
        | none => none)
      | _ => none)
    | _ => none
  | .never, _ => none
  | .expr e, ms => match ev false e ms with
    | some (_, ms1) => some (.nx, ms1)
    | none => none
  | .ite c a b, ms => match ev true c ms with
    | some (.av (.dat (.bool k)), ms1) => if k then exs a ms1 else exs b ms1
    | _ => none
  | .for_ tg it body, ms => match evI it ms with
    | some (xs, ms1) => forX tg (exs body) xs ms1
    | none => none
  | .whil c body, ms => whileL (ev true c) (exs body) FUEL ms
  | .ret e, ms => match ev true e ms with
    | some (v, ms1) => some (.rt v, ms1)
    | none => none
  | .pass, ms => some (.nx, ms)
  | .brk, ms => some (.bk, ms)
  | .cont, ms => some (.ct, ms)
def exs : Ss → MS → Option (Out × MS)
  | .nil, ms => some (.nx, ms)
  | .cons s ss, ms => match ex s ms with
    | some (.nx, ms1) => exs ss ms1
    | some (o, ms1) => some (o, ms1)
    | none => none
end
/-- a def: its names, how many of them are parameters, its body -/
def runB (n k : Nat) (body : Ss) (vs : List AV) (hp : List AO) : Option (RV × List AO) :=
  if vs.length = k then
    match exs body ⟨vs.map .av ++ List.replicate (n - k) .emp, hp⟩ with
    | some (.nx, ms) => some (.av (.dat .none), ms.hp)
    | some (.rt v, ms) => some (v, ms.hp)
    | _ => none
  else none
end Sv

/-! Sv: how the small interpreter's states lie in the layer's heap. -/
namespace Sv
open PySem L2

/-! ### data in the heap; Z tells the lists that no longer change -/
mutual
inductive Dz (K : PySem.W.Frag) (Z : Addr → Prop) (H : Hp) : V → PyData → Prop
  | non : Dz K Z H .non .none
  | bl (b : Bool) : Dz K Z H (.bl b) (.bool b)
  | int (i : Int) : Dz K Z H (.int i) (.int i)
  | str (x : Str) : Dz K Z H (.str x) (.str x)
  | lst {a : Addr} {xs : List V} {ds : List PyData} : H a = some (.lst xs) → Z a → Dzs K Z H xs ds → Dz K Z H (.ref a) (.list ds)
  | tup {a : Addr} {xs : List V} {ds : List PyData} : SqT K H a xs → Dzs K Z H xs ds → Dz K Z H (.ref a) (.tuple ds)
inductive Dzs (K : PySem.W.Frag) (Z : Addr → Prop) (H : Hp) : List V → List PyData → Prop
  | nil : Dzs K Z H [] []
  | cons {v : V} {vs : List V} {d : PyData} {ds : List PyData} : Dz K Z H v d → Dzs K Z H vs ds → Dzs K Z H (v :: vs) (d :: ds)
end
section
variable {K : PySem.W.Frag} {Z Z' : Addr → Prop} {H H' : Hp}
mutual
theorem Dz.mono (hl : ∀ a xs, Z a → H a = some (.lst xs) → Z' a ∧ H' a = some (.lst xs)) (ht : ∀ a xs, SqT K H a xs → SqT K H' a xs) : ∀ {v : V} (d : PyData), Dz K Z H v d → Dz K Z' H' v d
  | _, .none, h => by cases h; exact .non
  | _, .bool _, h => by cases h; exact .bl _
  | _, .int _, h => by cases h; exact .int _
  | _, .str _, h => by cases h; exact .str _
  | _, .list ds, h => by
    cases h with
    | lst e z q =>
      obtain ⟨z', e'⟩ := hl _ _ z e
      exact .lst e' z' (Dzs.mono hl ht ds q)
  | _, .tuple ds, h => by
    cases h with
    | tup e q => exact .tup (ht _ _ e) (Dzs.mono hl ht ds q)
  | _, .dict _, h => by cases h
theorem Dzs.mono (hl : ∀ a xs, Z a → H a = some (.lst xs) → Z' a ∧ H' a = some (.lst xs)) (ht : ∀ a xs, SqT K H a xs → SqT K H' a xs) : ∀ {vs : List V} (ds : List PyData), Dzs K Z H vs ds → Dzs K Z' H' vs ds
  | _, [], h => by cases h; exact .nil
  | _, d :: ds, h => by
    cases h with
    | cons p q => exact .cons (Dz.mono hl ht d p) (Dzs.mono hl ht ds q)
end
mutual
theorem Dz.dp : ∀ {v : V} (d : PyData), Dz K Z H v d → Dp K H v d
  | _, .none, h => by cases h; exact .non
  | _, .bool _, h => by cases h; exact .bl _
  | _, .int _, h => by cases h; exact .int _
  | _, .str _, h => by cases h; exact .str _
  | _, .list ds, h => by
    cases h with
    | lst e z q => exact .lst (SqL.of e) (Dzs.dp ds q)
  | _, .tuple ds, h => by
    cases h with
    | tup e q => exact .tup e (Dzs.dp ds q)
  | _, .dict _, h => by cases h
theorem Dzs.dp : ∀ {vs : List V} (ds : List PyData), Dzs K Z H vs ds → DpAll K H vs ds
  | _, [], h => by cases h; exact .nil
  | _, d :: ds, h => by
    cases h with
    | cons p q => exact .cons (Dz.dp d p) (Dzs.dp ds q)
end
mutual
/-- data without lists leans on no Z -/
theorem Dz.noL : ∀ {v : V} (d : PyData), noL d = true → Dz K Z H v d → Dz K Z' H v d
  | _, .none, _, h => by cases h; exact .non
  | _, .bool _, _, h => by cases h; exact .bl _
  | _, .int _, _, h => by cases h; exact .int _
  | _, .str _, _, h => by cases h; exact .str _
  | _, .list ds, e, h => by simp [Sv.noL] at e
  | _, .tuple ds, e, h => by
    cases h with
    | tup p q => exact .tup p (Dzs.noL ds (by simpa [Sv.noL] using e) q)
  | _, .dict _, _, h => by cases h
theorem Dzs.noL : ∀ {vs : List V} (ds : List PyData), noLs ds = true → Dzs K Z H vs ds → Dzs K Z' H vs ds
  | _, [], _, h => by cases h; exact .nil
  | _, d :: ds, e, h => by
    cases h with
    | cons p q =>
      have e' : Sv.noL d = true ∧ Sv.noLs ds = true := by simpa [Sv.noLs] using e
      exact .cons (Dz.noL d e'.1 p) (Dzs.noL ds e'.2 q)
end
theorem Dzs.length : ∀ {vs : List V} {ds : List PyData}, Dzs K Z H vs ds → vs.length = ds.length
  | _, _, .nil => rfl
  | _, _, .cons _ q => by simp [Dzs.length q]
theorem Dzs.append : ∀ {vs ws : List V} {ds es : List PyData}, Dzs K Z H vs ds → Dzs K Z H ws es → Dzs K Z H (vs ++ ws) (ds ++ es)
  | _, _, _, _, .nil, q => q
  | _, _, _, _, .cons p r, q => .cons p (Dzs.append r q)
theorem Dzs.get : ∀ {vs : List V} {ds : List PyData} {i : Nat} {d : PyData}, Dzs K Z H vs ds → ds[i]? = some d → ∃ v, vs[i]? = some v ∧ Dz K Z H v d
  | _, _, 0, _, .cons p r, e => by simp at e; subst e; exact ⟨_, by simp, p⟩
  | _, _, i + 1, _, .cons p r, e => by
    obtain ⟨v, h1, h2⟩ := Dzs.get (i := i) r (by simpa using e)
    exact ⟨v, by simpa using h1, h2⟩
  | _, _, _, _, .nil, e => by simp at e
theorem Dzs.get' {vs : List V} {ds : List PyData} {i : Nat} {v : V} (h : Dzs K Z H vs ds) (e : vs[i]? = some v) : ∃ d, ds[i]? = some d ∧ Dz K Z H v d := by
  have hl := h.length
  have hi : i < ds.length := by rw [← hl]; exact (List.getElem?_eq_some_iff.mp e).1
  obtain ⟨w, h1, h2⟩ := h.get (List.getElem?_eq_getElem hi)
  rw [e] at h1
  cases h1
  exact ⟨_, List.getElem?_eq_getElem hi, h2⟩
theorem Dzs.take : ∀ {vs : List V} {ds : List PyData} (n : Nat), Dzs K Z H vs ds → Dzs K Z H (vs.take n) (ds.take n)
  | _, _, 0, _ => by simpa using Dzs.nil
  | _, _, _ + 1, .nil => by simpa using Dzs.nil
  | _, _, n + 1, .cons p r => by simpa using Dzs.cons p (Dzs.take n r)
theorem Dzs.drop : ∀ {vs : List V} {ds : List PyData} (n : Nat), Dzs K Z H vs ds → Dzs K Z H (vs.drop n) (ds.drop n)
  | _, _, 0, h => by simpa using h
  | _, _, _ + 1, .nil => by simpa using Dzs.nil
  | _, _, n + 1, .cons p r => by simpa using Dzs.drop n r
theorem Dzs.rep {vs : List V} {ds : List PyData} (h : Dzs K Z H vs ds) : ∀ k : Nat, Dzs K Z H (List.replicate k vs).flatten (List.replicate k ds).flatten
  | 0 => by simpa using Dzs.nil
  | k + 1 => by simpa [List.replicate_succ] using Dzs.append h (Dzs.rep h k)
theorem Dzs.set {v : V} {d : PyData} (p : Dz K Z H v d) : ∀ {vs : List V} {ds : List PyData} (i : Nat), Dzs K Z H vs ds → Dzs K Z H (vs.set i v) (ds.set i d)
  | _, _, _, .nil => by simpa using Dzs.nil
  | _, _, 0, .cons _ r => by simpa using Dzs.cons p r
  | _, _, i + 1, .cons q r => by simpa using Dzs.cons q (Dzs.set p i r)
theorem dzs_ints : ∀ ns : List Int, Dzs K Z H (ns.map V.int) (ns.map PyData.int)
  | [] => .nil
  | n :: ns => .cons (.int n) (dzs_ints ns)
theorem Dzs.int_of : ∀ {vs : List V} {ds : List PyData} {ns : List Int}, Dzs K Z H vs ds → intsD ds = some ns → vs = ns.map V.int
  | _, _, _, .nil, e => by simp [intsD] at e; subst e; rfl
  | _, _, _, .cons (d := d) p r, e => by
    cases p with
    | int i =>
      simp only [intsD, Option.map_eq_some_iff] at e
      obtain ⟨ms, e1, rfl⟩ := e
      simp [Dzs.int_of r e1]
    | _ => simp [intsD] at e
theorem Dzs.bl_of : ∀ {vs : List V} {ds : List PyData} {ns : List Bool}, Dzs K Z H vs ds → boolsD ds = some ns → vs = ns.map V.bl
  | _, _, _, .nil, e => by simp [boolsD] at e; subst e; rfl
  | _, _, _, .cons (d := d) p r, e => by
    cases p with
    | bl i =>
      simp only [boolsD, Option.map_eq_some_iff] at e
      obtain ⟨ms, e1, rfl⟩ := e
      simp [Dzs.bl_of r e1]
    | _ => simp [boolsD] at e
end

/-! ### ghosts: the small heap's addresses, the lists that no longer change, the lists that slots own -/
structure G where
  io : List Addr
  Z : Addr → Prop
  oa : Nat → Option Addr
/-- the script's list: read, never written -/
def ScrAt (K : PySem.W.Frag) (H : Hp) (a : Addr) (ns : List Int) : Prop := (∃ o, H a = some (.frz o (.lst (ns.map V.int)))) ∨ ∀ H', SqL K H' a (ns.map V.int)
theorem ScrAt.sql {K : PySem.W.Frag} {H : Hp} {a : Addr} {ns : List Int} (h : ScrAt K H a ns) : SqL K H a (ns.map V.int) := by
  rcases h with ⟨o, h⟩ | h
  · exact .inl (.inr ⟨o, h⟩)
  · exact h H
theorem ScrAt.keep {K : PySem.W.Frag} {H H' : Hp} {a : Addr} {ns : List Int} (h : ScrAt K H a ns) (k : ∀ o, H a = some (.frz o (.lst (ns.map V.int))) → H' a = some (.frz o (.lst (ns.map V.int)))) : ScrAt K H' a ns := by
  rcases h with ⟨o, h⟩ | h
  · exact .inl ⟨o, k o h⟩
  · exact .inr h
inductive AVR (K : PySem.W.Frag) (g : G) (H : Hp) : V → AV → Prop
  | dat {v : V} {d : PyData} : Dz K g.Z H v d → AVR K g H v (.dat d)
  | ref {j : Nat} {a : Addr} : g.io[j]? = some a → AVR K g H (.ref a) (.ref j)
  | fd {a : Addr} {kv : List (Key × V)} {kvs : List (Str × PyData)} : g.Z a → H a = some (.dK kv) → kv.map (·.1) = kvs.map (fun p => Sum.inr p.1) → Dzs K g.Z H (kv.map (·.2)) (kvs.map (·.2)) → AVR K g H (.ref a) (.fd kvs)
  | scr {a : Addr} {ns : List Int} : ScrAt K H a ns → AVR K g H (.ref a) (.scr ns)
inductive AVRs (K : PySem.W.Frag) (g : G) (H : Hp) : List V → List AV → Prop
  | nil : AVRs K g H [] []
  | cons {v : V} {vs : List V} {x : AV} {xs : List AV} : AVR K g H v x → AVRs K g H vs xs → AVRs K g H (v :: vs) (x :: xs)
inductive ORel (K : PySem.W.Frag) (mg : Str → Option Value) (g : G) (H : Hp) (a : Addr) : AO → Prop
  | lst {vs : List V} {xs : List AV} : H a = some (.lst vs) → AVRs K g H vs xs → ORel K mg g H a (.lst xs)
  | dct {kv : List (Key × V)} {kvs : List (Str × AV)} : H a = some (.dK kv) → kv.map (·.1) = kvs.map (fun p => Sum.inr p.1) → AVRs K g H (kv.map (·.2)) (kvs.map (·.2)) → ORel K mg g H a (.dct kvs)
  | ins {c : Str} {C dx : Addr} {fs : List (Str × V)} {gs : List (Str × AV)} : H a = some (.ins C dx fs) → mg c = some (.ref C) → fs.map (·.1) = gs.map (·.1) → AVRs K g H (fs.map (·.2)) (gs.map (·.2)) → ORel K mg g H a (.ins c gs)
/-- the small heap lies in H -/
structure HRel (K : PySem.W.Frag) (mg : Str → Option Value) (g : G) (hp : List AO) (H : Hp) : Prop where
  hl : g.io.length = hp.length
  nd : g.io.Nodup
  ho : ∀ (j : Nat) a o, g.io[j]? = some a → hp[j]? = some o → ORel K mg g H a o
  nz : ∀ a ∈ g.io, ¬ g.Z a
  zt : ∀ a, g.Z a → ∃ o, H a = some o
/-- what a def's frame was entered with -/
structure Fr where
  io : List Addr
  Z : Addr → Prop
  H : Hp
structure Fra (F : Fr) (g : G) (H : Hp) : Prop where
  io : ∃ new, g.io = F.io ++ new ∧ ∀ a ∈ new, F.H a = none
  z : ∀ a, g.Z a → F.Z a ∨ F.H a = none
  zz : ∀ a, F.Z a → g.Z a
  keep : ∀ a o, a ∉ F.io → F.H a = some o → H a = some o
  th : ∀ a o, F.H a = some o → ∃ o', H a = some o'
structure Rel (K : PySem.W.Frag) (mg : Str → Option Value) (F : Fr) (g : G) (ms : MS) (σ : St) (H : Hp) : Prop where
  hr : HRel K mg g ms.hp H
  len : σ.length = ms.rho.length
  av : ∀ (i : Nat) v, ms.rho[i]? = some (.av v) → ∃ x, σ[i]? = some (some x) ∧ AVR K g H x v
  own : ∀ (i : Nat) xs, ms.rho[i]? = some (.own xs) → ∃ a vs, g.oa i = some a ∧ σ[i]? = some (some (.ref a)) ∧ H a = some (.lst vs) ∧ Dzs K g.Z H vs xs
  oaf : ∀ (i : Nat) a, g.oa i = some a → ¬ g.Z a ∧ a ∉ g.io ∧ F.H a = none ∧ ∃ vs, H a = some (.lst vs)
  inj : ∀ (i j : Nat) a, g.oa i = some a → g.oa j = some a → i = j
  fr : Fra F g H
/-- from here on: what is not the small heap's stays -/
structure Ext0 (g : G) (H : Hp) (g' : G) (H' : Hp) : Prop where
  keep : ∀ a o, a ∉ g.io → H a = some o → H' a = some o
  zz : ∀ a, g.Z a → g'.Z a
  io : ∃ new, g'.io = g.io ++ new ∧ ∀ a ∈ new, H a = none
  th : ∀ a o, H a = some o → ∃ o', H' a = some o'
/-- .. and Z takes up nothing but what is new or was a slot's own -/
structure Ext (g : G) (H : Hp) (g' : G) (H' : Hp) : Prop extends Ext0 g H g' H' where
  zn : ∀ a, g'.Z a → g.Z a ∨ H a = none ∨ ∃ i, g.oa i = some a
  on : ∀ i a, g'.oa i = some a → (∃ j, g.oa j = some a) ∨ H a = none
/-- behind statements: the slots' own lists may have changed, too -/
structure ExtS (g : G) (H : Hp) (g' : G) (H' : Hp) : Prop where
  keep : ∀ a o, a ∉ g.io → (∀ i, g.oa i ≠ some a) → H a = some o → H' a = some o
  zz : ∀ a, g.Z a → g'.Z a
  io : ∃ new, g'.io = g.io ++ new ∧ ∀ a ∈ new, H a = none
  th : ∀ a o, H a = some o → ∃ o', H' a = some o'
  on : ∀ i a, g'.oa i = some a → (∃ j, g.oa j = some a) ∨ H a = none
/-- a result: a value, or a list that nobody holds (b = false: it is new, it did not stand in S) -/
inductive RVR (K : PySem.W.Frag) (F : Fr) (g : G) (S H : Hp) : Bool → V → RV → Prop
  | av {b : Bool} {v : V} {x : AV} : AVR K g H v x → RVR K F g S H b v (.av x)
  | lst {b : Bool} {a : Addr} {vs : List V} {xs : List PyData} : H a = some (.lst vs) → Dzs K g.Z H vs xs → a ∉ g.io → ¬ g.Z a → F.H a = none → (b = false → S a = none ∧ ∀ i, g.oa i ≠ some a) → RVR K F g S H b (.ref a) (.lst xs)

section
variable {K : PySem.W.Frag} {mg : Str → Option Value} {F : Fr} {g g' g2 : G} {ms : MS} {σ : St} {H H' H2 : Hp}
theorem AVRs.length : ∀ {vs : List V} {xs : List AV}, AVRs K g H vs xs → vs.length = xs.length
  | _, _, .nil => rfl
  | _, _, .cons _ q => by simp [AVRs.length q]
theorem AVRs.get : ∀ {vs : List V} {ds : List AV} {i : Nat} {d : AV}, AVRs K g H vs ds → ds[i]? = some d → ∃ v, vs[i]? = some v ∧ AVR K g H v d
  | _, _, 0, _, .cons p r, e => by simp at e; subst e; exact ⟨_, by simp, p⟩
  | _, _, i + 1, _, .cons p r, e => by
    obtain ⟨v, h1, h2⟩ := AVRs.get (i := i) r (by simpa using e)
    exact ⟨v, by simpa using h1, h2⟩
  | _, _, _, _, .nil, e => by simp at e
theorem AVRs.set {v : V} {d : AV} (p : AVR K g H v d) : ∀ {vs : List V} {ds : List AV} (i : Nat), AVRs K g H vs ds → AVRs K g H (vs.set i v) (ds.set i d)
  | _, _, _, .nil => by simpa using AVRs.nil
  | _, _, 0, .cons _ r => by simpa using AVRs.cons p r
  | _, _, i + 1, .cons q r => by simpa using AVRs.cons q (AVRs.set p i r)
theorem AVRs.append : ∀ {vs ws : List V} {ds es : List AV}, AVRs K g H vs ds → AVRs K g H ws es → AVRs K g H (vs ++ ws) (ds ++ es)
  | _, _, _, _, .nil, q => q
  | _, _, _, _, .cons p r, q => .cons p (AVRs.append r q)
theorem AVRs.of_dzs : ∀ {vs : List V} {ds : List PyData}, Dzs K g.Z H vs ds → AVRs K g H vs (ds.map .dat)
  | _, _, .nil => .nil
  | _, _, .cons p q => .cons (.dat p) (AVRs.of_dzs q)
theorem AVRs.dzs : ∀ {vs : List V} {xs : List AV} {ds : List PyData}, AVRs K g H vs xs → allD xs = some ds → Dzs K g.Z H vs ds
  | _, _, _, .nil, e => by simp [allD] at e; subst e; exact .nil
  | _, _, _, .cons p q, e => by
    cases p with
    | dat p =>
      simp only [allD, Option.map_eq_some_iff] at e
      obtain ⟨ds, e1, rfl⟩ := e
      exact .cons p (AVRs.dzs q e1)
    | _ => simp [allD] at e
theorem Ext.refl : Ext g H g H := ⟨⟨fun _ _ _ h => h, fun _ h => h, ⟨[], by simp, by simp⟩, fun _ o h => ⟨o, h⟩⟩, fun _ h => .inl h, fun i _ h => .inl ⟨i, h⟩⟩
theorem Ext0.trans (a : Ext0 g H g2 H2) (b : Ext0 g2 H2 g' H') : Ext0 g H g' H' := by
  obtain ⟨n1, e1, h1⟩ := a.io
  obtain ⟨n2, e2, h2⟩ := b.io
  refine ⟨fun c o hc h => ?_, fun c h => b.zz c (a.zz c h), ⟨n1 ++ n2, by rw [e2, e1, List.append_assoc], fun c hc => ?_⟩, fun c o h => ?_⟩
  · refine b.keep c o ?_ (a.keep c o hc h)
    rw [e1]
    intro hm
    rcases List.mem_append.mp hm with hm | hm
    · exact hc hm
    · rw [h1 c hm] at h; cases h
  · rcases List.mem_append.mp hc with hc | hc
    · exact h1 c hc
    · cases q : H c with
      | none => rfl
      | some o =>
        obtain ⟨o', h'⟩ := a.th c o q
        rw [h2 c hc] at h'; cases h'
  · obtain ⟨o', h'⟩ := a.th c o h
    exact b.th c o' h'
theorem Ext0.back (a : Ext0 g H g2 H2) {c : Addr} (h : H2 c = none) : H c = none := by
  cases q : H c with
  | none => rfl
  | some o =>
    obtain ⟨o', h'⟩ := a.th c o q
    rw [h] at h'; cases h'
theorem Ext.trans (a : Ext g H g2 H2) (b : Ext g2 H2 g' H') : Ext g H g' H' := by
  refine ⟨a.toExt0.trans b.toExt0, fun c h => ?_, fun i c h => ?_⟩
  · rcases b.zn c h with h | h | ⟨i, h⟩
    · exact a.zn c h
    · exact .inr (.inl (a.toExt0.back h))
    · rcases a.on i c h with h | h
      · exact .inr (.inr h)
      · exact .inr (.inl h)
  · rcases b.on i c h with ⟨j, h⟩ | h
    · exact a.on j c h
    · exact .inr (a.toExt0.back h)
theorem Ext.s (x : Ext g H g' H') : ExtS g H g' H' := ⟨fun a o h _ q => x.keep a o h q, x.zz, x.io, x.th, x.on⟩
theorem ExtS.refl : ExtS g H g H := Ext.refl.s
theorem ExtS.trans (a : ExtS g H g2 H2) (b : ExtS g2 H2 g' H') : ExtS g H g' H' := by
  obtain ⟨n1, e1, h1⟩ := a.io
  obtain ⟨n2, e2, h2⟩ := b.io
  have bk : ∀ c, H2 c = none → H c = none := fun c h => by
    cases q : H c with
    | none => rfl
    | some o =>
      obtain ⟨o', h'⟩ := a.th c o q
      rw [h] at h'; cases h'
  refine ⟨fun c o hc ho h => ?_, fun c h => b.zz c (a.zz c h), ⟨n1 ++ n2, by rw [e2, e1, List.append_assoc], fun c hc => ?_⟩, fun c o h => ?_, fun i c h => ?_⟩
  · refine b.keep c o ?_ (fun i z => ?_) (a.keep c o hc ho h)
    · rw [e1]
      intro hm
      rcases List.mem_append.mp hm with hm | hm
      · exact hc hm
      · rw [h1 c hm] at h; cases h
    · rcases a.on i c z with ⟨j, z⟩ | z
      · exact ho j z
      · rw [z] at h; cases h
  · rcases List.mem_append.mp hc with hc | hc
    · exact h1 c hc
    · exact bk c (h2 c hc)
  · obtain ⟨o', h'⟩ := a.th c o h
    exact b.th c o' h'
  · rcases b.on i c h with ⟨j, h⟩ | h
    · exact a.on j c h
    · exact .inr (bk c h)
/-- objects of the small heap are lists, dicts, instances -/
theorem HRel.at {hp : List AO} (R : HRel K mg g hp H) {a : Addr} (ha : a ∈ g.io) : (∃ vs, H a = some (.lst vs)) ∨ (∃ kv, H a = some (.dK kv)) ∨ ∃ C dx fs, H a = some (.ins C dx fs) := by
  obtain ⟨j, hj, e⟩ := List.mem_iff_getElem.mp ha
  have hj' : j < hp.length := by rw [← R.hl]; exact hj
  have h := R.ho j a hp[j] (by rw [List.getElem?_eq_getElem hj, e]) (List.getElem?_eq_getElem hj')
  generalize hp[j] = o at h
  cases h with
  | lst e _ => exact .inl ⟨_, e⟩
  | dct e _ _ => exact .inr (.inl ⟨_, e⟩)
  | ins e _ _ _ => exact .inr (.inr ⟨_, _, _, e⟩)
theorem HRel.no_tup {hp : List AO} (R : HRel K mg g hp H) {a : Addr} {xs : List V} (h : H a = some (.tup xs)) : a ∉ g.io := fun ha => by
  rcases R.at ha with ⟨_, e⟩ | ⟨_, e⟩ | ⟨_, _, _, e⟩ <;> (rw [h] at e; cases e)
theorem HRel.no_frz {hp : List AO} (R : HRel K mg g hp H) {a : Addr} {o : Obj} {u : HO} (h : H a = some (.frz o u)) : a ∉ g.io := fun ha => by
  rcases R.at ha with ⟨_, e⟩ | ⟨_, e⟩ | ⟨_, _, _, e⟩ <;> (rw [h] at e; cases e)
theorem HRel.there {hp : List AO} (R : HRel K mg g hp H) {a : Addr} (ha : a ∈ g.io) : ∃ o, H a = some o := by
  rcases R.at ha with ⟨_, e⟩ | ⟨_, e⟩ | ⟨_, _, _, e⟩ <;> exact ⟨_, e⟩
theorem HRel.fresh {hp : List AO} (R : HRel K mg g hp H) {p : Addr} (hp' : H p = none) : p ∉ g.io ∧ ¬ g.Z p := by
  refine ⟨fun h => ?_, fun h => ?_⟩
  · obtain ⟨o, e⟩ := R.there h; rw [hp'] at e; cases e
  · obtain ⟨o, e⟩ := R.zt p h; rw [hp'] at e; cases e
theorem sqT_keep (k : ∀ a xs, H a = some (.tup xs) → H' a = some (.tup xs)) (kf : ∀ a o xs, H a = some (.frz o (.tup xs)) → H' a = some (.frz o (.tup xs))) {a : Addr} {xs : List V} (h : SqT K H a xs) : SqT K H' a xs := by
  rcases h with (h | ⟨o, h⟩) | h
  · exact .inl (.inl (k _ _ h))
  · exact .inl (.inr ⟨o, kf _ _ _ h⟩)
  · exact .inr h
theorem HRel.sqT {hp : List AO} (R : HRel K mg g hp H) (e : Ext0 g H g' H') {a : Addr} {xs : List V} (h : SqT K H a xs) : SqT K H' a xs :=
  sqT_keep (fun a xs q => e.keep a _ (R.no_tup q) q) (fun a o xs q => e.keep a _ (R.no_frz q) q) h
theorem HRel.dz {hp : List AO} (R : HRel K mg g hp H) (e : Ext0 g H g' H') {v : V} {d : PyData} (h : Dz K g.Z H v d) : Dz K g'.Z H' v d :=
  Dz.mono (fun a xs z q => ⟨e.zz a z, e.keep a _ (fun hm => R.nz a hm z) q⟩) (fun a xs q => R.sqT e q) d h
theorem HRel.dzs {hp : List AO} (R : HRel K mg g hp H) (e : Ext0 g H g' H') {v : List V} {d : List PyData} (h : Dzs K g.Z H v d) : Dzs K g'.Z H' v d :=
  Dzs.mono (fun a xs z q => ⟨e.zz a z, e.keep a _ (fun hm => R.nz a hm z) q⟩) (fun a xs q => R.sqT e q) d h
theorem HRel.avr {hp : List AO} (R : HRel K mg g hp H) (e : Ext0 g H g' H') {v : V} {x : AV} (h : AVR K g H v x) : AVR K g' H' v x := by
  cases h with
  | dat h => exact .dat (R.dz e h)
  | ref h =>
    obtain ⟨n, e1, _⟩ := e.io
    refine .ref ?_
    rw [e1, List.getElem?_append_left (List.getElem?_eq_some_iff.mp h).1]
    exact h
  | fd z h k q => exact .fd (e.zz _ z) (e.keep _ _ (fun hm => R.nz _ hm z) h) k (R.dzs e q)
  | scr h => exact .scr (h.keep fun o h => e.keep _ _ (R.no_frz h) h)
theorem HRel.avrs {hp : List AO} (R : HRel K mg g hp H) (e : Ext0 g H g' H') : ∀ {vs : List V} {xs : List AV}, AVRs K g H vs xs → AVRs K g' H' vs xs
  | _, _, .nil => .nil
  | _, _, .cons p q => .cons (R.avr e p) (R.avrs e q)
/-- a change that leaves all that is tracked, and Z -/
theorem Ext0.same (k : ∀ a o, H a = some o → H' a = some o) : Ext0 g H g H' := ⟨fun a o _ h => k a o h, fun _ h => h, ⟨[], by simp, by simp⟩, fun a o h => ⟨o, k a o h⟩⟩
theorem Ext.same (k : ∀ a o, H a = some o → H' a = some o) : Ext g H g H' := ⟨.same k, fun _ h => .inl h, fun i _ h => .inl ⟨i, h⟩⟩
theorem ORel.ext {hp : List AO} (R : HRel K mg g hp H) (e : Ext0 g H g' H') {a : Addr} {o : AO} (k : ∀ u, H a = some u → H' a = some u) (h : ORel K mg g H a o) : ORel K mg g' H' a o := by
  cases h with
  | lst h q => exact .lst (k _ h) (R.avrs e q)
  | dct h k' q => exact .dct (k _ h) k' (R.avrs e q)
  | ins h m k' q => exact .ins (k _ h) m k' (R.avrs e q)
theorem HRel.same {hp : List AO} (R : HRel K mg g hp H) (k : ∀ a o, H a = some o → H' a = some o) : HRel K mg g hp H' :=
  ⟨R.hl, R.nd, fun j a o h1 h2 => (R.ho j a o h1 h2).ext R (.same k) (k a), R.nz, fun a z => let ⟨o, h⟩ := R.zt a z; ⟨o, k a o h⟩⟩
theorem Fra.same (R : Fra F g H) (k : ∀ a o, H a = some o → H' a = some o) : Fra F g H' :=
  ⟨R.io, R.z, R.zz, fun a o h1 h2 => k a o (R.keep a o h1 h2), fun a o h => let ⟨o', h'⟩ := R.th a o h; ⟨o', k a o' h'⟩⟩
theorem Rel.same (R : Rel K mg F g ms σ H) (k : ∀ a o, H a = some o → H' a = some o) : Rel K mg F g ms σ H' :=
  ⟨R.hr.same k, R.len, fun i v h => let ⟨x, h1, h2⟩ := R.av i v h; ⟨x, h1, R.hr.avr (.same k) h2⟩,
    fun i xs h => let ⟨a, vs, h1, h2, h3, h4⟩ := R.own i xs h; ⟨a, vs, h1, h2, k _ _ h3, R.hr.dzs (.same k) h4⟩,
    fun i a h => let ⟨h1, h2, h3, o, h4⟩ := R.oaf i a h; ⟨h1, h2, h3, o, k a _ h4⟩, R.inj, R.fr.same k⟩
theorem up_same {p : Addr} {o : HO} (hp : H p = none) : ∀ a u, H a = some u → upd H p o a = some u := fun a u h => by rw [upd_ne (ne_of_none h hp)]; exact h
/-- a new object that nobody holds -/
theorem Rel.new (R : Rel K mg F g ms σ H) {p : Addr} {o : HO} (hp : H p = none) : Rel K mg F g ms σ (upd H p o) := R.same (up_same hp)
theorem Rel.f0 (R : Rel K mg F g ms σ H) {p : Addr} (hp : H p = none) : F.H p = none := by
  cases q : F.H p with
  | none => rfl
  | some o =>
    obtain ⟨o', h⟩ := R.fr.th p o q
    rw [hp] at h; cases h
theorem Rel.oa0 (R : Rel K mg F g ms σ H) {p : Addr} (hp : H p = none) : ∀ i, g.oa i ≠ some p := fun i h => by
  obtain ⟨_, _, _, o, e⟩ := R.oaf i p h
  rw [hp] at e; cases e
theorem Rel.newlst (R : Rel K mg F g ms σ H) {b : Bool} {p : Addr} {vs : List V} {xs : List PyData} (hp : H p = none) (q : Dzs K g.Z H vs xs) : RVR K F g H (upd H p (.lst vs)) b (.ref p) (.lst xs) :=
  .lst upd_same (R.hr.dzs (.same (up_same hp)) q) (R.hr.fresh hp).1 (R.hr.fresh hp).2 (R.f0 hp) fun _ => ⟨hp, R.oa0 hp⟩
theorem Rel.newtup (R : Rel K mg F g ms σ H) {b : Bool} {p : Addr} {vs : List V} {xs : List PyData} (hp : H p = none) (q : Dzs K g.Z H vs xs) : RVR K F g H (upd H p (.tup vs)) b (.ref p) (.av (.dat (.tuple xs))) :=
  .av (.dat (.tup (SqT.of upd_same) (R.hr.dzs (.same (up_same hp)) q)))
/-- a list that nobody holds is taken as one that no longer changes -/
theorem Rel.freeze (R : Rel K mg F g ms σ H) {a : Addr} {vs : List V} (ha : H a = some (.lst vs)) (hi : a ∉ g.io) (hF : F.H a = none) (ho : ∀ i, g.oa i ≠ some a) : Rel K mg F { g with Z := fun b => g.Z b ∨ b = a } ms σ H ∧ Ext0 g H { g with Z := fun b => g.Z b ∨ b = a } H := by
  have e : Ext0 g H { g with Z := fun b => g.Z b ∨ b = a } H := ⟨fun _ _ _ h => h, fun _ h => .inl h, ⟨[], by simp, by simp⟩, fun _ o h => ⟨o, h⟩⟩
  refine ⟨⟨⟨R.hr.hl, R.hr.nd, fun j b o h1 h2 => (R.hr.ho j b o h1 h2).ext R.hr e fun _ h => h, fun b hb => ?_, fun b z => ?_⟩, R.len, fun i v h => let ⟨x, h1, h2⟩ := R.av i v h; ⟨x, h1, R.hr.avr e h2⟩,
    fun i xs h => let ⟨b, ws, h1, h2, h3, h4⟩ := R.own i xs h; ⟨b, ws, h1, h2, h3, R.hr.dzs e h4⟩, fun i b h => ?_, R.inj, ⟨R.fr.io, fun b z => ?_, fun b z => .inl (R.fr.zz b z), R.fr.keep, R.fr.th⟩⟩, e⟩
  · rintro (z | rfl)
    · exact R.hr.nz b hb z
    · exact hi hb
  · rcases z with z | rfl
    · exact R.hr.zt b z
    · exact ⟨_, ha⟩
  · obtain ⟨h1, h2, h3, h4⟩ := R.oaf i b h
    refine ⟨?_, h2, h3, h4⟩
    rintro (z | rfl)
    · exact h1 z
    · exact ho i h
  · rcases z with z | rfl
    · exact R.fr.z b z
    · exact .inr hF
theorem Ext.frz {g0 : G} {S : Hp} {a : Addr} (x : Ext g0 S g H) (h : S a = none ∨ ∃ i, g0.oa i = some a) : Ext g0 S { g with Z := fun b => g.Z b ∨ b = a } H :=
  ⟨⟨x.keep, fun b z => .inl (x.zz b z), x.io, x.th⟩, fun b z => by
    rcases z with z | rfl
    · exact x.zn b z
    · exact .inr h, x.on⟩
theorem Rel.not_own (R : Rel K mg F g ms σ H) {a : Addr} {o : HO} (h : H a = some o) (hn : ∀ vs, o ≠ .lst vs) : ∀ i, g.oa i ≠ some a := fun i z => by
  obtain ⟨_, _, _, vs, e⟩ := R.oaf i a z
  rw [h] at e
  cases e
  exact hn vs rfl
theorem Rel.sqTS (R : Rel K mg F g ms σ H) (e : ExtS g H g' H') {a : Addr} {xs : List V} (h : SqT K H a xs) : SqT K H' a xs :=
  sqT_keep (fun a xs q => e.keep a _ (R.hr.no_tup q) (R.not_own q fun _ z => by cases z) q) (fun a o xs q => e.keep a _ (R.hr.no_frz q) (R.not_own q fun _ z => by cases z) q) h
theorem Rel.keepZ (R : Rel K mg F g ms σ H) (e : ExtS g H g' H') {a : Addr} {o : HO} (z : g.Z a) (q : H a = some o) : H' a = some o :=
  e.keep a _ (fun hm => R.hr.nz a hm z) (fun i hi => (R.oaf i a hi).1 z) q
theorem Rel.dzsS (R : Rel K mg F g ms σ H) (e : ExtS g H g' H') {v : List V} {d : List PyData} (h : Dzs K g.Z H v d) : Dzs K g'.Z H' v d :=
  Dzs.mono (fun a xs z q => ⟨e.zz a z, R.keepZ e z q⟩) (fun a xs q => R.sqTS e q) d h
/-- what a result is worth to one that only looks -/
inductive LR (K : PySem.W.Frag) (g : G) (H : Hp) : V → RV → Prop
  | av {v : V} {x : AV} : AVR K g H v x → LR K g H v (.av x)
  | lst {a : Addr} {vs : List V} {xs : List PyData} : H a = some (.lst vs) → Dzs K g.Z H vs xs → a ∉ g.io → LR K g H (.ref a) (.lst xs)
theorem RVR.since {S : Hp} {b : Bool} {v : V} {x : RV} (e : Ext0 g2 S g' H) (h : RVR K F g H H2 b v x) : RVR K F g S H2 b v x := by
  cases h with
  | av h => exact .av h
  | @lst a vs xs h1 h2 h3 h4 h5 h6 =>
    refine .lst h1 h2 h3 h4 h5 fun hb => ⟨?_, (h6 hb).2⟩
    cases q : S a with
    | none => rfl
    | some o =>
      obtain ⟨o', h'⟩ := e.th a o q
      rw [(h6 hb).1] at h'; cases h'
theorem RVR.lr {S : Hp} {b : Bool} {v : V} {x : RV} (h : RVR K F g S H b v x) : LR K g H v x := by
  cases h with
  | av h => exact .av h
  | lst h q hi _ _ _ => exact .lst h q hi
theorem LR.ext {hp : List AO} (R : HRel K mg g hp H) (e : Ext0 g H g' H') {v : V} {x : RV} (h : LR K g H v x) : LR K g' H' v x := by
  cases h with
  | av h => exact .av (R.avr e h)
  | @lst a vs xs h q hi =>
    obtain ⟨n, e1, e2⟩ := e.io
    refine .lst (e.keep _ _ hi h) (R.dzs e q) ?_
    rw [e1]
    intro hm
    rcases List.mem_append.mp hm with hm | hm
    · exact hi hm
    · rw [e2 _ hm] at h; cases h
theorem LR.dp {v : V} {x : RV} {d : PyData} (h : LR K g H v x) (e : x.d? = some d) : Dp K H v d := by
  cases h with
  | av h =>
    cases h with
    | dat h => simp [RV.d?] at e; subst e; exact h.dp
    | _ => simp [RV.d?] at e
  | lst h q hi => simp [RV.d?] at e; subst e; exact .lst (SqL.of h) q.dp
end
end Sv

/-! Sv: which text a piece of my syntax stands for. -/
namespace Sv
open PySem L2

def isGl (sc : Scope) (y : Str) : Bool := decide (sc.names.lookup y = some .globalImplicit)
def isVis (sc : Scope) (y : Str) : Bool := decide (sc.names.lookup y = some .local) || decide (sc.names.lookup y = some .cell) || decide (sc.names.lookup y = some .free)
def isLoc (sc : Scope) (y : Str) : Bool := decide (sc.names.lookup y = some .local) || decide (sc.names.lookup y = some .cell)
def odd (y : Str) : Bool := (y == ("__debug__" : Str)) || (y == ("__classdict__" : Str))
def isNm (N : List Str) (i : Nat) (y : Str) : Bool := decide (N[i]? = some y)
def mLit : PyData → Expr → Bool
  | .none, .Constant .none _ _ => true
  | .bool b, .Constant (.bool c) _ _ => b == c
  | .int i, .Constant (.int j) _ _ => decide (i = j)
  | .int i, .UnaryOp .USub (.Constant (.int j) _ _) _ => decide (i = -j)
  | .str x, .Constant (.str y) _ _ => decide (x = y)
  | _, _ => false
def mOp : BinO → Operator → Bool
  | .add, .Add => true
  | .sub, .Sub => true
  | .mul, .Mult => true
  | .fdiv, .FloorDiv => true
  | .mod, .Mod => true
  | _, _ => false
def mCmp : CmpO → CmpOp → Bool
  | .eq, .Eq => true
  | .ne, .NotEq => true
  | .lt, .Lt => true
  | .le, .LtE => true
  | .gt, .Gt => true
  | .ge, .GtE => true
  | _, _ => false
def mIn : Bool → CmpOp → Bool
  | false, .In => true
  | true, .NotIn => true
  | _, _ => false
def mIs : Bool → CmpOp → Bool
  | false, .Is => true
  | true, .IsNot => true
  | _, _ => false
def sLen : Str := ⟨#[108, 101, 110]⟩
def sAbs : Str := ⟨#[97, 98, 115]⟩
def sSum : Str := ⟨#[115, 117, 109]⟩
def sAll : Str := ⟨#[97, 108, 108]⟩
def sRange : Str := ⟨#[114, 97, 110, 103, 101]⟩
def sIsi : Str := ⟨#[105, 115, 105, 110, 115, 116, 97, 110, 99, 101]⟩
def b1n : B1 → Str
  | .len => sLen
  | .int => sInt
  | .abs => sAbs
  | .sum => sSum
  | .tuple => sTuple
  | .list => sList
  | .all => sAll
/-- the names of a target -/
def tgNames : Expr → List Str
  | .Name y _ => [y]
  | .Tuple es _ _ => es.filterMap fun e => match e with
    | .Name y _ => some y
    | _ => none
  | _ => []
def mTg (N : List Str) (sc : Scope) : List Nat → Expr → Bool
  | [i], .Name y _ => isNm N i y && isLoc sc y
  | is, .Tuple es _ _ => decide (is.length ≠ 1) && mTgs is es
  | _, _ => false
where mTgs : List Nat → List Expr → Bool
  | [], [] => true
  | i :: is, .Name y _ :: es => isNm N i y && isLoc sc y && mTgs is es
  | _, _ => false
def sStrN : Str := ⟨#[115, 116, 114]⟩
def sSorted : Str := ⟨#[115, 111, 114, 116, 101, 100]⟩
def sSet : Str := ⟨#[115, 101, 116]⟩
def sJoin : Str := ⟨#[106, 111, 105, 110]⟩
def sPop : Str := ⟨#[112, 111, 112]⟩
def sAppend : Str := ⟨#[97, 112, 112, 101, 110, 100]⟩
/-- what stands ahead of a dot: a name, or an attribute -/
def isRcv : Expr → Bool
  | .Name _ _ => true
  | .Attribute _ _ _ => true
  | _ => false
def isIf : Expr → Bool
  | .IfExp _ _ _ _ => true
  | _ => false
mutual
def mE (N : List Str) (sc : Scope) : E → Expr → Bool
  | .lit d, x => mLit d x
  | .glob n _, .Name y _ => decide (n = y) && isGl sc y && !odd y
  | .var i, .Name y _ => isNm N i y && isVis sc y && !odd y
  | .tup es, .Tuple xs _ _ => mEs N sc es xs
  | .lst es, .List xs _ => mEs N sc es xs
  | .bin o a b, .BinOp x p y _ => mOp o p && mE N sc a x && mE N sc b y
  | .cmp o a b, .Compare x [p] [y] _ => mCmp o p && mE N sc a x && mE N sc b y
  | .isin neg a b, .Compare x [p] [y] _ => mIn neg p && mE N sc a x && mE N sc b y
  | .inrange neg a n, .Compare x [p] [.Call (.Name r _) [y] [] _] _ => mIn neg p && decide (r = sRange) && isGl sc r && mE N sc a x && mE N sc n y
  | .isnone neg a, .Compare x [p] [.Constant .none _ _] _ => mIs neg p && mE N sc a x
  | .and a b, .BoolOp .And (x :: y :: r) pos => mE N sc a x && !isIf x && (match r with
    | [] => mE N sc b y && !isIf y
    | _ :: _ => mE N sc b (.BoolOp .And (y :: r) pos))
  | .or a b, .BoolOp .Or (x :: y :: r) pos => mE N sc a x && !isIf x && (match r with
    | [] => mE N sc b y && !isIf y
    | _ :: _ => mE N sc b (.BoolOp .Or (y :: r) pos))
  | .not a, .UnaryOp .Not x _ => mE N sc a x && !isIf x
  | .ife c a b, .IfExp z x y _ => mE N sc c z && !isIf z && mE N sc a x && mE N sc b y
  | .sub a i, .Subscript x y _ => mE N sc a x && mE N sc i y
  | .slice a lo hi, .Subscript x (.Slice l h none _) _ => mE N sc a x && mP N sc lo l && mP N sc hi h
  | .b1 f a, .Call (.Name y _) [x] [] _ => decide (y = b1n f) && isGl sc y && mE N sc a x
  | .isi a t, .Call (.Name y _) [x, .Name z _] [] _ => decide (y = sIsi) && isGl sc y && decide (t = z) && isGl sc z && mE N sc a x
  | .call f es, .Call (.Name y _) xs [] _ => decide (y = f.name) && isGl sc y && !odd y && mEs N sc es xs
  | .callP f es, .Call (.Name y _) xs [] _ => decide (y = f.name) && isGl sc y && !odd y && mEs N sc es xs
  | .callB f es, .Call (.Name y _) xs [] _ => decide (y = f.name) && isGl sc y && !odd y && mEs N sc es xs
  | .alloc e, x => mE N sc e x
  | .allocL es, .List xs _ => mEs N sc es xs
  | .attr _ a f, .Attribute x g _ => decide (f = g) && isRcv x && mE N sc a x
  | .meth _ f a es, .Call (.Attribute x g ap) xs [] pos => decide (g = f.name) && isRcv x && (ap.endLine == pos.line) && decide (xs.length < 30) && mE N sc a x && mEs N sc es xs
  | .new c _ es, .Call (.Name y _) xs [] _ => decide (y = c) && isGl sc y && !odd y && mEs N sc es xs
  | .srt true a, .Call (.Name y _) [.Call (.Name z _) [x] [] _] [] _ => decide (y = sSorted) && isGl sc y && decide (z = sSet) && isGl sc z && mE N sc a x
  | .srt false a, .Call (.Name y _) [x] [] _ => decide (y = sSorted) && isGl sc y && mE N sc a x
  | .str1 a, .Call (.Name y _) [x] [] _ => decide (y = sStrN) && isGl sc y && mE N sc a x
  | .join s a, .Call (.Attribute (.Constant (.str z) _ _) m ap) [x] [] cp => decide (s = z) && decide (m = sJoin) && (ap.endLine == cp.line) && mE N sc a x
  | .comp e tg it c, .ListComp x [⟨t, i, ifs, k⟩] s2 _ => decide (k = 0) && mE N (relS s2 sc) e x && mTg N s2 tg t && mI N sc it i && mC N (relS s2 sc) c ifs && blkC N sc s2 ((tgNames t).zip tg) && decide ((tgNames t).length = tg.length)
  | _, _ => false
def mEs (N : List Str) (sc : Scope) : Es → List Expr → Bool
  | .nil, [] => true
  | .cons e es, x :: xs => mE N sc e x && mEs N sc es xs
  | _, _ => false
def mP (N : List Str) (sc : Scope) : Es → Option Expr → Bool
  | .nil, none => true
  | .cons e .nil, some x => mE N sc e x
  | _, _ => false
def mC (N : List Str) (sc : Scope) : Es → List Expr → Bool
  | .nil, [] => true
  | .cons e .nil, [x] => mE N sc e x && !isIf x
  | _, _ => false
def mI (N : List Str) (sc : Scope) : I → Expr → Bool
  | .seq e, x => mE N sc e x
  | .range1 e, .Call (.Name r _) [y] [] _ => decide (r = sRange) && isGl sc r && mE N sc e y
  | .range2 a b, .Call (.Name r _) [x, y] [] _ => decide (r = sRange) && isGl sc r && mE N sc a x && mE N sc b y
  | _, _ => false
end
def isComp : Expr → Bool
  | .ListComp _ _ _ _ => true
  | .SetComp _ _ _ _ => true
  | .DictComp _ _ _ _ _ => true
  | _ => false
def isTup : Expr → Bool
  | .Tuple _ _ _ => true
  | _ => false
mutual
def mS (N : List Str) (sc : Scope) : S → Stmt → Bool
  | .set i e, .Assign [.Name y _] x _ => isNm N i y && isLoc sc y && !isComp x && mE N sc e x
  | .setC i e tg it c, .Assign [.Name y p] (.ListComp x [⟨t, i', ifs, k⟩] s2 p2) _ => isNm N i y && decide (sc.names.lookup y = some .local) && (p.line == p2.line) && !(s2.names.any fun nk => nk.1 == y && (nk.2 == .local || nk.2 == .cell)) &&
      (decide (k = 0) && mE N (relS s2 sc) e x && mTg N s2 tg t && mI N sc it i' && mC N (relS s2 sc) c ifs && blkC N sc s2 ((tgNames t).zip tg) && decide ((tgNames t).length = tg.length))
  | .setT tg e, .Assign [.Tuple es k p] x _ => mTg N sc tg (.Tuple es k p) && mE N sc e x && !isComp x && !isTup x
  | .setIx i ix e, .Assign [.Subscript (.Name y _) z _] x _ => isNm N i y && isVis sc y && !odd y && mE N sc ix z && mE N sc e x && !isComp x
  | .pop0 i, .Expr (.Call (.Attribute (.Name y _) m ap) [.Constant (.int j) _ _] [] cp) _ => decide (j = 0) && isNm N i y && isVis sc y && !odd y && decide (m = sPop) && (ap.endLine == cp.line)
  | .append i e, .Expr (.Call (.Attribute (.Name y _) m ap) [x] [] cp) _ => isNm N i y && isVis sc y && !odd y && decide (m = sAppend) && (ap.endLine == cp.line) && mE N sc e x
  | .setAttr _ o f e, .Assign [.Attribute x g _] y _ => decide (f = g) && isRcv x && mE N sc o x && mE N sc e y
  | .setIxE o ix e, .Assign [.Subscript x z _] y _ => mE N sc o x && mE N sc ix z && mE N sc e y && !isComp y
  | .appendE o e, .Expr (.Call (.Attribute x m ap) [y] [] cp) _ => isRcv x && decide (m = sAppend) && (ap.endLine == cp.line) && mE N sc o x && mE N sc e y
  | .never, _ => true
  | .expr e, .Expr x _ => mE N sc e x && !isComp x
  | .ite c a b, .If x p q _ => mE N sc c x && !isIf x && mSs N sc a p && mSs N sc b q
  | .for_ tg it b, .For t i p [] _ => mTg N sc tg t && mI N sc it i && mSs N sc b p
  | .whil c b, .While x p [] _ => mE N sc c x && !isIf x && mSs N sc b p
  | .ret e, .Return (some x) _ => mE N sc e x
  | .pass, .Pass _ => true
  | .brk, .Break _ => true
  | .cont, .Continue _ => true
  | _, _ => false
def mSs (N : List Str) (sc : Scope) : Ss → List Stmt → Bool
  | .nil, [] => true
  | .cons s ss, x :: xs => mS N sc s x && mSs N sc ss xs
  | _, _ => false
end
end Sv

/-! Sv: readings by the small interpreter, and the steps that they share. -/
namespace Sv
open PySem L2

theorem PE.imp {X : Cx} {x : Expr} {t t' : TE} (h : PE X x t) (i : ∀ σ H Q, t' σ H Q → t σ H Q) : PE X x t' := ⟨fun pins s σ H Q I q => h.run pins s σ H Q I (i σ H Q q)⟩
theorem PT.imp {X : Cx} {x : Expr} {t t' : TT} (h : PT X x t) (i : ∀ σ H Q, t' σ H Q → t σ H Q) : PT X x t' := ⟨fun pins s σ H Q I q => h.run pins s σ H Q I (i σ H Q q)⟩
theorem PA.imp {X : Cx} {x : List Expr} {t t' : TA} (h : PA X x t) (i : ∀ σ H Q, t' σ H Q → t σ H Q) : PA X x t' := ⟨fun pos pins s σ H Q I q => h.run pos pins s σ H Q I (i σ H Q q)⟩
theorem PO.imp {X : Cx} {x : Option Expr} {t t' : TO} (h : PO X x t) (i : ∀ σ H Q, t' σ H Q → t σ H Q) : PO X x t' := ⟨fun pins s σ H Q I q => h.run pins s σ H Q I (i σ H Q q)⟩
theorem PI.imp {X : Cx} {tg x : Expr} {t t' : TI} (h : PI X tg x t) (i : ∀ σ H R, t' σ H R → t σ H R) : PI X tg x t' := ⟨fun pins s σ H R I q => h.run pins s σ H R I (i σ H R q)⟩
theorem PG.imp {X : Cx} {x : Expr} {t t' : TG} (h : PG X x t) (i : ∀ v σ H Q, t' v σ H Q → t v σ H Q) : PG X x t' := ⟨fun pins s σ H v u Q I r q => h.run pins s σ H v u Q I r (i v σ H Q q)⟩
theorem PS.imp {X : Cx} {x : Stmt} {t t' : TS} (h : PS X x t) (i : ∀ D σ H, t' D σ H → t D σ H) : PS X x t' := ⟨fun pins s σ H D I q => h.run pins s σ H D I (i D σ H q)⟩
theorem PSs.imp {X : Cx} {x : List Stmt} {t t' : TS} (h : PSs X x t) (i : ∀ D σ H, t' D σ H → t D σ H) : PSs X x t' := ⟨fun pins s σ H D I q => h.run pins s σ H D I (i D σ H q)⟩

section
variable (K : PySem.W.Frag) (mg : Str → Option Value) (F : Fr)
/-- an expression: the state, the small interpreter's answer, what is wanted of it -/
def tE (b : Bool) (sem : MS → Option (RV × MS)) : TE := fun σ H Q => ∃ g ms rv ms', Rel K mg F g ms σ H ∧ sem ms = some (rv, ms') ∧
  ∀ g' v H', Rel K mg F g' ms' σ H' → Ext g H g' H' → RVR K F g' H H' b v rv → Q v H'
def tT (sem : MS → Option (RV × MS)) : TT := fun σ H Q => ∃ g ms c ms', Rel K mg F g ms σ H ∧ sem ms = some (.av (.dat (.bool c)), ms') ∧
  ∀ g' H', Rel K mg F g' ms' σ H' → Ext g H g' H' → Q c H'
def tA (sem : MS → Option (List AV × MS)) : TA := fun σ H Q => ∃ g ms vs ms', Rel K mg F g ms σ H ∧ sem ms = some (vs, ms') ∧
  ∀ g' ws H', Rel K mg F g' ms' σ H' → Ext g H g' H' → AVRs K g' H' ws vs → Q ws H'
/-- arguments that are only looked at: B the lists among them that somebody may change later -/
def tBA (sem : MS → Option (List AV × MS)) : TA := fun σ H Q => ∃ g ms vs ms', Rel K mg F g ms σ H ∧ sem ms = some (vs, ms') ∧
  ∀ g' (B : Addr → Prop) ws H', Rel K mg F g' ms' σ H' → Ext g H g' H' → (∀ a, B a → a ∉ g'.io ∧ ∃ vs, H' a = some (.lst vs)) → AVRs K { g' with Z := fun a => g'.Z a ∨ B a } H' ws vs → Q ws H'
def tP (sem : MS → Option (Option Int × MS)) : TO := fun σ H Q => ∃ g ms o ms', Rel K mg F g ms σ H ∧ sem ms = some (o, ms') ∧
  ∀ g' H', Rel K mg F g' ms' σ H' → Ext g H g' H' → Q o H'
def tC' (sem : MS → Option (Bool × MS)) : TT := fun σ H Q => ∃ g ms c ms', Rel K mg F g ms σ H ∧ sem ms = some (c, ms') ∧
  ∀ g' H', Rel K mg F g' ms' σ H' → Ext g H g' H' → Q c H'
/-- what is wanted behind a statement -/
def after (D : Ends) (g' : G) (H' : Hp) (σ' : St) : Out → Prop
  | .nx => D.nx σ' H'
  | .rt rv => ∀ v, RVR K F g' H' H' true v rv → D.rt v H'
  | .bk => D.bk σ' H'
  | .ct => D.ct σ' H'
def tX (sem : MS → Option (Out × MS)) : TS := fun D σ H => ∃ g ms o ms', Rel K mg F g ms σ H ∧ sem ms = some (o, ms') ∧
  ∀ g' σ' H', Rel K mg F g' ms' σ' H' → ExtS g H g' H' → after K F D g' H' σ' o
end

/-- the built-in names that the walk leans on: nobody has bound them -/
def freeNames : List Str := [sLen, sInt, sAbs, sSum, sTuple, sList, sAll, sRange, sIsi, sBool, sStr, sSorted, sSet]
structure OkX (X : Cx) : Prop where
  calm : X.calm = true
  nd : X.N.Nodup
  room : Room 0 X.A
  free : ∀ n ∈ freeNames, X.mg n = none

section
variable {K : PySem.W.Frag} {mg : Str → Option Value} {F : Fr} {g g' : G} {ms ms' : MS} {σ : St} {H H' : Hp}
theorem RVR.up {S : Hp} {b : Bool} {v : V} {x : RV} (h : RVR K F g S H false v x) : RVR K F g S H b v x := by
  cases h with
  | av h => exact .av h
  | lst h1 h2 h3 h4 h5 h6 => exact .lst h1 h2 h3 h4 h5 fun _ => h6 rfl
/-- a result taken as a value: a new list is from now on one that no longer changes -/
theorem RVR.val {g0 : G} {S : Hp} {v : V} {x : RV} (R : Rel K mg F g ms σ H) (e : Ext g0 S g H) (h : RVR K F g S H false v x) : ∃ g', Rel K mg F g' ms σ H ∧ Ext g0 S g' H ∧ Ext0 g H g' H ∧ AVR K g' H v x.val := by
  cases h with
  | av h => exact ⟨g, R, e, Ext.refl.toExt0, h⟩
  | lst h1 h2 h3 h4 h5 h6 =>
    obtain ⟨R', x⟩ := R.freeze h1 h3 h5 (h6 rfl).2
    exact ⟨_, R', e.frz (.inl (h6 rfl).1), x, .dat (.lst h1 (.inr rfl) (R.hr.dzs x h2))⟩
theorem AVR.d?_dz {v : V} {x : RV} {d : PyData} (h' : AVR K g H v x.val) (e : x.d? = some d) : Dz K g.Z H v d := by
  cases x with
  | av x =>
    cases h' with
    | dat h' => simp [RV.d?] at e; subst e; exact h'
    | _ => simp [RV.d?] at e
  | lst xs =>
    simp [RV.d?] at e; subst e
    cases h' with
    | dat h' => exact h'

/-! ### slots -/
theorem Rel.setAv (R : Rel K mg F g ms σ H) {i : Nat} (hi : i < ms.rho.length) {x : V} {v : AV} (h : AVR K g H x v) :
    Rel K mg F { g with oa := fun j => if j = i then none else g.oa j } { ms with rho := ms.rho.set i (.av v) } (σ.set i (some x)) H := by
  have e : Ext0 g H { g with oa := fun j => if j = i then none else g.oa j } H := ⟨fun _ _ _ h => h, fun _ h => h, ⟨[], by simp, by simp⟩, fun _ o h => ⟨o, h⟩⟩
  refine ⟨⟨R.hr.hl, R.hr.nd, fun j a o h1 h2 => (R.hr.ho j a o h1 h2).ext R.hr e fun _ h => h, R.hr.nz, R.hr.zt⟩, by simp [R.len], fun j w hj => ?_, fun j xs hj => ?_, fun j a hj => ?_, fun j k a hj hk => ?_, ⟨R.fr.io, R.fr.z, R.fr.zz, R.fr.keep, R.fr.th⟩⟩
  · by_cases hji : j = i
    · subst hji
      rw [List.getElem?_set_self hi] at hj
      cases hj
      exact ⟨x, List.getElem?_set_self (by rw [R.len]; exact hi), R.hr.avr e h⟩
    · rw [List.getElem?_set_ne (Ne.symm hji)] at hj
      obtain ⟨y, h1, h2⟩ := R.av j w hj
      exact ⟨y, by rw [List.getElem?_set_ne (Ne.symm hji)]; exact h1, R.hr.avr e h2⟩
  · by_cases hji : j = i
    · subst hji
      rw [List.getElem?_set_self hi] at hj
      cases hj
    · rw [List.getElem?_set_ne (Ne.symm hji)] at hj
      obtain ⟨a, vs, h1, h2, h3, h4⟩ := R.own j xs hj
      exact ⟨a, vs, by simp [hji, h1], by rw [List.getElem?_set_ne (Ne.symm hji)]; exact h2, h3, R.hr.dzs e h4⟩
  · by_cases hji : j = i
    · simp [hji] at hj
    · simp [hji] at hj
      exact R.oaf j a hj
  · by_cases hji : j = i
    · simp [hji] at hj
    · by_cases hki : k = i
      · simp [hki] at hk
      · simp [hji] at hj
        simp [hki] at hk
        exact R.inj j k a hj hk
theorem Rel.setOwn (R : Rel K mg F g ms σ H) {i : Nat} (hi : i < ms.rho.length) {a : Addr} {vs : List V} {xs : List PyData} (h1 : H a = some (.lst vs)) (h2 : Dzs K g.Z H vs xs) (h3 : a ∉ g.io) (h4 : ¬ g.Z a) (h5 : F.H a = none) (h6 : ∀ j, j ≠ i → g.oa j ≠ some a) :
    Rel K mg F { g with oa := fun j => if j = i then some a else g.oa j } { ms with rho := ms.rho.set i (.own xs) } (σ.set i (some (.ref a))) H := by
  have e : Ext0 g H { g with oa := fun j => if j = i then some a else g.oa j } H := ⟨fun _ _ _ h => h, fun _ h => h, ⟨[], by simp, by simp⟩, fun _ o h => ⟨o, h⟩⟩
  refine ⟨⟨R.hr.hl, R.hr.nd, fun j a o h1 h2 => (R.hr.ho j a o h1 h2).ext R.hr e fun _ h => h, R.hr.nz, R.hr.zt⟩, by simp [R.len], fun j w hj => ?_, fun j xs hj => ?_, fun j b hj => ?_, fun j k b hj hk => ?_, ⟨R.fr.io, R.fr.z, R.fr.zz, R.fr.keep, R.fr.th⟩⟩
  · by_cases hji : j = i
    · subst hji
      rw [List.getElem?_set_self hi] at hj
      cases hj
    · rw [List.getElem?_set_ne (Ne.symm hji)] at hj
      obtain ⟨y, h1, h2⟩ := R.av j w hj
      exact ⟨y, by rw [List.getElem?_set_ne (Ne.symm hji)]; exact h1, R.hr.avr e h2⟩
  · by_cases hji : j = i
    · subst hji
      rw [List.getElem?_set_self hi] at hj
      cases hj
      exact ⟨a, vs, by simp, List.getElem?_set_self (by rw [R.len]; exact hi), h1, R.hr.dzs e h2⟩
    · rw [List.getElem?_set_ne (Ne.symm hji)] at hj
      obtain ⟨b, ws, q1, q2, q3, q4⟩ := R.own j xs hj
      exact ⟨b, ws, by simp [hji, q1], by rw [List.getElem?_set_ne (Ne.symm hji)]; exact q2, q3, R.hr.dzs e q4⟩
  · by_cases hji : j = i
    · simp [hji] at hj
      subst hj
      exact ⟨h4, h3, h5, _, h1⟩
    · simp [hji] at hj
      exact R.oaf j b hj
  · by_cases hji : j = i
    · simp [hji] at hj
      subst hj
      by_cases hki : k = i
      · rw [hji, hki]
      · simp [hki] at hk
        exact absurd hk (h6 k hki)
    · simp [hji] at hj
      by_cases hki : k = i
      · simp [hki] at hk
        subst hk
        exact absurd hj (h6 j hji)
      · simp [hki] at hk
        exact R.inj j k b hj hk
/-- an own list of a slot no longer changes -/
theorem Rel.freezeOwn (R : Rel K mg F g ms σ H) {i : Nat} {xs : List PyData} (h : ms.rho[i]? = some (.own xs)) :
    ∃ g' a, Rel K mg F g' { ms with rho := ms.rho.set i (.av (.dat (.list xs))) } σ H ∧ Ext g H g' H ∧ σ[i]? = some (some (.ref a)) ∧ Dz K g'.Z H (.ref a) (.list xs) := by
  obtain ⟨a, vs, h1, h2, h3, h4⟩ := R.own i xs h
  obtain ⟨q1, q2, q3, q4⟩ := R.oaf i a h1
  have hi : i < ms.rho.length := (List.getElem?_eq_some_iff.mp h).1
  -- the slot forgets its own list, then the list is one that no longer changes
  have R1 : Rel K mg F { g with oa := fun j => if j = i then none else g.oa j } { ms with rho := ms.rho.set i .emp } σ H := by
    have e : Ext0 g H { g with oa := fun j => if j = i then none else g.oa j } H := ⟨fun _ _ _ h => h, fun _ h => h, ⟨[], by simp, by simp⟩, fun _ o h => ⟨o, h⟩⟩
    refine ⟨⟨R.hr.hl, R.hr.nd, fun j a o h1 h2 => (R.hr.ho j a o h1 h2).ext R.hr e fun _ h => h, R.hr.nz, R.hr.zt⟩, by simp [R.len], fun j w hj => ?_, fun j ys hj => ?_, fun j b hj => ?_, fun j k b hj hk => ?_, ⟨R.fr.io, R.fr.z, R.fr.zz, R.fr.keep, R.fr.th⟩⟩
    · by_cases hji : j = i
      · subst hji
        rw [List.getElem?_set_self hi] at hj
        cases hj
      · rw [List.getElem?_set_ne (Ne.symm hji)] at hj
        obtain ⟨y, h1, h2⟩ := R.av j w hj
        exact ⟨y, h1, R.hr.avr e h2⟩
    · by_cases hji : j = i
      · subst hji
        rw [List.getElem?_set_self hi] at hj
        cases hj
      · rw [List.getElem?_set_ne (Ne.symm hji)] at hj
        obtain ⟨b, ws, p1, p2, p3, p4⟩ := R.own j ys hj
        exact ⟨b, ws, by simp [hji, p1], p2, p3, R.hr.dzs e p4⟩
    · by_cases hji : j = i
      · simp [hji] at hj
      · simp [hji] at hj
        exact R.oaf j b hj
    · by_cases hji : j = i
      · simp [hji] at hj
      · by_cases hki : k = i
        · simp [hki] at hk
        · simp [hji] at hj
          simp [hki] at hk
          exact R.inj j k b hj hk
  have ho : ∀ j, (if j = i then none else g.oa j) ≠ some a := fun j z => by
    by_cases hji : j = i
    · simp [hji] at z
    · simp [hji] at z
      exact hji (R.inj j i a z h1)
  obtain ⟨R2, e2⟩ := R1.freeze h3 q2 q3 ho
  have e : Ext0 g H { io := g.io, Z := fun b => g.Z b ∨ b = a, oa := fun j => if j = i then none else g.oa j } H := ⟨fun _ _ _ h => h, fun _ h => .inl h, ⟨[], by simp, by simp⟩, fun _ o h => ⟨o, h⟩⟩
  have D : Dz K (fun b => g.Z b ∨ b = a) H (.ref a) (.list xs) := .lst h3 (.inr rfl) (R.hr.dzs e h4)
  have R3 := R2.setAv (i := i) (by simpa using hi) (.dat D)
  refine ⟨⟨g.io, fun b => g.Z b ∨ b = a, fun j => if j = i then none else (if j = i then none else g.oa j)⟩, a, ?_, ?_, h2, D⟩
  · have z1 : ((ms.rho.set i Slot.emp).set i (.av (.dat (.list xs)))) = ms.rho.set i (.av (.dat (.list xs))) := by simp
    have z2 : σ.set i (some (.ref a)) = σ := by
      apply List.ext_getElem?
      intro j
      by_cases hji : j = i
      · subst hji
        rw [List.getElem?_set_self (by rw [R.len]; exact hi), h2]
      · rw [List.getElem?_set_ne (Ne.symm hji)]
    have R4 := R3
    simp only [z1, z2] at R4
    exact R4
  · refine ⟨⟨fun _ _ _ h => h, fun _ h => .inl h, ⟨[], by simp, by simp⟩, fun _ o h => ⟨o, h⟩⟩, fun b z => ?_, fun j b z => ?_⟩
    · rcases z with z | rfl
      · exact .inl z
      · exact .inr (.inr ⟨i, h1⟩)
    · by_cases hji : j = i
      · simp [hji] at z
      · simp [hji] at z
        exact .inl ⟨j, z⟩
end
end Sv

/-! Sv: what the operators do, by values. -/
namespace Sv
open PySem PySem.Spec PyProof.Rows L2

/-! ### tuple * int, once or not at all -/
theorem tup_mul1 (l : Addr) (items : Array Value) (n : Nat) (dd : Option Addr) (sl : Array (Option Value)) (u : Tok) :
    Meets (Builtin.«tuple.__mul__» ⟨[.ref l, .int 1 u], []⟩) (fun _ R s => s.heap.get? l = some { cls := .type "tuple", dict := dd, data := .seq items n, slots := sl } ∧ R (.ok (.ret (Value.ref l))) s) :=
  .of_wp fun prog w A R s h => by
    obtain ⟨hp, g, d, tk, os⟩ := s
    obtain ⟨hl, h⟩ := h
    have f1 := AutoSeq1.idx_int
    have c1 : (items.isEmpty || (1 : Int) == 1) = true := by simp
    have c0 : (decide ((1 : Int) < -(2 ^ 63)) || decide ((1 : Int) ≥ 2 ^ 63)) = false := by decide
    wp_walk using AutoSeq1.wpAny_loadPart' hl
    repeat (first
      | (refine wpAny_ite_false (decide_eq_false (by rw [c0]; exact Bool.false_ne_true)) ?_; wp_walk using AutoSeq1.wpAny_loadPart' hl)
      | (refine wpAny_ite_true (decide_eq_true (by rw [c1])) ?_; wp_walk using AutoSeq1.wpAny_loadPart' hl))
    exact ⟨_, rfl, h⟩
theorem tup_mul0 (l : Addr) (items : Array Value) (n : Nat) (dd : Option Addr) (sl : Array (Option Value)) (x : Int) (u : Tok) (c0 : (decide (x < -(2 ^ 63)) || decide (x ≥ 2 ^ 63)) = false) (c1 : (items.isEmpty || x == 1) = false) (c2 : (decide (x ≤ 0) || items.isEmpty) = true) :
    Meets (Builtin.«tuple.__mul__» ⟨[.ref l, .int x u], []⟩) (fun _ R s => s.heap.get? l = some { cls := .type "tuple", dict := dd, data := .seq items n, slots := sl } ∧ R (.ok (.ret (Value.ref s.heap.objs.size))) { s with heap := s.heap.push { cls := Value.type "tuple", data := Data.seq #[] }, toks := s.toks }) :=
  .of_wp fun prog w A R s h => by
    obtain ⟨hp, g, d, tk, os⟩ := s
    obtain ⟨hl, h⟩ := h
    have f1 := AutoSeq1.idx_int
    wp_walk using AutoSeq1.wpAny_loadPart' hl
    repeat (first
      | (refine wpAny_ite_false (decide_eq_false (by rw [c0]; exact Bool.false_ne_true)) ?_; wp_walk using AutoSeq1.wpAny_loadPart' hl)
      | (refine wpAny_ite_false (decide_eq_false (by rw [c1]; exact Bool.false_ne_true)) ?_; wp_walk using AutoSeq1.wpAny_loadPart' hl)
      | (refine wpAny_ite_true (decide_eq_true (by rw [c2])) ?_; wp_walk using AutoSeq1.wpAny_loadPart' hl))
    exact ⟨_, rfl, h⟩
end Sv
namespace Sv
open PySem PySem.Spec PyProof.Rows L2
section
variable {X : Cx}
def rMulT (K : PySem.W.Frag) : R2 := fun x y H Q => ∃ l k xs, x = .ref l ∧ y = .int k ∧ SqT K H l xs ∧ xs ≠ [] ∧ -1000 ≤ k ∧ k ≤ 1000 ∧ xs.length ≤ 1000 ∧
  (k = 1 → Q (.ref l) H) ∧ (k ≠ 1 → ∀ p, H p = none → Q (.ref p) (upd H p (.tup (List.replicate k.toNat xs).flatten)))
theorem op_mulT : OpR X (binaryOp .Mult) (rMulT X.K) := by
  intro pins s σ H x y v u Q I rx ry h
  obtain ⟨l, k, xs, rfl, rfl, hT, hne, h1, h2, hz, q1, q2⟩ := h
  by_cases hk : 2 ≤ k
  · exact op_repT pins s σ H _ _ v u Q I rx ry ⟨l, k, xs, rfl, rfl, hT, hne, hk, h2, hz, q2 (by omega)⟩
  cases rx
  obtain ⟨t, rfl⟩ := ry
  obtain ⟨its, r, ⟨⟨cls, dd, data, sl⟩, ho, hc, n, hd⟩, hs⟩ := I.tuple hT
  simp only at hc hd
  subst hc hd
  have hle : its.length = xs.length := r.length.symm
  have hi : its.toArray.isEmpty = false := by
    cases its with
    | nil => exact absurd (List.eq_nil_of_length_eq_zero (by simpa using hle.symm)) hne
    | cons a b => rfl
  have c0 : (decide (k < -(2 ^ 63)) || decide (k ≥ 2 ^ 63)) = false := by
    rw [decide_eq_false (by omega), decide_eq_false (by omega)] <;> rfl
  by_cases hk1 : k = 1
  · subst hk1
    refine wpAny_binaryOp_repeat_ref (T := "tuple") (U := "int") (by decide) ⟨_, ho, rfl⟩ (fun s' => typeIs_int s' 1 t) noFill_tuple_mul F.fills_int_mul F.slot_int_rmul repeat_tuple F.slot_int_index.lookup
      (call_meets F.slot_int_rmul (typeIs_int s 1 t) F.entry_int_rmul (F.args_int_rmul_2 _ _) (int_rmul_tuple 1 t l its.toArray n dd sl)
        ⟨ho, rfl, ⟨_, ho, rfl⟩, call_meets F.slot_tuple_mul ⟨_, ho, rfl⟩ F.entry_tuple_mul (F.args_tuple_mul_2 _ _) (tup_mul1 l its.toArray n dd sl t) ⟨ho, ?_⟩⟩)
    exact ⟨.ref l, H, I, rfl, q1 rfl⟩
  · have c1 : (its.toArray.isEmpty || k == 1) = false := by
      rw [hi, Bool.false_or]
      exact beq_eq_false_iff_ne.mpr hk1
    have c2 : (decide (k ≤ 0) || its.toArray.isEmpty) = true := by
      rw [decide_eq_true (by omega)] <;> rfl
    refine wpAny_binaryOp_repeat_ref (T := "tuple") (U := "int") (by decide) ⟨_, ho, rfl⟩ (fun s' => typeIs_int s' k t) noFill_tuple_mul F.fills_int_mul F.slot_int_rmul repeat_tuple F.slot_int_index.lookup
      (call_meets F.slot_int_rmul (typeIs_int s k t) F.entry_int_rmul (F.args_int_rmul_2 _ _) (int_rmul_tuple k t l its.toArray n dd sl)
        ⟨ho, rfl, ⟨_, ho, rfl⟩, call_meets F.slot_tuple_mul ⟨_, ho, rfl⟩ F.entry_tuple_mul (F.args_tuple_mul_2 _ _) (tup_mul0 l its.toArray n dd sl k t c0 c1 c2) ⟨ho, ?_⟩⟩)
    have e0 : k.toNat = 0 := by omega
    refine ⟨.ref s.heap.objs.size, _, I.laid (t' := s.toks) (o := .tup (List.replicate k.toNat xs).flatten) (fun b ob q => Heap.get?_push_of_some _ q) (Nat.le_refl _) ?_, rfl, q2 hk1 _ (I.hok.fresh (Nat.le_refl _))⟩
    rw [e0]
    exact ⟨by simp, [], by simp; exact .nil, IsTup.new _ _⟩
end
end Sv

namespace Sv
open PySem PySem.Spec PyProof.Rows L2
theorem line_eq : sizeLine = LINE := sizeLine_eq
/-! ### the operators on the small interpreter's values -/
def bop : BinO → Operator
  | .add => .Add
  | .sub => .Sub
  | .mul => .Mult
  | .fdiv => .FloorDiv
  | .mod => .Mod
def cop : CmpO → CmpOp
  | .eq => .Eq
  | .ne => .NotEq
  | .lt => .Lt
  | .le => .LtE
  | .gt => .Gt
  | .ge => .GtE
section
variable {K : PySem.W.Frag} {mg : Str → Option Value} {F : Fr} {g : G} {ms : MS} {σ : L2.St} {H : Hp}
theorem LR.int {v : V} {i : Int} (h : LR K g H v (.av (.dat (.int i)))) : v = .int i := by
  cases h with
  | av h => cases h with
    | dat h => cases h; rfl
theorem LR.bl {v : V} {i : Bool} (h : LR K g H v (.av (.dat (.bool i)))) : v = .bl i := by
  cases h with
  | av h => cases h with
    | dat h => cases h; rfl
theorem LR.str {v : V} {i : Str} (h : LR K g H v (.av (.dat (.str i)))) : v = .str i := by
  cases h with
  | av h => cases h with
    | dat h => cases h; rfl
theorem LR.tup {v : V} {xs : List PyData} (h : LR K g H v (.av (.dat (.tuple xs)))) : ∃ a vs, v = .ref a ∧ SqT K H a vs ∧ Dzs K g.Z H vs xs := by
  cases h with
  | av h => cases h with
    | dat h => cases h with
      | tup h q => exact ⟨_, _, rfl, h, q⟩
theorem LR.list {v : V} {x : RV} {xs : List PyData} (h : LR K g H v x) (e : x.d? = some (.list xs)) : ∃ a vs, v = .ref a ∧ H a = some (.lst vs) ∧ Dzs K g.Z H vs xs := by
  cases h with
  | av h =>
    cases h with
    | dat h =>
      simp [RV.d?] at e
      subst e
      cases h with
      | lst h z q => exact ⟨_, _, rfl, h, q⟩
    | _ => simp [RV.d?] at e
  | lst h q hi =>
    simp [RV.d?] at e
    subst e
    exact ⟨_, _, rfl, h, q⟩
theorem LR.tuple {v : V} {x : RV} {xs : List PyData} (h : LR K g H v x) (e : x.d? = some (.tuple xs)) : ∃ a vs, v = .ref a ∧ SqT K H a vs ∧ Dzs K g.Z H vs xs := by
  cases x with
  | av x =>
    cases x with
    | dat d => simp [RV.d?] at e; subst e; exact h.tup
    | _ => simp [RV.d?] at e
  | lst xs => simp [RV.d?] at e
end
/-- what an operation on values asks: its answer z, laid behind -/
def rV (K : PySem.W.Frag) (mg : Str → Option Value) (F : Fr) (op : List AO → RV → RV → Option RV) : R2 := fun v w H Q => ∃ g ms σ x y z, Rel K mg F g ms σ H ∧ LR K g H v x ∧ LR K g H w y ∧ op ms.hp x y = some z ∧
  ∀ v' H', (∀ a o, H a = some o → H' a = some o) → RVR K F g H H' false v' z → Q v' H'
section
variable {X : Cx} {mg : Str → Option Value} {F : Fr}
theorem rvr_int {g : G} {S H : Hp} {K : PySem.W.Frag} {b : Bool} (i : Int) : RVR K F g S H b (.int i) (intV i) := .av (.dat (.int i))
theorem rvr_bl {g : G} {S H : Hp} {K : PySem.W.Frag} {b : Bool} (i : Bool) : RVR K F g S H b (.bl i) (blV i) := .av (.dat (.bl i))
theorem bin_int {o : BinO} {a b : Int} {z : RV} (h : binV o (.av (.dat (.int a))) (.av (.dat (.int b))) = some z) :
    (o = .add ∧ z = intV (a + b)) ∨ (o = .sub ∧ z = intV (a - b)) ∨ (o = .mul ∧ ((-B64 < a ∧ a < B64) ∨ (-B64 < b ∧ b < B64)) ∧ z = intV (a * b)) ∨ (o = .fdiv ∧ (0 < b ∧ b < B30) ∧ z = intV (a / b)) ∨ (o = .mod ∧ 0 < b ∧ z = intV (a % b)) := by
  cases o with
  | add => simp [binV] at h; exact .inl ⟨rfl, h.symm⟩
  | sub => simp [binV] at h; exact .inr (.inl ⟨rfl, h.symm⟩)
  | mul =>
    simp only [binV] at h
    split at h
    · rename_i c; cases h; exact .inr (.inr (.inl ⟨rfl, c, rfl⟩))
    · cases h
  | fdiv =>
    simp only [binV] at h
    split at h
    · rename_i c; cases h; exact .inr (.inr (.inr (.inl ⟨rfl, c, rfl⟩)))
    · cases h
  | mod =>
    simp only [binV] at h
    split at h
    · rename_i c; cases h; exact .inr (.inr (.inr (.inr ⟨rfl, c, rfl⟩)))
    · cases h
/-- what a binary operator's answer is made of -/
inductive BinC : BinO → RV → RV → RV → Prop
  | int {o : BinO} {a b : Int} {z : RV} : binV o (.av (.dat (.int a))) (.av (.dat (.int b))) = some z → BinC o (.av (.dat (.int a))) (.av (.dat (.int b))) z
  | str {x y : Str} : x.length + y.length ≤ LINE → BinC .add (.av (.dat (.str x))) (.av (.dat (.str y))) (.av (.dat (.str (x ++ y))))
  | tup {xs ys : List PyData} : xs.length + ys.length ≤ LINE → BinC .add (.av (.dat (.tuple xs))) (.av (.dat (.tuple ys))) (.av (.dat (.tuple (xs ++ ys))))
  | tupm {xs : List PyData} {k : Int} : xs ≠ [] → -1000 ≤ k → k ≤ 1000 → xs.length ≤ 1000 → BinC .mul (.av (.dat (.tuple xs))) (.av (.dat (.int k))) (.av (.dat (.tuple (List.replicate k.toNat xs).flatten)))
  | lst {a b : RV} {xs ys : List PyData} : a.d? = some (.list xs) → b.d? = some (.list ys) → xs.length + ys.length ≤ LINE → BinC .add a b (.lst (xs ++ ys))
  | lstm {a : RV} {xs : List PyData} {k : Int} : a.d? = some (.list xs) → -B63 ≤ k → k < B63 → xs.length * k.toNat ≤ LINE → BinC .mul a (.av (.dat (.int k))) (.lst (List.replicate k.toNat xs).flatten)
theorem bin_cases {o : BinO} {x y z : RV} (h : binV o x y = some z) : BinC o x y z := by
  unfold binV at h
  split at h
  case h_1 => exact .int (by simpa [binV] using h)
  case h_2 => exact .int (by simpa [binV] using h)
  case h_3 => exact .int (by simpa [binV] using h)
  case h_4 => exact .int (by simpa [binV] using h)
  case h_5 => exact .int (by simpa [binV] using h)
  case h_6 =>
    split at h
    · rename_i c; cases h; exact .str c
    · cases h
  case h_7 =>
    split at h
    · rename_i c; cases h; exact .tup c
    · cases h
  case h_8 =>
    split at h
    · rename_i c; cases h; exact .tupm c.1 c.2.1 c.2.2.1 c.2.2.2
    · cases h
  case h_9 =>
    split at h
    · rename_i xs ys e1 e2
      split at h
      · rename_i c; cases h; exact .lst e1 e2 c
      · cases h
    · cases h
  case h_10 =>
    split at h
    · rename_i xs e1
      split at h
      · rename_i c; cases h; exact .lstm e1 c.1 c.2.1 c.2.2
      · cases h
    · cases h
  case h_11 => cases h
theorem op_bin (o : BinO) : OpR X (binaryOp (bop o)) (rV X.K mg F fun _ x y => binV o x y) := by
  intro pins s σ H v w v' w' Q I rv rw' h
  obtain ⟨g, ms, σ', x, y, z, R, lv, lw, e, k⟩ := h
  have C := bin_cases e
  cases C with
  | @int _ a b z e2 =>
    have ev := lv.int
    have ew := lw.int
    subst ev ew
    rcases bin_int e2 with ⟨rfl, rfl⟩ | ⟨rfl, rfl⟩ | ⟨rfl, c, rfl⟩ | ⟨rfl, c, rfl⟩ | ⟨rfl, c, rfl⟩
    · exact op_add pins s σ H _ _ v' w' Q I rv rw' ⟨a, b, rfl, rfl, k _ H (fun _ _ q => q) (rvr_int _)⟩
    · exact op_sub pins s σ H _ _ v' w' Q I rv rw' ⟨a, b, rfl, rfl, k _ H (fun _ _ q => q) (rvr_int _)⟩
    · exact op_mul pins s σ H _ _ v' w' Q I rv rw' ⟨a, b, rfl, rfl, c, k _ H (fun _ _ q => q) (rvr_int _)⟩
    · exact op_fdiv pins s σ H _ _ v' w' Q I rv rw' ⟨a, b, rfl, rfl, c, k _ H (fun _ _ q => q) (rvr_int _)⟩
    · exact op_mod pins s σ H _ _ v' w' Q I rv rw' ⟨a, b, rfl, rfl, c, k _ H (fun _ _ q => q) (rvr_int _)⟩
  | @str a b c =>
    have ev := lv.str
    have ew := lw.str
    subst ev ew
    exact op_add_str pins s σ H _ _ v' w' Q I rv rw' ⟨a, b, rfl, rfl, by rw [line_eq]; exact c, k _ H (fun _ _ q => q) (.av (.dat (.str _)))⟩
  | tup c =>
    obtain ⟨a, vs, rfl, ha, qa⟩ := lv.tup
    obtain ⟨b, ws, rfl, hb, qb⟩ := lw.tup
    refine op_catA pins s σ H _ _ v' w' Q I rv rw' ⟨a, b, vs, ws, rfl, rfl, ha, hb, by rw [line_eq, qa.length, qb.length]; exact c, fun e0 => ?_, fun _ e0 => ?_, fun _ _ p hp => ?_⟩
    · subst e0
      cases qa
      exact k _ H (fun _ _ q => q) (.av (.dat (.tup hb qb)))
    · subst e0
      cases qb
      exact k _ H (fun _ _ q => q) (.av (.dat (.tup ha (by simpa using qa))))
    · exact k _ _ (up_same hp) (R.newtup hp (qa.append qb))
  | @tupm xs n c1 c2 c3 c4 =>
    obtain ⟨a, vs, rfl, ha, qa⟩ := lv.tup
    have ew := lw.int
    subst ew
    refine op_mulT pins s σ H _ _ v' w' Q I rv rw' ⟨a, n, vs, rfl, rfl, ha, ?_, c2, c3, by rw [qa.length]; exact c4, fun e1 => ?_, fun _ p hp => ?_⟩
    · rintro rfl
      cases qa
      exact c1 rfl
    · subst e1
      exact k _ H (fun _ _ q => q) (.av (.dat (.tup ha (by simpa using qa))))
    · exact k _ _ (up_same hp) (R.newtup hp (qa.rep _))
  | lst e1 e2 c =>
    obtain ⟨a, vs, rfl, ha, qa⟩ := lv.list e1
    obtain ⟨b, ws, rfl, hb, qb⟩ := lw.list e2
    exact op_cat pins s σ H _ _ v' w' Q I rv rw' ⟨a, b, vs, ws, rfl, rfl, ha, hb, by rw [line_eq, qa.length, qb.length]; exact c, fun p hp => k _ _ (up_same hp) (R.newlst hp (qa.append qb))⟩
  | @lstm _ xs n e1 c1 c2 c3 =>
    obtain ⟨a, vs, rfl, ha, qa⟩ := lv.list e1
    have ew := lw.int
    subst ew
    exact op_rep pins s σ H _ _ v' w' Q I rv rw' ⟨a, n, vs, rfl, rfl, ha, c1, c2, by rw [line_eq, qa.length]; exact c3, fun p hp => k _ _ (up_same hp) (R.newlst hp (qa.rep _))⟩
end
end Sv

/-! Sv: comparisons, places, the built-in functions, by values. -/
namespace Sv
open PySem PySem.Spec PyProof.Rows L2

mutual
theorem eqq_eqv : ∀ d e : PyData, eqq d e = PyData.eqv d e
  | .none, e => by cases e <;> simp [eqq, PyData.eqv]
  | .bool a, e => by cases e <;> simp [eqq, PyData.eqv]
  | .int a, e => by cases e <;> simp [eqq, PyData.eqv]
  | .str a, e => by
    cases e <;> simp [eqq, PyData.eqv]
    rename_i b
    by_cases h : a = b
    · subst h; simp
    · simp [h]
  | .list xs, e => by
    cases e <;> simp [eqq, PyData.eqv]
    exact eqqs_eqv _ _
  | .tuple xs, e => by
    cases e <;> simp [eqq, PyData.eqv]
    exact eqqs_eqv _ _
  | .dict _, e => by cases e <;> simp [eqq, PyData.eqv]
theorem eqqs_eqv : ∀ d e : List PyData, eqqs d e = PyData.eqvAll d e
  | [], e => by cases e <;> simp [eqqs, PyData.eqvAll]
  | x :: xs, e => by
    cases e with
    | nil => simp [eqqs, PyData.eqvAll]
    | cons y ys => simp [eqqs, PyData.eqvAll, eqq_eqv x y, eqqs_eqv xs ys]
end
theorem inn_any (x : PyData) (xs : List PyData) : inn x xs = xs.any fun y => PyData.eqv y x := by
  unfold inn
  simp [eqq_eqv]
section
variable {K : PySem.W.Frag} {H : Hp}
mutual
theorem dp_depth : ∀ {v : V} (d : PyData), Dp K H v d → dep d ≤ 900 → d.depth = dep d ∧ d.canLay0 = true
  | _, .none, h, _ => by simp [PyData.depth, dep, PyData.canLay0]
  | _, .bool _, h, _ => by simp [PyData.depth, dep, PyData.canLay0]
  | _, .int _, h, _ => by simp [PyData.depth, dep, PyData.canLay0]
  | _, .str x, h, l => by
    have e : (x.cps.all fun c => decide (c < 1114112)) = true := by
      cases q : (x.cps.all fun c => decide (c < 1114112)) with
      | true => rfl
      | false => unfold dep at l; rw [q] at l; simp at l
    refine ⟨?_, ?_⟩
    · unfold PyData.depth dep
      rw [e]
      rfl
    · unfold PyData.canLay0 PyData.strOk
      exact e
  | _, .list ds, h, l => by
    cases h with
    | lst e q =>
      unfold dep at l ⊢
      obtain ⟨h1, h2⟩ := dps_depth ds q (by omega)
      unfold PyData.depth PyData.canLay0
      rw [h1, h2]
      exact ⟨rfl, rfl⟩
  | _, .tuple ds, h, l => by
    cases h with
    | tup e q =>
      unfold dep at l ⊢
      obtain ⟨h1, h2⟩ := dps_depth ds q (by omega)
      unfold PyData.depth PyData.canLay0
      rw [h1, h2]
      exact ⟨rfl, rfl⟩
  | _, .dict _, h, _ => by cases h
theorem dps_depth : ∀ {v : List V} (d : List PyData), DpAll K H v d → deps d ≤ 900 → PyData.depthAll d = deps d ∧ PyData.canLayAll0 d = true
  | _, [], h, _ => by simp [PyData.depthAll, deps, PyData.canLayAll0]
  | _, d :: ds, h, l => by
    cases h with
    | cons p q =>
      unfold deps at l ⊢
      obtain ⟨h1, h2⟩ := dp_depth d p (by omega)
      obtain ⟨h3, h4⟩ := dps_depth ds q (by omega)
      simp [PyData.depthAll, PyData.canLayAll0, h1, h2, h3, h4]
end
end
theorem dp_shaped {K : PySem.W.Frag} {H : Hp} {v : V} {d : PyData} (h : Dp K H v d) (l : dep d ≤ 64) : SeqAt.shaped d = true := by
  obtain ⟨h1, h2⟩ := dp_depth d h (by omega)
  unfold SeqAt.shaped
  rw [h2, h1]
  simpa using l
section
variable {X : Cx} {mg : Str → Option Value} {F : Fr}
def cmpR (c : CmpO) : List AO → RV → RV → Option RV := fun _ x y => (cmpV c x y).map blV
inductive CmpC : CmpO → RV → RV → Bool → Prop
  | eq {x y : RV} {d e : PyData} : x.d? = some d → y.d? = some e → dep d ≤ 64 → dep e ≤ 64 → CmpC .eq x y (eqq d e)
  | ne {x y : RV} {d e : PyData} : x.d? = some d → y.d? = some e → dep d ≤ 64 → dep e ≤ 64 → CmpC .ne x y (!eqq d e)
  | lt {i j : Int} : CmpC .lt (.av (.dat (.int i))) (.av (.dat (.int j))) (decide (i < j))
  | le {i j : Int} : CmpC .le (.av (.dat (.int i))) (.av (.dat (.int j))) (decide (i ≤ j))
  | gt {i j : Int} : CmpC .gt (.av (.dat (.int i))) (.av (.dat (.int j))) (decide (j < i))
  | ge {i j : Int} : CmpC .ge (.av (.dat (.int i))) (.av (.dat (.int j))) (decide (j ≤ i))
theorem cmp_cases {o : CmpO} {x y : RV} {z : Bool} (h : cmpV o x y = some z) : CmpC o x y z := by
  unfold cmpV at h
  split at h
  case h_1 =>
    split at h
    · rename_i d e e1 e2
      split at h
      · rename_i c; cases h; exact .eq e1 e2 c.1 c.2
      · cases h
    · cases h
  case h_2 =>
    split at h
    · rename_i d e e1 e2
      split at h
      · rename_i c; cases h; exact .ne e1 e2 c.1 c.2
      · cases h
    · cases h
  case h_3 => cases h; exact .lt
  case h_4 => cases h; exact .le
  case h_5 => cases h; exact .gt
  case h_6 => cases h; exact .ge
  case h_7 => cases h
theorem op_cmp (hr : Room 0 X.A) (o : CmpO) : OpR X (compareOp (cop o)) (rV X.K mg F (cmpR o)) := by
  intro pins s σ H v w v' w' Q I rv rw' h
  obtain ⟨g, ms, σ', x, y, z, R, lv, lw, e, k⟩ := h
  unfold cmpR at e
  obtain ⟨b, e1, rfl⟩ := Option.map_eq_some_iff.mp e
  have C := cmp_cases e1
  have fin := k (.bl b) H (fun _ _ q => q) (rvr_bl b)
  cases C with
  | eq a1 a2 a3 a4 =>
    have d1 := lv.dp a1
    have d2 := lw.dp a2
    exact op_eqD hr.units pins s σ H _ _ v' w' Q I rv rw' ⟨_, _, d1, d2, dp_shaped d1 a3, dp_shaped d2 a4, by rw [← eqq_eqv]; exact fin⟩
  | ne a1 a2 a3 a4 =>
    have d1 := lv.dp a1
    have d2 := lw.dp a2
    exact op_neD hr.units pins s σ H _ _ v' w' Q I rv rw' ⟨_, _, d1, d2, dp_shaped d1 a3, dp_shaped d2 a4, by rw [← eqq_eqv]; exact fin⟩
  | lt =>
    have ev := lv.int
    have ew := lw.int
    subst ev ew
    exact op_lt pins s σ H _ _ v' w' Q I rv rw' ⟨_, _, rfl, rfl, fin⟩
  | le =>
    have ev := lv.int
    have ew := lw.int
    subst ev ew
    exact op_le pins s σ H _ _ v' w' Q I rv rw' ⟨_, _, rfl, rfl, fin⟩
  | gt =>
    have ev := lv.int
    have ew := lw.int
    subst ev ew
    exact op_gt pins s σ H _ _ v' w' Q I rv rw' ⟨_, _, rfl, rfl, fin⟩
  | ge =>
    have ev := lv.int
    have ew := lw.int
    subst ev ew
    exact op_ge pins s σ H _ _ v' w' Q I rv rw' ⟨_, _, rfl, rfl, fin⟩

/-! ### x in xs -/
def inop : Bool → CmpOp
  | false => .In
  | true => .NotIn
def inR (neg : Bool) : List AO → RV → RV → Option RV := fun _ x y => (inV x y).map fun z => blV (if neg then !z else z)
theorem in_cases {x y : RV} {z : Bool} (h : inV x y = some z) : ∃ d ds, x.d? = some d ∧ (y.d? = some (.list ds) ∨ y.d? = some (.tuple ds)) ∧ dep d ≤ 60 ∧ deps ds ≤ 60 ∧ z = inn d ds := by
  unfold inV at h
  dsimp only at h
  split at h
  · rename_i d ds e1 e2
    by_cases c : dep d ≤ 60 ∧ deps ds ≤ 60
    · rw [if_pos c] at h
      cases h
      exact ⟨d, ds, e1, .inl e2, c.1, c.2, rfl⟩
    · rw [if_neg c] at h
      cases h
  · rename_i d ds e1 e2
    by_cases c : dep d ≤ 60 ∧ deps ds ≤ 60
    · rw [if_pos c] at h
      cases h
      exact ⟨d, ds, e1, .inr e2, c.1, c.2, rfl⟩
    · rw [if_neg c] at h
      cases h
  · cases h
theorem op_in (hr : Room 0 X.A) (neg : Bool) : OpR X (compareOp (inop neg)) (rV X.K mg F (inR neg)) := by
  intro pins s σ H v w v' w' Q I rv rw' h
  obtain ⟨g, ms, σ', x, y, z, R, lv, lw, e, k⟩ := h
  unfold inR at e
  obtain ⟨b, e1, rfl⟩ := Option.map_eq_some_iff.mp e
  obtain ⟨d, ds, h1, h2, h3, h4, rfl⟩ := in_cases e1
  have d1 := lv.dp h1
  have l1 := (dp_depth d d1 (by omega)).1
  have hd : d.canLay0 = true := (dp_depth d d1 (by omega)).2
  have hu : X.A.units + 200 < cLine := by have := hr.un; omega
  obtain ⟨as, r1⟩ := Dp.reads I d v v' d1 rv
  rcases h2 with h2 | h2
  · have d2 := lw.dp h2
    obtain ⟨bs, r2⟩ := Dp.reads I (.list ds) w w' d2 rw'
    have hc : PyData.canLayAll0 ds = true := by
      cases d2 with
      | lst _ q => exact (dps_depth ds q (by omega)).2
    have ho : X.A.units + 1 + min (PyData.depthAll ds) d.depth < cLine := by
      have : min (PyData.depthAll ds) d.depth ≤ d.depth := Nat.min_le_right _ _
      omega
    cases neg with
    | false => exact SeqAt.in_list_reads r2 r1 hc hd ho ⟨.bl _, H, I, rfl, by have q := k (.bl (inn d ds)) H (fun _ _ q => q) (rvr_bl _); rw [inn_any] at q; exact q⟩
    | true => exact SeqAt.notIn_list_reads r2 r1 hc hd ho ⟨.bl _, H, I, rfl, by have q := k (.bl (!inn d ds)) H (fun _ _ q => q) (rvr_bl _); rw [inn_any] at q; exact q⟩
  · have d2 := lw.dp h2
    obtain ⟨bs, r2⟩ := Dp.reads I (.tuple ds) w w' d2 rw'
    have hc : PyData.canLayAll0 ds = true := by
      cases d2 with
      | tup _ q => exact (dps_depth ds q (by omega)).2
    have ho : X.A.units + 1 + min (PyData.depthAll ds) d.depth < cLine := by
      have : min (PyData.depthAll ds) d.depth ≤ d.depth := Nat.min_le_right _ _
      omega
    cases neg with
    | false => exact SeqAt.in_tuple_reads r2 r1 hc hd ho ⟨.bl _, H, I, rfl, by have q := k (.bl (inn d ds)) H (fun _ _ q => q) (rvr_bl _); rw [inn_any] at q; exact q⟩
    | true => exact SeqAt.notIn_tuple_reads r2 r1 hc hd ho ⟨.bl _, H, I, rfl, by have q := k (.bl (!inn d ds)) H (fun _ _ q => q) (rvr_bl _); rw [inn_any] at q; exact q⟩
theorem op_notin_rng : OpR X (compareOp .NotIn) (fun x y H Q => ∃ i a lo hi, x = V.int i ∧ y = V.ref a ∧ H a = some (.rng lo hi) ∧ Q (.bl (!decide (lo ≤ i ∧ i < hi))) H) := by
  intro pins s σ H x y v u Q I rx ry h
  obtain ⟨i, a, lo, hi, rfl, rfl, ha, q⟩ := h
  obtain ⟨k, rfl⟩ := rx
  obtain rfl : u = Value.ref a := ry
  obtain ⟨t1, t2, t3, ho⟩ := I.hok a _ ha
  show wpAny _ _ (do return Value.bool (!(← contains (Value.ref a) (Value.int i k)))) _ _ s
  refine wpAny_bind (wpAny_contains_slot (T := "range") ⟨_, ho, rfl⟩ F.slot_range_contains (call_meets F.slot_range_contains ⟨_, ho, rfl⟩ F.entry_range_contains (F.args_range_contains_2 _ _) (q_contains a lo hi i t1 t2 t3 k)
    ⟨ho, wpAny_truthy_bool (wpAny_pure ⟨.bl _, H, I, rfl, ?_⟩)⟩))
  rw [place1]
  exact q
theorem cr_range1 : CallR X (.type "range") (fun vs H Q => ∃ i, vs = [V.int i] ∧ ∀ p, H p = none → Q (.ref p) (upd H p (.rng 0 i))) := by
  intro pins s σ H vs us Q I r h
  obtain ⟨i, rfl, q⟩ := h
  obtain ⟨u1, rfl, ri⟩ := vals1 r
  obtain ⟨t, rfl⟩ := ri
  refine call_range_1 ?_
  exact ⟨.ref s.heap.objs.size, upd H s.heap.objs.size (.rng 0 i), I.laid (fun b o e => Heap.get?_push_of_some _ e) (Nat.le_refl _) ⟨_, _, _, Heap.get?_push_size _ rfl⟩, rfl, q _ (I.hok.fresh (Nat.le_refl _))⟩

/-! ### places -/
theorem ixD_ixN (n : Nat) (i : Int) : ixN n i = ixD n i := by
  unfold ixN ixD
  by_cases h : i < 0
  · rw [if_neg (by omega), if_pos h]
    by_cases h2 : i + n < 0
    · rw [if_neg (by omega), if_pos h2]
    · rw [if_pos (by omega), if_neg h2]
  · rw [if_pos (by omega), if_neg h]
theorem atD_atI {α : Type} (xs : List α) (i : Int) : atI xs i = atD xs i := by
  unfold atI atD
  rw [ixD_ixN]
  cases ixD xs.length i <;> rfl
theorem clipD_sIx (n d : Nat) (hd : d ≤ n) (o : Option Int) : HT.sIx n d o = clipD n d o := by
  cases o with
  | none => rfl
  | some i =>
    have h := HT.clip_eq i n d
    unfold clipD
    by_cases hi : i < 0
    · rw [if_pos hi] at h
      simp only [if_pos hi]
      omega
    · rw [if_neg hi] at h
      simp only [if_neg hi]
      omega
theorem cutD_cutV (xs : List V) (lo hi : Option Int) : cutV xs lo hi = cutD xs lo hi := by
  unfold cutV cutD
  rw [clipD_sIx _ _ (Nat.zero_le _), clipD_sIx _ _ (Nat.le_refl _)]
theorem Dzs.cut {K : PySem.W.Frag} {Z : Addr → Prop} {H : Hp} {vs : List V} {ds : List PyData} (h : Dzs K Z H vs ds) (lo hi : Option Int) : Dzs K Z H (cutD vs lo hi) (cutD ds lo hi) := by
  unfold cutD
  rw [h.length]
  exact (h.drop _).take _
end
end Sv

/-! Sv: expressions: what the small interpreter answers is what the program's text gives. -/
namespace Sv
open PySem PySem.Spec PyProof.Rows L2

/-! ### what a def promises -/
inductive RVF (K : PySem.W.Frag) (g : G) (H0 H : Hp) : V → RV → Prop
  | av {v : V} {x : AV} : AVR K g H v x → RVF K g H0 H v (.av x)
  | lst {a : Addr} {vs : List V} {xs : List PyData} : H0 a = none → H a = some (.lst vs) → Dzs K g.Z H vs xs → a ∉ g.io → ¬ g.Z a → RVF K g H0 H (.ref a) (.lst xs)
def spF (K : PySem.W.Frag) (mg : Str → Option Value) (run : List AV → List AO → Option (RV × List AO)) : Sp := fun vs H Q _ => ∃ g hp args rv hp', HRel K mg g hp H ∧ AVRs K g H vs args ∧ run args hp = some (rv, hp') ∧
  ∀ g' v H', HRel K mg g' hp' H' → Ext0 g H g' H' → (∀ a, g'.Z a → g.Z a ∨ H a = none) → RVF K g' H H' v rv → Q v H'
def OkFn (X : Cx) (f : Fn) : Prop := ∃ (k : Nat) (fa : Addr) (fd : FuncData) (ps : List Str), X.mg f.name = some (.ref fa) ∧ PySem.W.keepIn X.K (.ref fa) = true ∧ Binds X.K fd ps [] ∧
  FnOk X.prog X.w X.K X.mg X.base CX0 k fa fd ps (spF X.K X.mg f.run) ∧ Room k X.A
/-- a constant of the module -/
def OkGl (X : Cx) (x : Str) (d : PyData) : Prop := ∃ v u, X.mg x = some u ∧ RelV v u ∧ ∀ Z H, Dz X.K Z H v d
/-- an attribute that the class itself does not have -/
def OkAt (X : Cx) (c x : Str) : Prop := ∃ C, X.mg c = some (.ref C) ∧ Cls X.K C ∧ NoAttr X.K C x
def OkMe (X : Cx) (c : Str) (f : Fn) : Prop := ∃ (C : Addr) (k : Nat) (fa : Addr) (fd : FuncData) (ps : List Str), X.mg c = some (.ref C) ∧ Cls X.K C ∧ Meth X.K C f.name fa ∧ Binds X.K fd ps [] ∧
  FnOk X.prog X.w X.K X.mg X.base CX0 k fa fd ps (spF X.K X.mg f.run) ∧ Room k X.A
def OkMk (X : Cx) (c : Str) (f : Fn) : Prop := ∃ (C : Addr) (k : Nat) (fa : Addr) (fd : FuncData) (ps : List Str), X.mg c = some (.ref C) ∧ Mk X.K C fa ∧ Binds X.K fd ps [] ∧
  FnOk X.prog X.w X.K X.mg X.base CX0 k fa fd ps (spF X.K X.mg f.run) ∧ Room (k + 1) X.A
/-- what a text leans on -/
structure Pr where
  fn : Fn → Prop
  gl : Str → PyData → Prop
  at_ : Str → Str → Prop
  me : Str → Fn → Prop
  mke : Str → Fn → Prop
@[reducible] def prX (X : Cx) : Pr := ⟨OkFn X, OkGl X, OkAt X, OkMe X, OkMk X⟩
mutual
def okE (p : Pr) : E → Prop
  | .lit _ => True
  | .glob x d => p.gl x d
  | .var _ => True
  | .tup es => okEs p es
  | .lst es => okEs p es
  | .bin _ a b => okE p a ∧ okE p b
  | .cmp _ a b => okE p a ∧ okE p b
  | .isin _ a b => okE p a ∧ okE p b
  | .inrange _ a b => okE p a ∧ okE p b
  | .isnone _ a => okE p a
  | .and a b => okE p a ∧ okE p b
  | .or a b => okE p a ∧ okE p b
  | .not a => okE p a
  | .ife c a b => okE p c ∧ okE p a ∧ okE p b
  | .sub a b => okE p a ∧ okE p b
  | .slice a l h => okE p a ∧ okEs p l ∧ okEs p h
  | .b1 _ a => okE p a
  | .isi a _ => okE p a
  | .call f es => p.fn f ∧ okEs p es
  | .callP f es => p.fn f ∧ okEs p es
  | .callB f es => p.fn f ∧ okEs p es
  | .alloc e => okE p e
  | .allocL es => okEs p es
  | .attr c a f => p.at_ c f ∧ okE p a
  | .meth c f a es => p.me c f ∧ okE p a ∧ okEs p es
  | .new c f es => p.mke c f ∧ okEs p es
  | .str1 a => okE p a
  | .srt _ a => okE p a
  | .join _ a => okE p a
  | .comp e _ it c => okE p e ∧ okI p it ∧ okEs p c
def okEs (p : Pr) : Es → Prop
  | .nil => True
  | .cons e es => okE p e ∧ okEs p es
def okI (p : Pr) : I → Prop
  | .seq e => okE p e
  | .range1 e => okE p e
  | .range2 a b => okE p a ∧ okE p b
end

/-! ### the side conditions of the text -/
def isPl : Expr → Bool
  | .Starred _ _ => false
  | .Slice _ _ _ _ => false
  | .Set _ _ _ => false
  | .SetComp _ _ _ _ => false
  | .DictComp _ _ _ _ _ => false
  | _ => true
section
variable {N : List Str} {sc : Scope} {env : Env}
theorem mE_pl : ∀ (e : E) {x : Expr}, mE N sc e x = true → isPl x = true
  | .alloc e, x, h => mE_pl e (x := x) (by simpa [mE] using h)
  | .lit d, x, h => by cases x <;> first | rfl | (cases d <;> simp [mE, mLit] at h)
  | .glob _ _, x, h => by cases x <;> first | rfl | simp [mE] at h
  | .var _, x, h => by cases x <;> first | rfl | simp [mE] at h
  | .tup _, x, h => by cases x <;> first | rfl | simp [mE] at h
  | .lst _, x, h => by cases x <;> first | rfl | simp [mE] at h
  | .bin _ _ _, x, h => by cases x <;> first | rfl | simp [mE] at h
  | .cmp _ _ _, x, h => by cases x <;> first | rfl | simp [mE] at h
  | .isin _ _ _, x, h => by cases x <;> first | rfl | simp [mE] at h
  | .inrange _ _ _, x, h => by cases x <;> first | rfl | simp [mE] at h
  | .isnone _ _, x, h => by cases x <;> first | rfl | simp [mE] at h
  | .and _ _, x, h => by cases x <;> first | rfl | simp [mE] at h
  | .or _ _, x, h => by cases x <;> first | rfl | simp [mE] at h
  | .not _, x, h => by cases x <;> first | rfl | simp [mE] at h
  | .ife _ _ _, x, h => by cases x <;> first | rfl | simp [mE] at h
  | .sub _ _, x, h => by cases x <;> first | rfl | simp [mE] at h
  | .slice _ _ _, x, h => by cases x <;> first | rfl | simp [mE] at h
  | .b1 _ _, x, h => by cases x <;> first | rfl | simp [mE] at h
  | .isi _ _, x, h => by cases x <;> first | rfl | simp [mE] at h
  | .call _ _, x, h => by cases x <;> first | rfl | simp [mE] at h
  | .callP _ _, x, h => by cases x <;> first | rfl | simp [mE] at h
  | .callB _ _, x, h => by cases x <;> first | rfl | simp [mE] at h
  | .allocL _, x, h => by cases x <;> first | rfl | simp [mE] at h
  | .comp _ _ _ _, x, h => by cases x <;> first | rfl | simp [mE] at h
  | .attr _ _ _, x, h => by cases x <;> first | rfl | simp [mE] at h
  | .meth _ _ _ _, x, h => by cases x <;> first | rfl | simp [mE] at h
  | .new _ _ _, x, h => by cases x <;> first | rfl | simp [mE] at h
  | .srt b _, x, h => by cases b <;> cases x <;> first | rfl | simp [mE] at h
  | .str1 _, x, h => by cases x <;> first | rfl | simp [mE] at h
  | .join _ _, x, h => by cases x <;> first | rfl | simp [mE] at h
theorem pl_star {x : Expr} (h : isPl x = true) (xs : List Expr) : starEach (x :: xs) env = (false, eval x env) :: starEach xs env := by
  cases x <;> first | rfl | simp [isPl] at h
theorem pl_ix {x : Expr} (h : isPl x = true) : PlainIx x := by
  intro o i
  cases x <;> first | rfl | simp [isPl] at h
theorem pl_set {x : Expr} (h : isPl x = true) (v : Value) : foldedSetIterable x env v = pure v := by
  cases x <;> first | rfl | simp [isPl] at h
theorem pl_mark {x : Expr} (h : isPl x = true) (o : CmpOp) : behindInMarks o x = false := by
  cases x <;> first | rfl | simp [isPl] at h
theorem mEs_pl : ∀ (es : Es) {xs : List Expr}, mEs N sc es xs = true → ∀ x ∈ xs, isPl x = true
  | .nil, [], _, x, hx => by simp at hx
  | .nil, _ :: _, h, _, _ => by simp [mEs] at h
  | .cons _ _, [], h, _, _ => by simp [mEs] at h
  | .cons e es, y :: ys, h, x, hx => by
    simp only [mEs, Bool.and_eq_true] at h
    rcases List.mem_cons.mp hx with rfl | hx
    · exact mE_pl e h.1
    · exact mEs_pl es h.2 x hx
theorem pl_stars : ∀ {xs : List Expr}, (∀ x ∈ xs, isPl x = true) → ∀ pos : Pos, (backTo pos (starEach xs env)).any (·.1) = false
  | [], _, _ => rfl
  | x :: xs, h, pos => by
    rw [pl_star (h x List.mem_cons_self) xs]
    show (false || (backTo pos (starEach xs env)).any (·.1)) = false
    rw [pl_stars (fun y hy => h y (List.mem_cons_of_mem _ hy)) pos]
    rfl
end

section
variable {X : Cx} {F : Fr} {g g' : G} {ms ms' : MS} {σ : L2.St} {H H' : Hp}
/-- a test from an expression -/
theorem tT_of {b : Bool} {sem : MS → Option (RV × MS)} {Q : Bool → Hp → Prop} (h : tT X.K X.mg F sem σ H Q) : tE X.K X.mg F b sem σ H fun x H' => ∃ k, x = .bl k ∧ Q k H' := by
  obtain ⟨g, ms, c, ms', R, e, k⟩ := h
  refine ⟨g, ms, _, ms', R, e, fun g' v H' R' e' r => ?_⟩
  have r' := r.lr.bl
  exact ⟨c, r', k g' H' R' e'⟩
/-- the readings of a piece of syntax: as a value, as a test -/
structure Sd (X : Cx) (F : Fr) (e : E) (x : Expr) : Prop where
  pe : ∀ b, PE X x (tE X.K X.mg F b (ev b e))
  pt : isIf x = false → PT X x (tT X.K X.mg F (ev true e))
  pw : ∀ o vs p, x = .BoolOp o vs p → PW X x (tT X.K X.mg F (ev true e))
theorem Sd.val {e : E} {x : Expr} (h : ∀ b, PE X x (tE X.K X.mg F b (ev b e))) (hb : ∀ o vs p, x ≠ .BoolOp o vs p) (he : ∀ whole, isTrue x X.env whole = (do let v ← whole; standAt x.pos; holding [v] (truthy v)) := by intro _; rfl) : Sd X F e x :=
  ⟨h, fun _ => PT.imp (pt_val (h true) he) fun σ H Q q => tT_of q, fun o vs p z => absurd z (hb o vs p)⟩
theorem PW.imp {x : Expr} {t t' : TT} (h : PW X x t) (i : ∀ σ H Q, t' σ H Q → t σ H Q) : PW X x t' := ⟨fun wh pins s σ H Q I q => h.run wh pins s σ H Q I (i σ H Q q)⟩
/-- two operands, an operation on values -/
theorem bin_read {b : Bool} {sa sb sem : MS → Option (RV × MS)} {op : List AO → RV → RV → Option RV} {Q : VK}
    (hs : ∀ ms r, sem ms = some r → ∃ x ms1 y ms2 z, sa ms = some (x, ms1) ∧ sb ms1 = some (y, ms2) ∧ op ms2.hp x y = some z ∧ r = (z, ms2))
    (h : tE X.K X.mg F b sem σ H Q) : tOp (rV X.K X.mg F op) (tE X.K X.mg F true sa) (tE X.K X.mg F true sb) σ H Q := by
  obtain ⟨g, ms, rv, ms', R, e, k⟩ := h
  obtain ⟨x, ms1, y, ms2, z, e1, e2, e3, e4⟩ := hs ms _ e
  cases e4
  refine ⟨g, ms, x, ms1, R, e1, fun g1 v H1 R1 x1 r1 => ⟨g1, ms1, y, ms', R1, e2, fun g2 w H2 R2 x2 r2 => ?_⟩⟩
  refine ⟨g2, ms', σ, x, y, rv, R2, r1.lr.ext R1.hr x2.toExt0, r2.lr, e3, fun v' H' hs' rr => ?_⟩
  exact k g2 v' H' (R2.same hs') ((x1.trans x2).trans (.same hs')) (rr.up.since (x1.trans x2).toExt0)
theorem un_read {b : Bool} {sa sem : MS → Option (RV × MS)} {op : List AO → RV → Option RV} {Q : VK}
    (hs : ∀ ms r, sem ms = some r → ∃ x ms1 z, sa ms = some (x, ms1) ∧ op ms1.hp x = some z ∧ r = (z, ms1))
    (h : tE X.K X.mg F b sem σ H Q) : tE X.K X.mg F true sa σ H fun v H1 => ∃ g ms x z, Rel X.K X.mg F g ms σ H1 ∧ LR X.K g H1 v x ∧ op ms.hp x = some z ∧ ∀ v' H', (∀ a o, H1 a = some o → H' a = some o) → RVR X.K F g H1 H' false v' z → Q v' H' := by
  obtain ⟨g, ms, rv, ms', R, e, k⟩ := h
  obtain ⟨x, ms1, z, e1, e3, e4⟩ := hs ms _ e
  cases e4
  exact ⟨g, ms, x, ms', R, e1, fun g1 v H1 R1 x1 r1 => ⟨g1, ms', x, rv, R1, r1.lr, e3, fun v' H' hs' rr => k g1 v' H' (R1.same hs') (x1.trans (.same hs')) (rr.up.since x1.toExt0)⟩⟩

theorem gl_of {y : Str} (h : isGl X.env.scope y = true) : Gl X y := by
  have h' : X.env.scope.names.lookup y = some .globalImplicit := by simpa [isGl] using h
  exact h'
/-! ### names and written values -/
theorem s_lit {d : PyData} {x : Expr} (h : mLit d x = true) (b : Bool) : PE X x (tE X.K X.mg F b (ev b (.lit d))) := by
  have go : ∀ {t : TE} {v : V}, PE X x t → (∀ H Z, Dz X.K Z H v d) → (∀ σ H (Q : VK), Q v H → t σ H Q) → PE X x (tE X.K X.mg F b (ev b (.lit d))) := fun {t v} p hd hq => PE.imp p fun σ H Q ⟨g, ms, rv, ms', R, e, k⟩ => by
    unfold ev at e
    cases e
    exact hq _ _ _ (k g v H R .refl (.av (.dat (hd _ _))))
  cases d with
  | none =>
    cases x <;> try (cases h; done)
    rename_i c _ _
    cases c <;> try (cases h; done)
    exact go pe_non (fun _ _ => Dz.non) fun _ _ _ q => q
  | bool p =>
    cases x <;> try (cases h; done)
    rename_i c _ _
    cases c <;> try (cases h; done)
    rename_i p'
    have e : p = p' := eq_of_beq h
    subst e
    exact go pe_bl (fun _ _ => .bl _) fun _ _ _ q => q
  | int i =>
    cases x <;> try (cases h; done)
    · rename_i op e _
      cases op <;> try (cases h; done)
      cases e <;> try (cases h; done)
      rename_i c _ _
      cases c <;> try (cases h; done)
      rename_i j
      have e : i = -j := of_decide_eq_true h
      subst e
      exact go (pe_un un_neg pe_int) (fun _ _ => .int _) fun _ _ _ q => ⟨j, rfl, q⟩
    · rename_i c _ _
      cases c <;> try (cases h; done)
      have e := of_decide_eq_true h
      subst e
      exact go pe_int (fun _ _ => .int _) fun _ _ _ q => q
  | str p =>
    cases x <;> try (cases h; done)
    rename_i c _ _
    cases c <;> try (cases h; done)
    have e := of_decide_eq_true h
    subst e
    exact go pe_str (fun _ _ => .str _) fun _ _ _ q => q
  | list _ => cases x <;> cases h
  | tuple _ => cases x <;> cases h
  | dict _ => cases x <;> cases h
theorem s_glob {n y : Str} {d : PyData} {p : Pos} (ok : OkGl X n d) (h : (decide (n = y) && isGl X.env.scope y && !odd y) = true) (b : Bool) : PE X (.Name y p) (tE X.K X.mg F b (ev b (.glob n d))) := by
  simp only [Bool.and_eq_true, decide_eq_true_eq, Bool.not_eq_true'] at h
  obtain ⟨⟨rfl, h2⟩, h3⟩ := h
  obtain ⟨v, u, m, r, hd⟩ := ok
  unfold odd at h3
  simp only [Bool.or_eq_false_iff] at h3
  refine PE.imp (pe_glob (gl_of h2) m r h3.1) fun σ H Q ⟨g, ms, rv, ms', R, e, k⟩ => ?_
  unfold ev at e
  cases e
  exact k g v H R .refl (.av (.dat (hd _ _)))
theorem s_var {i : Nat} {y : Str} {p : Pos} (h : (isNm X.N i y && isVis X.env.scope y && !odd y) = true) (b : Bool) : PE X (.Name y p) (tE X.K X.mg F b (ev b (.var i))) := by
  simp only [Bool.and_eq_true, Bool.not_eq_true', isNm, isVis, decide_eq_true_eq, Bool.or_eq_true] at h
  obtain ⟨⟨h1, h2⟩, h3⟩ := h
  unfold odd at h3
  simp only [Bool.or_eq_false_iff] at h3
  have hv : Vis X.env.scope y := by
    rcases h2 with (h2 | h2) | h2
    · exact .inl h2
    · exact .inr (.inl h2)
    · exact .inr (.inr h2)
  refine PE.imp (pe_var h1 hv h3.1 h3.2) fun σ H Q ⟨g, ms, rv, ms', R, e, k⟩ => ?_
  unfold ev at e
  cases q : ms.rho[i]? with
  | none => rw [q] at e; cases e
  | some s =>
    rw [q] at e
    cases s with
    | emp => cases e
    | av v =>
      cases e
      obtain ⟨x, e1, r⟩ := R.av i v q
      exact ⟨x, e1, k g x H R .refl (.av r)⟩
    | own xs =>
      cases b with
      | true =>
        have e' : some (RV.lst xs, ms) = some (rv, ms') := e
        cases e'
        obtain ⟨a, vs, h1, h2, h3, h4⟩ := R.own i xs q
        obtain ⟨q1, q2, q3, _⟩ := R.oaf i a h1
        exact ⟨.ref a, h2, k g _ H R .refl (.lst h3 h4 q2 q1 q3 (by simp))⟩
      | false =>
        have e' : some (RV.av (.dat (.list xs)), { ms with rho := ms.rho.set i (.av (.dat (.list xs))) }) = some (rv, ms') := e
        cases e'
        obtain ⟨g', a, R', x, h2, h4⟩ := R.freezeOwn q
        exact ⟨.ref a, h2, k g' _ H R' x (.av (.dat h4))⟩
end
end Sv

/-! Sv: the single constructs. -/
namespace Sv
open PySem PySem.Spec PyProof.Rows L2
section
variable {X : Cx} {F : Fr} {g g' : G} {ms ms' : MS} {σ : L2.St} {H H' : Hp}

/-! ### displays -/
theorem s_tup {es : Es} {xs : List Expr} {k : Nat} {p : Pos} (h : PA X xs (tA X.K X.mg F (evs es))) (b : Bool) : PE X (.Tuple xs k p) (tE X.K X.mg F b (ev b (.tup es))) := by
  refine PE.imp (pe_tup h) fun σ H Q ⟨g, ms, rv, ms', R, e, k⟩ => ?_
  unfold ev at e
  cases q : evs es ms with
  | none => rw [q] at e; cases e
  | some r =>
    obtain ⟨vs, ms1⟩ := r
    rw [q] at e
    dsimp only at e
    cases q2 : allD vs with
    | none => rw [q2] at e; cases e
    | some ds =>
      rw [q2] at e
      dsimp only at e
      by_cases c : ds.length ≤ LINE
      · rw [if_pos c] at e
        cases e
        refine ⟨g, ms, vs, ms', R, q, fun g1 ws H1 R1 x1 r1 => ?_⟩
        have dz := r1.dzs q2
        refine ⟨by rw [line_eq, dz.length]; exact c, fun p hp => ?_⟩
        exact k g1 _ _ (R1.new hp) (x1.trans (.same (up_same hp))) ((R1.newtup hp dz).since x1.toExt0)
      · rw [if_neg c] at e
        cases e
theorem s_lst {es : Es} {xs : List Expr} {p : Pos} (h : PA X xs (tA X.K X.mg F (evs es))) (b : Bool) : PE X (.List xs p) (tE X.K X.mg F b (ev b (.lst es))) := by
  refine PE.imp (pe_lst h) fun σ H Q ⟨g, ms, rv, ms', R, e, k⟩ => ?_
  unfold ev at e
  cases q : evs es ms with
  | none => rw [q] at e; cases e
  | some r =>
    obtain ⟨vs, ms1⟩ := r
    rw [q] at e
    dsimp only at e
    cases q2 : allD vs with
    | none => rw [q2] at e; cases e
    | some ds =>
      rw [q2] at e
      dsimp only at e
      by_cases c : ds.length ≤ LINE
      · rw [if_pos c] at e
        cases e
        refine ⟨g, ms, vs, ms', R, q, fun g1 ws H1 R1 x1 r1 => ?_⟩
        have dz := r1.dzs q2
        refine ⟨by rw [line_eq, dz.length]; exact c, fun p hp => ?_⟩
        exact k g1 _ _ (R1.new hp) (x1.trans (.same (up_same hp))) ((R1.newlst hp dz).since x1.toExt0)
      · rw [if_neg c] at e
        cases e

/-! ### the small heap grows -/
theorem Rel.alloc (R : Rel X.K X.mg F g ms σ H) {a : Addr} {o : AO} (h0 : ORel X.K X.mg g H a o) (h2 : a ∉ g.io) (h3 : ¬ g.Z a) (h4 : F.H a = none) (h5 : ∀ i, g.oa i ≠ some a) :
    Rel X.K X.mg F { g with io := g.io ++ [a] } { ms with hp := ms.hp ++ [o] } σ H ∧ True := by
  have av : ∀ {v : V} {x : AV}, AVR X.K g H v x → AVR X.K { g with io := g.io ++ [a] } H v x := fun {v x} h => by
    cases h with
    | dat h => exact .dat h
    | ref h =>
      refine .ref ?_
      show (g.io ++ [a])[_]? = _
      rw [List.getElem?_append_left (List.getElem?_eq_some_iff.mp h).1]
      exact h
    | fd z h k q => exact .fd z h k q
    | scr h => exact .scr h
  have avs : ∀ {v : List V} {x : List AV}, AVRs X.K g H v x → AVRs X.K { g with io := g.io ++ [a] } H v x := fun {v x} h => by
    induction h with
    | nil => exact .nil
    | cons p _ ih => exact .cons (av p) ih
  have ob : ∀ {b : Addr} {o : AO}, ORel X.K X.mg g H b o → ORel X.K X.mg { g with io := g.io ++ [a] } H b o := fun {b o} h => by
    cases h with
    | lst h q => exact .lst h (avs q)
    | dct h k q => exact .dct h k (avs q)
    | ins h m k q => exact .ins h m k (avs q)
  have th : ∃ u, H a = some u := by
    cases h0 with
    | lst h _ => exact ⟨_, h⟩
    | dct h _ _ => exact ⟨_, h⟩
    | ins h _ _ _ => exact ⟨_, h⟩
  refine ⟨⟨⟨by simp [R.hr.hl], ?_, fun j b u hj hu => ?_, fun b hb => ?_, R.hr.zt⟩, R.len, fun i v hi => let ⟨x, q1, q2⟩ := R.av i v hi; ⟨x, q1, av q2⟩, R.own, fun i b hb => ?_, R.inj, ⟨?_, R.fr.z, R.fr.zz, R.fr.keep, R.fr.th⟩⟩, trivial⟩
  · show (g.io ++ [a]).Nodup
    rw [List.nodup_append]
    exact ⟨R.hr.nd, by simp, fun x hx y hy => by simp at hy; subst hy; intro e; subst e; exact h2 hx⟩
  · have hj : (g.io ++ [a])[j]? = some b := hj
    have hu : (ms.hp ++ [o])[j]? = some u := hu
    by_cases c : j < g.io.length
    · rw [List.getElem?_append_left c] at hj
      rw [List.getElem?_append_left (by rw [← R.hr.hl]; exact c)] at hu
      exact ob (R.hr.ho j b u hj hu)
    · rw [List.getElem?_append_right (by omega)] at hj
      rw [List.getElem?_append_right (by rw [← R.hr.hl]; omega)] at hu
      have e : j - g.io.length = 0 := by
        have := (List.getElem?_eq_some_iff.mp hj).1
        simp at this
        omega
      rw [e] at hj
      rw [← R.hr.hl, e] at hu
      simp at hj hu
      subst hj hu
      exact ob h0
  · have hb : b ∈ g.io ++ [a] := hb
    rcases List.mem_append.mp hb with hb | hb
    · exact R.hr.nz b hb
    · simp at hb; subst hb; exact h3
  · obtain ⟨q1, q2, q3, q4⟩ := R.oaf i b hb
    refine ⟨q1, ?_, q3, q4⟩
    show b ∉ g.io ++ [a]
    intro hm
    rcases List.mem_append.mp hm with hm | hm
    · exact q2 hm
    · simp at hm; subst hm; exact h5 i hb
  · obtain ⟨new, e, hn⟩ := R.fr.io
    refine ⟨new ++ [a], ?_, fun b hb => ?_⟩
    · show g.io ++ [a] = _
      rw [e, List.append_assoc]
    · rcases List.mem_append.mp hb with hb | hb
      · exact hn b hb
      · simp at hb; subst hb; exact h4
theorem Ext.grow {H0 : Hp} {a : Addr} (x : Ext g' H0 g H) (h : H0 a = none) : Ext g' H0 { g with io := g.io ++ [a] } H := by
  obtain ⟨n, e, hn⟩ := x.io
  refine ⟨⟨x.keep, x.zz, ⟨n ++ [a], ?_, fun b hb => ?_⟩, x.th⟩, x.zn, x.on⟩
  · show g.io ++ [a] = _
    rw [e, List.append_assoc]
  · rcases List.mem_append.mp hb with hb | hb
    · exact hn b hb
    · simp at hb; subst hb; exact h
theorem s_alloc {e : E} {x : Expr} (h : ∀ b, PE X x (tE X.K X.mg F b (ev b e))) (b : Bool) : PE X x (tE X.K X.mg F b (ev b (.alloc e))) := by
  refine PE.imp (h false) fun σ H Q ⟨g, ms, rv, ms', R, q, k⟩ => ?_
  unfold ev at q
  cases q1 : ev false e ms with
  | none => rw [q1] at q; cases q
  | some r =>
    obtain ⟨v, ms1⟩ := r
    rw [q1] at q
    cases v with
    | av _ => cases q
    | lst xs =>
      cases q
      refine ⟨g, ms, .lst xs, ms1, R, q1, fun g1 v H1 R1 x1 r1 => ?_⟩
      cases r1 with
      | lst p1 p2 p3 p4 p5 p6 =>
        obtain ⟨R2, _⟩ := R1.alloc (.lst p1 (AVRs.of_dzs p2)) p3 p4 p5 (p6 rfl).2
        refine k _ _ H1 R2 (x1.grow (p6 rfl).1) (.av (.ref ?_))
        show (g1.io ++ [_])[ms1.hp.length]? = _
        rw [← R1.hr.hl]
        simp

theorem s_allocL {es : Es} {xs : List Expr} {p : Pos} (h : PA X xs (tA X.K X.mg F (evs es))) (b : Bool) : PE X (.List xs p) (tE X.K X.mg F b (ev b (.allocL es))) := by
  refine PE.imp (pe_lst h) fun σ H Q ⟨g, ms, rv, ms', R, e, k⟩ => ?_
  unfold ev at e
  cases q : evs es ms with
  | none => rw [q] at e; cases e
  | some r =>
    obtain ⟨vs, ms1⟩ := r
    rw [q] at e
    dsimp only at e
    by_cases c : vs.length ≤ LINE
    · rw [if_pos c] at e
      cases e
      refine ⟨g, ms, vs, ms1, R, q, fun g1 ws H1 R1 x1 r1 => ?_⟩
      refine ⟨by rw [line_eq, r1.length]; exact c, fun p hp => ?_⟩
      have f := R1.hr.fresh hp
      obtain ⟨R2, _⟩ := (R1.new (o := .lst ws) hp).alloc (a := p) (o := .lst vs) (.lst upd_same (R1.hr.avrs (.same (up_same hp)) r1)) f.1 f.2 (R1.f0 hp) (R1.oa0 hp)
      have hn : H p = none := by
        cases z : H p with
        | none => rfl
        | some u =>
          obtain ⟨u', z'⟩ := x1.th p u z
          rw [hp] at z'; cases z'
      refine k _ _ _ R2 ((x1.trans (.same (up_same hp))).grow hn) (.av (.ref ?_))
      show (g1.io ++ [_])[ms1.hp.length]? = _
      rw [← R1.hr.hl]
      simp
    · rw [if_neg c] at e
      cases e

/-! ### arguments -/
theorem s_nil : PA X [] (tA X.K X.mg F (evs .nil)) := PA.imp pa_nil fun σ H Q ⟨g, ms, vs, ms', R, e, k⟩ => by
  unfold evs at e
  cases e
  exact k g [] H R .refl .nil
theorem s_cons {e : E} {es : Es} {x : Expr} {xs : List Expr} (hx : isPl x = true) (h1 : ∀ b, PE X x (tE X.K X.mg F b (ev b e))) (h2 : PA X xs (tA X.K X.mg F (evs es))) : PA X (x :: xs) (tA X.K X.mg F (evs (.cons e es))) := by
  refine PA.imp (pa_cons (h1 false) h2 (pl_star hx xs)) fun σ H Q ⟨g, ms, vs, ms', R, q, k⟩ => ?_
  unfold evs at q
  cases q1 : ev false e ms with
  | none => rw [q1] at q; cases q
  | some r =>
    obtain ⟨v, ms1⟩ := r
    rw [q1] at q
    dsimp only at q
    cases q2 : evs es ms1 with
    | none => rw [q2] at q; cases q
    | some r2 =>
      obtain ⟨ws, ms2⟩ := r2
      rw [q2] at q
      cases q
      refine ⟨g, ms, v, ms1, R, q1, fun g1 y H1 R1 x1 r1 => ?_⟩
      obtain ⟨g2, R2, x2, _, r2⟩ := r1.val R1 x1
      refine ⟨g2, ms1, ws, ms', R2, q2, fun g3 ys H3 R3 x3 r3 => ?_⟩
      exact k g3 _ H3 R3 (x2.trans x3) (.cons (R2.hr.avr x3.toExt0 r2) r3)
theorem s_bnil : PA X [] (tBA X.K X.mg F (evB .nil)) := PA.imp pa_nil fun σ H Q ⟨g, ms, vs, ms', R, e, k⟩ => by
  unfold evB at e
  cases e
  exact k g (fun _ => False) [] H R .refl (fun _ z => z.elim) .nil
theorem AVR.zmono {Z' : Addr → Prop} (hz : ∀ a, g.Z a → Z' a) {v : V} {x : AV} (h : AVR X.K g H v x) : AVR X.K { g with Z := Z' } H v x := by
  cases h with
  | dat h => exact .dat (Dz.mono (fun a xs z e => ⟨hz a z, e⟩) (fun _ _ e => e) _ h)
  | ref h => exact .ref h
  | fd z h k q => exact .fd (hz _ z) h k (Dzs.mono (fun a xs z e => ⟨hz a z, e⟩) (fun _ _ e => e) _ q)
  | scr h => exact .scr h
theorem AVRs.zmono {Z' : Addr → Prop} (hz : ∀ a, g.Z a → Z' a) : ∀ {v : List V} {x : List AV}, AVRs X.K g H v x → AVRs X.K { g with Z := Z' } H v x
  | _, _, .nil => .nil
  | _, _, .cons p q => .cons (p.zmono hz) (AVRs.zmono hz q)
theorem s_bcons {e : E} {es : Es} {x : Expr} {xs : List Expr} (hx : isPl x = true) (h1 : ∀ b, PE X x (tE X.K X.mg F b (ev b e))) (h2 : PA X xs (tBA X.K X.mg F (evB es))) : PA X (x :: xs) (tBA X.K X.mg F (evB (.cons e es))) := by
  refine PA.imp (pa_cons (h1 true) h2 (pl_star hx xs)) fun σ H Q ⟨g, ms, vs, ms', R, q, k⟩ => ?_
  unfold evB at q
  cases q1 : ev true e ms with
  | none => rw [q1] at q; cases q
  | some r =>
    obtain ⟨v, ms1⟩ := r
    rw [q1] at q
    dsimp only at q
    cases q2 : evB es ms1 with
    | none => rw [q2] at q; cases q
    | some r2 =>
      obtain ⟨ws, ms2⟩ := r2
      rw [q2] at q
      cases q
      refine ⟨g, ms, v, ms1, R, q1, fun g1 y H1 R1 x1 r1 => ?_⟩
      refine ⟨g1, ms1, ws, ms', R1, q2, fun g3 B ys H3 R3 x3 hB r3 => ?_⟩
      have r4 := r1.lr.ext R1.hr x3.toExt0
      cases r4 with
      | av r4 => exact k g3 B _ H3 R3 (x1.trans x3) hB (.cons (r4.zmono fun _ z => .inl z) r3)
      | @lst a us zs p1 p2 p3 =>
        refine k g3 (fun b => B b ∨ b = a) _ H3 R3 (x1.trans x3) (fun b z => ?_) (.cons ?_ (r3.zmono fun b z => ?_))
        · rcases z with z | rfl
          · exact hB b z
          · exact ⟨p3, _, p1⟩
        · exact .dat (.lst p1 (.inr (.inr rfl)) (Dzs.mono (fun a xs z e => ⟨.inl z, e⟩) (fun _ _ e => e) _ p2))
        · rcases z with z | z
          · exact .inl z
          · exact .inr (.inl z)

/-! ### calls -/
theorem Rel.back (R : Rel X.K X.mg F g ms σ H) {hp' : List AO} {g2 : G} (h : HRel X.K X.mg g2 hp' H') (e : Ext0 g H g2 H') (z : ∀ a, g2.Z a → g.Z a ∨ H a = none) : Rel X.K X.mg F { g2 with oa := g.oa } { ms with hp := hp' } σ H' := by
  have e' : Ext0 g H { g2 with oa := g.oa } H' := ⟨e.keep, e.zz, e.io, e.th⟩
  have avc : ∀ {v : V} {x : AV}, AVR X.K g2 H' v x → AVR X.K { g2 with oa := g.oa } H' v x := fun {v x} h => by
    cases h with
    | dat h => exact .dat h
    | ref h => exact .ref h
    | fd z h k q => exact .fd z h k q
    | scr h => exact .scr h
  have avs : ∀ {v : List V} {x : List AV}, AVRs X.K g2 H' v x → AVRs X.K { g2 with oa := g.oa } H' v x := fun {v x} h => by
    induction h with
    | nil => exact .nil
    | cons p _ ih => exact .cons (avc p) ih
  obtain ⟨n, en, hn⟩ := e.io
  have nio : ∀ a o, H a = some o → a ∉ g.io → a ∉ g2.io := fun a o ha hi hm => by
    rw [en] at hm
    rcases List.mem_append.mp hm with hm | hm
    · exact hi hm
    · rw [hn a hm] at ha; cases ha
  refine ⟨⟨h.hl, h.nd, fun j a o h1 h2 => ?_, h.nz, h.zt⟩, R.len, fun i v hi => let ⟨x, q1, q2⟩ := R.av i v hi; ⟨x, q1, R.hr.avr e' q2⟩, fun i xs hi => ?_, fun i a hi => ?_, R.inj, ⟨?_, fun a q => ?_, fun a q => e.zz a (R.fr.zz a q), fun a o hi q => ?_, fun a o q => ?_⟩⟩
  · have q := h.ho j a o h1 h2
    cases q with
    | lst h q => exact .lst h (avs q)
    | dct h k q => exact .dct h k (avs q)
    | ins h m k q => exact .ins h m k (avs q)
  · obtain ⟨a, vs, h1, h2, h3, h4⟩ := R.own i xs hi
    exact ⟨a, vs, h1, h2, e.keep a _ (R.oaf i a h1).2.1 h3, R.hr.dzs e' h4⟩
  · obtain ⟨q1, q2, q3, o, q4⟩ := R.oaf i a hi
    refine ⟨fun hz => ?_, nio a _ q4 q2, q3, _, e.keep a _ q2 q4⟩
    rcases z a hz with z | z
    · exact q1 z
    · rw [q4] at z; cases z
  · obtain ⟨m, em, hm⟩ := R.fr.io
    refine ⟨m ++ n, ?_, fun a ha => ?_⟩
    · show g2.io = _
      rw [en, em, List.append_assoc]
    · rcases List.mem_append.mp ha with ha | ha
      · exact hm a ha
      · exact R.f0 (hn a ha)
  · rcases z a q with q | q
    · exact R.fr.z a q
    · exact .inr (R.f0 q)
  · have hH := R.fr.keep a o hi q
    refine e.keep a o (fun hm => ?_) hH
    obtain ⟨m, em, hm'⟩ := R.fr.io
    rw [em] at hm
    rcases List.mem_append.mp hm with hm | hm
    · exact hi hm
    · rw [hm' a hm] at q; cases q
  · obtain ⟨o', q'⟩ := R.fr.th a o q
    exact e.th a o' q'
theorem RVF.rvr {g2 : G} {v : V} {x : RV} (R : Rel X.K X.mg F g ms σ H) (h : RVF X.K g2 H H' v x) : RVR X.K F { g2 with oa := g.oa } H H' false v x := by
  cases h with
  | av h =>
    refine .av ?_
    cases h with
    | dat h => exact .dat h
    | ref h => exact .ref h
    | fd z h k q => exact .fd z h k q
    | scr h => exact .scr h
  | lst h0 h1 h2 h3 h4 => exact .lst h1 h2 h3 h4 (R.f0 h0) fun _ => ⟨h0, R.oa0 h0⟩
/-- a call's text, its arguments read in whatever way -/
theorem call_text {f : Fn} {y : Str} {xs : List Expr} {p pos : Pos} {t : TA} (ok : OkFn X f) (hy : y = f.name) (hg : isGl X.env.scope y = true) (ho : odd y = false) (hx : ∀ x ∈ xs, isPl x = true) (h : PA X xs t) (h0 : xs = [] → ∀ σ H Q, t σ H Q → Q [] H) :
    PE X (.Call (.Name y p) xs [] pos) (tCall (spF X.K X.mg f.run) [] E0 t) := by
  obtain ⟨k, fa, fd, ps, m, kp, bd, G, hr⟩ := ok
  subst hy
  unfold odd at ho
  simp only [Bool.or_eq_false_iff] at ho
  cases xs with
  | nil =>
    exact PE.imp (pe_call0 (p := p) (pos := pos) G hr (gl_of hg) m kp bd .nil pass0 ho.1) fun σ H Q q => h0 rfl σ H _ q
  | cons x xs => exact pe_call (p := p) (pos := pos) G hr (gl_of hg) m kp bd .nil pass0 h ho.1 (pl_star (hx x List.mem_cons_self) xs) (pl_stars (fun y hy => hx y (List.mem_cons_of_mem _ hy)) pos)
theorem nil_args {es : Es} (hm : es = .nil) : ∀ σ H Q, tA X.K X.mg F (evs es) σ H Q → Q [] H := fun σ H Q ⟨g, ms, vs, ms', R, e, k⟩ => by
  subst hm
  unfold evs at e
  cases e
  exact k g [] H R .refl .nil
theorem nil_argsB {es : Es} (hm : es = .nil) : ∀ σ H Q, tBA X.K X.mg F (evB es) σ H Q → Q [] H := fun σ H Q ⟨g, ms, vs, ms', R, e, k⟩ => by
  subst hm
  unfold evB at e
  cases e
  exact k g (fun _ => False) [] H R .refl (fun _ z => z.elim) .nil
theorem s_call {f : Fn} {es : Es} {y : Str} {xs : List Expr} {p pos : Pos} (ok : OkFn X f) (hy : y = f.name) (hg : isGl X.env.scope y = true) (ho : odd y = false) (hx : ∀ x ∈ xs, isPl x = true) (hn : xs = [] → es = .nil) (h : PA X xs (tA X.K X.mg F (evs es))) (b : Bool) :
    PE X (.Call (.Name y p) xs [] pos) (tE X.K X.mg F b (ev b (.call f es))) := by
  refine PE.imp (call_text ok hy hg ho hx h fun z => nil_args (hn z)) fun σ H Q ⟨g, ms, rv, ms', R, q, k⟩ => ?_
  unfold ev at q
  cases q1 : evs es ms with
  | none => rw [q1] at q; cases q
  | some r =>
    obtain ⟨vs, ms1⟩ := r
    rw [q1] at q
    dsimp only at q
    cases q2 : f.run vs ms1.hp with
    | none => rw [q2] at q; cases q
    | some r2 =>
      obtain ⟨v, hp⟩ := r2
      rw [q2] at q
      cases q
      refine ⟨g, ms, vs, ms1, R, q1, fun g1 ws H1 R1 x1 r1 => ?_⟩
      refine ⟨g1, ms1.hp, vs, rv, hp, R1.hr, by simpa using r1, q2, fun g2 v2 H2 h2 x2 z2 r2 => ?_⟩
      have R2 := R1.back h2 x2 z2
      refine k _ v2 H2 R2 (x1.trans ⟨⟨x2.keep, x2.zz, x2.io, x2.th⟩, fun a q => ?_, fun i a q => .inl ⟨i, q⟩⟩) ((r2.rvr R1).up.since x1.toExt0)
      rcases z2 a q with q | q
      · exact .inl q
      · exact .inr (.inl q)

/-- a def run with nothing of the small heap -/
theorem HRel.none (R : HRel X.K X.mg g ms.hp H) (Z : Addr → Prop) (hz : ∀ a, Z a → ∃ o, H a = some o) : HRel X.K X.mg ⟨[], Z, fun _ => .none⟩ [] H := ⟨rfl, List.nodup_nil, fun j a o h _ => by simp at h, fun a h => by simp at h, hz⟩
theorem AVRs.pure {Z : Addr → Prop} : ∀ {ws : List V} {vs : List AV} {ds : List PyData}, AVRs X.K { g with Z := Z } H ws vs → allD vs = some ds → AVRs X.K ⟨[], Z, fun _ => .none⟩ H ws vs
  | _, _, _, .nil, _ => .nil
  | _, _, _, .cons p q, e => by
    cases p with
    | dat p =>
      simp only [allD, Option.map_eq_some_iff] at e
      obtain ⟨ds, e1, rfl⟩ := e
      exact .cons (.dat p) (AVRs.pure q e1)
    | _ => simp [allD] at e
theorem s_callP {f : Fn} {es : Es} {y : Str} {xs : List Expr} {p pos : Pos} (ok : OkFn X f) (hy : y = f.name) (hg : isGl X.env.scope y = true) (ho : odd y = false) (hx : ∀ x ∈ xs, isPl x = true) (hn : xs = [] → es = .nil) (h : PA X xs (tA X.K X.mg F (evs es))) (b : Bool) :
    PE X (.Call (.Name y p) xs [] pos) (tE X.K X.mg F b (ev b (.callP f es))) := by
  refine PE.imp (call_text ok hy hg ho hx h fun z => nil_args (hn z)) fun σ H Q ⟨g, ms, rv, ms', R, q, k⟩ => ?_
  unfold ev at q
  cases q1 : evs es ms with
  | none => rw [q1] at q; cases q
  | some r =>
    obtain ⟨vs, ms1⟩ := r
    rw [q1] at q
    dsimp only at q
    cases q2 : allD vs with
    | none => rw [q2] at q; cases q
    | some ds =>
      rw [q2] at q
      dsimp only at q
      cases q3 : f.run vs [] with
      | none => rw [q3] at q; cases q
      | some r3 =>
        obtain ⟨v, hp⟩ := r3
        rw [q3] at q
        refine ⟨g, ms, vs, ms1, R, q1, fun g1 ws H1 R1 x1 r1 => ?_⟩
        refine ⟨⟨[], g1.Z, fun _ => .none⟩, [], vs, v, hp, R1.hr.none _ R1.hr.zt, by simpa using AVRs.pure r1 q2, q3, fun g2 v2 H2 h2 x2 z2 r2 => ?_⟩
        have keep : ∀ a o, H1 a = some o → H2 a = some o := fun a o q => x2.keep a o (by simp) q
        have e3 : Ext0 g1 H1 ⟨g1.io, g2.Z, g1.oa⟩ H2 := ⟨fun a o _ q => keep a o q, x2.zz, ⟨[], by simp, by simp⟩, fun a o q => ⟨o, keep a o q⟩⟩
        have e4 : Ext g1 H1 ⟨g1.io, g2.Z, g1.oa⟩ H2 := ⟨e3, fun a q => by
          rcases z2 a q with q | q
          · exact .inl q
          · exact .inr (.inl q), fun i a q => .inl ⟨i, q⟩⟩
        have R2 : Rel X.K X.mg F ⟨g1.io, g2.Z, g1.oa⟩ ms1 σ H2 := by
          refine ⟨⟨R1.hr.hl, R1.hr.nd, fun j a o q1 q2 => (R1.hr.ho j a o q1 q2).ext R1.hr e3 (keep a), fun a ha hz => ?_, h2.zt⟩, R1.len, fun i v hi => let ⟨x, p1, p2⟩ := R1.av i v hi; ⟨x, p1, R1.hr.avr e3 p2⟩,
            fun i ys hi => let ⟨a, us, p1, p2, p3, p4⟩ := R1.own i ys hi; ⟨a, us, p1, p2, keep _ _ p3, R1.hr.dzs e3 p4⟩, fun i a hi => ?_, R1.inj, ⟨R1.fr.io, fun a z => ?_, fun a z => x2.zz a (R1.fr.zz a z), fun a o p1 p2 => keep a o (R1.fr.keep a o p1 p2), fun a o p1 => let ⟨o', p2⟩ := R1.fr.th a o p1; ⟨o', keep a o' p2⟩⟩⟩
          · rcases z2 a hz with z | z
            · exact R1.hr.nz a ha z
            · obtain ⟨o, e⟩ := R1.hr.there ha
              rw [e] at z; cases z
          · obtain ⟨p1, p2, p3, o, p4⟩ := R1.oaf i a hi
            refine ⟨fun hz => ?_, p2, p3, o, keep a _ p4⟩
            rcases z2 a hz with z | z
            · exact p1 z
            · rw [p4] at z; cases z
          · rcases z2 a z with z | z
            · exact R1.fr.z a z
            · exact .inr (R1.f0 z)
        cases v with
        | av x =>
          cases x with
          | dat d =>
            cases q
            cases r2 with
            | av r2 =>
              cases r2 with
              | dat r2 => exact k _ v2 H2 R2 (x1.trans e4) (.av (.dat r2))
          | _ => cases q
        | lst ys =>
          cases q
          cases r2 with
          | lst p0 p1 p2 p3 p4 =>
            refine k _ _ H2 R2 (x1.trans e4) (RVR.since x1.toExt0 (.lst p1 p2 ?_ p4 (R1.f0 p0) fun _ => ⟨p0, R1.oa0 p0⟩))
            exact (R1.hr.fresh p0).1
theorem s_callB {f : Fn} {es : Es} {y : Str} {xs : List Expr} {p pos : Pos} (ok : OkFn X f) (hy : y = f.name) (hg : isGl X.env.scope y = true) (ho : odd y = false) (hx : ∀ x ∈ xs, isPl x = true) (hn : xs = [] → es = .nil) (h : PA X xs (tBA X.K X.mg F (evB es))) (b : Bool) :
    PE X (.Call (.Name y p) xs [] pos) (tE X.K X.mg F b (ev b (.callB f es))) := by
  refine PE.imp (call_text ok hy hg ho hx h fun z => nil_argsB (hn z)) fun σ H Q ⟨g, ms, rv, ms', R, q, k⟩ => ?_
  unfold ev at q
  cases q1 : evB es ms with
  | none => rw [q1] at q; cases q
  | some r =>
    obtain ⟨vs, ms1⟩ := r
    rw [q1] at q
    dsimp only at q
    cases q2 : allD vs with
    | none => rw [q2] at q; cases q
    | some ds =>
      rw [q2] at q
      dsimp only at q
      cases q3 : f.run vs [] with
      | none => rw [q3] at q; cases q
      | some r3 =>
        obtain ⟨v, hp⟩ := r3
        rw [q3] at q
        refine ⟨g, ms, vs, ms1, R, q1, fun g1 B ws H1 R1 x1 hB r1 => ?_⟩
        refine ⟨⟨[], fun a => g1.Z a ∨ B a, fun _ => .none⟩, [], vs, v, hp, R1.hr.none _ (fun a z => ?_), by simpa using AVRs.pure r1 q2, q3, fun g2 v2 H2 h2 x2 z2 r2 => ?_⟩
        · rcases z with z | z
          · exact R1.hr.zt a z
          · obtain ⟨_, vs, e⟩ := hB a z; exact ⟨_, e⟩
        have keep : ∀ a o, H1 a = some o → H2 a = some o := fun a o q => x2.keep a o (by simp) q
        have R2 : Rel X.K X.mg F g1 ms1 σ H2 := R1.same keep
        have e3 : Ext g1 H1 g1 H2 := .same keep
        cases v with
        | av x =>
          cases x with
          | dat d =>
            dsimp only at q
            by_cases c : noL d = true
            · rw [if_pos c] at q
              cases q
              cases r2 with
              | av r2 =>
                cases r2 with
                | dat r2 => exact k _ v2 H2 R2 (x1.trans e3) (.av (.dat (r2.noL d c)))
            · rw [if_neg c] at q
              cases q
          | _ => cases q
        | lst ys =>
          dsimp only at q
          by_cases c : noLs ys = true
          · rw [if_pos c] at q
            cases q
            cases r2 with
            | lst p0 p1 p2 p3 p4 =>
              refine k _ _ H2 R2 (x1.trans e3) (RVR.since x1.toExt0 (.lst p1 (p2.noL _ c) (R1.hr.fresh p0).1 (R1.hr.fresh p0).2 (R1.f0 p0) fun _ => ⟨p0, R1.oa0 p0⟩))
          · rw [if_neg c] at q
            cases q
end
end Sv

/-! Sv: places, built-in functions, tests. -/
namespace Sv
open PySem PySem.Spec PyProof.Rows L2
section
variable {X : Cx} {F : Fr} {g g' : G} {ms ms' : MS} {σ : L2.St} {H H' : Hp}
/-! ### a[i] -/
theorem HRel.lst {hp : List AO} (R : HRel X.K X.mg g hp H) {v : V} {j : Nat} {xs : List AV} (h : AVR X.K g H v (.ref j)) (e : hp[j]? = some (.lst xs)) : ∃ a vs, g.io[j]? = some a ∧ v = .ref a ∧ H a = some (.lst vs) ∧ AVRs X.K g H vs xs := by
  cases h with
  | @ref _ a h =>
    have o := R.ho j a _ h e
    cases o with
    | lst p q => exact ⟨a, _, h, rfl, p, q⟩
def subR : List AO → RV → RV → Option RV := fun hp x y => (subV hp x y).map .av
theorem atD_get {α : Type} {xs : List α} {i : Int} {v : α} (h : atD xs i = some v) : ∃ j, ixD xs.length i = some j ∧ xs[j]? = some v := by
  unfold atD at h
  cases e : ixD xs.length i with
  | none => rw [e] at h; cases h
  | some j => rw [e] at h; exact ⟨j, rfl, h⟩
theorem atD_of {α β : Type} {xs : List α} {ys : List β} (hl : xs.length = ys.length) {i : Int} {j : Nat} (h : ixD xs.length i = some j) : atD ys i = ys[j]? := by
  unfold atD
  rw [← hl, h]
theorem ix_sub : IxR X (rV X.K X.mg F subR) := by
  intro value slice pins s σ H v w v' w' Q I rv rw' h hs
  obtain ⟨g, ms, σ', x, y, z, R, lv, lw, e, k⟩ := h
  unfold subR at e
  obtain ⟨a, e1, rfl⟩ := Option.map_eq_some_iff.mp e
  unfold subV at e1
  split at e1
  · rename_i j i
    have ew := lw.int
    subst ew
    split at e1
    · rename_i xs e2
      cases lv with
      | av lv =>
        obtain ⟨b, vs, p1, rfl, p3, p4⟩ := R.hr.lst lv e2
        obtain ⟨n, q1, q2⟩ := atD_get e1
        obtain ⟨u, q3, q4⟩ := p4.get q2
        refine ix_list value slice pins s σ H _ _ v' w' Q I rv rw' ⟨b, vs, i, u, rfl, rfl, SqL.of p3, ?_, k u H (fun _ _ q => q) (.av q4)⟩ hs
        rw [atD_atI, atD_of p4.length.symm q1]
        exact q3
    · cases e1
  · rename_i i _
    have ew := lw.int
    subst ew
    split at e1
    · rename_i xs e2
      obtain ⟨b, vs, rfl, p3, p4⟩ := lv.list e2
      obtain ⟨d, e3, rfl⟩ := Option.map_eq_some_iff.mp e1
      obtain ⟨n, q1, q2⟩ := atD_get e3
      obtain ⟨u, q3, q4⟩ := p4.get q2
      refine ix_list value slice pins s σ H _ _ v' w' Q I rv rw' ⟨b, vs, i, u, rfl, rfl, SqL.of p3, ?_, k u H (fun _ _ q => q) (.av (.dat q4))⟩ hs
      rw [atD_atI, atD_of p4.length.symm q1]
      exact q3
    · rename_i xs e2
      obtain ⟨b, vs, rfl, p3, p4⟩ := lv.tuple e2
      obtain ⟨d, e3, rfl⟩ := Option.map_eq_some_iff.mp e1
      obtain ⟨n, q1, q2⟩ := atD_get e3
      obtain ⟨u, q3, q4⟩ := p4.get q2
      refine ix_tup value slice pins s σ H _ _ v' w' Q I rv rw' ⟨b, vs, i, u, rfl, rfl, p3, ?_, k u H (fun _ _ q => q) (.av (.dat q4))⟩ hs
      rw [atD_atI, atD_of p4.length.symm q1]
      exact q3
    · cases e1
  · cases e1

/-! ### a[lo:hi] -/
def rSlV (K : PySem.W.Frag) (mg : Str → Option Value) (F : Fr) : V → Option Int → Option Int → Hp → VK → Prop := fun v lo hi H Q => ∃ g ms σ x z, Rel K mg F g ms σ H ∧ LR K g H v x ∧ sliceV x lo hi = some z ∧
  ∀ v' H', (∀ a o, H a = some o → H' a = some o) → RVR K F g H H' false v' z → Q v' H'
inductive SlC : RV → Option Int → Option Int → RV → Prop
  | scr {ns : List Int} {lo hi : Option Int} : SlC (.av (.scr ns)) lo hi (.lst ((cutD ns lo hi).map .int))
  | str {x : Str} {lo hi : Option Int} : x.length ≤ LINE → SlC (.av (.dat (.str x))) lo hi (.av (.dat (.str ⟨(cutD x.cps.toList lo hi).toArray⟩)))
  | tup {xs : List PyData} {lo hi : Option Int} : SlC (.av (.dat (.tuple xs))) lo hi (.av (.dat (.tuple (cutD xs lo hi))))
  | lst {a : RV} {xs : List PyData} {lo hi : Option Int} : a.d? = some (.list xs) → SlC a lo hi (.lst (cutD xs lo hi))
theorem sl_cases {x z : RV} {lo hi : Option Int} (h : sliceV x lo hi = some z) : SlC x lo hi z := by
  unfold sliceV at h
  split at h
  · cases h; exact .scr
  · split at h
    · rename_i c; cases h; exact .str c
    · cases h
  · cases h; exact .tup
  · split at h
    · rename_i e; cases h; exact .lst e
    · cases h
theorem cutD_map {α β : Type} (f : α → β) (xs : List α) (lo hi : Option Int) : cutD (xs.map f) lo hi = (cutD xs lo hi).map f := by
  unfold cutD
  simp [List.map_take, List.map_drop]
theorem cutD_whole {α : Type} (xs : List α) (lo hi : Option Int) (h1 : clipD xs.length 0 lo = 0) (h2 : clipD xs.length xs.length hi = xs.length) : cutD xs lo hi = xs := by
  unfold cutD
  rw [h1, h2]
  simp
theorem sl_V : SlR X (rSlV X.K X.mg F) := by
  intro pins s σ H v v' vl vu lo hi sl Q I rx hs pl pu h
  obtain ⟨g, ms, σ', x, z, R, lv, e, k⟩ := h
  have C := sl_cases e
  cases C with
  | @scr ns =>
    cases lv with
    | av lv =>
      cases lv with
      | @scr a _ q =>
        refine sl_list pins s σ H _ v' vl vu lo hi sl Q I rx hs pl pu ⟨a, ns.map V.int, rfl, q.sql, fun p hp => ?_⟩
        refine k _ _ (up_same hp) ?_
        rw [cutD_cutV, cutD_map]
        exact R.newlst hp (dzs_ints _)
  | @str y _ _ c =>
    have ev := lv.str
    subst ev
    refine sl_str pins s σ H _ v' vl vu lo hi sl Q I rx hs pl pu ⟨y, rfl, by rw [line_eq]; exact c, ?_⟩
    refine k _ H (fun _ _ q => q) ?_
    have e : cutS y lo hi = ⟨(cutD y.cps.toList lo hi).toArray⟩ := by
      unfold cutS cutD
      have hl : y.length = y.cps.toList.length := by simp [Str.length]
      rw [hl, clipD_sIx _ _ (Nat.zero_le _), clipD_sIx _ _ (Nat.le_refl _)]
    rw [e]
    exact .av (.dat (.str _))
  | @tup xs =>
    obtain ⟨a, vs, rfl, p3, p4⟩ := lv.tup
    refine sl_tupA pins s σ H _ v' vl vu lo hi sl Q I rx hs pl pu ⟨a, vs, rfl, p3, fun w => ?_, fun w p hp => ?_⟩
    · refine k _ H (fun _ _ q => q) ?_
      rw [clipD_sIx _ _ (Nat.zero_le _), clipD_sIx _ _ (Nat.le_refl _), p4.length] at w
      rw [cutD_whole xs lo hi w.1 w.2]
      exact .av (.dat (.tup p3 p4))
    · refine k _ _ (up_same hp) ?_
      rw [cutD_cutV]
      exact R.newtup hp (p4.cut lo hi)
  | lst c =>
    obtain ⟨a, vs, rfl, p3, p4⟩ := lv.list c
    refine sl_list pins s σ H _ v' vl vu lo hi sl Q I rx hs pl pu ⟨a, vs, rfl, SqL.of p3, fun p hp => ?_⟩
    refine k _ _ (up_same hp) ?_
    rw [cutD_cutV]
    exact R.newlst hp (p4.cut lo hi)
theorem s_pnil : PO X none (tP X.K X.mg F (evP .nil)) := PO.imp po_none fun σ H Q ⟨g, ms, o, ms', R, e, k⟩ => by
  unfold evP at e
  cases e
  exact k g H R .refl
theorem s_pone {e : E} {x : Expr} (h : ∀ b, PE X x (tE X.K X.mg F b (ev b e))) : PO X (some x) (tP X.K X.mg F (evP (.cons e .nil))) := PO.imp (po_some (h true)) fun σ H Q ⟨g, ms, o, ms', R, q, k⟩ => by
  unfold evP at q
  split at q
  · rename_i i ms1 q1
    cases q
    exact ⟨g, ms, _, ms', R, q1, fun g1 v H1 R1 x1 r1 => ⟨i, r1.lr.int, k g1 H1 R1 x1⟩⟩
  · cases q
theorem s_slice {a : E} {lo hi : Es} {x : Expr} {l h : Option Expr} {p2 pos : Pos} (h1 : ∀ b, PE X x (tE X.K X.mg F b (ev b a))) (h2 : PO X l (tP X.K X.mg F (evP lo))) (h3 : PO X h (tP X.K X.mg F (evP hi))) (b : Bool) :
    PE X (.Subscript x (.Slice l h none p2) pos) (tE X.K X.mg F b (ev b (.slice a lo hi))) := by
  refine PE.imp (pe_slice (sl_V (F := F)) (h1 true) h2 h3) fun σ H Q ⟨g, ms, rv, ms', R, q, k⟩ => ?_
  unfold ev at q
  cases q1 : ev true a ms with
  | none => rw [q1] at q; cases q
  | some r1 =>
    obtain ⟨u, ms1⟩ := r1
    rw [q1] at q
    dsimp only at q
    cases q2 : evP lo ms1 with
    | none => rw [q2] at q; cases q
    | some r2 =>
      obtain ⟨l, ms2⟩ := r2
      rw [q2] at q
      dsimp only at q
      cases q3 : evP hi ms2 with
      | none => rw [q3] at q; cases q
      | some r3 =>
        obtain ⟨h, ms3⟩ := r3
        rw [q3] at q
        dsimp only at q
        obtain ⟨z, q4, q5⟩ := Option.map_eq_some_iff.mp q
        cases q5
        refine ⟨g, ms, u, ms1, R, q1, fun g1 v H1 R1 x1 t1 => ⟨g1, ms1, l, ms2, R1, q2, fun g2 H2 R2 x2 => ⟨g2, ms2, h, ms', R2, q3, fun g3 H3 R3 x3 => ?_⟩⟩⟩
        refine ⟨g3, ms', σ, u, rv, R3, (t1.lr.ext R1.hr x2.toExt0).ext R2.hr x3.toExt0, q4, fun v' H' hs rr => ?_⟩
        have xx := (x1.trans x2).trans x3
        exact k g3 v' H' (R3.same hs) (xx.trans (.same hs)) (rr.up.since xx.toExt0)

/-! ### the built-in functions -/
def rB1 (K : PySem.W.Frag) (mg : Str → Option Value) (F : Fr) (f : B1) : List V → Hp → VK → Prop := fun vs H Q => ∃ v g ms σ x z, vs = [v] ∧ Rel K mg F g ms σ H ∧ LR K g H v x ∧ b1V ms.hp f x = some z ∧
  ∀ v' H', (∀ a o, H a = some o → H' a = some o) → RVR K F g H H' false v' z → Q v' H'
def b1v : B1 → Value
  | .len => .builtin "len"
  | .int => .type "int"
  | .abs => .builtin "abs"
  | .sum => .builtin "sum"
  | .tuple => .type "tuple"
  | .list => .type "list"
  | .all => .builtin "all"
theorem call_b1 (hc : X.calm = true) (f : B1) : CallR X (b1v f) (rB1 X.K X.mg F f) := by
  intro pins s σ H vs us Q I r h
  obtain ⟨v, g, ms, σ', x, z, rfl, R, lv, e, k⟩ := h
  unfold b1V at e
  cases f with
  | len =>
    have e : lenV ms.hp x = some z := e
    unfold lenV at e
    split at e
    · split at e
      · rename_i xs e2
        cases e
        cases lv with
        | av lv =>
          obtain ⟨b, ws, p1, rfl, p3, p4⟩ := R.hr.lst lv e2
          exact call_len_seq pins s σ H _ us Q I r ⟨b, ws, rfl, .inl (SqL.of p3), by rw [p4.length]; exact k _ H (fun _ _ q => q) (rvr_int _)⟩
      · cases e
    · split at e
      · rename_i xs e2
        cases e
        obtain ⟨b, ws, rfl, p3, p4⟩ := lv.list e2
        exact call_len_seq pins s σ H _ us Q I r ⟨b, ws, rfl, .inl (SqL.of p3), by rw [p4.length]; exact k _ H (fun _ _ q => q) (rvr_int _)⟩
      · rename_i xs e2
        cases e
        obtain ⟨b, ws, rfl, p3, p4⟩ := lv.tuple e2
        exact call_len_seq pins s σ H _ us Q I r ⟨b, ws, rfl, .inr p3, by rw [p4.length]; exact k _ H (fun _ _ q => q) (rvr_int _)⟩
      · cases e
  | int =>
    have e : toInt x = some z := e
    unfold toInt at e
    split at e
    · cases e
      have ev := lv.int
      subst ev
      exact call_int1 pins s σ H _ us Q I r (.inl ⟨_, rfl, k _ H (fun _ _ q => q) (rvr_int _)⟩)
    · cases e
      have ev := lv.bl
      subst ev
      exact call_int1 pins s σ H _ us Q I r (.inr ⟨_, rfl, k _ H (fun _ _ q => q) (rvr_int _)⟩)
    · cases e
  | abs =>
    have e : absV x = some z := e
    unfold absV at e
    split at e
    · cases e
      have ev := lv.int
      subst ev
      exact call_abs pins s σ H _ us Q I r ⟨_, rfl, k _ H (fun _ _ q => q) (rvr_int _)⟩
    · cases e
  | sum =>
    dsimp only at e
    split at e
    · rename_i xs e2
      obtain ⟨ns, e3, rfl⟩ := Option.map_eq_some_iff.mp e
      obtain ⟨b, ws, rfl, p3, p4⟩ := lv.list e2
      have e4 := p4.int_of e3
      subst e4
      exact cr_sum hc pins s σ H _ us Q I r ⟨b, ns, rfl, SqL.of p3, k _ H (fun _ _ q => q) (rvr_int _)⟩
    · cases e
  | tuple =>
    dsimp only at e
    split at e
    · rename_i xs e2
      cases e
      obtain ⟨b, ws, rfl, p3, p4⟩ := lv.list e2
      exact call_tuple_of pins s σ H _ us Q I r ⟨b, ws, rfl, .inl ⟨SqL.of p3, fun p hp => k _ _ (up_same hp) (R.newtup hp p4)⟩⟩
    · rename_i xs e2
      cases e
      obtain ⟨b, ws, rfl, p3, p4⟩ := lv.tuple e2
      exact call_tuple_of pins s σ H _ us Q I r ⟨b, ws, rfl, .inr ⟨p3, k _ H (fun _ _ q => q) (.av (.dat (.tup p3 p4)))⟩⟩
    · cases e
  | list =>
    dsimp only at e
    split at e
    · rename_i xs e2
      cases e
      obtain ⟨b, ws, rfl, p3, p4⟩ := lv.list e2
      exact call_list_of pins s σ H _ us Q I r ⟨b, ws, rfl, .inl (SqL.of p3), fun p hp => k _ _ (up_same hp) (R.newlst hp p4)⟩
    · rename_i xs e2
      cases e
      obtain ⟨b, ws, rfl, p3, p4⟩ := lv.tuple e2
      exact call_list_of pins s σ H _ us Q I r ⟨b, ws, rfl, .inr p3, fun p hp => k _ _ (up_same hp) (R.newlst hp p4)⟩
    · cases e
  | all =>
    dsimp only at e
    split at e
    · rename_i xs e2
      obtain ⟨ns, e3, rfl⟩ := Option.map_eq_some_iff.mp e
      obtain ⟨b, ws, rfl, p3, p4⟩ := lv.list e2
      have e4 := p4.bl_of e3
      subst e4
      exact cr_all hc pins s σ H _ us Q I r ⟨b, ns, rfl, SqL.of p3, k _ H (fun _ _ q => q) (rvr_bl _)⟩
    · cases e
end
end Sv

/-! Sv: isinstance, ranges, truth. -/
namespace Sv
open PySem PySem.Spec PyProof.Rows L2
section
variable {X : Cx} {F : Fr} {g g' : G} {ms ms' : MS} {σ : L2.St} {H H' : Hp}
def tyN : PyData → String
  | .none => "NoneType"
  | .bool _ => "bool"
  | .int _ => "int"
  | .str _ => "str"
  | .list _ => "list"
  | .tuple _ => "tuple"
  | .dict _ => "dict"
theorem LR.ty {v : V} {x : RV} {d : PyData} (h : LR X.K g H v x) (e : x.d? = some d) : TyX X.K H v (.type (tyN d)) := by
  have tup : ∀ {a : Addr} {vs : List V}, SqT X.K H a vs → TyX X.K H (.ref a) (.type "tuple") := fun {a vs} q => by
    rcases q with (q | ⟨o, q⟩) | ⟨o, its, n, q, c, _⟩
    · exact .base (.tup q)
    · exact .fTuple q
    · exact .kTuple q c
  cases h with
  | av h =>
    cases h with
    | dat h =>
      simp [RV.d?] at e
      subst e
      cases h with
      | non => exact .base .non
      | bl _ => exact .base (.bl _)
      | int _ => exact .base (.int _)
      | str _ => exact .base (.str _)
      | lst q _ _ => exact .base (.lst q)
      | tup q _ => exact tup q
    | _ => simp [RV.d?] at e
  | lst q _ _ =>
    simp [RV.d?] at e
    subst e
    exact .base (.lst q)
theorem isi_fin {b : Bool} {sem : MS → Option (RV × MS)} {a : E} {t : Str} {T : String} {x : Expr} {y z : Str} {p pz pos : Pos} (hsem : sem = ev b (.isi a t)) (hy : y = sIsi) (hg : isGl X.env.scope y = true) (hgz : isGl X.env.scope z = true) (ok : OkX X)
    (hx : isPl x = true) (h : ∀ b, PE X x (tE X.K X.mg F b (ev b a))) (hz : X.mg z = none) (hv : bootBuiltins z = some (.type T)) (hn : z ≠ "__name__") (hd : (z == ("__debug__" : Str)) = false)
    (hk : ∀ d b, isiV (.av (.dat d)) t = some b → kitB (tyN d) T = some b) : PE X (.Call (.Name y p) [x, .Name z pz] [] pos) (tE X.K X.mg F b sem) := by
  subst hsem hy
  refine PE.imp (pe_callB (X := X) (p := p) (pos := pos) call_isi (gl_of hg) (ok.free sIsi (by decide)) (by decide +kernel) (pa_cons (h true) (pa_cons (pe_bltn (X := X) (v := .ty T) (pos := pz) (gl_of hgz) hz hv rfl hn hd) pa_nil) (pl_star hx _)) (by decide +kernel) (by decide +kernel) (pl_star hx _) rfl) fun σ H Q q => ?_
  have q2 := un_read (sa := ev true a) (op := fun _ x => (isiV x t).map blV) (fun ms r q => by
    unfold ev at q
    cases q1 : ev true a ms with
    | none => rw [q1] at q; cases q
    | some r1 =>
      obtain ⟨u, ms1⟩ := r1
      rw [q1] at q
      dsimp only at q
      obtain ⟨c, q4, q5⟩ := Option.map_eq_some_iff.mp q
      exact ⟨u, ms1, blV c, rfl, by rw [q4]; rfl, q5.symm⟩) q
  obtain ⟨g, ms, rv, ms', R, e, k⟩ := q2
  refine ⟨g, ms, rv, ms', R, e, fun g1 v H1 R1 x1 r1 => ?_⟩
  obtain ⟨g2, ms2, u, z, R2, l2, e2, k2⟩ := k g1 v H1 R1 x1 r1
  obtain ⟨c, e3, rfl⟩ := Option.map_eq_some_iff.mp e2
  cases hd' : u.d? with
  | none => unfold isiV at e3; rw [hd'] at e3; cases e3
  | some d =>
    have e4 : isiV (.av (.dat d)) t = some c := by
      unfold isiV at e3 ⊢
      rw [hd'] at e3
      exact e3
    exact ⟨v, .ty T, _, _, c, rfl, .ty T, l2.ty hd', kit_ty (hk d c e4), k2 _ H1 (fun _ _ q => q) (rvr_bl _)⟩
theorem kit_tab : ∀ T ∈ ["int", "bool", "list", "tuple", "str"], ∀ S ∈ ["NoneType", "bool", "int", "str", "list", "tuple", "dict"], kitB S T = some ((S == T) || ((T == "int") && (S == "bool"))) := by decide +kernel
theorem tyD_mem (d : PyData) : tyN d ∈ ["NoneType", "bool", "int", "str", "list", "tuple", "dict"] := by cases d <;> simp [tyN]
theorem isi_ans {t : Str} {T : String} (hT : T ∈ ["int", "bool", "list", "tuple", "str"]) (h : ∀ d : PyData, (decide (tyD d = t) || (decide (t = sInt) && decide (tyD d = sBool))) = ((tyN d == T) || ((T == "int") && (tyN d == "bool")))) (d : PyData) (b : Bool) (e : isiV (.av (.dat d)) t = some b) : kitB (tyN d) T = some b := by
  rw [kit_tab T hT _ (tyD_mem d), ← h d]
  unfold isiV at e
  simp only [RV.d?] at e
  split at e
  · exact e
  · cases e
theorem s_isi {a : E} {t : Str} {x : Expr} {y z : Str} {p pz pos : Pos} (hy : y = sIsi) (hg : isGl X.env.scope y = true) (hgz : isGl X.env.scope z = true) (ok : OkX X) (htz : t = z)
    (hx : isPl x = true) (h : ∀ b, PE X x (tE X.K X.mg F b (ev b a))) (b : Bool) : PE X (.Call (.Name y p) [x, .Name z pz] [] pos) (tE X.K X.mg F b (ev b (.isi a t))) := by
  subst htz
  by_cases ht : t = sInt ∨ t = sBool ∨ t = sList ∨ t = sTuple ∨ t = sStr
  · rcases ht with rfl | rfl | rfl | rfl | rfl
    · exact isi_fin (T := "int") rfl hy hg hgz ok hx h (ok.free sInt (by decide)) (by decide +kernel) (by decide) (by decide) (isi_ans (by decide) fun d => by cases d <;> rfl)
    · exact isi_fin (T := "bool") rfl hy hg hgz ok hx h (ok.free sBool (by decide)) (by decide +kernel) (by decide) (by decide) (isi_ans (by decide) fun d => by cases d <;> rfl)
    · exact isi_fin (T := "list") rfl hy hg hgz ok hx h (ok.free sList (by decide)) (by decide +kernel) (by decide) (by decide) (isi_ans (by decide) fun d => by cases d <;> rfl)
    · exact isi_fin (T := "tuple") rfl hy hg hgz ok hx h (ok.free sTuple (by decide)) (by decide +kernel) (by decide) (by decide) (isi_ans (by decide) fun d => by cases d <;> rfl)
    · exact isi_fin (T := "str") rfl hy hg hgz ok hx h (ok.free sStr (by decide)) (by decide +kernel) (by decide) (by decide) (isi_ans (by decide) fun d => by cases d <;> rfl)
  · -- another class: the small interpreter says nothing
    have nv : ∀ x, isiV x t = none := fun x => by
      unfold isiV
      split
      · rw [if_neg ht]
      · rfl
    refine PE.imp (t := fun _ _ _ => False) ⟨fun _ _ _ _ _ _ q => q.elim⟩ fun σ H Q ⟨g, ms, rv, ms', R, q, k⟩ => ?_
    unfold ev at q
    split at q
    · rw [nv] at q; cases q
    · cases q
theorem s_b1 {f : B1} {a : E} {x : Expr} {y : Str} {p pos : Pos} (hy : y = b1n f) (hg : isGl X.env.scope y = true) (ok : OkX X) (hx : isPl x = true) (h : ∀ b, PE X x (tE X.K X.mg F b (ev b a))) (b : Bool) :
    PE X (.Call (.Name y p) [x] [] pos) (tE X.K X.mg F b (ev b (.b1 f a))) := by
  have red : ∀ σ H Q, tE X.K X.mg F b (ev b (.b1 f a)) σ H Q → tCB (rB1 X.K X.mg F f) (tCons (tE X.K X.mg F true (ev true a)) tNil) σ H Q := fun σ H Q q => by
    have q2 := un_read (sa := ev true a) (op := fun hp x => b1V hp f x) (fun ms r q => by
      unfold ev at q
      cases q1 : ev true a ms with
      | none => rw [q1] at q; cases q
      | some r1 =>
        obtain ⟨u, ms1⟩ := r1
        rw [q1] at q
        dsimp only at q
        obtain ⟨c, q4, q5⟩ := Option.map_eq_some_iff.mp q
        exact ⟨u, ms1, c, rfl, q4, q5.symm⟩) q
    obtain ⟨g, ms, rv, ms', R, e, k⟩ := q2
    refine ⟨g, ms, rv, ms', R, e, fun g1 v H1 R1 x1 r1 => ?_⟩
    obtain ⟨g2, ms2, u, z, R2, l2, e2, k2⟩ := k g1 v H1 R1 x1 r1
    exact ⟨v, g2, ms2, σ, u, z, rfl, R2, l2, e2, k2⟩
  subst hy
  cases f with
  | len => exact PE.imp (pe_callB (X := X) (call_b1 ok.calm .len) (gl_of hg) (ok.free sLen (by decide)) (by decide +kernel) (pa_cons (h true) pa_nil (pl_star hx _)) (by decide +kernel) (by decide +kernel) (pl_star hx _) rfl) red
  | int => exact PE.imp (pe_callTy (X := X) (call_b1 ok.calm .int) (gl_of hg) (ok.free sInt (by decide)) (by decide +kernel) (pa_cons (h true) pa_nil (pl_star hx _)) (by decide +kernel) (by decide +kernel) (pl_star hx _) rfl) red
  | abs => exact PE.imp (pe_callB (X := X) (call_b1 ok.calm .abs) (gl_of hg) (ok.free sAbs (by decide)) (by decide +kernel) (pa_cons (h true) pa_nil (pl_star hx _)) (by decide +kernel) (by decide +kernel) (pl_star hx _) rfl) red
  | sum => exact PE.imp (pe_callB (X := X) (call_b1 ok.calm .sum) (gl_of hg) (ok.free sSum (by decide)) (by decide +kernel) (pa_cons (h true) pa_nil (pl_star hx _)) (by decide +kernel) (by decide +kernel) (pl_star hx _) rfl) red
  | tuple => exact PE.imp (pe_callTy (X := X) (call_b1 ok.calm .tuple) (gl_of hg) (ok.free sTuple (by decide)) (by decide +kernel) (pa_cons (h true) pa_nil (pl_star hx _)) (by decide +kernel) (by decide +kernel) (pl_star hx _) rfl) red
  | list => exact PE.imp (pe_callTy (X := X) (call_b1 ok.calm .list) (gl_of hg) (ok.free sList (by decide)) (by decide +kernel) (pa_cons (h true) pa_nil (pl_star hx _)) (by decide +kernel) (by decide +kernel) (pl_star hx _) rfl) red
  | all => exact PE.imp (pe_callB (X := X) (call_b1 ok.calm .all) (gl_of hg) (ok.free sAll (by decide)) (by decide +kernel) (pa_cons (h true) pa_nil (pl_star hx _)) (by decide +kernel) (by decide +kernel) (pl_star hx _) rfl) red

/-! ### x in range(n), x is None, truth -/
theorem s_inrange {neg : Bool} {a n : E} {x y : Expr} {o : CmpOp} {r : Str} {p pos cpos : Pos} (ho : mIn neg o = true) (hr : r = sRange) (hg : isGl X.env.scope r = true) (ok : OkX X) (hx : isPl x = true) (hy : isPl y = true)
    (h1 : ∀ b, PE X x (tE X.K X.mg F b (ev b a))) (h2 : ∀ b, PE X y (tE X.K X.mg F b (ev b n))) : Sd X F (.inrange neg a n) (.Compare x [o] [.Call (.Name r p) [y] [] cpos] pos) := by
  subst hr
  have pr := pe_callTy (X := X) (p := p) (pos := cpos) (cr_range1 (X := X)) (gl_of hg) (ok.free sRange (by decide)) (by decide +kernel) (pa_cons (h2 true) pa_nil (pl_star hy _)) (by decide +kernel) (by decide +kernel) (pl_star hy _) rfl
  have red : ∀ (rr : R2), (∀ i k a H (Q : VK), H a = some (.rng 0 k) → Q (.bl (if neg then !decide (0 ≤ i ∧ i < k) else decide (0 ≤ i ∧ i < k))) H → rr (.int i) (.ref a) H Q) → ∀ b σ H Q, tE X.K X.mg F b (ev b (.inrange neg a n)) σ H Q →
      tOp rr (tE X.K X.mg F true (ev true a)) (tCB (fun vs H Q => ∃ i, vs = [V.int i] ∧ ∀ p, H p = none → Q (.ref p) (upd H p (.rng 0 i))) (tCons (tE X.K X.mg F true (ev true n)) tNil)) σ H Q := fun rr hr b σ H Q ⟨g, ms, rv, ms', R, q, k⟩ => by
    unfold ev at q
    split at q
    · rename_i i ms1 q1
      split at q
      · rename_i m ms2 q2
        split at q
        · rename_i c
          cases q
          refine ⟨g, ms, _, ms1, R, q1, fun g1 v H1 R1 x1 r1 => ⟨g1, ms1, _, ms', R1, q2, fun g2 w H2 R2 x2 r2 => ?_⟩⟩
          have e1 := r1.lr.int
          have e2 := r2.lr.int
          subst e1 e2
          refine ⟨m, rfl, fun p hp => hr _ _ _ _ _ upd_same ?_⟩
          exact k g2 _ _ (R2.new hp) ((x1.trans x2).trans (.same (up_same hp))) (rvr_bl _)
        · cases q
      · cases q
    · cases q
  cases neg with
  | false =>
    cases o <;> simp [mIn] at ho
    have rd := red (fun x y H Q => ∃ i a lo hi, x = V.int i ∧ y = V.ref a ∧ H a = some (.rng lo hi) ∧ Q (.bl (decide (lo ≤ i ∧ i < hi))) H) fun i k a H Q h q => ⟨i, a, 0, k, rfl, rfl, h, q⟩
    exact ⟨fun b => PE.imp (pe_cmpR op_in_rng (h1 true) pr rfl) (rd b), fun _ => PT.imp (pt_cmpR op_in_rng (h1 true) pr rfl) fun σ H Q q => rd true σ H _ (tT_of q), fun _ _ _ z => by cases z⟩
  | true =>
    cases o <;> simp [mIn] at ho
    have rd := red (fun x y H Q => ∃ i a lo hi, x = V.int i ∧ y = V.ref a ∧ H a = some (.rng lo hi) ∧ Q (.bl (!decide (lo ≤ i ∧ i < hi))) H) fun i k a H Q h q => ⟨i, a, 0, k, rfl, rfl, h, q⟩
    exact ⟨fun b => PE.imp (pe_cmpR op_notin_rng (h1 true) pr rfl) (rd b), fun _ => PT.imp (pt_cmpR op_notin_rng (h1 true) pr rfl) fun σ H Q q => rd true σ H _ (tT_of q), fun _ _ _ z => by cases z⟩
theorem s_isnone {neg : Bool} {a : E} {x : Expr} {o : CmpOp} {j : Nat} {p pos : Pos} (ho : mIs neg o = true) (h : ∀ b, PE X x (tE X.K X.mg F b (ev b a))) : Sd X F (.isnone neg a) (.Compare x [o] [.Constant .none j p] pos) := by
  have red : ∀ b σ H Q, tE X.K X.mg F b (ev b (.isnone neg a)) σ H Q → tE X.K X.mg F true (ev true a) σ H fun v H1 => Q (.bl (if neg then !decide (v = .non) else decide (v = .non))) H1 := fun b σ H Q ⟨g, ms, rv, ms', R, q, k⟩ => by
    unfold ev at q
    split at q
    · rename_i ms1 q1
      cases q
      refine ⟨g, ms, _, ms', R, q1, fun g1 v H1 R1 x1 r1 => ?_⟩
      have r2 := r1.lr
      cases r2 with
      | av r2 => cases r2 with
        | dat r2 =>
          cases r2
          have q := k g1 (.bl (!neg)) H1 R1 x1 (rvr_bl _)
          cases neg <;> simpa using q
    · rename_i d ms1 hd q1
      cases q
      refine ⟨g, ms, _, ms', R, q1, fun g1 v H1 R1 x1 r1 => ?_⟩
      have hv : v ≠ .non := by
        rintro rfl
        have r2 := r1.lr
        cases r2 with
        | av r2 => cases r2 with
          | dat r2 => cases r2; exact hd rfl
      have q := k g1 (.bl neg) H1 R1 x1 (rvr_bl _)
      cases neg <;> simpa [hv] using q
    · rename_i xs ms1 q1
      cases q
      refine ⟨g, ms, _, ms', R, q1, fun g1 v H1 R1 x1 r1 => ?_⟩
      have hv : v ≠ .non := by
        rintro rfl
        have r2 := r1.lr
        cases r2
      have q := k g1 (.bl neg) H1 R1 x1 (rvr_bl _)
      cases neg <;> simpa [hv] using q
    · cases q
  cases neg with
  | false =>
    cases o <;> simp [mIs] at ho
    have rd : ∀ b σ H Q, tE X.K X.mg F b (ev b (.isnone false a)) σ H Q → tOp (fun x y H Q => y = .non ∧ Q (.bl (decide (x = .non))) H) (tE X.K X.mg F true (ev true a)) (tC .non) σ H Q := fun b σ H Q q => by
      obtain ⟨g, ms, rv, ms', R, e, k⟩ := red b σ H Q q
      exact ⟨g, ms, rv, ms', R, e, fun g1 v H1 R1 x1 r1 => ⟨rfl, k g1 v H1 R1 x1 r1⟩⟩
    exact ⟨fun b => PE.imp (pe_cmpR op_isN (h true) pe_non (nomark _)) (rd b), fun _ => PT.imp (pt_cmpR op_isN (h true) pe_non (nomark _)) fun σ H Q q => rd true σ H _ (tT_of q), fun _ _ _ z => by cases z⟩
  | true =>
    cases o <;> simp [mIs] at ho
    have rd : ∀ b σ H Q, tE X.K X.mg F b (ev b (.isnone true a)) σ H Q → tOp (fun x y H Q => y = .non ∧ Q (.bl (!decide (x = .non))) H) (tE X.K X.mg F true (ev true a)) (tC .non) σ H Q := fun b σ H Q q => by
      obtain ⟨g, ms, rv, ms', R, e, k⟩ := red b σ H Q q
      exact ⟨g, ms, rv, ms', R, e, fun g1 v H1 R1 x1 r1 => ⟨rfl, k g1 v H1 R1 x1 r1⟩⟩
    exact ⟨fun b => PE.imp (pe_cmpR op_notN (h true) pe_non (nomark _)) (rd b), fun _ => PT.imp (pt_cmpR op_notN (h true) pe_non (nomark _)) fun σ H Q q => rd true σ H _ (tT_of q), fun _ _ _ z => by cases z⟩
end
end Sv

/-! Sv: targets, walks, comprehensions. -/
namespace Sv
open PySem PySem.Spec PyProof.Rows L2
section
variable {X : Cx} {F : Fr} {g g' : G} {ms ms' : MS} {σ σ' : L2.St} {H H' : Hp}
/-! ### targets -/
def tgG (K : PySem.W.Frag) (mg : Str → Option Value) (F : Fr) (tg : List Nat) : TG := fun v σ H Q => ∃ g ms d rho, Rel K mg F g ms σ H ∧ Dz K g.Z H v d ∧ bindT tg d ms.rho = some rho ∧
  ∀ g' σ', Rel K mg F g' { ms with rho := rho } σ' H → Ext g H g' H → (∀ vs : List Nat, (∀ i ∈ tg, i ∈ vs) → wipe σ' vs = wipe σ vs) → Q σ' H
theorem wipe_set {σ : L2.St} {i : Nat} {x : Option V} : ∀ {vs : List Nat}, i ∈ vs → wipe (σ.set i x) vs = wipe σ vs
  | [], h => by cases h
  | v :: vs, h => by
    unfold wipe
    by_cases hi : i ∈ vs
    · rw [wipe_set hi]
    · have e : i = v := by
        rcases List.mem_cons.mp h with e | e
        · exact e
        · exact absurd e hi
      subst e
      have comm : ∀ (ws : List Nat), i ∉ ws → wipe (σ.set i x) ws = (wipe σ ws).set i x := fun ws => by
        induction ws with
        | nil => intro _; rfl
        | cons w ws ih =>
          intro hw
          unfold wipe
          rw [ih (fun z => hw (List.mem_cons_of_mem _ z)), List.set_comm]
          exact fun z => hw (by rw [z]; exact List.mem_cons_self)
      rw [comm vs hi, List.set_set]
theorem Ext.av_slot {i : Nat} : Ext g H { g with oa := fun j => if j = i then none else g.oa j } H := ⟨⟨fun _ _ _ h => h, fun _ h => h, ⟨[], by simp, by simp⟩, fun _ o h => ⟨o, h⟩⟩, fun _ h => .inl h, fun j a h => by
  by_cases hji : j = i
  · simp [hji] at h
  · simp [hji] at h; exact .inl ⟨j, h⟩⟩
/-- the names that may be stored, by a scope sc -/
def Stores (X : Cx) (sc : Scope) : Prop := ∀ y, isLoc sc y = true → Loc X.env.scope y ∧ (X.fn y = true ∨ X.env.scope.names.lookup y = some .local)
theorem stores_blk {s : Shared} {s2 : Scope} {cl : List (Str × Addr)} {C : Addr} {fp : List Addr} : Stores (X.blk s H s2 (compEnvC s2 cl C X.env) fp) s2 := fun y h => by
  simp only [isLoc, Bool.or_eq_true, decide_eq_true_eq] at h
  rcases h with h | h
  · have q : (relS s2 X.env.scope).names.lookup y = some .local := lookup_relS_keep (by decide) h
    exact ⟨.inl q, .inr q⟩
  · have q : (relS s2 X.env.scope).names.lookup y = some .cell := lookup_relS_keep (by decide) h
    refine ⟨.inr q, .inl ?_⟩
    show (s2.names.lookup y == some .cell) = true
    rw [h]
    rfl
theorem s_tgName (ok : OkX X) {sc : Scope} (st : Stores X sc) {i : Nat} {y : Str} {p : Pos} (hn : isNm X.N i y = true) (hl : isLoc sc y = true) : PG X (.Name y p) (gName i) :=
  pg_name ok.nd (of_decide_eq_true hn) (st y hl).1 (st y hl).2
def gsN : List Nat → TGs
  | [] => gNil
  | i :: is => gCons (gName i) (gsN is)
theorem s_tgNames (ok : OkX X) {sc : Scope} (st : Stores X sc) : ∀ {is : List Nat} {es : List Expr}, mTg.mTgs X.N sc is es = true → PGs X es (gsN is) ∧ (assignEach es X.env).length = is.length ∧ (assignEach es X.env).findIdx? (·.1) = none
  | [], [], _ => ⟨pgs_nil, rfl, rfl⟩
  | [], _ :: _, h => by simp [mTg.mTgs] at h
  | i :: is, [], h => by simp [mTg.mTgs] at h
  | i :: is, e :: es, h => by
    cases e <;> try (simp [mTg.mTgs] at h; done)
    rename_i y p
    simp only [mTg.mTgs, Bool.and_eq_true] at h
    obtain ⟨h1, h2, h3⟩ := s_tgNames ok st h.2
    refine ⟨pgs_cons (s_tgName ok st h.1.1 h.1.2) h1, ?_, ?_⟩
    · show (assignEach es X.env).length + 1 = is.length + 1
      rw [h2]
    · show List.findIdx? (·.1) ((false, assign (.Name y p) X.env) :: assignEach es X.env) = none
      rw [List.findIdx?_cons, h3]
      rfl
theorem gsN_read : ∀ {is : List Nat} {vs : List V} {ds : List PyData} {rho : List Slot} {g : G} {ms : MS} {σ : L2.St} {Q : L2.St → Hp → Prop}, Rel X.K X.mg F g ms σ H → Dzs X.K g.Z H vs ds → bindT.bindN is ds ms.rho = some rho →
    (∀ g' σ', Rel X.K X.mg F g' { ms with rho := rho } σ' H → Ext g H g' H → (∀ vs : List Nat, (∀ i ∈ is, i ∈ vs) → wipe σ' vs = wipe σ vs) → Q σ' H) → gsN is vs σ H Q
  | [], vs, ds, rho, g, ms, σ, Q, R, d, e, k => by
    cases ds with
    | cons _ _ => simp [bindT.bindN] at e
    | nil =>
      cases d
      simp [bindT.bindN] at e
      subst e
      exact ⟨rfl, k g σ R .refl fun _ _ => rfl⟩
  | i :: is, vs, ds, rho, g, ms, σ, Q, R, d, e, k => by
    cases ds with
    | nil => simp [bindT.bindN] at e
    | cons d0 ds =>
      cases d with
      | cons p q =>
        unfold bindT.bindN at e
        by_cases c : i < ms.rho.length
        · rw [if_pos c] at e
          have R1 := R.setAv c (.dat p)
          refine ⟨_, _, rfl, ?_⟩
          show gsN is _ (σ.set i (some _)) H Q
          refine gsN_read R1 (ds := ds) q (by exact e) fun g2 σ2 R2 x2 w2 => ?_
          refine k g2 σ2 R2 (Ext.av_slot.trans x2) fun us hus => ?_
          rw [w2 us fun j hj => hus j (List.mem_cons_of_mem _ hj), wipe_set (hus i List.mem_cons_self)]
        · rw [if_neg c] at e
          cases e
theorem s_tg (ok : OkX X) {sc : Scope} (st : Stores X sc) {tg : List Nat} {t : Expr} (h : mTg X.N sc tg t = true) : PG X t (tgG X.K X.mg F tg) := by
  unfold mTg at h
  split at h
  · rename_i i y p
    simp only [Bool.and_eq_true] at h
    refine PG.imp (s_tgName ok st h.1 h.2) fun v σ H Q ⟨g, ms, d, rho, R, dz, e, k⟩ => ?_
    have e : (if i < ms.rho.length then some (ms.rho.set i (.av (.dat d))) else none) = some rho := e
    by_cases c : i < ms.rho.length
    · rw [if_pos c] at e
      cases e
      exact k _ _ (R.setAv c (.dat dz)) .av_slot fun vs hvs => wipe_set (hvs i List.mem_cons_self)
    · rw [if_neg c] at e
      cases e
  · rename_i is es kk pp
    simp only [Bool.and_eq_true, decide_eq_true_eq] at h
    obtain ⟨h1, h2, h3⟩ := s_tgNames ok st h.2
    refine PG.imp (pg_tup ok.calm h1 h2 h3) fun v σ H Q ⟨g, ms, d, rho, R, dz, e, k⟩ => ?_
    unfold bindT at e
    split at e
    · exact absurd rfl h.1
    · split at e
      · rename_i c
        cases dz with
        | tup q1 q2 => exact ⟨_, _, rfl, q1, by rw [q2.length, c], gsN_read R q2 e k⟩
      · cases e
    · cases e
  · cases h

/-! ### walks -/
structure Wk (K : PySem.W.Frag) (mg : Str → Option Value) (J : It) (g : G) (H : Hp) (s : Src) : Prop where
  go : ∀ i g' H' hp d, HRel K mg g' hp H' → ExtS g H g' H' → s.item hp i = some (some d) → J.go i H' ∧ ∀ x H'', J.yld i H' x H'' → H'' = H' ∧ Dz K g'.Z H' x d
  stop : ∀ i g' H' hp, HRel K mg g' hp H' → ExtS g H g' H' → s.item hp i = some none → J.stop i H'
def tI (K : PySem.W.Frag) (mg : Str → Option Value) (F : Fr) (sem : MS → Option (Src × MS)) : TI := fun σ H R => ∃ g ms xs ms', Rel K mg F g ms σ H ∧ sem ms = some (xs, ms') ∧
  ∀ g' J H', Rel K mg F g' ms' σ H' → Ext g H g' H' → Wk K mg J g' H' xs → R J H'
theorem item_fix {xs : List PyData} {hp : List AO} {i : Nat} {o : Option PyData} (h : (Src.fix xs).item hp i = some o) : xs[i]? = o := by
  unfold Src.item at h
  exact Option.some.inj h
theorem none_len {α : Type} {xs : List α} {i : Nat} (h : xs[i]? = none) : xs.length ≤ i := by
  rw [List.getElem?_eq_none_iff] at h
  exact h
theorem wk_heap (R : Rel X.K X.mg F g ms σ H) {r : Nat} {a : Addr} (h : g.io[r]? = some a) : Wk X.K X.mg (Itl X.K a) g H (.heap r) := by
  have hi : ∀ g' H', ExtS g H g' H' → g'.io[r]? = some a := fun g' H' x => by
    obtain ⟨n, e, _⟩ := x.io
    rw [e, List.getElem?_append_left (List.getElem?_eq_some_iff.mp h).1]
    exact h
  refine ⟨fun i g' H' hp d R' x e => ?_, fun i g' H' hp R' x e => ?_⟩
  · unfold Src.item at e
    dsimp only at e
    split at e
    · rename_i vs e1
      split at e
      · cases e
      · rename_i d' e2
        cases e
        have q := R'.ho r a _ (hi g' H' x) e1
        cases q with
        | @lst ws _ q1 q2 =>
          obtain ⟨u, h1, h2⟩ := q2.get e2
          refine ⟨⟨ws, u, SqL.of q1, h1⟩, fun y H'' hy => ?_⟩
          obtain ⟨e3, hy⟩ := hy
          have := hy ws (SqL.of q1)
          rw [h1] at this
          cases this
          cases h2 with
          | dat h2 => exact ⟨e3, h2⟩
      · cases e
    · cases e
  · unfold Src.item at e
    dsimp only at e
    split at e
    · rename_i vs e1
      split at e
      · rename_i e2
        have q := R'.ho r a _ (hi g' H' x) e1
        cases q with
        | @lst ws _ q1 q2 => exact ⟨ws, SqL.of q1, by rw [q2.length]; exact none_len e2⟩
      · cases e
      · cases e
    · cases e
theorem wk_listZ (R : Rel X.K X.mg F g ms σ H) {a : Addr} {vs : List V} {xs : List PyData} (ha : H a = some (.lst vs)) (hz : g.Z a) (d : Dzs X.K g.Z H vs xs) : Wk X.K X.mg (Itl X.K a) g H (.fix xs) := by
  have hk : ∀ g' H', ExtS g H g' H' → SqL X.K H' a vs := fun g' H' x => SqL.of (R.keepZ x hz ha)
  refine ⟨fun i g' H' hp dd R' x e => ?_, fun i g' H' hp R' x e => ⟨vs, hk g' H' x, by rw [d.length]; exact none_len (item_fix e)⟩⟩
  obtain ⟨u, h1, _⟩ := d.get (item_fix e)
  refine ⟨⟨vs, u, hk g' H' x, h1⟩, fun y H'' ⟨e2, hy⟩ => ?_⟩
  obtain ⟨w, h3, h4⟩ := (R.dzsS x d).get' (hy vs (hk g' H' x))
  rw [item_fix e] at h3
  cases h3
  exact ⟨e2, h4⟩
theorem wk_scr (R : Rel X.K X.mg F g ms σ H) {a : Addr} {ns : List Int} (h : ScrAt X.K H a ns) : Wk X.K X.mg (Itl X.K a) g H (.fix (ns.map .int)) := by
  have hk : ∀ g' H', ExtS g H g' H' → SqL X.K H' a (ns.map V.int) := fun g' H' x => (h.keep fun o h => x.keep a _ (R.hr.no_frz h) (R.not_own h fun _ z => by cases z) h).sql
  refine ⟨fun i g' H' hp dd R' x e => ?_, fun i g' H' hp R' x e => ⟨_, hk g' H' x, by have := none_len (item_fix e); simpa using this⟩⟩
  have e1 := item_fix e
  rw [List.getElem?_map] at e1
  cases q : ns[i]? with
  | none => rw [q] at e1; cases e1
  | some n =>
    rw [q] at e1
    cases e1
    refine ⟨⟨_, V.int n, hk g' H' x, by rw [List.getElem?_map, q]; rfl⟩, fun y H'' ⟨e2, hy⟩ => ?_⟩
    have h2 := hy _ (hk g' H' x)
    rw [List.getElem?_map, q] at h2
    cases h2
    exact ⟨e2, .int n⟩
theorem wk_tup (R : Rel X.K X.mg F g ms σ H) {a : Addr} {vs : List V} {xs : List PyData} (ha : SqT X.K H a vs) (d : Dzs X.K g.Z H vs xs) : Wk X.K X.mg (Itt X.K a) g H (.fix xs) := by
  have hk : ∀ g' H', ExtS g H g' H' → SqT X.K H' a vs := fun g' H' x => R.sqTS x ha
  refine ⟨fun i g' H' hp dd R' x e => ?_, fun i g' H' hp R' x e => ⟨vs, hk g' H' x, by rw [d.length]; exact none_len (item_fix e)⟩⟩
  obtain ⟨u, h1, _⟩ := d.get (item_fix e)
  refine ⟨⟨vs, u, hk g' H' x, h1⟩, fun y H'' ⟨e2, hy⟩ => ?_⟩
  obtain ⟨w, h3, h4⟩ := (R.dzsS x d).get' (hy vs (hk g' H' x))
  rw [item_fix e] at h3
  cases h3
  exact ⟨e2, h4⟩
theorem wk_rng (lo : Int) (n : Nat) : Wk X.K X.mg (Itr lo n) g H (.fix ((List.range n).map fun (j : Nat) => PyData.int (lo + j))) := by
  refine ⟨fun i g' H' hp dd R' x e => ?_, fun i g' H' hp R' x e => (show n ≤ i from by have := none_len (item_fix e); simpa using this)⟩
  have e1 := item_fix e
  have hi : i < n := by
    have := (List.getElem?_eq_some_iff.mp e1).1
    simpa using this
  refine ⟨hi, fun y H'' ⟨e2, hy⟩ => ?_⟩
  subst hy
  simp [hi] at e1
  subst e1
  exact ⟨e2, .int (lo + i)⟩
theorem PI.or {tg x : Expr} {t t' : TI} (h : PI X tg x t) (h' : PI X tg x t') : PI X tg x (fun σ H R => t σ H R ∨ t' σ H R) := ⟨fun pins s σ H R I q => by
  rcases q with q | q
  · exact h.run pins s σ H R I q
  · exact h'.run pins s σ H R I q⟩
theorem s_seq {e : E} {x tg : Expr} (h : ∀ b, PE X x (tE X.K X.mg F b (ev b e))) : PI X tg x (tI X.K X.mg F (evI (.seq e))) := by
  refine PI.imp (PI.or (pi_list (h false)) (pi_tup (h false))) fun σ H RR ⟨g, ms, xs, ms', R, q, k⟩ => ?_
  unfold evI at q
  split at q
  · rename_i ns ms1 q1
    cases q
    refine .inl ⟨g, ms, _, ms', R, q1, fun g1 v H1 R1 x1 r1 => ?_⟩
    cases r1 with
    | av r1 => cases r1 with
      | @scr a _ r1 =>
        exact ⟨a, rfl, ⟨_, r1.sql⟩, k g1 _ H1 R1 x1 (wk_scr R1 r1)⟩
  · rename_i r ms1 q1
    split at q
    · rename_i vs0 e0
      cases q
      refine .inl ⟨g, ms, _, ms', R, q1, fun g1 v H1 R1 x1 r1 => ?_⟩
      cases r1 with
      | av r1 =>
        obtain ⟨a, vs, p1, rfl, p3, p4⟩ := R1.hr.lst r1 e0
        exact ⟨a, rfl, ⟨_, SqL.of p3⟩, k g1 _ H1 R1 x1 (wk_heap R1 p1)⟩
    · cases q
  · rename_i v ms1 _ _ q1
    split at q
    · rename_i ys hd
      cases q
      refine .inl ⟨g, ms, v, ms', R, q1, fun g1 w H1 R1 x1 r1 => ?_⟩
      obtain ⟨g2, R2, x2, _, r2⟩ := r1.val R1 x1
      have dz := r2.d?_dz hd
      cases dz with
      | lst p1 p2 p3 => exact ⟨_, rfl, ⟨_, SqL.of p1⟩, k g2 _ H1 R2 x2 (wk_listZ R2 p1 p2 p3)⟩
    · rename_i ys hd
      cases q
      refine .inr ⟨g, ms, v, ms', R, q1, fun g1 w H1 R1 x1 r1 => ?_⟩
      obtain ⟨g2, R2, x2, _, r2⟩ := r1.val R1 x1
      have dz := r2.d?_dz hd
      cases dz with
      | tup p1 p2 => exact ⟨_, rfl, ⟨_, p1⟩, k g2 _ H1 R2 x2 (wk_tup R2 p1 p2)⟩
    · cases q
  · cases q
theorem s_range1 {e : E} {y tg : Expr} {r : Str} {p pos : Pos} (hr : r = sRange) (hg : isGl X.env.scope r = true) (ok : OkX X) (hy : isPl y = true) (h : ∀ b, PE X y (tE X.K X.mg F b (ev b e))) : PI X tg (.Call (.Name r p) [y] [] pos) (tI X.K X.mg F (evI (.range1 e))) := by
  subst hr
  have pr := pi_range1 (X := X) (tg := tg) (p := p) (pos := pos) (gl_of hg) (ok.free sRange (by decide)) (pa_cons (h true) pa_nil (pl_star hy _)) (pl_star hy _)
  refine PI.imp pr fun σ H RR ⟨g, ms, xs, ms', R, q, k⟩ => ?_
  unfold evI at q
  split at q
  · rename_i n ms1 q1
    split at q
    · rename_i c
      cases q
      refine ⟨g, ms, _, ms', R, q1, fun g1 v H1 R1 x1 r1 => ?_⟩
      have e1 := r1.lr.int
      subst e1
      refine ⟨n, rfl, c.1, c.2, k g1 _ H1 R1 x1 ?_⟩
      have w := wk_rng (X := X) (g := g1) (H := H1) 0 n.toNat
      simpa using w
    · cases q
  · cases q
theorem s_range2 {a e : E} {x y tg : Expr} {r : Str} {p pos : Pos} (hr : r = sRange) (hg : isGl X.env.scope r = true) (ok : OkX X) (hx : isPl x = true) (hy : isPl y = true) (h1 : ∀ b, PE X x (tE X.K X.mg F b (ev b a))) (h2 : ∀ b, PE X y (tE X.K X.mg F b (ev b e))) :
    PI X tg (.Call (.Name r p) [x, y] [] pos) (tI X.K X.mg F (evI (.range2 a e))) := by
  subst hr
  have pr := pi_range2 (X := X) (tg := tg) (p := p) (pos := pos) (gl_of hg) (ok.free sRange (by decide)) (pa_cons (h1 true) (pa_cons (h2 true) pa_nil (pl_star hy _)) (pl_star hx _)) (by rw [pl_star hx, pl_star hy]; rfl) (by rw [pl_star hy]; rfl)
  refine PI.imp pr fun σ H RR ⟨g, ms, xs, ms', R, q, k⟩ => ?_
  unfold evI at q
  split at q
  · rename_i i ms1 q1
    split at q
    · rename_i j ms2 q2
      split at q
      · rename_i c
        cases q
        refine ⟨g, ms, _, ms1, R, q1, fun g1 v H1 R1 x1 r1 => ⟨g1, ms1, _, ms', R1, q2, fun g2 w H2 R2 x2 r2 => ?_⟩⟩
        have e1 := r1.lr.int
        have e2 := r2.lr.int
        subst e1 e2
        exact ⟨i, j, rfl, ⟨c.1.1, c.1.2, c.2.1, c.2.2⟩, k g2 _ H2 R2 (x1.trans x2) (wk_rng i (j - i).toNat)⟩
      · cases q
    · cases q
  · cases q

/-! ### comprehensions -/
theorem wipe_idem (σ : L2.St) : ∀ {vs ws : List Nat}, (∀ i ∈ vs, i ∈ ws) → wipe (wipe σ vs) ws = wipe σ ws
  | [], ws, _ => rfl
  | v :: vs, ws, h => by
    show wipe ((wipe σ vs).set v none) ws = _
    rw [wipe_set (h v List.mem_cons_self), wipe_idem σ fun i hi => h i (List.mem_cons_of_mem _ hi)]
theorem wipeR_length : ∀ (vs : List Nat) (rho : List Slot), (wipeR vs rho).length = rho.length
  | [], _ => rfl
  | v :: vs, rho => by unfold wipeR; rw [List.length_set, wipeR_length vs rho]
theorem wipeR_get : ∀ (vs : List Nat) (rho : List Slot) (i : Nat), (wipeR vs rho)[i]? = if i ∈ vs ∧ i < rho.length then some .emp else rho[i]?
  | [], _, _ => by simp [wipeR]
  | v :: vs, rho, i => by
    unfold wipeR
    by_cases hv : i = v
    · subst hv
      by_cases hl : i < rho.length
      · rw [List.getElem?_set_self (by rw [wipeR_length]; exact hl), if_pos ⟨List.mem_cons_self, hl⟩]
      · rw [if_neg (fun z => hl z.2), List.getElem?_eq_none (by simp [wipeR_length]; omega), List.getElem?_eq_none (by omega)]
    · rw [List.getElem?_set_ne (Ne.symm hv), wipeR_get vs rho i]
      simp [hv]
theorem wipe_get : ∀ (vs : List Nat) (σ : L2.St) (i : Nat), i ∉ vs → (wipe σ vs)[i]? = σ[i]?
  | [], _, _, _ => rfl
  | v :: vs, σ, i, h => by
    unfold wipe
    rw [List.getElem?_set_ne (fun z => h (by rw [z]; exact List.mem_cons_self)), wipe_get vs σ i fun z => h (List.mem_cons_of_mem _ z)]
theorem plainAt_get {tg : List Nat} {rho : List Slot} (h : plainAt tg rho = true) {i : Nat} (hi : i ∈ tg) : i < rho.length ∧ ∀ xs, rho[i]? ≠ some (.own xs) := by
  unfold plainAt at h
  have q := List.all_eq_true.mp h i hi
  cases e : rho[i]? with
  | none => rw [e] at q; cases q
  | some s =>
    refine ⟨(List.getElem?_eq_some_iff.mp e).1, fun xs z => ?_⟩
    cases z
    rw [e] at q
    cases q
theorem Rel.wipe (R : Rel X.K X.mg F g ms σ H) {tg : List Nat} (hp : plainAt tg ms.rho = true) : Rel X.K X.mg F g { ms with rho := wipeR tg ms.rho } (wipe σ tg) H := by
  refine ⟨R.hr, by rw [wipe_length, R.len]; exact (wipeR_length _ _).symm, fun i v hi => ?_, fun i xs hi => ?_, R.oaf, R.inj, R.fr⟩
  · have hi : (wipeR tg ms.rho)[i]? = some (.av v) := hi
    rw [wipeR_get] at hi
    by_cases c : i ∈ tg ∧ i < ms.rho.length
    · rw [if_pos c] at hi; cases hi
    · rw [if_neg c] at hi
      have hn : i ∉ tg := fun z => c ⟨z, (List.getElem?_eq_some_iff.mp hi).1⟩
      obtain ⟨x, h1, h2⟩ := R.av i v hi
      exact ⟨x, by rw [wipe_get _ _ _ hn]; exact h1, h2⟩
  · have hi : (wipeR tg ms.rho)[i]? = some (.own xs) := hi
    rw [wipeR_get] at hi
    by_cases c : i ∈ tg ∧ i < ms.rho.length
    · rw [if_pos c] at hi; cases hi
    · rw [if_neg c] at hi
      have hn : i ∉ tg := fun z => c ⟨z, (List.getElem?_eq_some_iff.mp hi).1⟩
      obtain ⟨a, vs, h1, h2, h3, h4⟩ := R.own i xs hi
      exact ⟨a, vs, h1, by rw [wipe_get _ _ _ hn]; exact h2, h3, h4⟩
theorem back_length : ∀ (tg : List Nat) (old new : List Slot), (Sv.back tg old new).length = new.length
  | [], _, _ => rfl
  | i :: is, old, new => by
    unfold Sv.back
    split
    · rw [List.length_set, back_length is old new]
    · exact back_length is old new
theorem back_get : ∀ (tg : List Nat) (old new : List Slot), old.length = new.length → ∀ i, (Sv.back tg old new)[i]? = if i ∈ tg then old[i]? else new[i]?
  | [], _, _, _, _ => by simp [Sv.back]
  | j :: is, old, new, hl, i => by
    unfold Sv.back
    by_cases hij : i = j
    · subst hij
      rw [if_pos List.mem_cons_self]
      cases e : old[i]? with
      | some o =>
        have : i < old.length := (List.getElem?_eq_some_iff.mp e).1
        simp only
        rw [List.getElem?_set_self (by rw [back_length]; omega)]
      | none =>
        simp only
        have h0 : old.length ≤ i := List.getElem?_eq_none_iff.mp e
        rw [List.getElem?_eq_none (by rw [back_length]; omega)]
    · have ih := back_get is old new hl i
      have hm : (i ∈ j :: is) ↔ i ∈ is := by simp [hij]
      simp only [hm]
      cases e : old[j]? with
      | some o =>
        simp only
        rw [List.getElem?_set_ne (Ne.symm hij), ih]
      | none =>
        simp only
        exact ih
theorem Rel.unwipe {g1 : G} {ms1 : MS} {H1 : Hp} (R1 : Rel X.K X.mg F g1 ms1 σ H1) (x : Ext0 g1 H1 g H) {tg : List Nat} (R : Rel X.K X.mg F g ms (L2.wipe σ tg) H) (hp : plainAt tg ms1.rho = true) :
    Rel X.K X.mg F g { ms with rho := Sv.back tg ms1.rho ms.rho } σ H := by
  have hl : ms1.rho.length = ms.rho.length := by rw [← R1.len, ← R.len, wipe_length]
  refine ⟨R.hr, by rw [R1.len, hl]; exact (back_length _ _ _).symm, fun i v hi => ?_, fun i xs hi => ?_, R.oaf, R.inj, R.fr⟩
  · have hi : (Sv.back tg ms1.rho ms.rho)[i]? = some (.av v) := hi
    rw [back_get _ _ _ hl] at hi
    by_cases c : i ∈ tg
    · rw [if_pos c] at hi
      obtain ⟨y, h1, h2⟩ := R1.av i v hi
      exact ⟨y, h1, R1.hr.avr x h2⟩
    · rw [if_neg c] at hi
      obtain ⟨y, h1, h2⟩ := R.av i v hi
      exact ⟨y, by rw [wipe_get _ _ _ c] at h1; exact h1, h2⟩
  · have hi : (Sv.back tg ms1.rho ms.rho)[i]? = some (.own xs) := hi
    rw [back_get _ _ _ hl] at hi
    by_cases c : i ∈ tg
    · rw [if_pos c] at hi
      exact absurd hi ((plainAt_get hp c).2 xs)
    · rw [if_neg c] at hi
      obtain ⟨a, vs, h1, h2, h3, h4⟩ := R.own i xs hi
      exact ⟨a, vs, h1, by rw [wipe_get _ _ _ c] at h2; exact h2, h3, h4⟩
/-- a list that the walk itself is filling: nobody else has it -/
structure Mine (g : G) (H : Hp) (D : Addr) (ws : List V) : Prop where
  at_ : H D = some (.lst ws)
  io : D ∉ g.io
  z : ¬ g.Z D
  oa : ∀ i, g.oa i ≠ some D
theorem Mine.ext {D : Addr} {ws : List V} (m : Mine g H D ws) (x : Ext g H g' H') : Mine g' H' D ws := by
  refine ⟨x.keep D _ m.io m.at_, fun h => ?_, fun h => ?_, fun i h => ?_⟩
  · obtain ⟨n, e, hn⟩ := x.io
    rw [e] at h
    rcases List.mem_append.mp h with h | h
    · exact m.io h
    · have := hn D h
      rw [m.at_] at this; cases this
  · rcases x.zn D h with h | h | ⟨i, h⟩
    · exact m.z h
    · rw [m.at_] at h; cases h
    · exact m.oa i h
  · rcases x.on i D h with ⟨j, h⟩ | h
    · exact m.oa j h
    · rw [m.at_] at h; cases h
theorem Mine.poke {D : Addr} {ws us : List V} (m : Mine g H D ws) (R : Rel X.K X.mg F g ms σ H) (hF : F.H D = none) : Rel X.K X.mg F g ms σ (upd H D (.lst us)) ∧ Mine g (upd H D (.lst us)) D us ∧ (∀ {vs : List V} {ds : List PyData}, Dzs X.K g.Z H vs ds → Dzs X.K g.Z (upd H D (.lst us)) vs ds) ∧
    (∀ {v : V} {d : PyData}, Dz X.K g.Z H v d → Dz X.K g.Z (upd H D (.lst us)) v d) := by
  have ht : ∀ a xs, SqT X.K H a xs → SqT X.K (upd H D (.lst us)) a xs := fun a xs h => sqT_keep (fun b ys q => by
    rw [upd_ne (fun e => by rw [e, m.at_] at q; cases q)]; exact q) (fun b o ys q => by
    rw [upd_ne (fun e => by rw [e, m.at_] at q; cases q)]; exact q) h
  have hl : ∀ a xs, g.Z a → H a = some (.lst xs) → g.Z a ∧ upd H D (.lst us) a = some (.lst xs) := fun a xs z q => ⟨z, by rw [upd_ne (fun e => m.z (by rw [← e]; exact z))]; exact q⟩
  have dz : ∀ {v : V} {d : PyData}, Dz X.K g.Z H v d → Dz X.K g.Z (upd H D (.lst us)) v d := fun {v d} h => Dz.mono hl ht d h
  have dzs : ∀ {v : List V} {d : List PyData}, Dzs X.K g.Z H v d → Dzs X.K g.Z (upd H D (.lst us)) v d := fun {v d} h => Dzs.mono hl ht d h
  have av : ∀ {v : V} {x : AV}, AVR X.K g H v x → AVR X.K g (upd H D (.lst us)) v x := fun {v x} h => by
    cases h with
    | dat h => exact .dat (dz h)
    | ref h => exact .ref h
    | fd z h k q => exact .fd z (by rw [upd_ne (fun e => m.z (by rw [← e]; exact z))]; exact h) k (dzs q)
    | scr h => exact .scr (h.keep fun o h => by rw [upd_ne (fun e => by rw [e, m.at_] at h; cases h)]; exact h)
  have avs : ∀ {v : List V} {x : List AV}, AVRs X.K g H v x → AVRs X.K g (upd H D (.lst us)) v x := fun {v x} h => by
    induction h with
    | nil => exact .nil
    | cons p _ ih => exact .cons (av p) ih
  have ne : ∀ a, a ∈ g.io → a ≠ D := fun a h e => m.io (by rw [← e]; exact h)
  have th : ∀ a o, H a = some o → ∃ o', upd H D (.lst us) a = some o' := fun a o q => by
    by_cases e : a = D
    · subst e; exact ⟨_, upd_same⟩
    · exact ⟨o, by rw [upd_ne e]; exact q⟩
  refine ⟨⟨⟨R.hr.hl, R.hr.nd, fun j a o h1 h2 => ?_, R.hr.nz, fun a z => let ⟨o, q⟩ := R.hr.zt a z; th a o q⟩, R.len, fun i v hi => let ⟨x, h1, h2⟩ := R.av i v hi; ⟨x, h1, av h2⟩, fun i xs hi => ?_, fun i a hi => let ⟨h1, h2, h3, o, h4⟩ := R.oaf i a hi; ⟨h1, h2, h3, o, by rw [upd_ne (fun e => m.oa i (by rw [← e]; exact hi))]; exact h4⟩, R.inj,
    ⟨R.fr.io, R.fr.z, R.fr.zz, fun a o h1 h2 => ?_, fun a o h => let ⟨o', q⟩ := R.fr.th a o h; th a o' q⟩⟩, ⟨upd_same, m.io, m.z, m.oa⟩, dzs, dz⟩
  · have ha : a ∈ g.io := List.mem_of_getElem? h1
    have q := R.hr.ho j a o h1 h2
    cases q with
    | lst h q => exact .lst (by rw [upd_ne (ne a ha)]; exact h) (avs q)
    | dct h k q => exact .dct (by rw [upd_ne (ne a ha)]; exact h) k (avs q)
    | ins h mm k q => exact .ins (by rw [upd_ne (ne a ha)]; exact h) mm k (avs q)
  · obtain ⟨a, vs, h1, h2, h3, h4⟩ := R.own i xs hi
    exact ⟨a, vs, h1, h2, by rw [upd_ne (fun e => m.oa i (by rw [← e]; exact h1))]; exact h3, dzs h4⟩
  · rw [upd_ne (fun e => by rw [e, hF] at h2; cases h2)]
    exact R.fr.keep a o h1 h2
theorem fix_item {xs : List PyData} {hp : List AO} {i : Nat} : (Src.fix xs).item hp i = some xs[i]? := rfl
theorem compL_compS {tg : List Nat} {test : MS → Option (Bool × MS)} {elt : MS → Option (RV × MS)} {all : List PyData} : ∀ (xs acc : List PyData) (ms : MS) (i : Nat) {r : List PyData × MS}, all.drop i = xs → i ≤ all.length → compL tg test elt xs acc ms = some r → compS tg test elt (.fix all) (xs.length + 1) i acc ms = some r
  | [], acc, ms, i, r, hd, hi, h => by
    have e : all[i]? = none := by
      rw [List.getElem?_eq_none_iff]
      have := congrArg List.length hd
      simp at this
      omega
    unfold compL at h
    unfold compS
    rw [fix_item, e]
    exact h
  | x :: xs, acc, ms, i, r, hd, hi, h => by
    have hlt : i < all.length := by
      have := congrArg List.length hd
      simp at this
      omega
    rw [List.drop_eq_getElem_cons hlt] at hd
    have e1 : all[i]? = some x := by
      rw [List.getElem?_eq_getElem hlt]
      exact congrArg some (List.cons.inj hd).1
    have ih := fun acc ms {r} => compL_compS (tg := tg) (test := test) (elt := elt) (all := all) xs acc ms (i + 1) (r := r) (List.cons.inj hd).2 hlt
    unfold compL at h
    show compS tg test elt (.fix all) ((xs.length + 1) + 1) i acc ms = some r
    rw [compS.eq_2, fix_item, e1]
    dsimp only
    split at h
    · rename_i rho e2
      try rw [e2]
      try dsimp only
      split at h
      · rename_i ms1 e3
        try rw [e3]
        try dsimp only
        split at h
        · rename_i v ms2 e4
          try rw [e4]
          try dsimp only
          split at h
          · rename_i d e5
            try rw [e5]
            try dsimp only
            split at h
            · rename_i c1
              try rw [if_pos c1]
              split at h
              · rename_i c2
                try rw [if_pos c2]
                exact ih _ _ h
              · cases h
            · cases h
          · cases h
        · cases h
      · rename_i ms1 e3
        try rw [e3]
        try dsimp only
        split at h
        · rename_i c2
          try rw [if_pos c2]
          exact ih _ _ h
        · cases h
      · cases h
    · cases h
theorem compX_S {tg : List Nat} {test : MS → Option (Bool × MS)} {elt : MS → Option (RV × MS)} {s : Src} {ms : MS} {r : List PyData × MS} (h : compX tg test elt s ms = some r) : ∃ n, compS tg test elt s n 0 [] ms = some r := by
  cases s with
  | fix xs => exact ⟨_, compL_compS xs [] ms 0 (by simp) (Nat.zero_le _) h⟩
  | heap r => exact ⟨FUEL, h⟩
theorem s_comp {e : E} {tg : List Nat} {it : I} {c : Es} {x t i : Expr} {ifs : List Expr} {s2 : Scope} {pos : Pos} (ok : OkX X) (hb : blkC X.N X.env.scope s2 ((tgNames t).zip tg) = true) (hl : (tgNames t).length = tg.length) (hi : PI X t i (tI X.K X.mg F (evI it))) (hset : ∀ v, foldedSetIterable i X.env v = pure v)
    (hg : ∀ (s : Shared) (H : Hp) (C : Addr) (cl : List (Str × Addr)) (fp : List Addr), PG (X.blk s H s2 (compEnvC s2 cl C X.env) fp) t (tgG X.K X.mg F tg)) (ht : ∀ (s : Shared) (H : Hp) (C : Addr) (cl : List (Str × Addr)) (fp : List Addr), PTs (X.blk s H s2 (compEnvC s2 cl C X.env) fp) ifs (tC' X.K X.mg F (evC c)))
    (he : ∀ (s : Shared) (H : Hp) (C : Addr) (cl : List (Str × Addr)) (fp : List Addr), PE (X.blk s H s2 (compEnvC s2 cl C X.env) fp) x (tE X.K X.mg F false (ev false e))) (b : Bool) :
    (∀ σ H Q, tE X.K X.mg F b (ev b (.comp e tg it c)) σ H Q → tLc (tI X.K X.mg F (evI it)) (tgG X.K X.mg F tg) (tC' X.K X.mg F (evC c)) (tE X.K X.mg F false (ev false e)) tg σ H Q) := by
  intro σ H Q ⟨g, ms, rv, ms', R, q, k⟩
  unfold ev at q
  cases q1 : evI it ms with
  | none => rw [q1] at q; cases q
  | some r1 =>
  obtain ⟨xs, ms1⟩ := r1
  rw [q1] at q
  dsimp only at q
  by_cases hp : plainAt tg ms1.rho = true
  case neg => rw [if_neg hp] at q; cases q
  rw [if_pos hp] at q
  cases q2 : compX tg (evC c) (ev false e) xs { ms1 with rho := wipeR tg ms1.rho } with
  | none => rw [q2] at q; cases q
  | some r2 =>
  obtain ⟨accF, ms2⟩ := r2
  rw [q2] at q
  cases q
  refine ⟨g, ms, xs, ms1, R, q1, fun g1 J H1 R1 x1 wk D hD => ?_⟩
  have hFD : F.H D = none := R1.f0 hD
  have hSD : H D = none := x1.toExt0.back hD
  obtain ⟨nf, q2⟩ := compX_S q2
  refine ⟨fun i m H' => ∃ g' mst acc ws, Rel X.K X.mg F g' mst (L2.wipe σ tg) H' ∧ Ext g1 H1 g' H' ∧ Mine g' H' D ws ∧ Dzs X.K g'.Z H' ws acc ∧ compS tg (evC c) (ev false e) xs m i acc mst = some (accF, ms2), ⟨nf, ?_⟩, ?_⟩
  · exact ⟨g1, _, [], [], (R1.wipe hp).new hD, .same (up_same hD), ⟨upd_same, (R1.hr.fresh hD).1, (R1.hr.fresh hD).2, R1.oa0 hD⟩, .nil, q2⟩
  rintro i m H' ⟨g', mst, acc, ws, R', x', mine, dz, ecl⟩
  cases m with
  | zero => unfold compS at ecl; cases ecl
  | succ m =>
  rw [compS.eq_2] at ecl
  split at ecl
  · cases ecl
  · rename_i c1
    have st := wk.stop i g' H' mst.hp R'.hr x'.s c1
    cases ecl
    refine .inl ⟨st, ?_⟩
    refine k g' _ H' (R1.unwipe x'.toExt0 R' hp) (x1.trans x') (.lst mine.at_ dz mine.io mine.z hFD fun _ => ⟨hSD, mine.oa⟩)
  · rename_i d c1
    obtain ⟨go, yl⟩ := wk.go i g' H' mst.hp d R'.hr x'.s c1
    refine .inr ⟨go, fun H'' => ∃ g' mst acc ws, Rel X.K X.mg F g' mst (L2.wipe σ tg) H'' ∧ Ext g1 H1 g' H'' ∧ Mine g' H'' D ws ∧ Dzs X.K g'.Z H'' ws acc ∧ compS tg (evC c) (ev false e) xs m (i + 1) acc mst = some (accF, ms2), fun H'' h => ⟨m, Nat.lt_succ_self _, h⟩, fun y H'' hy => ?_⟩
    obtain ⟨rfl, hdz⟩ := yl y H'' hy
    cases e1 : bindT tg d mst.rho with
    | none => rw [e1] at ecl; cases ecl
    | some rho =>
    rw [e1] at ecl
    dsimp only at ecl
    refine ⟨g', mst, d, rho, R', hdz, e1, fun g2 σ2 R2 x2 w2 => ⟨by rw [w2 tg fun i hi => hi, wipe_idem σ fun i hi => hi], ?_⟩⟩
    have hw2 : L2.wipe σ2 tg = L2.wipe σ tg := by rw [w2 tg fun i hi => hi, wipe_idem σ fun i hi => hi]
    cases e2 : evC c { mst with rho := rho } with
    | none => rw [e2] at ecl; cases ecl
    | some r3 =>
    obtain ⟨cb, msA⟩ := r3
    rw [e2] at ecl
    refine ⟨g2, _, cb, msA, R2, e2, fun g3 H3 R3 x3 => ?_⟩
    have mine3 := mine.ext (x2.trans x3)
    have xx3 := x'.trans (x2.trans x3)
    cases cb with
    | true =>
      dsimp only at ecl
      cases e3 : ev false e msA with
      | none => rw [e3] at ecl; cases ecl
      | some r4 =>
      obtain ⟨v, msB⟩ := r4
      rw [e3] at ecl
      dsimp only at ecl
      cases e4 : v.d? with
      | none => rw [e4] at ecl; cases ecl
      | some dv =>
      rw [e4] at ecl
      dsimp only at ecl
      by_cases c2 : acc.length < LINE
      case neg => rw [if_neg c2] at ecl; cases ecl
      rw [if_pos c2] at ecl
      by_cases c3 : plainAt tg msB.rho = true
      case neg => rw [if_neg c3] at ecl; cases ecl
      rw [if_pos c3] at ecl
      refine iteT ?_
      refine ⟨g3, msA, v, msB, R3, e3, fun g4 z H4 R4 x4 r4 => ?_⟩
      obtain ⟨g5, R5, x5, _, r5⟩ := r4.val R4 x4
      have dzz := r5.d?_dz e4
      have mine5 := mine3.ext x5
      have dz5 := R3.hr.dzs x5.toExt0 (R'.hr.dzs (x2.trans x3).toExt0 dz)
      refine ⟨ws, mine5.at_, by rw [line_eq, dz.length]; exact c2, ?_⟩
      obtain ⟨R6, mine6, p1, p2⟩ := mine5.poke (us := ws ++ [z]) R5 hFD
      refine ⟨g5, _, _, ws ++ [z], ?_, ?_, mine6, (p1 dz5).append (.cons (p2 dzz) .nil), ecl⟩
      · have := R6.wipe c3
        rw [hw2] at this
        exact this
      · have xx5 := xx3.trans x5
        refine ⟨⟨fun a o h1 h2 => ?_, xx5.zz, xx5.io, fun a o h => ?_⟩, xx5.zn, xx5.on⟩
        · rw [upd_ne (fun e => by rw [e, hD] at h2; cases h2)]
          exact xx5.keep a o h1 h2
        · rw [upd_ne (fun e => by rw [e, hD] at h; cases h)]
          exact xx5.th a o h
    | false =>
      dsimp only at ecl
      by_cases c3 : plainAt tg msA.rho = true
      case neg => rw [if_neg c3] at ecl; cases ecl
      rw [if_pos c3] at ecl
      refine iteF ?_
      refine ⟨g3, _, _, ws, ?_, xx3, mine3, R'.hr.dzs (x2.trans x3).toExt0 dz, ecl⟩
      have := R3.wipe c3
      rw [hw2] at this
      exact this
end
end Sv

/-! Sv: objects of the program's classes; texts of ints, joined texts. -/
namespace Sv
open PySem PySem.Spec PyProof.Rows L2
section
variable {X : Cx} {F : Fr} {g g' : G} {ms ms' : MS} {σ : L2.St} {H H' : Hp}
/-! ### attributes side by side -/
theorem flook : ∀ {fs : List (Str × V)} {gs : List (Str × AV)} {f : Str} {v : AV}, fs.map (·.1) = gs.map (·.1) → AVRs X.K g H (fs.map (·.2)) (gs.map (·.2)) → gs.lookup f = some v → ∃ u, fs.lookup f = some u ∧ AVR X.K g H u v
  | [], [], _, _, _, _, h => by simp at h
  | [], _ :: _, _, _, e, _, _ => by simp at e
  | _ :: _, [], _, _, e, _, _ => by simp at e
  | (k, u) :: fs, (k', w) :: gs, f, v, e, r, h => by
    simp only [List.map_cons, List.cons.injEq] at e
    obtain ⟨e1, e2⟩ := e
    have e1 : k = k' := e1
    subst e1
    cases r with
    | cons p q =>
      rw [List.lookup_cons] at h
      rw [List.lookup_cons]
      cases c : f == k with
      | true => rw [c] at h; cases h; exact ⟨u, rfl, p⟩
      | false => rw [c] at h; exact flook e2 q h
theorem fnone : ∀ {fs : List (Str × V)} {gs : List (Str × AV)} {f : Str}, fs.map (·.1) = gs.map (·.1) → gs.lookup f = none → fs.lookup f = none
  | [], _, _, _, _ => rfl
  | _ :: _, [], _, e, _ => by simp at e
  | (k, u) :: fs, (k', w) :: gs, f, e, h => by
    simp only [List.map_cons, List.cons.injEq] at e
    obtain ⟨e1, e2⟩ := e
    have e1 : k = k' := e1
    subst e1
    rw [List.lookup_cons] at h
    rw [List.lookup_cons]
    cases c : f == k with
    | true => rw [c] at h; cases h
    | false => rw [c] at h; exact fnone e2 h
theorem fput : ∀ {fs : List (Str × V)} {gs : List (Str × AV)} {f : Str} {u : V} {v : AV}, fs.map (·.1) = gs.map (·.1) → AVRs X.K g H (fs.map (·.2)) (gs.map (·.2)) → AVR X.K g H u v →
    (putF f u fs).map (·.1) = (putA f v gs).map (·.1) ∧ AVRs X.K g H ((putF f u fs).map (·.2)) ((putA f v gs).map (·.2))
  | [], [], f, u, v, _, _, p => ⟨rfl, .cons p .nil⟩
  | [], _ :: _, _, _, _, e, _, _ => by simp at e
  | _ :: _, [], _, _, _, e, _, _ => by simp at e
  | (k, a) :: fs, (k', w) :: gs, f, u, v, e, r, p => by
    simp only [List.map_cons, List.cons.injEq] at e
    obtain ⟨e1, e2⟩ := e
    have e1 : k = k' := e1
    subst e1
    cases r with
    | cons q r =>
      unfold putF putA
      by_cases c : k = f
      · rw [if_pos c, if_pos c]
        exact ⟨by simp [e2], .cons p r⟩
      · rw [if_neg c, if_neg c]
        obtain ⟨h1, h2⟩ := fput e2 r p (f := f)
        exact ⟨by simp [h1], .cons q h2⟩
theorem HRel.ins {hp : List AO} (R : HRel X.K X.mg g hp H) {v : V} {j : Nat} {c : Str} {gs : List (Str × AV)} (h : AVR X.K g H v (.ref j)) (e : hp[j]? = some (.ins c gs)) : ∃ a C dx fs, g.io[j]? = some a ∧ v = .ref a ∧ H a = some (.ins C dx fs) ∧ X.mg c = some (.ref C) ∧ fs.map (·.1) = gs.map (·.1) ∧ AVRs X.K g H (fs.map (·.2)) (gs.map (·.2)) := by
  cases h with
  | ref h =>
    have q := R.ho j _ _ h e
    cases q with
    | ins h1 h2 h3 h4 => exact ⟨_, _, _, _, h, rfl, h1, h2, h3, h4⟩
theorem rcv_base {x : Expr} (h : isRcv x = true) (f : Str) : attributeBase x f X.env (eval x X.env) = eval x X.env := by
  cases x <;> first | rfl | cases h
theorem s_attr {c f : Str} {a : E} {x : Expr} {p : Pos} (ok : OkAt X c f) (hx : isRcv x = true) (h : ∀ b, PE X x (tE X.K X.mg F b (ev b a))) (b : Bool) : PE X (.Attribute x f p) (tE X.K X.mg F b (ev b (.attr c a f))) := by
  obtain ⟨C, m, cl, no⟩ := ok
  refine PE.imp (pe_fld (h true) (rcv_base hx f)) fun σ H Q ⟨g, ms, rv, ms', R, q, k⟩ => ?_
  unfold ev at q
  split at q
  · rename_i r ms1 q1
    split at q
    · rename_i c' gs e1
      split at q
      · rename_i c1
        split at q
        · rename_i v e2
          cases q
          refine ⟨g, ms, _, ms', R, q1, fun g1 w H1 R1 x1 r1 => ?_⟩
          cases r1 with
          | av r1 =>
            obtain ⟨a0, C', dx, fs, p1, rfl, p3, p4, p5, p6⟩ := R1.hr.ins r1 e1
            rw [c1, m] at p4
            cases p4
            obtain ⟨u, u1, u2⟩ := flook p5 p6 e2
            exact ⟨a0, _, dx, fs, u, rfl, p3, cl, no, u1, k g1 u H1 R1 x1 (.av u2)⟩
        · cases q
      · cases q
    · cases q
  · cases q
theorem call_tail {g : G} {S : Hp} {b : Bool} {rv : RV} {hp : List AO} {ms1 : MS} {g1 g2 : G} {v2 : V} {H1 H2 : Hp} {Q : VK} (R1 : Rel X.K X.mg F g1 ms1 σ H1) (x1 : Ext g S g1 H1)
    (k : ∀ g' v H', Rel X.K X.mg F g' { ms1 with hp := hp } σ H' → Ext g S g' H' → RVR X.K F g' S H' b v rv → Q v H')
    (h2 : HRel X.K X.mg g2 hp H2) (x2 : Ext0 g1 H1 g2 H2) (z2 : ∀ a, g2.Z a → g1.Z a ∨ H1 a = none) (r2 : RVF X.K g2 H1 H2 v2 rv) : Q v2 H2 := by
  have R2 := R1.back h2 x2 z2
  refine k _ v2 H2 R2 (x1.trans ⟨⟨x2.keep, x2.zz, x2.io, x2.th⟩, fun a q => ?_, fun i a q => .inl ⟨i, q⟩⟩) ((r2.rvr R1).up.since x1.toExt0)
  rcases z2 a q with q | q
  · exact .inl q
  · exact .inr (.inl q)
theorem pl_form {xs : List Expr} (h : ∀ x ∈ xs, isPl x = true) (pos : Pos) : (backTo pos (starEach xs X.env)).all (fun x => !x.1) = true := by
  have q := pl_stars (env := X.env) h pos
  rw [List.any_eq_false] at q
  rw [List.all_eq_true]
  intro y hy
  have := q y hy
  simpa using this
theorem meth_ev {x : Expr} (h : isRcv x = true) (m : Str) (ap pos : Pos) (xs : List Expr) (hx : ∀ x ∈ xs, isPl x = true) (hl : (ap.endLine == pos.line) = true) (h30 : xs.length < 30) : ∃ pl : Sem Bool, eval (.Call (.Attribute x m ap) xs [] pos) X.env = (do
      let ov ← eval x X.env
      standAt ap.atName
      let (f, first) ← holding [ov] (getMethod ov m pl)
      callWith pos f first (backTo pos (starEach xs X.env)) (backToKw pos (keywordEach [] X.env))) := by
  refine ⟨do return (← importBound x X.env).getD true, ?_⟩
  have e0 : eval (.Call (.Attribute x m ap) xs [] pos) X.env = (do
      let ov ← attributeBase x m X.env (eval x X.env)
      standAt ap.atName
      methodCall x m ap pos X.env ov (xs.length + 0) (backTo pos (starEach xs X.env)) (backToKw pos (keywordEach [] X.env))) := by
    cases x <;> first | rfl | cases h
  have hf : methodCallForm (xs.length + 0) (backTo pos (starEach xs X.env)) (backToKw pos (keywordEach [] X.env)) = true := by
    unfold methodCallForm
    rw [pl_form hx]
    have e : backToKw pos (keywordEach [] X.env) = [] := rfl
    rw [e]
    simp [h30]
  rw [e0, rcv_base h]
  unfold methodCall calleeOf methodCallPos
  rw [hf]
  simp [hl]
theorem s_meth {c : Str} {f : Fn} {a : E} {es : Es} {x : Expr} {xs : List Expr} {y : Str} {ap pos : Pos} (hl : (ap.endLine == pos.line) = true) (h30 : xs.length < 30) (ok : OkMe X c f) (hy : y = f.name) (hx : isRcv x = true) (hxs : ∀ x ∈ xs, isPl x = true) (hn : xs = [] → es = .nil) (h1 : ∀ b, PE X x (tE X.K X.mg F b (ev b a))) (h : PA X xs (tA X.K X.mg F (evs es))) (b : Bool) :
    PE X (.Call (.Attribute x y ap) xs [] pos) (tE X.K X.mg F b (ev b (.meth c f a es))) := by
  obtain ⟨C, kk, fa, fd, ps, m, cl, me, bd, G, hr⟩ := ok
  subst hy
  obtain ⟨pl, hev⟩ := meth_ev (X := X) hx f.name ap pos xs hxs hl h30
  have text : PE X (.Call (.Attribute x f.name ap) xs [] pos) (tMeth C f.name (spF X.K X.mg f.run) [] E0 (tE X.K X.mg F true (ev true a)) (tA X.K X.mg F (evs es))) := by
    cases xs with
    | nil =>
      refine PE.imp (pe_meth0 (h1 true) cl me G hr bd .nil pass0 hev) fun σ H Q q => ?_
      obtain ⟨g, ms, rv, ms', R, q1, k⟩ := q
      refine ⟨g, ms, rv, ms', R, q1, fun g1 v H1 R1 x1 r1 => ?_⟩
      obtain ⟨a0, dx, fs, e1, e2, e3, e4⟩ := k g1 v H1 R1 x1 r1
      exact ⟨a0, dx, fs, e1, e2, e3, nil_args (hn rfl) σ H1 _ e4⟩
    | cons y ys => exact pe_meth (h1 true) cl me G hr bd .nil pass0 h (pl_star (hxs y List.mem_cons_self) ys) (pl_stars (fun z hz => hxs z (List.mem_cons_of_mem _ hz)) pos) hev
  refine PE.imp text fun σ H Q ⟨g, ms, rv, ms', R, q, k⟩ => ?_
  unfold ev at q
  split at q
  · rename_i r ms1 q1
    split at q
    · rename_i c' gs e1
      split at q
      · rename_i c1
        cases q2 : evs es ms1 with
        | none => rw [q2] at q; cases q
        | some r2 =>
          obtain ⟨vs, ms2⟩ := r2
          rw [q2] at q
          dsimp only at q
          cases q3 : f.run (.ref r :: vs) ms2.hp with
          | none => rw [q3] at q; cases q
          | some r3 =>
            obtain ⟨v, hp⟩ := r3
            rw [q3] at q
            cases q
            refine ⟨g, ms, _, ms1, R, q1, fun g1 w H1 R1 x1 r1 => ?_⟩
            cases r1 with
            | av r1 =>
              obtain ⟨a0, C', dx, fs, p1, rfl, p3, p4, p5, p6⟩ := R1.hr.ins r1 e1
              rw [c1.1, m] at p4
              cases p4
              refine ⟨a0, dx, fs, rfl, p3, fnone p5 c1.2, g1, ms1, vs, ms2, R1, q2, fun g2 ws H2 R2 x2 r2 => ?_⟩
              refine ⟨g2, ms2.hp, .ref r :: vs, rv, hp, R2.hr, .cons (R1.hr.avr x2.toExt0 r1) (by simpa using r2), q3, fun g3 v3 H3 h3 x3 z3 r3 => ?_⟩
              exact call_tail R2 (x1.trans x2) k h3 x3 z3 r3
      · cases q
    · cases q
  · cases q
theorem s_new {c : Str} {f : Fn} {es : Es} {y : Str} {xs : List Expr} {p pos : Pos} (ok : OkMk X c f) (hy : y = c) (hg : isGl X.env.scope y = true) (ho : odd y = false) (hxs : ∀ x ∈ xs, isPl x = true) (hn : xs = [] → es = .nil) (h : PA X xs (tA X.K X.mg F (evs es))) (b : Bool) :
    PE X (.Call (.Name y p) xs [] pos) (tE X.K X.mg F b (ev b (.new c f es))) := by
  obtain ⟨C, kk, fa, fd, ps, m, mk, bd, G, hr⟩ := ok
  subst hy
  unfold odd at ho
  simp only [Bool.or_eq_false_iff] at ho
  have text : PE X (.Call (.Name y p) xs [] pos) (tMake C (spF X.K X.mg f.run) [] E0 (tA X.K X.mg F (evs es))) := by
    cases xs with
    | nil => exact PE.imp (pe_make0 mk G hr (gl_of hg) m bd .nil pass0 ho.1) fun σ H Q q => nil_args (hn rfl) σ H _ q
    | cons z zs => exact pe_make mk G hr (gl_of hg) m bd .nil pass0 h ho.1 (pl_star (hxs z List.mem_cons_self) zs) (pl_stars (fun w hw => hxs w (List.mem_cons_of_mem _ hw)) pos)
  refine PE.imp text fun σ H Q ⟨g, ms, rv, ms', R, q, k⟩ => ?_
  unfold ev at q
  cases q2 : evs es ms with
  | none => rw [q2] at q; cases q
  | some r2 =>
    obtain ⟨vs, ms1⟩ := r2
    rw [q2] at q
    dsimp only at q
    split at q
    · rename_i hp q3
      cases q
      refine ⟨g, ms, vs, ms1, R, q2, fun g1 ws H1 R1 x1 r1 a dx ha hdx hne => ?_⟩
      have d1 := up_same (o := .own a) hdx
      have R2 := R1.new (o := .own a) hdx
      have ha2 : upd H1 dx (.own a) a = none := by rw [upd_ne (Ne.symm hne)]; exact ha
      have d2 := up_same (o := .ins C dx []) ha2
      have R3 := R2.new (o := .ins C dx []) ha2
      have fr := R2.hr.fresh ha2
      obtain ⟨R4, _⟩ := R3.alloc (a := a) (o := .ins y []) (.ins upd_same m rfl .nil) fr.1 fr.2 (R2.f0 ha2) (R2.oa0 ha2)
      have x4 : Ext g1 H1 { g1 with io := g1.io ++ [a] } (upd (upd H1 dx (.own a)) a (.ins C dx [])) := (Ext.trans (.same d1) (.same d2)).grow ha
      have hi : (g1.io ++ [a])[ms1.hp.length]? = some a := by
        rw [← R1.hr.hl]
        simp
      refine ⟨_, ms1.hp ++ [.ins y []], .ref ms1.hp.length :: vs, _, hp, R4.hr, .cons (.ref hi) (by simpa using R1.hr.avrs x4.toExt0 r1), q3, fun g3 v3 H3 h3 x3 z3 r3 => ?_⟩
      have hv : v3 = .non := by
        cases r3 with
        | av r3 => cases r3 with
          | dat r3 => cases r3; rfl
      refine ⟨hv, ?_⟩
      have R5 := R4.back h3 x3 z3
      have x5 : Ext { g1 with io := g1.io ++ [a] } (upd (upd H1 dx (.own a)) a (.ins C dx [])) { g3 with oa := g1.oa } H3 := ⟨⟨x3.keep, x3.zz, x3.io, x3.th⟩, fun b q => by
        rcases z3 b q with q | q
        · exact .inl q
        · exact .inr (.inl q), fun i b q => .inl ⟨i, q⟩⟩
      refine k _ (.ref a) H3 R5 (x1.trans (x4.trans x5)) (.av (.ref ?_))
      obtain ⟨n, en, _⟩ := x3.io
      show g3.io[_]? = _
      rw [en, List.getElem?_append_left (List.getElem?_eq_some_iff.mp hi).1]
      exact hi
    · cases q

/-! ### texts -/
theorem s_str1 {a : E} {x : Expr} {y : Str} {p pos : Pos} (hy : y = sStrN) (hg : isGl X.env.scope y = true) (ok : OkX X) (hx : isPl x = true) (h : ∀ b, PE X x (tE X.K X.mg F b (ev b a))) (b : Bool) : PE X (.Call (.Name y p) [x] [] pos) (tE X.K X.mg F b (ev b (.str1 a))) := by
  subst hy
  refine PE.imp (pe_callTy (X := X) call_str_int (gl_of hg) (ok.free sStr (by decide)) (by decide +kernel) (pa_cons (h true) pa_nil (pl_star hx _)) (by decide +kernel) (by decide +kernel) (pl_star hx _) rfl) fun σ H Q ⟨g, ms, rv, ms', R, q, k⟩ => ?_
  unfold ev at q
  cases q1 : ev true a ms with
  | none => rw [q1] at q; cases q
  | some r =>
    obtain ⟨u, ms1⟩ := r
    rw [q1] at q
    dsimp only at q
    obtain ⟨z, e1, e2⟩ := Option.map_eq_some_iff.mp q
    cases e2
    unfold strV at e1
    split at e1
    · rename_i i
      split at e1
      · rename_i c
        cases e1
        refine ⟨g, ms, _, ms', R, q1, fun g1 v H1 R1 x1 r1 => ?_⟩
        have e := r1.lr.int
        subst e
        exact ⟨i, rfl, c, k g1 _ H1 R1 x1 (.av (.dat (.str _)))⟩
      · cases e1
    · cases e1
theorem Dzs.str_of {K : PySem.W.Frag} {Z : Addr → Prop} {H : Hp} : ∀ {vs : List V} {ds : List PyData} {ns : List Str}, Dzs K Z H vs ds → strsD ds = some ns → vs = ns.map V.str
  | _, _, _, .nil, e => by simp [strsD] at e; subst e; rfl
  | _, _, _, .cons (d := d) p r, e => by
    cases p with
    | str i =>
      simp only [strsD, Option.map_eq_some_iff] at e
      obtain ⟨ms, e1, rfl⟩ := e
      simp [Dzs.str_of r e1]
    | _ => simp [strsD] at e
theorem s_join {s m : Str} {z : Str} {a : E} {x : Expr} {j : Nat} {kp ap cp : Pos} (hs : s = z) (hm : m = sJoin) (hl : (ap.endLine == cp.line) = true) (hx : isPl x = true) (h : ∀ b, PE X x (tE X.K X.mg F b (ev b a))) (b : Bool) :
    PE X (.Call (.Attribute (.Constant (.str z) j kp) m ap) [x] [] cp) (tE X.K X.mg F b (ev b (.join s a))) := by
  subst hs hm
  have pm := pe_bm (X := X) (name := sJoin) (apos := ap) (cpos := cp) PySem.F.plainAttrs_str PySem.F.slot_str_join PySem.F.type_str_join mt_join (pe_str (x := s) (j := j) (pos := kp)) (pa_cons (h true) pa_nil (pl_star hx [])) rfl (by rw [pl_star hx]; rfl) hl (pl_star hx []) rfl
  refine PE.imp pm fun σ H Q ⟨g, ms, rv, ms', R, q, k⟩ => ?_
  unfold ev at q
  cases q1 : ev true a ms with
  | none => rw [q1] at q; cases q
  | some r =>
    obtain ⟨u, ms1⟩ := r
    rw [q1] at q
    dsimp only at q
    obtain ⟨z, e1, e2⟩ := Option.map_eq_some_iff.mp q
    cases e2
    unfold joinV at e1
    split at e1
    · rename_i ds hd
      split at e1
      · rename_i ys hy
        split at e1
        · rename_i c
          cases e1
          refine ⟨rfl, g, ms, _, ms', R, q1, fun g1 v H1 R1 x1 r1 => ?_⟩
          obtain ⟨b0, vs, rfl, p3, p4⟩ := r1.lr.list hd
          have e := p4.str_of hy
          subst e
          refine ⟨s, b0, ys, rfl, rfl, .inl (SqL.of p3), c, ?_⟩
          have ej : Txt.join s ys = Str.join s ys := StrLaws.glued_eq_join ..
          rw [ej]
          exact k g1 _ H1 R1 x1 (.av (.dat (.str _)))
        · cases e1
      · cases e1
    · cases e1
end
end Sv

/-! Sv: sorted lists of tuples of small ints. -/
namespace Sv
open PySem PySem.Spec PyProof.Rows L2
theorem codeI_eq : ∀ ns : List Int, codeI ns = TS.code 1024 ns
  | [] => rfl
  | d :: r => by
    show d * 1024 ^ r.length + codeI r = d * 1024 ^ r.length + TS.code 1024 r
    rw [codeI_eq r]
theorem code_inj : ∀ {a b : List Int}, a.length = b.length → TS.Bd 1024 a → TS.Bd 1024 b → TS.code 1024 a = TS.code 1024 b → a = b
  | [], [], _, _, _, _ => rfl
  | [], _ :: _, h, _, _, _ => by simp at h
  | _ :: _, [], h, _, _, _ => by simp at h
  | x :: a, y :: b, h, ha, hb, e => by
    have hl : a.length = b.length := by simpa using h
    have hxy : x = y := by
      rcases Int.lt_trichotomy x y with c | c | c
      · have := TS.code_lt hl ha.tail hb.tail c; omega
      · exact c
      · have := TS.code_lt hl.symm hb.tail ha.tail c; omega
    subst hxy
    have e' : x * 1024 ^ a.length + TS.code 1024 a = x * 1024 ^ b.length + TS.code 1024 b := e
    rw [hl] at e'
    rw [code_inj hl ha.tail hb.tail (by omega)]
theorem insC_perm (x : List Int) : ∀ l : List (List Int), (insC x l).Perm (x :: l)
  | [] => .refl _
  | y :: r => by
    unfold insC
    split
    · exact .refl _
    · exact ((insC_perm x r).cons y).trans (.swap x y r)
theorem insC_sorted (x : List Int) : ∀ l : List (List Int), l.Pairwise (fun a b => codeI a ≤ codeI b) → (insC x l).Pairwise (fun a b => codeI a ≤ codeI b)
  | [], _ => by simp [insC]
  | y :: r, h => by
    unfold insC
    obtain ⟨h1, h2⟩ := List.pairwise_cons.mp h
    split
    · rename_i c
      refine List.pairwise_cons.mpr ⟨fun z hz => ?_, h⟩
      rcases List.mem_cons.mp hz with rfl | hz
      · exact c
      · exact Int.le_trans c (h1 z hz)
    · rename_i c
      refine List.pairwise_cons.mpr ⟨fun z hz => ?_, insC_sorted x r h2⟩
      rcases List.mem_cons.mp ((insC_perm x r).mem_iff.mp hz) with rfl | hz
      · omega
      · exact h1 z hz
theorem sortC_perm : ∀ l : List (List Int), (sortC l).Perm l
  | [] => .refl _
  | x :: r => (insC_perm x (sortC r)).trans ((sortC_perm r).cons x)
theorem sortC_sorted : ∀ l : List (List Int), (sortC l).Pairwise (fun a b => codeI a ≤ codeI b)
  | [] => .nil
  | x :: r => insC_sorted x _ (sortC_sorted r)
theorem dedC_mem : ∀ {l : List (List Int)} {x : List Int}, x ∈ dedC l ↔ x ∈ l
  | [], _ => .rfl
  | y :: r, x => by
    unfold dedC
    split
    · rename_i c
      rw [dedC_mem (l := r), List.mem_cons]
      constructor
      · exact .inr
      · rintro (rfl | h)
        · exact c
        · exact h
    · rw [List.mem_cons, List.mem_cons, dedC_mem (l := r)]
theorem dedC_nodup : ∀ l : List (List Int), (dedC l).Nodup
  | [] => .nil
  | y :: r => by
    unfold dedC
    split
    · exact dedC_nodup r
    · rename_i c
      exact List.nodup_cons.mpr ⟨fun h => c (dedC_mem.mp h), dedC_nodup r⟩
theorem okT_bd {d : Nat} {n : List Int} (h : okT d n = true) : n.length = d ∧ TS.Bd 1024 n := by
  unfold okT at h
  simp only [Bool.and_eq_true, decide_eq_true_eq, List.all_eq_true] at h
  exact ⟨h.1, fun m hm => h.2 m hm⟩
/-- the one ascending order -/
theorem sort_one {d : Nat} {l1 l2 : List (List Int)} (h : l1.Perm l2) (hd : ∀ n ∈ l2, n.length = d ∧ TS.Bd 1024 n) (h1 : l1.Pairwise (fun a b => TS.code 1024 a ≤ TS.code 1024 b)) (h2 : l2.Pairwise (fun a b => codeI a ≤ codeI b)) : l1 = l2 := by
  refine List.Perm.eq_of_pairwise (le := fun a b => TS.code 1024 a ≤ TS.code 1024 b) (fun a b ha hb q1 q2 => ?_) h1 (h2.imp fun {a b} q => by rw [codeI_eq, codeI_eq] at q; exact q) h
  obtain ⟨a1, a2⟩ := hd a (h.mem_iff.mp ha)
  obtain ⟨b1, b2⟩ := hd b hb
  exact code_inj (by rw [a1, b1]) a2 b2 (by omega)
section
variable {X : Cx} {F : Fr} {g g' : G} {ms ms' : MS} {σ : L2.St} {H H' : Hp}
theorem tups_of {K : PySem.W.Frag} {Z : Addr → Prop} {H : Hp} : ∀ {vs : List V} {ds : List PyData} {ns : List (List Int)}, Dzs K Z H vs ds → tupsI ds = some ns → ∃ ks : List (Addr × List Int), vs = ks.map (fun p => V.ref p.1) ∧ ks.map (·.2) = ns ∧ ∀ p ∈ ks, SqT K H p.1 (p.2.map V.int)
  | _, _, _, .nil, e => by
    simp [tupsI] at e
    subst e
    exact ⟨[], rfl, rfl, by simp⟩
  | _, _, _, .cons (d := d) p r, e => by
    cases p with
    | @tup a xs ds0 h1 h2 =>
      unfold tupsI at e
      split at e
      · rename_i n m e1 e2
        cases e
        obtain ⟨ks, q1, q2, q3⟩ := tups_of r e2
        have := h2.int_of e1
        subst this
        refine ⟨(a, n) :: ks, by rw [q1]; rfl, by rw [← q2]; rfl, fun p hp => ?_⟩
        rcases List.mem_cons.mp hp with rfl | hp
        · exact h1
        · exact q3 p hp
      · cases e
    | _ => simp [tupsI] at e
theorem dzs_tups {K : PySem.W.Frag} {Z : Addr → Prop} {H : Hp} : ∀ {ks : List (Addr × List Int)}, (∀ p ∈ ks, SqT K H p.1 (p.2.map V.int)) → Dzs K Z H (ks.map fun p => V.ref p.1) ((ks.map (·.2)).map fun n => PyData.tuple (n.map .int))
  | [], _ => .nil
  | p :: ks, h => .cons (.tup (h p (List.mem_cons_self ..)) (dzs_ints _)) (dzs_tups fun q hq => h q (List.mem_cons_of_mem _ hq))
theorem srt_cases {st : Bool} {x z : RV} (h : srtV st x = some z) : ∃ ds ns d, x.d? = some (.list ds) ∧ tupsI ds = some ns ∧ ns.length < 64 ∧ (∀ n ∈ ns, n.length = d ∧ TS.Bd 1024 n) ∧ 1 ≤ d ∧ z = .lst ((sortC (if st then dedC ns else ns)).map fun n => .tuple (n.map .int)) := by
  unfold srtV at h
  split at h
  · rename_i ds hd
    split at h
    · rename_i ns hn
      split at h
      · rename_i c
        cases h
        exact ⟨ds, ns, _, hd, hn, c.1, fun n hn => okT_bd (List.all_eq_true.mp c.2.1 n hn), c.2.2, rfl⟩
      · cases h
    · cases h
  · cases h
theorem s_sortSet {a : E} {x : Expr} {y z : Str} {p p2 p3 pos : Pos} (hy : y = sSorted) (hg : isGl X.env.scope y = true) (hz : z = sSet) (hgz : isGl X.env.scope z = true) (ok : OkX X) (hx : isPl x = true) (h : ∀ b, PE X x (tE X.K X.mg F b (ev b a))) (b : Bool) :
    PE X (.Call (.Name y p) [.Call (.Name z p2) [x] [] p3] [] pos) (tE X.K X.mg F b (ev b (.srt true a))) := by
  subst hy hz
  have ps := pe_callTy (X := X) (p := p2) (pos := p3) (cr_setOfT ok.calm ok.room.units) (gl_of hgz) (ok.free sSet (by decide)) (by decide +kernel) (pa_cons (h true) pa_nil (pl_star hx _)) (by decide +kernel) (by decide +kernel) (pl_star hx _) rfl
  refine PE.imp (pe_callB (X := X) (p := p) (pos := pos) (cr_sortedT ok.calm) (gl_of hg) (ok.free sSorted (by decide)) (by decide +kernel) (pa_cons ps pa_nil) (by decide +kernel) (by decide +kernel) rfl rfl) fun σ H Q ⟨g, ms, rv, ms', R, q, k⟩ => ?_
  unfold ev at q
  cases q1 : ev true a ms with
  | none => rw [q1] at q; cases q
  | some r =>
    obtain ⟨u, ms1⟩ := r
    rw [q1] at q
    dsimp only at q
    obtain ⟨zz, e1, e2⟩ := Option.map_eq_some_iff.mp q
    cases e2
    obtain ⟨ds, ns, d, c1, c2, c3, c4, c5, rfl⟩ := srt_cases e1
    refine ⟨g, ms, _, ms', R, q1, fun g1 v H1 R1 x1 r1 => ?_⟩
    obtain ⟨l, vs, rfl, p3, p4⟩ := r1.lr.list c1
    obtain ⟨ks, rfl, t2, t3⟩ := tups_of p4 c2
    refine ⟨l, ks, rfl, SqL.of p3, t3, by rw [← List.length_map (f := (·.2)) (as := ks), t2]; exact c3, fun A L hA hL1 hL2 => ?_⟩
    have up1 := up_same (o := SetTO X.prog X.w A L) hA
    have R2 := R1.new (o := SetTO X.prog X.w A L) hA
    have hLs : ∀ q ∈ L, SqT X.K (upd H1 A (SetTO X.prog X.w A L)) q.1 (q.2.map V.int) := fun q hq => sqT_keep (fun a xs h => up1 a _ h) (fun a o xs h => up1 a _ h) (t3 q (hL1 q hq))
    have hLn : ∀ q ∈ L, q.2.length = d ∧ TS.Bd 1024 q.2 := fun q hq => c4 q.2 (by rw [← t2]; exact List.mem_map_of_mem (hL1 q hq))
    refine ⟨A, L, d, 1024, rfl, upd_same, hLs, c5, hLn, fun L' pp hp1 hp2 hp3 hp4 hp5 => ?_⟩
    have up2 := up_same (o := .lst (L'.map fun q => V.ref q.1)) hp5
    have e : L'.map (·.2) = sortC (dedC ns) := by
      refine sort_one (d := d) ?_ (fun n hn => c4 n (dedC_mem.mp ((sortC_perm _).mem_iff.mp hn))) (List.pairwise_map.mpr hp4) (sortC_sorted _)
      refine (List.perm_ext_iff_of_nodup hp2 ((sortC_perm _).nodup_iff.mpr (dedC_nodup ns))).mpr fun n => ?_
      rw [(sortC_perm _).mem_iff, dedC_mem]
      constructor
      · intro hn
        obtain ⟨q, hq, rfl⟩ := List.mem_map.mp hn
        rw [← t2]
        exact List.mem_map_of_mem (hL1 q (hp1.mem_iff.mp hq))
      · intro hn
        rw [← t2] at hn
        obtain ⟨q, hq, rfl⟩ := List.mem_map.mp hn
        obtain ⟨q', hq', e'⟩ := List.mem_map.mp (hL2 q hq)
        exact List.mem_map.mpr ⟨q', hp1.mem_iff.mpr hq', e'⟩
    refine k g1 _ _ (R2.new hp5) ((x1.trans (.same up1)).trans (.same up2)) ?_
    have dz : Dzs X.K g1.Z (upd H1 A (SetTO X.prog X.w A L)) (L'.map fun q => V.ref q.1) ((sortC (dedC ns)).map fun n => PyData.tuple (n.map .int)) := by
      rw [← e]
      exact dzs_tups fun q hq => hLs q (hp1.mem_iff.mp hq)
    exact ((R2.newlst hp5 dz).since (x1.trans (.same up1)).toExt0)
theorem perm_map_inv {α β : Type} (f : α → β) {ys zs : List β} (h : ys.Perm zs) : ∀ l : List α, zs = l.map f → ∃ l' : List α, l'.Perm l ∧ ys = l'.map f := by
  induction h with
  | nil => intro l e; cases l with
    | nil => exact ⟨[], .refl _, rfl⟩
    | cons _ _ => simp at e
  | cons x _ ih => intro l e; cases l with
    | nil => simp at e
    | cons a l =>
      simp only [List.map_cons, List.cons.injEq] at e
      obtain ⟨rfl, e⟩ := e
      obtain ⟨l', h1, h2⟩ := ih l e
      exact ⟨a :: l', h1.cons a, by rw [h2]; rfl⟩
  | swap x y t => intro l e; match l, e with
    | [], e => simp at e
    | [_], e => simp at e
    | a :: b :: l, e =>
      simp only [List.map_cons, List.cons.injEq] at e
      obtain ⟨rfl, rfl, rfl⟩ := e
      exact ⟨b :: a :: l, .swap _ _ _, rfl⟩
  | trans _ _ ih1 ih2 => intro l e
                         obtain ⟨l2, h1, h2⟩ := ih2 l e
                         obtain ⟨l3, h3, h4⟩ := ih1 l2 h2
                         exact ⟨l3, h3.trans h1, h4⟩
theorem s_sortL {a : E} {x : Expr} {y : Str} {p pos : Pos} (hy : y = sSorted) (hg : isGl X.env.scope y = true) (ok : OkX X) (hx : isPl x = true) (h : ∀ b, PE X x (tE X.K X.mg F b (ev b a))) (b : Bool) :
    PE X (.Call (.Name y p) [x] [] pos) (tE X.K X.mg F b (ev b (.srt false a))) := by
  subst hy
  have pc := fun d (hd : 1 ≤ d) => pe_callB (X := X) (p := p) (pos := pos) (cr_sortT (d := d) (B := 1024) hd) (gl_of hg) (ok.free sSorted (by decide)) (by decide +kernel) (pa_cons (h true) pa_nil (pl_star hx _)) (by decide +kernel) (by decide +kernel) (pl_star hx _) rfl
  refine ⟨fun pins s σ H Q I hq => ?_⟩
  obtain ⟨g, ms, rv, ms', R, q, k⟩ := hq
  unfold ev at q
  cases q1 : ev true a ms with
  | none => rw [q1] at q; cases q
  | some r =>
    obtain ⟨u, ms1⟩ := r
    rw [q1] at q
    dsimp only at q
    obtain ⟨zz, e1, e2⟩ := Option.map_eq_some_iff.mp q
    cases e2
    obtain ⟨ds, ns, d, c1, c2, c3, c4, c5, rfl⟩ := srt_cases e1
    refine (pc d c5).run pins s σ H Q I ⟨g, ms, _, ms', R, q1, fun g1 v H1 R1 x1 r1 => ?_⟩
    obtain ⟨l, vs, rfl, p3, p4⟩ := r1.lr.list c1
    obtain ⟨ks, rfl, t2, t3⟩ := tups_of p4 c2
    refine ⟨l, _, rfl, SqL.of p3, by rw [List.length_map, ← List.length_map (f := (·.2)) (as := ks), t2]; exact c3, fun z hz => ?_, fun ys pp hp1 hp2 hp5 => ?_⟩
    · obtain ⟨q, hq, rfl⟩ := List.mem_map.mp hz
      obtain ⟨b1, b2⟩ := c4 q.2 (by rw [← t2]; exact List.mem_map_of_mem hq)
      exact ⟨q.2, ⟨q.1, rfl, t3 q hq⟩, b1, b2⟩
    · obtain ⟨L', l1, rfl⟩ := perm_map_inv _ hp1 ks rfl
      have t3' : ∀ q ∈ L', SqT X.K H1 q.1 (q.2.map V.int) := fun q hq => t3 q (l1.mem_iff.mp hq)
      have e : L'.map (·.2) = sortC ns := by
        refine sort_one (d := d) ?_ (fun n hn => c4 n ((sortC_perm _).mem_iff.mp hn)) ?_ (sortC_sorted _)
        · rw [← t2]
          exact (l1.map _).trans (by rw [t2]; exact (sortC_perm ns).symm)
        · rw [List.pairwise_map] at hp2 ⊢
          exact hp2.imp_of_mem fun {q r} hq hr z => z _ _ ⟨q.1, rfl, t3' q hq⟩ ⟨r.1, rfl, t3' r hr⟩
      have up2 := up_same (o := .lst (L'.map fun q => V.ref q.1)) hp5
      refine k g1 _ _ (R1.new hp5) (x1.trans (.same up2)) ?_
      have dz : Dzs X.K g1.Z H1 (L'.map fun q => V.ref q.1) ((sortC ns).map fun n => PyData.tuple (n.map .int)) := by
        rw [← e]
        exact dzs_tups t3'
      exact ((R1.newlst hp5 dz).since x1.toExt0)
end
end Sv

/-! Sv: every expression. -/
namespace Sv
open PySem PySem.Spec PyProof.Rows L2
theorem OkX.blk {X : Cx} (ok : OkX X) {s : Shared} {H : Hp} {s2 : Scope} {cenv : Env} {fp : List Addr} : OkX (X.blk s H s2 cenv fp) := ⟨ok.calm, ok.nd, ok.room, ok.free⟩
section
variable {X : Cx} {F : Fr}
theorem lit_true {d : PyData} {x : Expr} (h : mLit d x = true) : (∀ o vs p, x ≠ .BoolOp o vs p) ∧ ∀ whole, isTrue x X.env whole = (do let v ← whole; standAt x.pos; holding [v] (truthy v)) := by
  cases x with
  | Constant c k p => exact ⟨fun _ _ _ z => (nomatch z), fun _ => rfl⟩
  | UnaryOp o e p =>
    cases o with
    | Not => cases d <;> cases h
    | _ => exact ⟨fun _ _ _ z => (nomatch z), fun _ => rfl⟩
  | _ => cases d <;> cases h
/-- a piece that never answers -/
theorem Sd.never {e : E} {x : Expr} (h : ∀ b, PE X x (tE X.K X.mg F b (ev b e))) (hn : ∀ ms c ms', ev true e ms ≠ some (.av (.dat (.bool c)), ms')) : Sd X F e x :=
  ⟨h, fun _ => PT.imp (t := fun _ _ _ => False) ⟨fun _ _ _ _ _ _ q => q.elim⟩ fun σ H Q ⟨g, ms, c, ms', R, q, k⟩ => hn ms c ms' q, fun _ _ _ _ => PW.imp (t := fun _ _ _ => False) ⟨fun _ _ _ _ _ _ _ q => q.elim⟩ fun σ H Q ⟨g, ms, c, ms', R, q, k⟩ => hn ms c ms' q⟩
theorem ops_bin {o : BinO} {p : Operator} (h : mOp o p = true) : p = bop o := by cases o <;> cases p <;> first | rfl | cases h
theorem ops_cmp {o : CmpO} {p : CmpOp} (h : mCmp o p = true) : p = cop o := by cases o <;> cases p <;> first | rfl | cases h
theorem ops_in {o : Bool} {p : CmpOp} (h : mIn o p = true) : p = inop o := by cases o <;> cases p <;> first | rfl | cases h
theorem cop_in (o : CmpO) : cop o ≠ .In := by cases o <;> decide
theorem cop_nin (o : CmpO) : cop o ≠ .NotIn := by cases o <;> decide
theorem ev_bin (o : BinO) (a b : E) (k : Bool) (ms : MS) (r : RV × MS) (h : ev k (.bin o a b) ms = some r) : ∃ x ms1 y ms2 z, ev true a ms = some (x, ms1) ∧ ev true b ms1 = some (y, ms2) ∧ binV o x y = some z ∧ r = (z, ms2) := by
  unfold ev at h
  cases q1 : ev true a ms with
  | none => rw [q1] at h; cases h
  | some r1 =>
    obtain ⟨x, ms1⟩ := r1
    rw [q1] at h
    dsimp only at h
    cases q2 : ev true b ms1 with
    | none => rw [q2] at h; cases h
    | some r2 =>
      obtain ⟨y, ms2⟩ := r2
      rw [q2] at h
      dsimp only at h
      obtain ⟨z, q3, q4⟩ := Option.map_eq_some_iff.mp h
      exact ⟨x, ms1, y, ms2, z, rfl, q2, q3, q4.symm⟩
theorem ev_cmp (o : CmpO) (a b : E) (k : Bool) (ms : MS) (r : RV × MS) (h : ev k (.cmp o a b) ms = some r) : ∃ x ms1 y ms2 z, ev true a ms = some (x, ms1) ∧ ev true b ms1 = some (y, ms2) ∧ cmpR o ms2.hp x y = some z ∧ r = (z, ms2) := by
  unfold ev at h
  cases q1 : ev true a ms with
  | none => rw [q1] at h; cases h
  | some r1 =>
    obtain ⟨x, ms1⟩ := r1
    rw [q1] at h
    dsimp only at h
    cases q2 : ev true b ms1 with
    | none => rw [q2] at h; cases h
    | some r2 =>
      obtain ⟨y, ms2⟩ := r2
      rw [q2] at h
      dsimp only at h
      obtain ⟨z, q3, q4⟩ := Option.map_eq_some_iff.mp h
      exact ⟨x, ms1, y, ms2, blV z, rfl, q2, by unfold cmpR; rw [q3]; rfl, q4.symm⟩
theorem ev_in (o : Bool) (a b : E) (k : Bool) (ms : MS) (r : RV × MS) (h : ev k (.isin o a b) ms = some r) : ∃ x ms1 y ms2 z, ev true a ms = some (x, ms1) ∧ ev true b ms1 = some (y, ms2) ∧ inR o ms2.hp x y = some z ∧ r = (z, ms2) := by
  unfold ev at h
  cases q1 : ev true a ms with
  | none => rw [q1] at h; cases h
  | some r1 =>
    obtain ⟨x, ms1⟩ := r1
    rw [q1] at h
    dsimp only at h
    cases q2 : ev true b ms1 with
    | none => rw [q2] at h; cases h
    | some r2 =>
      obtain ⟨y, ms2⟩ := r2
      rw [q2] at h
      dsimp only at h
      obtain ⟨z, q3, q4⟩ := Option.map_eq_some_iff.mp h
      exact ⟨x, ms1, y, ms2, _, rfl, q2, by unfold inR; rw [q3]; rfl, q4.symm⟩
theorem ev_sub (a b : E) (k : Bool) (ms : MS) (r : RV × MS) (h : ev k (.sub a b) ms = some r) : ∃ x ms1 y ms2 z, ev true a ms = some (x, ms1) ∧ ev true b ms1 = some (y, ms2) ∧ subR ms2.hp x y = some z ∧ r = (z, ms2) := by
  unfold ev at h
  cases q1 : ev true a ms with
  | none => rw [q1] at h; cases h
  | some r1 =>
    obtain ⟨x, ms1⟩ := r1
    rw [q1] at h
    dsimp only at h
    cases q2 : ev true b ms1 with
    | none => rw [q2] at h; cases h
    | some r2 =>
      obtain ⟨y, ms2⟩ := r2
      rw [q2] at h
      dsimp only at h
      obtain ⟨z, q3, q4⟩ := Option.map_eq_some_iff.mp h
      exact ⟨x, ms1, y, ms2, _, rfl, q2, by unfold subR; rw [q3]; rfl, q4.symm⟩
/-! ### and, or, not, if -/
theorem ev_and {a b : E} {k : Bool} {ms : MS} {r : RV × MS} (h : ev k (.and a b) ms = some r) : ∃ c ms1, ev true a ms = some (blV c, ms1) ∧ (c = true → ∃ d ms2, ev true b ms1 = some (blV d, ms2) ∧ r = (blV d, ms2)) ∧ (c = false → r = (blV false, ms1)) := by
  unfold ev at h
  split at h
  · rename_i c ms1 q1
    refine ⟨c, ms1, q1, fun e => ?_, fun e => ?_⟩
    · subst e
      rw [if_pos rfl] at h
      split at h
      · rename_i d ms2 q2
        cases h
        exact ⟨d, ms2, q2, rfl⟩
      · cases h
    · subst e
      rw [if_neg Bool.false_ne_true] at h
      cases h
      rfl
  · cases h
theorem ev_or {a b : E} {k : Bool} {ms : MS} {r : RV × MS} (h : ev k (.or a b) ms = some r) : ∃ c ms1, ev true a ms = some (blV c, ms1) ∧ (c = false → ∃ d ms2, ev true b ms1 = some (blV d, ms2) ∧ r = (blV d, ms2)) ∧ (c = true → r = (blV true, ms1)) := by
  unfold ev at h
  split at h
  · rename_i c ms1 q1
    refine ⟨c, ms1, q1, fun e => ?_, fun e => ?_⟩
    · subst e
      rw [if_neg Bool.false_ne_true] at h
      split at h
      · rename_i d ms2 q2
        cases h
        exact ⟨d, ms2, q2, rfl⟩
      · cases h
    · subst e
      rw [if_pos rfl] at h
      cases h
      rfl
  · cases h
theorem RVR.bl {g : G} {S H : Hp} {b : Bool} {v : V} {c : Bool} (h : RVR X.K F g S H b v (blV c)) : v = .bl c := LR.bl h.lr
theorem rd_and {a b : E} {k : Bool} {σ : L2.St} {H : Hp} {Q : VK} (h : tE X.K X.mg F k (ev k (.and a b)) σ H Q) : tAndV (tE X.K X.mg F true (ev true a)) (tE X.K X.mg F true (ev true b)) σ H Q := by
  obtain ⟨g, ms, rv, ms', R, q, k⟩ := h
  obtain ⟨c, ms1, q1, h1, h2⟩ := ev_and q
  refine ⟨g, ms, _, ms1, R, q1, fun g1 v H1 R1 x1 r1 => ⟨c, r1.bl, ?_⟩⟩
  cases c with
  | true =>
    obtain ⟨d, ms2, q2, e⟩ := h1 rfl
    cases e
    exact iteT ⟨g1, ms1, _, ms', R1, q2, fun g2 w H2 R2 x2 r2 => by rw [r2.bl]; exact k g2 _ H2 R2 (x1.trans x2) (rvr_bl d)⟩
  | false =>
    have e := h2 rfl
    cases e
    exact iteF (k g1 _ H1 R1 x1 (rvr_bl false))
theorem rd_or {a b : E} {k : Bool} {σ : L2.St} {H : Hp} {Q : VK} (h : tE X.K X.mg F k (ev k (.or a b)) σ H Q) : tOrV (tE X.K X.mg F true (ev true a)) (tE X.K X.mg F true (ev true b)) σ H Q := by
  obtain ⟨g, ms, rv, ms', R, q, k⟩ := h
  obtain ⟨c, ms1, q1, h1, h2⟩ := ev_or q
  refine ⟨g, ms, _, ms1, R, q1, fun g1 v H1 R1 x1 r1 => ⟨c, r1.bl, ?_⟩⟩
  cases c with
  | false =>
    obtain ⟨d, ms2, q2, e⟩ := h1 rfl
    cases e
    exact iteF ⟨g1, ms1, _, ms', R1, q2, fun g2 w H2 R2 x2 r2 => by rw [r2.bl]; exact k g2 _ H2 R2 (x1.trans x2) (rvr_bl d)⟩
  | true =>
    have e := h2 rfl
    cases e
    exact iteT (k g1 _ H1 R1 x1 (rvr_bl true))
theorem rt_and {a b : E} {σ : L2.St} {H : Hp} {Q : Bool → Hp → Prop} (h : tT X.K X.mg F (ev true (.and a b)) σ H Q) : tAnd (tT X.K X.mg F (ev true a)) (tT X.K X.mg F (ev true b)) σ H Q := by
  obtain ⟨g, ms, rv, ms', R, q, k⟩ := h
  obtain ⟨c, ms1, q1, h1, h2⟩ := ev_and q
  refine ⟨g, ms, c, ms1, R, q1, fun g1 H1 R1 x1 => ?_⟩
  cases c with
  | true =>
    obtain ⟨d, ms2, q2, e⟩ := h1 rfl
    cases e
    exact iteT ⟨g1, ms1, _, ms', R1, q2, fun g2 H2 R2 x2 => k g2 H2 R2 (x1.trans x2)⟩
  | false =>
    have e := h2 rfl
    cases e
    exact iteF (k g1 H1 R1 x1)
theorem rt_or {a b : E} {σ : L2.St} {H : Hp} {Q : Bool → Hp → Prop} (h : tT X.K X.mg F (ev true (.or a b)) σ H Q) : tOr (tT X.K X.mg F (ev true a)) (tT X.K X.mg F (ev true b)) σ H Q := by
  obtain ⟨g, ms, rv, ms', R, q, k⟩ := h
  obtain ⟨c, ms1, q1, h1, h2⟩ := ev_or q
  refine ⟨g, ms, c, ms1, R, q1, fun g1 H1 R1 x1 => ?_⟩
  cases c with
  | false =>
    obtain ⟨d, ms2, q2, e⟩ := h1 rfl
    cases e
    exact iteF ⟨g1, ms1, _, ms', R1, q2, fun g2 H2 R2 x2 => k g2 H2 R2 (x1.trans x2)⟩
  | true =>
    have e := h2 rfl
    cases e
    exact iteT (k g1 H1 R1 x1)
theorem rd_not {a : E} {k : Bool} {σ : L2.St} {H : Hp} {Q : VK} (h : tE X.K X.mg F k (ev k (.not a)) σ H Q) : tNotV (tE X.K X.mg F true (ev true a)) σ H Q := by
  obtain ⟨g, ms, rv, ms', R, q, k⟩ := h
  unfold ev at q
  split at q
  · rename_i c ms1 q1
    cases q
    exact ⟨g, ms, _, ms', R, q1, fun g1 v H1 R1 x1 r1 => ⟨c, r1.bl, k g1 _ H1 R1 x1 (rvr_bl _)⟩⟩
  · cases q
theorem rt_not {a : E} {σ : L2.St} {H : Hp} {Q : Bool → Hp → Prop} (h : tT X.K X.mg F (ev true (.not a)) σ H Q) : tNot (tT X.K X.mg F (ev true a)) σ H Q := by
  obtain ⟨g, ms, rv, ms', R, q, k⟩ := h
  unfold ev at q
  split at q
  · rename_i c ms1 q1
    cases q
    exact ⟨g, ms, _, ms', R, q1, fun g1 H1 R1 x1 => k g1 H1 R1 x1⟩
  · cases q
theorem rd_ife {c a b : E} {k : Bool} {σ : L2.St} {H : Hp} {Q : VK} (h : tE X.K X.mg F k (ev k (.ife c a b)) σ H Q) : tIf (tT X.K X.mg F (ev true c)) (tE X.K X.mg F k (ev k a)) (tE X.K X.mg F k (ev k b)) σ H Q := by
  obtain ⟨g, ms, rv, ms', R, q, kk⟩ := h
  unfold ev at q
  split at q
  · rename_i d ms1 q1
    refine ⟨g, ms, d, ms1, R, q1, fun g1 H1 R1 x1 => ?_⟩
    cases d with
    | true => exact iteT ⟨g1, ms1, rv, ms', R1, by simpa using q, fun g2 w H2 R2 x2 r2 => kk g2 w H2 R2 (x1.trans x2) (r2.since x1.toExt0)⟩
    | false => exact iteF ⟨g1, ms1, rv, ms', R1, by simpa using q, fun g2 w H2 R2 x2 r2 => kk g2 w H2 R2 (x1.trans x2) (r2.since x1.toExt0)⟩
  · cases q

theorem PTs.imp {X : Cx} {x : List Expr} {t t' : TT} (h : PTs X x t) (i : ∀ σ H Q, t' σ H Q → t σ H Q) : PTs X x t' := ⟨fun pins s σ H Q I q => h.run pins s σ H Q I (i σ H Q q)⟩
theorem mEs_nil {N : List Str} {sc : Scope} {es : Es} {xs : List Expr} (h : mEs N sc es xs = true) (e : xs = []) : es = .nil := by
  subst e
  cases es with
  | nil => rfl
  | cons _ _ => simp [mEs] at h
theorem mI_set {N : List Str} {sc : Scope} {it : I} {x : Expr} {env : Env} (h : mI N sc it x = true) (v : Value) : foldedSetIterable x env v = pure v := by
  cases it with
  | seq e => exact pl_set (mE_pl e (by simpa [mI] using h)) v
  | range1 e => cases x <;> first | rfl | simp [mI] at h
  | range2 a b => cases x <;> first | rfl | simp [mI] at h
theorem s_compE {e : E} {tg : List Nat} {it : I} {c : Es} {x t i : Expr} {ifs : List Expr} {s2 : Scope} {pos : Pos} (ok : OkX X) (hb : blkC X.N X.env.scope s2 ((tgNames t).zip tg) = true) (hl : (tgNames t).length = tg.length) (hi : PI X t i (tI X.K X.mg F (evI it))) (hset : ∀ v, foldedSetIterable i X.env v = pure v)
    (hg : ∀ (s : Shared) (H : Hp) (C : Addr) (cl : List (Str × Addr)) (fp : List Addr), PG (X.blk s H s2 (compEnvC s2 cl C X.env) fp) t (tgG X.K X.mg F tg)) (ht : ∀ (s : Shared) (H : Hp) (C : Addr) (cl : List (Str × Addr)) (fp : List Addr), PTs (X.blk s H s2 (compEnvC s2 cl C X.env) fp) ifs (tC' X.K X.mg F (evC c)))
    (he : ∀ (s : Shared) (H : Hp) (C : Addr) (cl : List (Str × Addr)) (fp : List Addr), PE (X.blk s H s2 (compEnvC s2 cl C X.env) fp) x (tE X.K X.mg F false (ev false e))) (b : Bool) : PE X (.ListComp x [⟨t, i, ifs, 0⟩] s2 pos) (tE X.K X.mg F b (ev b (.comp e tg it c))) := by
  have z := pe_lc (pos := pos) ok.calm ok.nd hi (blkOk_by hb) hg ht he hset
  have e : ((tgNames t).zip tg).map (·.2) = tg := by
    rw [List.map_snd_zip]
    omega
  rw [e] at z
  exact PE.imp z (s_comp (pos := pos) ok hb hl hi hset hg ht he b)
/-! ### all expressions -/
mutual
theorem sE : ∀ (e : E) {X : Cx} {F : Fr} (ok : OkX X) {x : Expr}, okE (prX X) e → mE X.N X.env.scope e x = true → Sd X F e x
  | .lit d, X, F, ok, x, _, hm => Sd.val (s_lit (by simpa [mE] using hm)) (lit_true (X := X) (by simpa [mE] using hm)).1 (lit_true (by simpa [mE] using hm)).2
  | .glob n d, X, F, ok, x, hk, hm => by
    cases x <;> try (simp [mE] at hm; done)
    exact Sd.val (s_glob (by simpa [okE] using hk) (by simpa [mE] using hm)) (fun _ _ _ z => nomatch z)
  | .var i, X, F, ok, x, hk, hm => by
    cases x <;> try (simp [mE] at hm; done)
    exact Sd.val (s_var (by simpa [mE] using hm)) (fun _ _ _ z => nomatch z)
  | .tup es, X, F, ok, x, hk, hm => by
    cases x <;> try (simp [mE] at hm; done)
    exact Sd.val (s_tup (sEs es ok (by simpa [okE] using hk) (by simpa [mE] using hm)).1) (fun _ _ _ z => nomatch z)
  | .lst es, X, F, ok, x, hk, hm => by
    cases x <;> try (simp [mE] at hm; done)
    exact Sd.val (s_lst (sEs es ok (by simpa [okE] using hk) (by simpa [mE] using hm)).1) (fun _ _ _ z => nomatch z)
  | .bin o a b, X, F, ok, x, hk, hm => by
    cases x <;> try (simp [mE] at hm; done)
    simp only [mE, Bool.and_eq_true] at hm
    simp only [okE] at hk
    obtain ⟨⟨m1, m2⟩, m3⟩ := hm
    have e := ops_bin m1
    subst e
    exact Sd.val (fun k => PE.imp (pe_op (op_bin (F := F) o) ((sE a ok hk.1 m2).pe true) ((sE b ok hk.2 m3).pe true)) fun σ H Q q => bin_read (ev_bin o a b k) q) (fun _ _ _ z => nomatch z)
  | .cmp o a b, X, F, ok, x, hk, hm => by
    cases x <;> try (simp [mE] at hm; done)
    rename_i l ops cs p
    match ops, cs, hm with
    | [p], [y], hm =>
      simp only [mE, Bool.and_eq_true] at hm
      simp only [okE] at hk
      obtain ⟨⟨m1, m2⟩, m3⟩ := hm
      have e := ops_cmp m1
      subst e
      have ha := sE a (F := F) ok hk.1 m2
      have hb := sE b (F := F) ok hk.2 m3
      have hmk : behindInMarks (cop o) y = false := pl_mark (mE_pl b m3) _
      exact ⟨fun k => PE.imp (pe_cmpR (op_cmp (mg := X.mg) (F := F) ok.room o) (ha.pe true) (hb.pe true) hmk) fun σ H Q q => bin_read (ev_cmp o a b k) q,
        fun _ => PT.imp (pt_cmpR (op_cmp (mg := X.mg) (F := F) ok.room o) (ha.pe true) (hb.pe true) hmk) fun σ H Q q => bin_read (ev_cmp o a b true) (tT_of (b := true) q), fun _ _ _ z => nomatch z⟩
    | [], _, hm => simp [mE] at hm
    | [_], [], hm => simp [mE] at hm
    | [_], _ :: _ :: _, hm => simp [mE] at hm
    | _ :: _ :: _, _, hm => simp [mE] at hm
  | .isin o a b, X, F, ok, x, hk, hm => by
    cases x <;> try (simp [mE] at hm; done)
    rename_i l ops cs p
    match ops, cs, hm with
    | [p], [y], hm =>
      simp only [mE, Bool.and_eq_true] at hm
      simp only [okE] at hk
      obtain ⟨⟨m1, m2⟩, m3⟩ := hm
      have e := ops_in m1
      subst e
      have ha := sE a (F := F) ok hk.1 m2
      have hb := sE b (F := F) ok hk.2 m3
      have hmk : behindInMarks (inop o) y = false := pl_mark (mE_pl b m3) _
      exact ⟨fun k => PE.imp (pe_cmpR (op_in (mg := X.mg) (F := F) ok.room o) (ha.pe true) (hb.pe true) hmk) fun σ H Q q => bin_read (ev_in o a b k) q,
        fun _ => PT.imp (pt_cmpR (op_in (mg := X.mg) (F := F) ok.room o) (ha.pe true) (hb.pe true) hmk) fun σ H Q q => bin_read (ev_in o a b true) (tT_of (b := true) q), fun _ _ _ z => nomatch z⟩
    | [], _, hm => simp [mE] at hm
    | [_], [], hm => simp [mE] at hm
    | [_], _ :: _ :: _, hm => simp [mE] at hm
    | _ :: _ :: _, _, hm => simp [mE] at hm
  | .inrange o a b, X, F, ok, x, hk, hm => by
    unfold mE at hm
    split at hm <;> rename_i heq <;> try (cases heq; done)
    · cases heq
      simp only [Bool.and_eq_true, decide_eq_true_eq, Bool.not_eq_true'] at hm
      simp only [okE] at hk
      exact s_inrange hm.1.1.1.1 hm.1.1.1.2 hm.1.1.2 ok (mE_pl a hm.1.2) (mE_pl b hm.2) (sE a ok hk.1 hm.1.2).pe (sE b ok hk.2 hm.2).pe
    · cases hm
  | .isnone o a, X, F, ok, x, hk, hm => by
    unfold mE at hm
    split at hm <;> rename_i heq <;> try (cases heq; done)
    · cases heq
      simp only [Bool.and_eq_true, decide_eq_true_eq, Bool.not_eq_true'] at hm
      simp only [okE] at hk
      exact s_isnone hm.1 (sE a ok hk hm.2).pe
    · cases hm
  | .and a b, X, F, ok, x, hk, hm => by
    unfold mE at hm
    split at hm <;> rename_i heq <;> try (cases heq; done)
    · rename_i x y r pos
      cases heq
      simp only [Bool.and_eq_true, Bool.not_eq_true'] at hm
      simp only [okE] at hk
      have ha := sE a (F := F) ok hk.1 hm.1.1
      cases r with
      | nil =>
        have hm2 := hm.2
        simp only [Bool.and_eq_true, Bool.not_eq_true'] at hm2
        have hb := sE b (F := F) ok hk.2 hm2.1
        have w := PW.imp (pw_and (pos := pos) (ha.pt hm.1.2) (pw_and1 (hb.pt hm2.2))) fun σ H Q q => rt_and q
        exact ⟨fun k => PE.imp (pe_and (ha.pe true) (pe_one (hb.pe true))) fun σ H Q q => rd_and q, fun _ => PW.pt w, fun _ _ _ _ => w⟩
      | cons z r =>
        have hb := sE b (F := F) ok hk.2 hm.2
        have w := PW.imp (pw_and (pos := pos) (ha.pt hm.1.2) (hb.pw _ _ _ rfl)) fun σ H Q q => rt_and q
        exact ⟨fun k => PE.imp (pe_and (ha.pe true) (hb.pe true)) fun σ H Q q => rd_and q, fun _ => PW.pt w, fun _ _ _ _ => w⟩
    · cases hm
  | .or a b, X, F, ok, x, hk, hm => by
    unfold mE at hm
    split at hm <;> rename_i heq <;> try (cases heq; done)
    · rename_i x y r pos
      cases heq
      simp only [Bool.and_eq_true, Bool.not_eq_true'] at hm
      simp only [okE] at hk
      have ha := sE a (F := F) ok hk.1 hm.1.1
      cases r with
      | nil =>
        have hm2 := hm.2
        simp only [Bool.and_eq_true, Bool.not_eq_true'] at hm2
        have hb := sE b (F := F) ok hk.2 hm2.1
        have w := PW.imp (pw_or (pos := pos) (ha.pt hm.1.2) (pw_or1 (hb.pt hm2.2))) fun σ H Q q => rt_or q
        exact ⟨fun k => PE.imp (pe_or (ha.pe true) (pe_one (hb.pe true))) fun σ H Q q => rd_or q, fun _ => PW.pt w, fun _ _ _ _ => w⟩
      | cons z r =>
        have hb := sE b (F := F) ok hk.2 hm.2
        have w := PW.imp (pw_or (pos := pos) (ha.pt hm.1.2) (hb.pw _ _ _ rfl)) fun σ H Q q => rt_or q
        exact ⟨fun k => PE.imp (pe_or (ha.pe true) (hb.pe true)) fun σ H Q q => rd_or q, fun _ => PW.pt w, fun _ _ _ _ => w⟩
    · cases hm
  | .not a, X, F, ok, x, hk, hm => by
    unfold mE at hm
    split at hm <;> rename_i heq <;> try (cases heq; done)
    · cases heq
      simp only [Bool.and_eq_true, decide_eq_true_eq, Bool.not_eq_true'] at hm
      simp only [okE] at hk
      have ha := sE a (F := F) ok hk hm.1
      exact ⟨fun k => PE.imp (pe_not (ha.pe true)) fun σ H Q q => rd_not q, fun _ => PT.imp (pt_not (ha.pt hm.2)) fun σ H Q q => rt_not q, fun _ _ _ z => nomatch z⟩
    · cases hm
  | .ife c a b, X, F, ok, x, hk, hm => by
    unfold mE at hm
    split at hm <;> rename_i heq <;> try (cases heq; done)
    · cases heq
      simp only [Bool.and_eq_true, decide_eq_true_eq, Bool.not_eq_true'] at hm
      simp only [okE] at hk
      have hc := sE c (F := F) ok hk.1 hm.1.1.1
      have ha := sE a (F := F) ok hk.2.1 hm.1.2
      have hb := sE b (F := F) ok hk.2.2 hm.2
      exact ⟨fun k => PE.imp (pe_ifExp (hc.pt hm.1.1.2) (ha.pe k) (hb.pe k)) fun σ H Q q => rd_ife q, fun z => (nomatch z), fun _ _ _ z => nomatch z⟩
    · cases hm
  | .sub a b, X, F, ok, x, hk, hm => by
    unfold mE at hm
    split at hm <;> rename_i heq <;> try (cases heq; done)
    · cases heq
      simp only [Bool.and_eq_true, decide_eq_true_eq, Bool.not_eq_true'] at hm
      simp only [okE] at hk
      exact Sd.val (fun k => PE.imp (pe_ix (ix_sub (F := F)) ((sE a ok hk.1 hm.1).pe true) ((sE b ok hk.2 hm.2).pe true) (pl_ix (mE_pl b hm.2))) fun σ H Q q => bin_read (ev_sub a b k) q) (fun _ _ _ z => nomatch z)
    · cases hm
  | .slice a lo hi, X, F, ok, x, hk, hm => by
    unfold mE at hm
    split at hm <;> rename_i heq <;> try (cases heq; done)
    · cases heq
      simp only [Bool.and_eq_true, decide_eq_true_eq, Bool.not_eq_true'] at hm
      simp only [okE] at hk
      exact Sd.val (s_slice (sE a ok hk.1 hm.1.1).pe (sP lo ok hk.2.1 hm.1.2) (sP hi ok hk.2.2 hm.2)) (fun _ _ _ z => nomatch z)
    · cases hm
  | .b1 f a, X, F, ok, x, hk, hm => by
    unfold mE at hm
    split at hm <;> rename_i heq <;> try (cases heq; done)
    · cases heq
      simp only [Bool.and_eq_true, decide_eq_true_eq, Bool.not_eq_true'] at hm
      simp only [okE] at hk
      exact Sd.val (s_b1 hm.1.1 hm.1.2 ok (mE_pl a hm.2) (sE a ok hk hm.2).pe) (fun _ _ _ z => nomatch z)
    · cases hm
  | .isi a t, X, F, ok, x, hk, hm => by
    unfold mE at hm
    split at hm <;> rename_i heq <;> try (cases heq; done)
    · cases heq
      simp only [Bool.and_eq_true, decide_eq_true_eq, Bool.not_eq_true'] at hm
      simp only [okE] at hk
      exact Sd.val (s_isi hm.1.1.1.1 hm.1.1.1.2 hm.1.2 ok hm.1.1.2 (mE_pl a hm.2) (sE a ok hk hm.2).pe) (fun _ _ _ z => nomatch z)
    · cases hm
  | .call f es, X, F, ok, x, hk, hm => by
    unfold mE at hm
    split at hm <;> rename_i heq <;> try (cases heq; done)
    · cases heq
      simp only [Bool.and_eq_true, decide_eq_true_eq, Bool.not_eq_true'] at hm
      simp only [okE] at hk
      exact Sd.val (s_call hk.1 hm.1.1.1 hm.1.1.2 hm.1.2 (mEs_pl es hm.2) (mEs_nil hm.2) (sEs es ok hk.2 hm.2).1) (fun _ _ _ z => nomatch z)
    · cases hm
  | .callP f es, X, F, ok, x, hk, hm => by
    unfold mE at hm
    split at hm <;> rename_i heq <;> try (cases heq; done)
    · cases heq
      simp only [Bool.and_eq_true, decide_eq_true_eq, Bool.not_eq_true'] at hm
      simp only [okE] at hk
      exact Sd.val (s_callP hk.1 hm.1.1.1 hm.1.1.2 hm.1.2 (mEs_pl es hm.2) (mEs_nil hm.2) (sEs es ok hk.2 hm.2).1) (fun _ _ _ z => nomatch z)
    · cases hm
  | .callB f es, X, F, ok, x, hk, hm => by
    unfold mE at hm
    split at hm <;> rename_i heq <;> try (cases heq; done)
    · cases heq
      simp only [Bool.and_eq_true, decide_eq_true_eq, Bool.not_eq_true'] at hm
      simp only [okE] at hk
      exact Sd.val (s_callB hk.1 hm.1.1.1 hm.1.1.2 hm.1.2 (mEs_pl es hm.2) (mEs_nil hm.2) (sEs es ok hk.2 hm.2).2) (fun _ _ _ z => nomatch z)
    · cases hm
  | .alloc e, X, F, ok, x, hk, hm => by
    have h1 := sE e (F := F) ok (by simpa [okE] using hk) (by simpa [mE] using hm)
    refine Sd.never (s_alloc h1.pe) fun ms c ms' q => ?_
    unfold ev at q
    split at q
    · cases q
    · cases q
  | .allocL es, X, F, ok, x, hk, hm => by
    unfold mE at hm
    split at hm <;> rename_i heq <;> try (cases heq; done)
    · cases heq
      simp only [okE] at hk
      exact Sd.val (s_allocL (sEs es ok hk hm).1) (fun _ _ _ z => nomatch z)
    · cases hm
  | .attr c a f, X, F, ok, x, hk, hm => by
    unfold mE at hm
    split at hm <;> rename_i heq <;> try (cases heq; done)
    · cases heq
      simp only [Bool.and_eq_true, decide_eq_true_eq] at hm
      simp only [okE] at hk
      obtain ⟨⟨m1, m2⟩, m3⟩ := hm
      subst m1
      exact Sd.val (s_attr hk.1 m2 (sE a ok hk.2 m3).pe) (fun _ _ _ z => nomatch z)
    · cases hm
  | .meth c f a es, X, F, ok, x, hk, hm => by
    unfold mE at hm
    split at hm <;> rename_i heq <;> try (cases heq; done)
    · cases heq
      simp only [Bool.and_eq_true, decide_eq_true_eq] at hm
      simp only [okE] at hk
      obtain ⟨⟨⟨⟨⟨m1, m2⟩, m3⟩, m4⟩, m5⟩, m6⟩ := hm
      exact Sd.val (s_meth m3 m4 hk.1 m1 m2 (mEs_pl es m6) (mEs_nil m6) (sE a ok hk.2.1 m5).pe (sEs es ok hk.2.2 m6).1) (fun _ _ _ z => nomatch z)
    · cases hm
  | .new c f es, X, F, ok, x, hk, hm => by
    unfold mE at hm
    split at hm <;> rename_i heq <;> try (cases heq; done)
    · cases heq
      simp only [Bool.and_eq_true, decide_eq_true_eq, Bool.not_eq_true'] at hm
      simp only [okE] at hk
      exact Sd.val (s_new hk.1 hm.1.1.1 hm.1.1.2 hm.1.2 (mEs_pl es hm.2) (mEs_nil hm.2) (sEs es ok hk.2 hm.2).1) (fun _ _ _ z => nomatch z)
    · cases hm
  | .srt true a, X, F, ok, x, hk, hm => by
    unfold mE at hm
    split at hm <;> rename_i heq <;> try (cases heq; done)
    · cases heq
      simp only [Bool.and_eq_true, decide_eq_true_eq] at hm
      simp only [okE] at hk
      exact Sd.val (s_sortSet hm.1.1.1.1 hm.1.1.1.2 hm.1.1.2 hm.1.2 ok (mE_pl a hm.2) (sE a ok hk hm.2).pe) (fun _ _ _ z => nomatch z)
    · cases hm
  | .srt false a, X, F, ok, x, hk, hm => by
    unfold mE at hm
    split at hm <;> rename_i heq <;> try (cases heq; done)
    · cases heq
      simp only [Bool.and_eq_true, decide_eq_true_eq] at hm
      simp only [okE] at hk
      exact Sd.val (s_sortL hm.1.1 hm.1.2 ok (mE_pl a hm.2) (sE a ok hk hm.2).pe) (fun _ _ _ z => nomatch z)
    · cases hm
  | .str1 a, X, F, ok, x, hk, hm => by
    unfold mE at hm
    split at hm <;> rename_i heq <;> try (cases heq; done)
    · cases heq
      simp only [Bool.and_eq_true, decide_eq_true_eq] at hm
      simp only [okE] at hk
      exact Sd.val (s_str1 hm.1.1 hm.1.2 ok (mE_pl a hm.2) (sE a ok hk hm.2).pe) (fun _ _ _ z => nomatch z)
    · cases hm
  | .join s a, X, F, ok, x, hk, hm => by
    unfold mE at hm
    split at hm <;> rename_i heq <;> try (cases heq; done)
    · cases heq
      simp only [Bool.and_eq_true, decide_eq_true_eq] at hm
      simp only [okE] at hk
      exact Sd.val (s_join hm.1.1.1 hm.1.1.2 hm.1.2 (mE_pl a hm.2) (sE a ok hk hm.2).pe) (fun _ _ _ z => nomatch z)
    · cases hm
  | .comp e tg it c, X, F, ok, x, hk, hm => by
    unfold mE at hm
    split at hm <;> rename_i heq <;> try (cases heq; done)
    · rename_i x t i ifs kk s2 pos
      cases heq
      simp only [Bool.and_eq_true, decide_eq_true_eq, Bool.not_eq_true'] at hm
      simp only [okE] at hk
      obtain ⟨⟨⟨⟨⟨⟨m1, m2⟩, m3⟩, m4⟩, m5⟩, m6⟩, m7⟩ := hm
      subst m1
      exact Sd.val (fun b => s_compE (F := F) ok m6 m7 (sI it ok hk.2.1 m4) (mI_set m4) (fun s H C cl fp => s_tg (X := X.blk s H s2 (compEnvC s2 cl C X.env) fp) ok.blk stores_blk m3)
        (fun s H C cl fp => sC c (X := X.blk s H s2 (compEnvC s2 cl C X.env) fp) ok.blk hk.2.2 m5) (fun s H C cl fp => (sE e (X := X.blk s H s2 (compEnvC s2 cl C X.env) fp) (F := F) ok.blk hk.1 m2).pe false) b) (fun _ _ _ z => nomatch z)
    · cases hm
theorem sEs : ∀ (es : Es) {X : Cx} {F : Fr} (ok : OkX X) {xs : List Expr}, okEs (prX X) es → mEs X.N X.env.scope es xs = true → PA X xs (tA X.K X.mg F (evs es)) ∧ PA X xs (tBA X.K X.mg F (evB es))
  | .nil, X, F, ok, xs, hk, hm => by
    cases xs with
    | nil => exact ⟨s_nil, s_bnil⟩
    | cons _ _ => simp [mEs] at hm
  | .cons e es, X, F, ok, xs, hk, hm => by
    cases xs with
    | nil => simp [mEs] at hm
    | cons x xs =>
      simp only [mEs, Bool.and_eq_true] at hm
      simp only [okEs] at hk
      have h1 := sE e (F := F) ok hk.1 hm.1
      have h2 := sEs es (F := F) ok hk.2 hm.2
      exact ⟨s_cons (mE_pl e hm.1) h1.pe h2.1, s_bcons (mE_pl e hm.1) h1.pe h2.2⟩
theorem sP : ∀ (es : Es) {X : Cx} {F : Fr} (ok : OkX X) {x : Option Expr}, okEs (prX X) es → mP X.N X.env.scope es x = true → PO X x (tP X.K X.mg F (evP es))
  | .nil, X, F, ok, x, hk, hm => by
    cases x with
    | none => exact s_pnil
    | some _ => simp [mP] at hm
  | .cons e .nil, X, F, ok, x, hk, hm => by
    cases x with
    | none => simp [mP] at hm
    | some x =>
      simp only [mP] at hm
      simp only [okEs] at hk
      exact s_pone (sE e (F := F) ok hk.1 hm).pe
  | .cons e (.cons _ _), X, F, ok, x, hk, hm => by cases x <;> simp [mP] at hm
theorem sC : ∀ (es : Es) {X : Cx} {F : Fr} (ok : OkX X) {xs : List Expr}, okEs (prX X) es → mC X.N X.env.scope es xs = true → PTs X xs (tC' X.K X.mg F (evC es))
  | .nil, X, F, ok, xs, hk, hm => by
    cases xs with
    | cons _ _ => simp [mC] at hm
    | nil =>
      exact PTs.imp pts_nil fun σ H Q ⟨g, ms, c, ms', R, q, k⟩ => by
        unfold evC at q
        cases q
        exact k g H R .refl
  | .cons e .nil, X, F, ok, xs, hk, hm => by
    cases xs with
    | nil => simp [mC] at hm
    | cons x r =>
      cases r with
      | cons _ _ => simp [mC] at hm
      | nil =>
        simp only [mC, Bool.and_eq_true, Bool.not_eq_true'] at hm
        simp only [okEs] at hk
        have h := sE e (F := F) ok hk.1 hm.1
        exact PTs.imp (pts_one (h.pt hm.2)) fun σ H Q ⟨g, ms, c, ms', R, q, k⟩ => by
          unfold evC at q
          split at q
          · rename_i d ms1 q1
            cases q
            exact ⟨g, ms, c, ms', R, q1, k⟩
          · cases q
  | .cons e (.cons _ _), X, F, ok, xs, hk, hm => by cases xs <;> simp [mC] at hm
theorem sI : ∀ (it : I) {X : Cx} {F : Fr} (ok : OkX X) {x tg : Expr}, okI (prX X) it → mI X.N X.env.scope it x = true → PI X tg x (tI X.K X.mg F (evI it))
  | .seq e, X, F, ok, x, tg, hk, hm => s_seq (sE e (F := F) ok (by simpa [okI] using hk) (by simpa [mI] using hm)).pe
  | .range1 e, X, F, ok, x, tg, hk, hm => by
    unfold mI at hm
    split at hm <;> rename_i heq <;> try (cases heq; done)
    · cases heq
      simp only [Bool.and_eq_true, decide_eq_true_eq] at hm
      simp only [okI] at hk
      exact s_range1 hm.1.1 hm.1.2 ok (mE_pl e hm.2) (sE e ok hk hm.2).pe
    · cases hm
  | .range2 a b, X, F, ok, x, tg, hk, hm => by
    unfold mI at hm
    split at hm <;> rename_i heq <;> try (cases heq; done)
    · cases heq
      simp only [Bool.and_eq_true, decide_eq_true_eq] at hm
      simp only [okI] at hk
      exact s_range2 hm.1.1.1 hm.1.1.2 ok (mE_pl a hm.1.2) (mE_pl b hm.2) (sE a ok hk.1 hm.1.2).pe (sE b ok hk.2 hm.2).pe
    · cases hm
end
end
end Sv

/-! Sv: statements. -/
namespace Sv
open PySem PySem.Spec PyProof.Rows L2
/-- a def's own frame -/
structure OkD (X : Cx) : Prop extends OkX X where
  kind : X.env.scope.kind = .function
  st : Stores X X.env.scope
  po : PassesOwn (model X.prog X.w) X.A X.env X.xe
section
variable {X : Cx} {F : Fr} {g g' : G} {ms ms' : MS} {σ σ' : L2.St} {H H' : Hp}
theorem comp_no {x : Expr} (h : isComp x = false) (t : Option Expr) (l : Nat) (env : Env) : swapsWith x t l env = pure false := by
  cases x <;> first | rfl | cases h
/-! ### an object is changed in its place -/
/-- what stands elsewhere does not lean on a list that is no longer held -/
theorem poke_dz {a : Addr} {u u' : HO} (ha : H a = some u) (hm : (∃ vs, u = .lst vs) ∨ (∃ kv, u = .dK kv) ∨ ∃ C dx fs, u = .ins C dx fs) (hz : ¬ g.Z a) :
    (∀ {v : V} {d : PyData}, Dz X.K g.Z H v d → Dz X.K g.Z (upd H a u') v d) ∧ (∀ {v : List V} {d : List PyData}, Dzs X.K g.Z H v d → Dzs X.K g.Z (upd H a u') v d) ∧
    (∀ {v : V} {x : AV}, AVR X.K g H v x → AVR X.K g (upd H a u') v x) ∧ (∀ {v : List V} {x : List AV}, AVRs X.K g H v x → AVRs X.K g (upd H a u') v x) := by
  have nt : ∀ xs, u ≠ .tup xs := fun xs z => by rcases hm with ⟨_, e⟩ | ⟨_, e⟩ | ⟨_, _, _, e⟩ <;> (rw [e] at z; cases z)
  have nf : ∀ o x, u ≠ .frz o x := fun o x z => by rcases hm with ⟨_, e⟩ | ⟨_, e⟩ | ⟨_, _, _, e⟩ <;> (rw [e] at z; cases z)
  have ht : ∀ b xs, SqT X.K H b xs → SqT X.K (upd H a u') b xs := fun b xs h => sqT_keep (fun c ys q => by
    rw [upd_ne (fun e => by rw [e, ha] at q; cases q; exact nt _ rfl)]; exact q) (fun c o ys q => by
    rw [upd_ne (fun e => by rw [e, ha] at q; cases q; exact nf _ _ rfl)]; exact q) h
  have hl : ∀ b xs, g.Z b → H b = some (.lst xs) → g.Z b ∧ upd H a u' b = some (.lst xs) := fun b xs z q => ⟨z, by rw [upd_ne (fun e => hz (by rw [← e]; exact z))]; exact q⟩
  have dz : ∀ {v : V} {d : PyData}, Dz X.K g.Z H v d → Dz X.K g.Z (upd H a u') v d := fun {v d} h => Dz.mono hl ht d h
  have dzs : ∀ {v : List V} {d : List PyData}, Dzs X.K g.Z H v d → Dzs X.K g.Z (upd H a u') v d := fun {v d} h => Dzs.mono hl ht d h
  have av : ∀ {v : V} {x : AV}, AVR X.K g H v x → AVR X.K g (upd H a u') v x := fun {v x} h => by
    cases h with
    | dat h => exact .dat (dz h)
    | ref h => exact .ref h
    | fd z h k q => exact .fd z (by rw [upd_ne (fun e => hz (by rw [← e]; exact z))]; exact h) k (dzs q)
    | scr h => exact .scr (h.keep fun o h => by rw [upd_ne (fun e => by rw [e, ha] at h; cases h; exact nf _ _ rfl)]; exact h)
  have avs : ∀ {v : List V} {x : List AV}, AVRs X.K g H v x → AVRs X.K g (upd H a u') v x := fun {v x} h => by
    induction h with
    | nil => exact .nil
    | cons p _ ih => exact .cons (av p) ih
  exact ⟨dz, dzs, av, avs⟩
theorem upd_th {a : Addr} {u : HO} : ∀ b o, H b = some o → ∃ o', upd H a u b = some o' := fun b o q => by
  by_cases e : b = a
  · subst e; exact ⟨_, upd_same⟩
  · exact ⟨o, by rw [upd_ne e]; exact q⟩
/-- a slot's own list is changed -/
theorem Rel.pokeOwn (R : Rel X.K X.mg F g ms σ H) {i : Nat} {a : Addr} {vs us : List V} {xs ys : List PyData} (hi : ms.rho[i]? = some (.own xs)) (h1 : g.oa i = some a) (h2 : σ[i]? = some (some (.ref a))) (h3 : H a = some (.lst vs)) (h4 : Dzs X.K g.Z H us ys) :
    Rel X.K X.mg F g { ms with rho := ms.rho.set i (.own ys) } σ (upd H a (.lst us)) ∧ ExtS g H g (upd H a (.lst us)) := by
  obtain ⟨z1, z2, z3, _⟩ := R.oaf i a h1
  obtain ⟨dz, dzs, av, avs⟩ := poke_dz (X := X) (g := g) (u' := .lst us) h3 (.inl ⟨_, rfl⟩) z1
  have hil : i < ms.rho.length := (List.getElem?_eq_some_iff.mp hi).1
  refine ⟨⟨⟨R.hr.hl, R.hr.nd, fun j b o p1 p2 => ?_, R.hr.nz, fun b z => let ⟨o, q⟩ := R.hr.zt b z; upd_th b o q⟩, by simp [R.len], fun j v hj => ?_, fun j ws hj => ?_, fun j b hj => ?_, R.inj, ⟨R.fr.io, R.fr.z, R.fr.zz, fun b o p1 p2 => ?_, fun b o p => let ⟨o', q⟩ := R.fr.th b o p; upd_th b o' q⟩⟩,
    fun b o p1 p2 q => ?_, fun _ z => z, ⟨[], by simp, by simp⟩, upd_th, fun i b q => .inl ⟨i, q⟩⟩
  · have hb : b ≠ a := fun e => z2 (by rw [← e]; exact List.mem_of_getElem? p1)
    have q := R.hr.ho j b o p1 p2
    cases q with
    | lst h q => exact .lst (by rw [upd_ne hb]; exact h) (avs q)
    | dct h k q => exact .dct (by rw [upd_ne hb]; exact h) k (avs q)
    | ins h mm k q => exact .ins (by rw [upd_ne hb]; exact h) mm k (avs q)
  · by_cases hji : j = i
    · subst hji
      rw [List.getElem?_set_self hil] at hj
      cases hj
    · rw [List.getElem?_set_ne (Ne.symm hji)] at hj
      obtain ⟨x, q1, q2⟩ := R.av j v hj
      exact ⟨x, q1, av q2⟩
  · by_cases hji : j = i
    · subst hji
      rw [List.getElem?_set_self hil] at hj
      cases hj
      exact ⟨a, us, h1, h2, upd_same, dzs h4⟩
    · rw [List.getElem?_set_ne (Ne.symm hji)] at hj
      obtain ⟨b, ts, q1, q2, q3, q4⟩ := R.own j ws hj
      exact ⟨b, ts, q1, q2, by rw [upd_ne (fun e => hji (R.inj j i a (by rw [← e]; exact q1) h1))]; exact q3, dzs q4⟩
  · obtain ⟨q1, q2, q3, ts, q4⟩ := R.oaf j b hj
    refine ⟨q1, q2, q3, ?_⟩
    by_cases e : b = a
    · subst e; exact ⟨us, upd_same⟩
    · exact ⟨ts, by rw [upd_ne e]; exact q4⟩
  · rw [upd_ne (fun e => by rw [e, z3] at p2; cases p2)]
    exact R.fr.keep b o p1 p2
  · rw [upd_ne (fun e => p2 i (by rw [e]; exact h1))]
    exact q
/-- a list of the small heap is changed -/
theorem Rel.pokeHp (R : Rel X.K X.mg F g ms σ H) {j : Nat} {a : Addr} {vs us : List V} {xs ys : List AV} (hj : g.io[j]? = some a) (hx : ms.hp[j]? = some (.lst xs)) (h3 : H a = some (.lst vs)) (h4 : AVRs X.K g H us ys) :
    Rel X.K X.mg F g { ms with hp := ms.hp.set j (.lst ys) } σ (upd H a (.lst us)) ∧ ExtS g H g (upd H a (.lst us)) := by
  have ha : a ∈ g.io := List.mem_of_getElem? hj
  have z1 := R.hr.nz a ha
  obtain ⟨dz, dzs, av, avs⟩ := poke_dz (X := X) (g := g) (u' := .lst us) h3 (.inl ⟨_, rfl⟩) z1
  have hjl : j < ms.hp.length := (List.getElem?_eq_some_iff.mp hx).1
  have no : ∀ i, g.oa i ≠ some a := fun i z => (R.oaf i a z).2.1 ha
  refine ⟨⟨⟨by simp [R.hr.hl], R.hr.nd, fun k b o p1 p2 => ?_, R.hr.nz, fun b z => let ⟨o, q⟩ := R.hr.zt b z; upd_th b o q⟩, R.len, fun k v hk => let ⟨x, q1, q2⟩ := R.av k v hk; ⟨x, q1, av q2⟩, fun k ws hk => ?_, fun k b hk => ?_, R.inj, ⟨R.fr.io, R.fr.z, R.fr.zz, fun b o p1 p2 => ?_, fun b o p => let ⟨o', q⟩ := R.fr.th b o p; upd_th b o' q⟩⟩,
    fun b o p1 p2 q => ?_, fun _ z => z, ⟨[], by simp, by simp⟩, upd_th, fun i b q => .inl ⟨i, q⟩⟩
  · by_cases hk : k = j
    · subst hk
      rw [hj] at p1
      cases p1
      rw [List.getElem?_set_self hjl] at p2
      cases p2
      exact .lst upd_same (avs h4)
    · rw [List.getElem?_set_ne (Ne.symm hk)] at p2
      have hb : b ≠ a := fun e => hk (by
        obtain ⟨l1, e1⟩ := List.getElem?_eq_some_iff.mp p1
        obtain ⟨l2, e2⟩ := List.getElem?_eq_some_iff.mp hj
        exact (List.getElem_inj R.hr.nd).mp (by rw [e1, e2, e]))
      have q := R.hr.ho k b o p1 p2
      cases q with
      | lst h q => exact .lst (by rw [upd_ne hb]; exact h) (avs q)
      | dct h kk q => exact .dct (by rw [upd_ne hb]; exact h) kk (avs q)
      | ins h mm kk q => exact .ins (by rw [upd_ne hb]; exact h) mm kk (avs q)
  · obtain ⟨b, ts, q1, q2, q3, q4⟩ := R.own k ws hk
    exact ⟨b, ts, q1, q2, by rw [upd_ne (fun e => no k (by rw [← e]; exact q1))]; exact q3, dzs q4⟩
  · obtain ⟨q1, q2, q3, ts, q4⟩ := R.oaf k b hk
    exact ⟨q1, q2, q3, ts, by rw [upd_ne (fun e => no k (by rw [← e]; exact hk))]; exact q4⟩
  · have hb : b ≠ a := fun e => by
      obtain ⟨n, en, hn⟩ := R.fr.io
      rw [en] at ha
      rcases List.mem_append.mp ha with ha | ha
      · exact p1 (by rw [e]; exact ha)
      · rw [e, hn a ha] at p2; cases p2
    rw [upd_ne hb]
    exact R.fr.keep b o p1 p2
  · rw [upd_ne (fun e => p1 (by rw [e]; exact ha))]
    exact q

/-! ### the small statements -/
theorem ExtS.setAv {i : Nat} : ExtS g H { g with oa := fun j => if j = i then none else g.oa j } H := Ext.av_slot.s
/-- a name is set -/
theorem set_read {i : Nat} {v : V} {rv : RV} {ms2 : MS} {S : Hp} {g0 : G} (R : Rel X.K X.mg F g ms σ H) (x : Ext g0 S g H) (r : RVR X.K F g S H false v rv) (e : setSlot i rv ms = some ms2) : ∃ g2, Rel X.K X.mg F g2 ms2 (σ.set i (some v)) H ∧ ExtS g0 S g2 H := by
  cases rv with
  | av a =>
    have e' : (if i < ms.rho.length then some { ms with rho := ms.rho.set i (.av a) } else none) = some ms2 := e
    by_cases c : i < ms.rho.length
    · rw [if_pos c] at e'
      cases e'
      cases r with
      | av r => exact ⟨_, R.setAv c r, x.s.trans ExtS.setAv⟩
    · rw [if_neg c] at e'
      cases e'
  | lst xs =>
    have e' : (if i < ms.rho.length then some { ms with rho := ms.rho.set i (.own xs) } else none) = some ms2 := e
    by_cases c : i < ms.rho.length
    · rw [if_pos c] at e'
      cases e'
      cases r with
      | lst h1 h2 h3 h4 h5 h6 =>
        refine ⟨_, R.setOwn c h1 h2 h3 h4 h5 fun j _ => (h6 rfl).2 j, ?_⟩
        refine ⟨fun b o p1 p2 q => x.keep b o p1 q, x.zz, x.io, x.th, fun j b q => ?_⟩
        by_cases hji : j = i
        · simp [hji] at q
          subst q
          exact .inr (h6 rfl).1
        · simp [hji] at q
          exact x.on j b q
    · rw [if_neg c] at e'
      cases e'
theorem s_set (ok : OkD X) {i : Nat} {e : E} {x : Expr} {y : Str} {p q : Pos} (hn : isNm X.N i y = true) (hl : isLoc X.env.scope y = true) (hc : isComp x = false) (h : ∀ b, PE X x (tE X.K X.mg F b (ev b e))) : PS X (.Assign [.Name y p] x q) (tX X.K X.mg F (ex (.set i e))) := by
  refine PS.imp (ps_set ok.nd (of_decide_eq_true hn) (ok.st y hl).1 (h false) (comp_no hc _ _ _) (ok.st y hl).2) fun D σ H ⟨g, ms, o, ms', R, q, k⟩ => ?_
  unfold ex at q
  cases q1 : ev false e ms with
  | none => rw [q1] at q; cases q
  | some r =>
    obtain ⟨rv, ms1⟩ := r
    rw [q1] at q
    obtain ⟨m, e1, e2⟩ := Option.map_eq_some_iff.mp q
    cases e2
    refine ⟨g, ms, rv, ms1, R, q1, fun g1 v H1 R1 x1 r1 => ?_⟩
    obtain ⟨g2, R2, x2⟩ := set_read R1 x1 r1 e1
    exact k g2 _ H1 R2 x2
theorem s_setC (ok : OkD X) {i : Nat} {e : E} {tg : List Nat} {it : I} {c : Es} {x t i' : Expr} {ifs : List Expr} {s2 : Scope} {y : Str} {p p2 q : Pos} (hn : isNm X.N i y = true) (hl : X.env.scope.names.lookup y = some .local) (hp : (p.line == p2.line) = true)
    (ha : (s2.names.any fun nk => nk.1 == y && (nk.2 == .local || nk.2 == .cell)) = false) (hk1 : okE (prX X) e) (hk2 : okI (prX X) it) (hk3 : okEs (prX X) c)
    (m2 : mE X.N (relS s2 X.env.scope) e x = true) (m3 : mTg X.N s2 tg t = true) (m4 : mI X.N X.env.scope it i' = true) (m5 : mC X.N (relS s2 X.env.scope) c ifs = true) (m6 : blkC X.N X.env.scope s2 ((tgNames t).zip tg) = true) (m7 : (tgNames t).length = tg.length) :
    PS X (.Assign [.Name y p] (.ListComp x [⟨t, i', ifs, 0⟩] s2 p2) q) (tX X.K X.mg F (ex (.setC i e tg it c))) := by
  have z := ps_setLc (te := tE X.K X.mg F false (ev false e)) (tt := tC' X.K X.mg F (evC c)) (g := tgG X.K X.mg F tg) (i := i) (y := y) (py := p) (pos := p2) (spos := q) (scope := s2) ok.calm ok.nd (of_decide_eq_true hn) hl (sw_true ok.kind hl hp ha) (sI it (F := F) ok.toOkX hk2 m4) (blkOk_by m6)
    (fun s H C cl fp => s_tg (F := F) (X := X.blk s H s2 (compEnvC s2 cl C X.env) fp) ok.toOkX.blk stores_blk m3) (fun s H C cl fp => sC c (F := F) (X := X.blk s H s2 (compEnvC s2 cl C X.env) fp) ok.toOkX.blk hk3 m5)
    (fun s H C cl fp => (sE e (X := X.blk s H s2 (compEnvC s2 cl C X.env) fp) (F := F) ok.toOkX.blk hk1 m2).pe false) (mI_set m4)
  have e0 : ((tgNames t).zip tg).map (·.2) = tg := by
    rw [List.map_snd_zip]
    omega
  rw [e0] at z
  refine PS.imp z fun D σ H ⟨g, ms, o, ms', R, q, k⟩ => ?_
  unfold ex at q
  cases q1 : ev false (.comp e tg it c) ms with
  | none => rw [q1] at q; cases q
  | some r =>
    obtain ⟨rv, ms1⟩ := r
    rw [q1] at q
    obtain ⟨m, e1, e2⟩ := Option.map_eq_some_iff.mp q
    cases e2
    refine s_comp (pos := p2) ok.toOkX m6 m7 (sI it (F := F) ok.toOkX hk2 m4) (mI_set m4) (fun s H C cl fp => s_tg (F := F) (X := X.blk s H s2 (compEnvC s2 cl C X.env) fp) ok.toOkX.blk stores_blk m3) (fun s H C cl fp => sC c (F := F) (X := X.blk s H s2 (compEnvC s2 cl C X.env) fp) ok.toOkX.blk hk3 m5)
      (fun s H C cl fp => (sE e (X := X.blk s H s2 (compEnvC s2 cl C X.env) fp) (F := F) ok.toOkX.blk hk1 m2).pe false) false σ H _ ⟨g, ms, rv, ms1, R, q1, fun g1 v H1 R1 x1 r1 => ?_⟩
    obtain ⟨g2, R2, x2⟩ := set_read R1 x1 r1 e1
    exact k g2 _ H1 R2 x2
theorem tup_sw {es : List Expr} {kk : Nat} {pp : Pos} {x : Expr} (h : isTup x = false) : swappedStores [.Tuple es kk pp] x X.env = pure none := by
  cases x <;> first | rfl | cases h
theorem s_setT (ok : OkD X) {tg : List Nat} {e : E} {x : Expr} {es : List Expr} {kk : Nat} {p q : Pos} (ht : mTg X.N X.env.scope tg (.Tuple es kk p) = true) (hc : isComp x = false) (hu : isTup x = false) (h : ∀ b, PE X x (tE X.K X.mg F b (ev b e))) : PS X (.Assign [.Tuple es kk p] x q) (tX X.K X.mg F (ex (.setT tg e))) := by
  refine PS.imp (ps_asg (h true) (s_tg (F := F) ok.toOkX ok.st ht) (by unfold swapsWithSole; exact comp_no hc _ _ _) (tup_sw hu)) fun D σ H ⟨g, ms, o, ms', R, q, k⟩ => ?_
  unfold ex at q
  split at q
  · rename_i d ms1 q1
    obtain ⟨rho, e1, e2⟩ := Option.map_eq_some_iff.mp q
    cases e2
    refine ⟨g, ms, _, ms1, R, q1, fun g1 v H1 R1 x1 r1 => ?_⟩
    cases r1 with
    | av r1 => cases r1 with
      | dat r1 => exact ⟨g1, ms1, d, rho, R1, r1, e1, fun g2 σ2 R2 x2 _ => k g2 σ2 H1 R2 (x1.trans x2).s⟩
  · cases q
theorem s_expr {e : E} {x : Expr} {p : Pos} (hc : isComp x = false) (h : ∀ b, PE X x (tE X.K X.mg F b (ev b e))) : PS X (.Expr x p) (tX X.K X.mg F (ex (.expr e))) := by
  refine PS.imp (ps_expr (h false) (comp_no hc _ _ _)) fun D σ H ⟨g, ms, o, ms', R, q, k⟩ => ?_
  unfold ex at q
  split at q
  · rename_i rv ms1 q1
    cases q
    exact ⟨g, ms, rv, ms', R, q1, fun g1 v H1 R1 x1 r1 => k g1 σ H1 R1 x1.s⟩
  · cases q
theorem s_ret {e : E} {x : Expr} {p : Pos} (h : ∀ b, PE X x (tE X.K X.mg F b (ev b e))) : PS X (.Return (some x) p) (tX X.K X.mg F (ex (.ret e))) := by
  refine PS.imp (ps_ret (h true)) fun D σ H ⟨g, ms, o, ms', R, q, k⟩ => ?_
  unfold ex at q
  split at q
  · rename_i rv ms1 q1
    cases q
    refine ⟨g, ms, rv, ms', R, q1, fun g1 v H1 R1 x1 r1 => ?_⟩
    refine k g1 σ H1 R1 x1.s v ?_
    cases r1 with
    | av r1 => exact .av r1
    | lst h1 h2 h3 h4 h5 h6 => exact .lst h1 h2 h3 h4 h5 fun z => by cases z
  · cases q
theorem s_pop0 (ok : OkD X) {i j : Nat} {y m : Str} {pp ap cp sp kp : Pos} {jj : Int} (hj : jj = 0) (hn : isNm X.N i y = true) (hv : isVis X.env.scope y = true) (ho : odd y = false) (hm : m = sPop) (hl : (ap.endLine == cp.line) = true) :
    PS X (.Expr (.Call (.Attribute (.Name y pp) m ap) [.Constant (.int jj) j kp] [] cp) sp) (tX X.K X.mg F (ex (.pop0 i))) := by
  subst hj hm
  have hvis : Vis X.env.scope y := by
    simp only [isVis, Bool.or_eq_true, decide_eq_true_eq] at hv
    rcases hv with (h2 | h2) | h2
    · exact .inl h2
    · exact .inr (.inl h2)
    · exact .inr (.inr h2)
  unfold odd at ho
  simp only [Bool.or_eq_false_iff] at ho
  have pm := pe_bm (X := X) (name := sPop) (apos := ap) (cpos := cp) PySem.F.plainAttrs_list PySem.F.slot_list_pop PySem.F.type_list_pop mt_popAt (pe_var (pos := pp) (of_decide_eq_true hn) hvis ho.1 ho.2) (pa_cons (pe_int (i := 0) (j := j) (pos := kp)) pa_nil) rfl rfl hl
  refine PS.imp (ps_expr pm rfl) fun D σ H ⟨g, ms, o, ms', R, q, k⟩ => ?_
  unfold ex at q
  split at q
  · rename_i x0 xs e1
    cases q
    obtain ⟨a, vs, h1, h2, h3, h4⟩ := R.own i _ e1
    cases h4 with
    | @cons v vs _ _ p4 h4 =>
      refine ⟨.ref a, h2, .inl ⟨rfl, _, SqL.of h3⟩, a, _, 0, 0, v, rfl, rfl, h3, by decide, by decide, PySem.StrLaws.seqIndex_nonneg (by decide) (by simp), rfl, ?_⟩
      obtain ⟨R2, x2⟩ := R.pokeOwn (us := vs) e1 h1 h2 h3 h4
      exact k g σ _ R2 x2
  · rename_i r e1
    split at q
    · rename_i x0 xs e2
      cases q
      obtain ⟨v0, h2, h3⟩ := R.av i _ e1
      obtain ⟨a, vs, q1, rfl, q3, q4⟩ := R.hr.lst h3 e2
      cases q4 with
      | @cons v vs _ _ p4 q4 =>
        refine ⟨.ref a, h2, .inl ⟨rfl, _, SqL.of q3⟩, a, _, 0, 0, v, rfl, rfl, q3, by decide, by decide, PySem.StrLaws.seqIndex_nonneg (by decide) (by simp), rfl, ?_⟩
        obtain ⟨R2, x2⟩ := R.pokeHp (us := vs) q1 e2 q3 q4
        exact k g σ _ R2 x2
    · cases q
  · cases q
theorem vis_of {y : Str} (hv : isVis X.env.scope y = true) : Vis X.env.scope y := by
  simp only [isVis, Bool.or_eq_true, decide_eq_true_eq] at hv
  rcases hv with (h2 | h2) | h2
  · exact .inl h2
  · exact .inr (.inl h2)
  · exact .inr (.inr h2)
theorem var_read {i : Nat} {y : Str} {p : Pos} (hn : isNm X.N i y = true) (hv : isVis X.env.scope y = true) (ho : odd y = false) : PE X (.Name y p) (tVar i) := by
  unfold odd at ho
  simp only [Bool.or_eq_false_iff] at ho
  exact pe_var (of_decide_eq_true hn) (vis_of hv) ho.1 ho.2
theorem sub_sw {o z x : Expr} {p : Pos} : swappedStores [.Subscript o z p] x X.env = pure none := by
  cases x <;> rfl
theorem s_setIx (ok : OkD X) {i : Nat} {ix e : E} {x z : Expr} {y : Str} {py pos q : Pos} (hn : isNm X.N i y = true) (hv : isVis X.env.scope y = true) (ho : odd y = false) (hc : isComp x = false) (hz : isPl z = true) (h1 : ∀ b, PE X z (tE X.K X.mg F b (ev b ix))) (h2 : ∀ b, PE X x (tE X.K X.mg F b (ev b e))) :
    PS X (.Assign [.Subscript (.Name y py) z pos] x q) (tX X.K X.mg F (ex (.setIx i ix e))) := by
  have hg := pg_sub (X := X) (pos := pos) (var_read (p := py) hn hv ho) (h1 true) set_list (by intro v; cases z <;> first | rfl | cases hz)
  refine PS.imp (ps_asg (h2 false) hg (by unfold swapsWithSole; exact comp_no hc _ _ _) sub_sw) fun D σ H ⟨g, ms, o, ms', R, q, k⟩ => ?_
  unfold ex at q
  cases q1 : ev false e ms with
  | none => rw [q1] at q; cases q
  | some r =>
    obtain ⟨rv, ms1⟩ := r
    rw [q1] at q
    refine ⟨g, ms, rv, ms1, R, q1, fun g1 v H1 R1 x1 r1 => ?_⟩
    obtain ⟨g2, R2, x2, y2, av2⟩ := r1.val R1 x1
    simp only at q
    split at q
    · rename_i xs0 e0
      obtain ⟨a, vs, p1, p2, p3, p4⟩ := R2.own i _ e0
      refine ⟨.ref a, p2, ?_⟩
      split at q
      · rename_i kk ms2 q2
        split at q
        · rename_i xs d e1 e2
          obtain ⟨j, e3, e4⟩ := Option.map_eq_some_iff.mp q
          cases e4
          refine ⟨g2, ms1, _, ms2, R2, q2, fun g3 w H3 R3 x3 r3 => ?_⟩
          have rw3 := r3.lr.int
          subst rw3
          obtain ⟨b, ws, u1, u2, u3, u4⟩ := R3.own i _ e1
          rw [p2] at u2
          cases u2
          have av3 := R2.hr.avr x3.toExt0 av2
          rw [e2] at av3
          cases av3 with
          | dat dd =>
            obtain ⟨R4, x4⟩ := R3.pokeOwn (us := ws.set j v) (ys := xs.set j d) e1 u1 (by exact p2) u3 (u4.set dd j)
            refine ⟨a, ws, kk, j, rfl, rfl, u3, by rw [u4.length, ixD_ixN]; exact e3, ?_⟩
            exact k _ σ _ R4 ((x2.trans x3).s.trans x4)
        · cases q
      · cases q
    · rename_i r0 e0
      obtain ⟨v0, p2, p3⟩ := R2.av i _ e0
      split at q
      · rename_i kk ms2 q2
        split at q
        · rename_i xs e1
          obtain ⟨j, e3, e4⟩ := Option.map_eq_some_iff.mp q
          cases e4
          refine ⟨v0, p2, g2, ms1, _, ms2, R2, q2, fun g3 w H3 R3 x3 r3 => ?_⟩
          have rw3 := r3.lr.int
          subst rw3
          obtain ⟨b, ws, u1, rfl, u3, u4⟩ := R3.hr.lst (R2.hr.avr x3.toExt0 p3) e1
          have av3 := R2.hr.avr x3.toExt0 av2
          obtain ⟨R4, x4⟩ := R3.pokeHp (us := ws.set j v) (ys := xs.set j rv.val) u1 e1 u3 (AVRs.set av3 j u4)
          refine ⟨b, ws, kk, j, rfl, rfl, u3, by rw [u4.length, ixD_ixN]; exact e3, ?_⟩
          exact k _ σ _ R4 ((x2.trans x3).s.trans x4)
        · cases q
      · cases q
    · cases q
theorem s_append (ok : OkD X) {i : Nat} {e : E} {x : Expr} {y m : Str} {pp ap cp sp : Pos} (hn : isNm X.N i y = true) (hv : isVis X.env.scope y = true) (ho : odd y = false) (hm : m = sAppend) (hl : (ap.endLine == cp.line) = true) (hx : isPl x = true) (h : ∀ b, PE X x (tE X.K X.mg F b (ev b e))) :
    PS X (.Expr (.Call (.Attribute (.Name y pp) m ap) [x] [] cp) sp) (tX X.K X.mg F (ex (.append i e))) := by
  subst hm
  have pm := pe_bm (X := X) (name := sAppend) (apos := ap) (cpos := cp) PySem.F.plainAttrs_list PySem.F.slot_list_append PySem.F.type_list_append mt_append (var_read (p := pp) hn hv ho) (pa_cons (h false) pa_nil (pl_star hx [])) rfl (by rw [pl_star hx]; rfl) hl (pl_star hx []) rfl
  refine PS.imp (ps_expr pm rfl) fun D σ H ⟨g, ms, o, ms', R, q, k⟩ => ?_
  unfold ex at q
  split at q
  · rename_i xs0 e0
    obtain ⟨a, vs, h1, h2, h3, h4⟩ := R.own i _ e0
    refine ⟨.ref a, h2, .inl ⟨rfl, _, SqL.of h3⟩, ?_⟩
    split at q
    · rename_i rv ms1 q1
      refine ⟨g, ms, rv, ms1, R, q1, fun g1 v H1 R1 x1 r1 => ?_⟩
      split at q
      · rename_i xs d e1 e2
        split at q
        · rename_i c
          cases q
          obtain ⟨g2, R2, x2, y2, av2⟩ := r1.val R1 x1
          obtain ⟨b, ws, u1, u2, u3, u4⟩ := R2.own i _ e1
          rw [h2] at u2
          cases u2
          obtain ⟨R4, x4⟩ := R2.pokeOwn (us := ws ++ [v]) (ys := xs ++ [d]) e1 u1 h2 u3 (u4.append (.cons (av2.d?_dz e2) .nil))
          exact ⟨a, ws, v, rfl, rfl, u3, by rw [u4.length, line_eq]; exact c, k _ σ _ R4 (x2.s.trans x4)⟩
        · cases q
      · cases q
    · cases q
  · rename_i r0 e0
    split at q
    · rename_i xs0 e0'
      obtain ⟨v0, h2, h3⟩ := R.av i _ e0
      obtain ⟨a, vs, q1, rfl, q3, q4⟩ := R.hr.lst h3 e0'
      refine ⟨.ref a, h2, .inl ⟨rfl, _, SqL.of q3⟩, ?_⟩
      split at q
      · rename_i rv ms1 q1
        refine ⟨g, ms, rv, ms1, R, q1, fun g1 v H1 R1 x1 r1 => ?_⟩
        split at q
        · rename_i xs e1
          split at q
          · rename_i c
            cases q
            obtain ⟨g2, R2, x2, y2, av2⟩ := r1.val R1 x1
            obtain ⟨b, ws, u1, u2, u3, u4⟩ := R2.hr.lst (R.hr.avr x2.toExt0 h3) e1
            cases u2
            obtain ⟨R4, x4⟩ := R2.pokeHp (us := ws ++ [v]) (ys := xs ++ [rv.val]) u1 e1 u3 (u4.append (.cons av2 .nil))
            exact ⟨a, ws, v, rfl, rfl, u3, by rw [u4.length, line_eq]; exact c, k _ σ _ R4 (x2.s.trans x4)⟩
          · cases q
        · cases q
      · cases q
    · cases q
  · cases q

/-! ### objects are changed -/
/-- an object of the small heap is changed -/
theorem Rel.pokeObj (R : Rel X.K X.mg F g ms σ H) {j : Nat} {a : Addr} {u : HO} {o o2 : AO} (hj : g.io[j]? = some a) (hx : ms.hp[j]? = some o) {u0 : HO} (h3 : H a = some u0) (hu : (∃ vs, u0 = .lst vs) ∨ (∃ kv, u0 = .dK kv) ∨ ∃ C dx fs, u0 = .ins C dx fs) (h4 : ORel X.K X.mg g (upd H a u) a o2) :
    Rel X.K X.mg F g { ms with hp := ms.hp.set j o2 } σ (upd H a u) ∧ ExtS g H g (upd H a u) := by
  have ha : a ∈ g.io := List.mem_of_getElem? hj
  have z1 := R.hr.nz a ha
  obtain ⟨dz, dzs, av, avs⟩ := poke_dz (X := X) (g := g) (u' := u) h3 hu z1
  have hjl : j < ms.hp.length := (List.getElem?_eq_some_iff.mp hx).1
  have no : ∀ i, g.oa i ≠ some a := fun i z => (R.oaf i a z).2.1 ha
  refine ⟨⟨⟨by simp [R.hr.hl], R.hr.nd, fun k b o p1 p2 => ?_, R.hr.nz, fun b z => let ⟨o, q⟩ := R.hr.zt b z; upd_th b o q⟩, R.len, fun k v hk => let ⟨x, q1, q2⟩ := R.av k v hk; ⟨x, q1, av q2⟩, fun k ws hk => ?_, fun k b hk => ?_, R.inj, ⟨R.fr.io, R.fr.z, R.fr.zz, fun b o p1 p2 => ?_, fun b o p => let ⟨o', q⟩ := R.fr.th b o p; upd_th b o' q⟩⟩,
    fun b o p1 p2 q => ?_, fun _ z => z, ⟨[], by simp, by simp⟩, upd_th, fun i b q => .inl ⟨i, q⟩⟩
  · by_cases hk : k = j
    · subst hk
      rw [hj] at p1
      cases p1
      rw [List.getElem?_set_self hjl] at p2
      cases p2
      exact h4
    · rw [List.getElem?_set_ne (Ne.symm hk)] at p2
      have hb : b ≠ a := fun e => hk (by
        obtain ⟨l1, e1⟩ := List.getElem?_eq_some_iff.mp p1
        obtain ⟨l2, e2⟩ := List.getElem?_eq_some_iff.mp hj
        exact (List.getElem_inj R.hr.nd).mp (by rw [e1, e2, e]))
      have q := R.hr.ho k b o p1 p2
      cases q with
      | lst h q => exact .lst (by rw [upd_ne hb]; exact h) (avs q)
      | dct h kk q => exact .dct (by rw [upd_ne hb]; exact h) kk (avs q)
      | ins h mm kk q => exact .ins (by rw [upd_ne hb]; exact h) mm kk (avs q)
  · obtain ⟨b, ts, q1, q2, q3, q4⟩ := R.own k ws hk
    exact ⟨b, ts, q1, q2, by rw [upd_ne (fun e => no k (by rw [← e]; exact q1))]; exact q3, dzs q4⟩
  · obtain ⟨q1, q2, q3, ts, q4⟩ := R.oaf k b hk
    exact ⟨q1, q2, q3, ts, by rw [upd_ne (fun e => no k (by rw [← e]; exact hk))]; exact q4⟩
  · have hb : b ≠ a := fun e => by
      obtain ⟨n, en, hn⟩ := R.fr.io
      rw [en] at ha
      rcases List.mem_append.mp ha with ha | ha
      · exact p1 (by rw [e]; exact ha)
      · rw [e, hn a ha] at p2; cases p2
    rw [upd_ne hb]
    exact R.fr.keep b o p1 p2
  · rw [upd_ne (fun e => p1 (by rw [e]; exact ha))]
    exact q
theorem s_setAttr {c f f' : Str} {o e : E} {x y : Expr} {p q : Pos} (ok : OkAt X c f) (hf : f = f') (hx : isRcv x = true) (h1 : ∀ b, PE X x (tE X.K X.mg F b (ev b o))) (h2 : ∀ b, PE X y (tE X.K X.mg F b (ev b e))) :
    PS X (.Assign [.Attribute x f' p] y q) (tX X.K X.mg F (ex (.setAttr c o f e))) := by
  subst hf
  obtain ⟨C, m, cl, no⟩ := ok
  refine PS.imp (ps_fld (h1 true) (h2 false) (by cases y <;> rfl)) fun D σ H ⟨g, ms, oo, ms', R, q, k⟩ => ?_
  unfold ex at q
  cases q1 : ev false e ms with
  | none => rw [q1] at q; cases q
  | some r =>
    obtain ⟨rv, ms1⟩ := r
    rw [q1] at q
    dsimp only at q
    refine ⟨g, ms, rv, ms1, R, q1, fun g1 v H1 R1 x1 r1 => ?_⟩
    obtain ⟨g2, R2, x2, y2, av2⟩ := r1.val R1 x1
    split at q
    · rename_i j ms2 q2
      split at q
      · rename_i c' gs e1
        split at q
        · rename_i c1
          cases q
          refine ⟨g2, ms1, _, ms2, R2, q2, fun g3 w H3 R3 x3 r3 => ?_⟩
          cases r3 with
          | av r3 =>
            obtain ⟨a, C', dx, fs, p1, rfl, p3, p4, p5, p6⟩ := R3.hr.ins r3 e1
            have p4' := p4
            rw [c1.1, m] at p4
            cases p4
            have hl : fs.length < 1000 := by
              have := congrArg List.length p5
              simp at this
              omega
            have av3 := R2.hr.avr x3.toExt0 av2
            obtain ⟨z1, z2, z3, z4⟩ := poke_dz (X := X) (g := g3) (u' := .ins C dx (putF f v fs)) p3 (.inr (.inr ⟨_, _, _, rfl⟩)) (R3.hr.nz a (List.mem_of_getElem? p1))
            obtain ⟨f1, f2⟩ := fput p5 p6 av3 (f := f)
            obtain ⟨R4, x4⟩ := R3.pokeObj (u := .ins C dx (putF f v fs)) (o2 := .ins c' (putA f rv.val gs)) p1 e1 p3 (.inr (.inr ⟨_, _, _, rfl⟩)) (.ins upd_same p4' f1 (z4 f2))
            exact ⟨a, C, dx, fs, rfl, p3, cl, no, hl, k _ σ _ R4 ((x2.trans x3).s.trans x4)⟩
        · cases q
      · cases q
    · cases q
theorem s_setIxE {o ix e : E} {x y z : Expr} {pos q : Pos} (hc : isComp y = false) (hz : isPl z = true) (h0 : ∀ b, PE X x (tE X.K X.mg F b (ev b o))) (h1 : ∀ b, PE X z (tE X.K X.mg F b (ev b ix))) (h2 : ∀ b, PE X y (tE X.K X.mg F b (ev b e))) :
    PS X (.Assign [.Subscript x z pos] y q) (tX X.K X.mg F (ex (.setIxE o ix e))) := by
  have hg := pg_sub (X := X) (pos := pos) (h0 true) (h1 true) set_list (by intro v; cases z <;> first | rfl | cases hz)
  refine PS.imp (ps_asg (h2 false) hg (by unfold swapsWithSole; exact comp_no hc _ _ _) sub_sw) fun D σ H ⟨g, ms, oo, ms', R, q, k⟩ => ?_
  unfold ex at q
  cases q1 : ev false e ms with
  | none => rw [q1] at q; cases q
  | some r =>
    obtain ⟨rv, ms1⟩ := r
    rw [q1] at q
    dsimp only at q
    refine ⟨g, ms, rv, ms1, R, q1, fun g1 v H1 R1 x1 r1 => ?_⟩
    obtain ⟨g2, R2, x2, y2, av2⟩ := r1.val R1 x1
    split at q
    · rename_i j ms2 q2
      split at q
      · rename_i kk ms3 q3
        split at q
        · rename_i xs e1
          obtain ⟨jj, e3, e4⟩ := Option.map_eq_some_iff.mp q
          cases e4
          refine ⟨g2, ms1, _, ms2, R2, q2, fun g3 w H3 R3 x3 r3 => ⟨g3, ms2, _, ms3, R3, q3, fun g4 w4 H4 R4 x4 r4 => ?_⟩⟩
          have rw4 := r4.lr.int
          subst rw4
          cases r3 with
          | av r3 =>
            obtain ⟨b, ws, u1, rfl, u3, u4⟩ := R4.hr.lst (R3.hr.avr x4.toExt0 r3) e1
            have av4 := R3.hr.avr x4.toExt0 (R2.hr.avr x3.toExt0 av2)
            obtain ⟨R5, x5⟩ := R4.pokeHp (us := ws.set jj v) (ys := xs.set jj rv.val) u1 e1 u3 (AVRs.set av4 jj u4)
            refine ⟨b, ws, kk, jj, rfl, rfl, u3, by rw [u4.length, ixD_ixN]; exact e3, ?_⟩
            exact k _ σ _ R5 ((x2.trans (x3.trans x4)).s.trans x5)
        · cases q
      · cases q
    · cases q
theorem s_appendE {o e : E} {x y : Expr} {m : Str} {ap cp sp : Pos} (hr : isRcv x = true) (hm : m = sAppend) (hl : (ap.endLine == cp.line) = true) (hx : isPl y = true) (h0 : ∀ b, PE X x (tE X.K X.mg F b (ev b o))) (h : ∀ b, PE X y (tE X.K X.mg F b (ev b e))) :
    PS X (.Expr (.Call (.Attribute x m ap) [y] [] cp) sp) (tX X.K X.mg F (ex (.appendE o e))) := by
  subst hm
  have pm := pe_bm (X := X) (name := sAppend) (apos := ap) (cpos := cp) PySem.F.plainAttrs_list PySem.F.slot_list_append PySem.F.type_list_append mt_append (h0 true) (pa_cons (h false) pa_nil (pl_star hx [])) (rcv_base hr _) (by rw [pl_star hx]; rfl) hl (pl_star hx []) rfl
  refine PS.imp (ps_expr pm rfl) fun D σ H ⟨g, ms, oo, ms', R, q, k⟩ => ?_
  unfold ex at q
  split at q
  · rename_i r0 ms1 q0
    split at q
    · rename_i xs0 e0
      refine ⟨g, ms, _, ms1, R, q0, fun g0 w H0 R0 x0 r0' => ?_⟩
      cases r0' with
      | av r0' =>
        obtain ⟨a, vs, p1, rfl, p3, p4⟩ := R0.hr.lst r0' e0
        refine ⟨.inl ⟨rfl, _, SqL.of p3⟩, ?_⟩
        split at q
        · rename_i rv ms2 q1
          refine ⟨g0, ms1, rv, ms2, R0, q1, fun g1 v H1 R1 x1 r1 => ?_⟩
          split at q
          · rename_i xs e1
            split at q
            · rename_i c
              cases q
              obtain ⟨g2, R2, x2, y2, av2⟩ := r1.val R1 x1
              obtain ⟨b, ws, u1, u2, u3, u4⟩ := R2.hr.lst (R0.hr.avr x2.toExt0 r0') e1
              cases u2
              obtain ⟨R4, x4⟩ := R2.pokeHp (us := ws ++ [v]) (ys := xs ++ [rv.val]) u1 e1 u3 (u4.append (.cons av2 .nil))
              exact ⟨a, ws, v, rfl, rfl, u3, by rw [u4.length, line_eq]; exact c, k _ σ _ R4 ((x0.trans x2).s.trans x4)⟩
            · cases q
          · cases q
        · cases q
    · cases q
  · cases q
theorem s_never {x : Stmt} : PS X x (tX X.K X.mg F (ex .never)) := PS.imp ps_never fun D σ H ⟨g, ms, oo, ms', R, q, k⟩ => by
  unfold ex at q
  cases q
/-! ### blocks, branches, loops -/
theorem s_pass {p : Pos} : PS X (.Pass p) (tX X.K X.mg F (ex .pass)) := PS.imp ps_pass fun D σ H ⟨g, ms, o, ms', R, q, k⟩ => by
  unfold ex at q
  cases q
  exact k g σ H R .refl
theorem s_brk {p : Pos} : PS X (.Break p) (tX X.K X.mg F (ex .brk)) := PS.imp ps_break fun D σ H ⟨g, ms, o, ms', R, q, k⟩ => by
  unfold ex at q
  cases q
  exact k g σ H R .refl
theorem s_cont {p : Pos} : PS X (.Continue p) (tX X.K X.mg F (ex .cont)) := PS.imp ps_continue fun D σ H ⟨g, ms, o, ms', R, q, k⟩ => by
  unfold ex at q
  cases q
  exact k g σ H R .refl
theorem s_snil : PSs X [] (tX X.K X.mg F (exs .nil)) := PSs.imp pss_nil fun D σ H ⟨g, ms, o, ms', R, q, k⟩ => by
  unfold exs at q
  cases q
  exact k g σ H R .refl
theorem s_scons {s : S} {ss : Ss} {x : Stmt} {xs : List Stmt} (h1 : PS X x (tX X.K X.mg F (ex s))) (h2 : PSs X xs (tX X.K X.mg F (exs ss))) : PSs X (x :: xs) (tX X.K X.mg F (exs (.cons s ss))) := PSs.imp (pss_cons h1 h2) fun D σ H ⟨g, ms, o, ms', R, q, k⟩ => by
  unfold exs at q
  split at q
  · rename_i ms1 q1
    exact ⟨g, ms, .nx, ms1, R, q1, fun g1 σ1 H1 R1 x1 => ⟨g1, ms1, o, ms', R1, q, fun g2 σ2 H2 R2 x2 => k g2 σ2 H2 R2 (x1.trans x2)⟩⟩
  · rename_i o1 ms1 hne q1
    cases q
    refine ⟨g, ms, o, ms', R, q1, fun g1 σ1 H1 R1 x1 => ?_⟩
    have z := k g1 σ1 H1 R1 x1
    cases o with
    | nx => exact (hne rfl).elim
    | rt v => exact z
    | bk => exact z
    | ct => exact z
  · cases q
theorem s_ite {c : E} {a b : Ss} {x : Expr} {p q : List Stmt} {pos : Pos} (h0 : PT X x (tT X.K X.mg F (ev true c))) (h1 : PSs X p (tX X.K X.mg F (exs a))) (h2 : PSs X q (tX X.K X.mg F (exs b))) : PS X (.If x p q pos) (tX X.K X.mg F (ex (.ite c a b))) := PS.imp (ps_if h0 h1 h2) fun D σ H ⟨g, ms, o, ms', R, q, k⟩ => by
  unfold ex at q
  split at q
  · rename_i kk ms1 q1
    refine ⟨g, ms, kk, ms1, R, q1, fun g1 H1 R1 x1 => ?_⟩
    cases kk with
    | true =>
      rw [if_pos rfl] at q
      exact ⟨g1, ms1, o, ms', R1, q, fun g2 σ2 H2 R2 x2 => k g2 σ2 H2 R2 (x1.s.trans x2)⟩
    | false =>
      rw [if_neg (by decide)] at q
      exact ⟨g1, ms1, o, ms', R1, q, fun g2 σ2 H2 R2 x2 => k g2 σ2 H2 R2 (x1.s.trans x2)⟩
  · cases q
theorem forL_forS {tg : List Nat} {body : MS → Option (Out × MS)} {all : List PyData} : ∀ (xs : List PyData) (ms : MS) (i : Nat) {r : Out × MS}, all.drop i = xs → i ≤ all.length → forL tg body xs ms = some r → forS tg body (.fix all) (xs.length + 1) i ms = some r
  | [], ms, i, r, hd, hi, h => by
    have e : all[i]? = none := by
      rw [List.getElem?_eq_none_iff]
      have := congrArg List.length hd
      simp at this
      omega
    unfold forL at h
    unfold forS
    rw [fix_item, e]
    exact h
  | x :: xs, ms, i, r, hd, hi, h => by
    have hlt : i < all.length := by
      have := congrArg List.length hd
      simp at this
      omega
    rw [List.drop_eq_getElem_cons hlt] at hd
    have e1 : all[i]? = some x := by
      rw [List.getElem?_eq_getElem hlt]
      exact congrArg some (List.cons.inj hd).1
    have ih := fun ms {r} => forL_forS (tg := tg) (body := body) (all := all) xs ms (i + 1) (r := r) (List.cons.inj hd).2 hlt
    unfold forL at h
    show forS tg body (.fix all) ((xs.length + 1) + 1) i ms = some r
    rw [forS.eq_2, fix_item, e1]
    dsimp only
    split at h
    · try dsimp only
      split at h
      · exact ih _ h
      · exact ih _ h
      · exact h
      · exact h
      · cases h
    · cases h
theorem forX_S {tg : List Nat} {body : MS → Option (Out × MS)} {s : Src} {ms : MS} {r : Out × MS} (h : forX tg body s ms = some r) : ∃ n, forS tg body s n 0 ms = some r := by
  cases s with
  | fix xs => exact ⟨_, forL_forS xs ms 0 (by simp) (Nat.zero_le _) h⟩
  | heap r => exact ⟨FUEL, h⟩
theorem s_for (ok : OkD X) {tg : List Nat} {it : I} {body : Ss} {t i : Expr} {b : List Stmt} {pos : Pos} (hg : PG X t (tgG X.K X.mg F tg)) (hi : PI X t i (tI X.K X.mg F (evI it))) (hs : ∀ v, foldedSetIterable i X.env v = pure v) (hb : PSs X b (tX X.K X.mg F (exs body))) :
    PS X (.For t i b [] pos) (tX X.K X.mg F (ex (.for_ tg it body))) := PS.imp (ps_for ok.po ok.calm hi hg hb hs) fun D σ H ⟨g, ms, o, ms', R, q, k⟩ => by
  unfold ex at q
  split at q
  · rename_i xs ms1 q1
    obtain ⟨nf, q⟩ := forX_S q
    refine ⟨g, ms, xs, ms1, R, q1, fun g1 J H1 R1 x1 wk => ?_⟩
    refine ⟨fun n m τ T => ∃ g2 ms2, Rel X.K X.mg F g2 ms2 τ T ∧ ExtS g1 H1 g2 T ∧ forS tg (exs body) xs m n ms2 = some (o, ms'), ⟨nf, g1, ms1, R1, .refl, q⟩, ?_⟩
    rintro n m τ T ⟨g2, ms2, R2, x2, q2⟩
    cases m with
    | zero => unfold forS at q2; cases q2
    | succ m =>
    rw [forS.eq_2] at q2
    split at q2
    · cases q2
    · rename_i c1
      have st := wk.stop n g2 T ms2.hp R2.hr x2 c1
      cases q2
      exact .inl ⟨st, k g2 τ T R2 (x1.s.trans x2)⟩
    · rename_i d c1
      obtain ⟨go, yl⟩ := wk.go n g2 T ms2.hp d R2.hr x2 c1
      refine .inr ⟨go, fun τ' T' => ∃ g3 ms3, Rel X.K X.mg F g3 ms3 τ' T' ∧ ExtS g1 H1 g3 T' ∧ forS tg (exs body) xs m (n + 1) ms3 = some (o, ms'), fun τ' T' z => ⟨m, Nat.lt_succ_self _, z⟩, fun v T1 yv => ?_⟩
      obtain ⟨rfl, dd⟩ := yl v T1 yv
      split at q2
      · rename_i rho er
        refine ⟨g2, ms2, d, rho, R2, dd, er, fun g3 τ3 R3 x3 _ => ?_⟩
        split at q2
        · rename_i ms4 q4
          exact ⟨g3, _, _, ms4, R3, q4, fun g5 τ5 H5 R5 x5 => ⟨g5, ms4, R5, x2.trans (x3.s.trans x5), q2⟩⟩
        · rename_i ms4 q4
          exact ⟨g3, _, _, ms4, R3, q4, fun g5 τ5 H5 R5 x5 => ⟨g5, ms4, R5, x2.trans (x3.s.trans x5), q2⟩⟩
        · rename_i ms4 q4
          cases q2
          exact ⟨g3, _, _, ms', R3, q4, fun g5 τ5 H5 R5 x5 => k g5 τ5 H5 R5 (x1.s.trans (x2.trans (x3.s.trans x5)))⟩
        · rename_i v4 ms4 q4
          cases q2
          exact ⟨g3, _, _, ms', R3, q4, fun g5 τ5 H5 R5 x5 => k g5 τ5 H5 R5 (x1.s.trans (x2.trans (x3.s.trans x5)))⟩
        · cases q2
      · cases q2
  · cases q
theorem s_while (ok : OkD X) {c : E} {body : Ss} {x : Expr} {b : List Stmt} {pos : Pos} (h0 : PT X x (tT X.K X.mg F (ev true c))) (hb : PSs X b (tX X.K X.mg F (exs body))) :
    PS X (.While x b [] pos) (tX X.K X.mg F (ex (.whil c body))) := PS.imp (ps_while ok.po h0 hb) fun D σ H ⟨g, ms, o, ms', R, q, k⟩ => by
  unfold ex at q
  refine ⟨fun m τ T => ∃ g2 ms2, Rel X.K X.mg F g2 ms2 τ T ∧ ExtS g H g2 T ∧ whileL (ev true c) (exs body) m ms2 = some (o, ms'), ⟨FUEL, g, ms, R, .refl, q⟩, ?_⟩
  rintro m τ T ⟨g2, ms2, R2, x2, q2⟩
  cases m with
  | zero => unfold whileL at q2; cases q2
  | succ m =>
    unfold whileL at q2
    split at q2
    · rename_i ms3 q3
      refine ⟨g2, ms2, true, ms3, R2, q3, fun g3 H3 R3 x3 => ?_⟩
      dsimp only
      rw [if_pos rfl]
      refine ⟨fun τ' T' => ∃ g4 ms4, Rel X.K X.mg F g4 ms4 τ' T' ∧ ExtS g H g4 T' ∧ whileL (ev true c) (exs body) m ms4 = some (o, ms'), fun τ' T' z => ⟨m, Nat.lt_succ_self _, z⟩, ?_⟩
      split at q2
      · rename_i ms4 q4
        exact ⟨g3, _, _, ms4, R3, q4, fun g5 τ5 H5 R5 x5 => ⟨g5, ms4, R5, x2.trans (x3.s.trans x5), q2⟩⟩
      · rename_i ms4 q4
        exact ⟨g3, _, _, ms4, R3, q4, fun g5 τ5 H5 R5 x5 => ⟨g5, ms4, R5, x2.trans (x3.s.trans x5), q2⟩⟩
      · rename_i ms4 q4
        cases q2
        exact ⟨g3, _, _, ms', R3, q4, fun g5 τ5 H5 R5 x5 => k g5 τ5 H5 R5 (x2.trans (x3.s.trans x5))⟩
      · rename_i v4 ms4 q4
        cases q2
        exact ⟨g3, _, _, ms', R3, q4, fun g5 τ5 H5 R5 x5 => k g5 τ5 H5 R5 (x2.trans (x3.s.trans x5))⟩
      · cases q2
    · rename_i ms3 q3
      cases q2
      refine ⟨g2, ms2, false, ms', R2, q3, fun g3 H3 R3 x3 => ?_⟩
      dsimp only
      rw [if_neg (by decide)]
      exact k g3 τ H3 R3 (x2.trans x3.s)
    · cases q2
end
mutual
def okS (p : Pr) : S → Prop
  | .set _ e => okE p e
  | .setC _ e _ it c => okE p e ∧ okI p it ∧ okEs p c
  | .setT _ e => okE p e
  | .setIx _ ix e => okE p ix ∧ okE p e
  | .pop0 _ => True
  | .append _ e => okE p e
  | .setAttr c o f e => p.at_ c f ∧ okE p o ∧ okE p e
  | .setIxE o ix e => okE p o ∧ okE p ix ∧ okE p e
  | .appendE o e => okE p o ∧ okE p e
  | .never => True
  | .expr e => okE p e
  | .ite c a b => okE p c ∧ okSs p a ∧ okSs p b
  | .for_ _ it b => okI p it ∧ okSs p b
  | .whil c b => okE p c ∧ okSs p b
  | .ret e => okE p e
  | .pass => True
  | .brk => True
  | .cont => True
def okSs (p : Pr) : Ss → Prop
  | .nil => True
  | .cons s ss => okS p s ∧ okSs p ss
end
section
variable {X : Cx}
mutual
theorem sS {F : Fr} (ok : OkD X) : ∀ (s : S) {x : Stmt}, okS (prX X) s → mS X.N X.env.scope s x = true → PS X x (tX X.K X.mg F (ex s))
  | .set i e, x, hk, hm => by
    unfold mS at hm
    split at hm <;> rename_i heq <;> try (cases heq; done)
    · cases heq
      simp only [Bool.and_eq_true, Bool.not_eq_true'] at hm
      simp only [okS] at hk
      exact s_set ok hm.1.1.1 hm.1.1.2 hm.1.2 (sE e (F := F) ok.toOkX hk hm.2).pe
    · cases hm
  | .setC i e tg it c, x, hk, hm => by
    unfold mS at hm
    split at hm <;> rename_i heq <;> try (cases heq; done)
    · cases heq
      simp only [Bool.and_eq_true, decide_eq_true_eq, Bool.not_eq_true'] at hm
      simp only [okS] at hk
      obtain ⟨⟨⟨⟨n1, n2⟩, n3⟩, n4⟩, ⟨⟨⟨⟨⟨⟨m1, m2⟩, m3⟩, m4⟩, m5⟩, m6⟩, m7⟩⟩ := hm
      subst m1
      exact s_setC ok n1 n2 n3 n4 hk.1 hk.2.1 hk.2.2 m2 m3 m4 m5 m6 m7
    · cases hm
  | .setT tg e, x, hk, hm => by
    unfold mS at hm
    split at hm <;> rename_i heq <;> try (cases heq; done)
    · cases heq
      simp only [Bool.and_eq_true, Bool.not_eq_true'] at hm
      simp only [okS] at hk
      exact s_setT ok hm.1.1.1 hm.1.2 hm.2 (sE e (F := F) ok.toOkX hk hm.1.1.2).pe
    · cases hm
  | .setIx i ix e, x, hk, hm => by
    unfold mS at hm
    split at hm <;> rename_i heq <;> try (cases heq; done)
    · cases heq
      simp only [Bool.and_eq_true, Bool.not_eq_true'] at hm
      simp only [okS] at hk
      exact s_setIx ok hm.1.1.1.1.1 hm.1.1.1.1.2 hm.1.1.1.2 hm.2 (mE_pl ix hm.1.1.2) (sE ix (F := F) ok.toOkX hk.1 hm.1.1.2).pe (sE e (F := F) ok.toOkX hk.2 hm.1.2).pe
    · cases hm
  | .pop0 i, x, hk, hm => by
    unfold mS at hm
    split at hm <;> rename_i heq <;> try (cases heq; done)
    · cases heq
      simp only [Bool.and_eq_true, decide_eq_true_eq, Bool.not_eq_true'] at hm
      exact s_pop0 ok hm.1.1.1.1.1 hm.1.1.1.1.2 hm.1.1.1.2 hm.1.1.2 hm.1.2 hm.2
    · cases hm
  | .append i e, x, hk, hm => by
    unfold mS at hm
    split at hm <;> rename_i heq <;> try (cases heq; done)
    · cases heq
      simp only [Bool.and_eq_true, decide_eq_true_eq, Bool.not_eq_true'] at hm
      simp only [okS] at hk
      exact s_append ok hm.1.1.1.1.1 hm.1.1.1.1.2 hm.1.1.1.2 hm.1.1.2 hm.1.2 (mE_pl e hm.2) (sE e (F := F) ok.toOkX hk hm.2).pe
    · cases hm
  | .setAttr c o f e, x, hk, hm => by
    unfold mS at hm
    split at hm <;> rename_i heq <;> try (cases heq; done)
    · cases heq
      simp only [Bool.and_eq_true, decide_eq_true_eq] at hm
      simp only [okS] at hk
      exact s_setAttr hk.1 hm.1.1.1 hm.1.1.2 (sE o (F := F) ok.toOkX hk.2.1 hm.1.2).pe (sE e (F := F) ok.toOkX hk.2.2 hm.2).pe
    · cases hm
  | .setIxE o ix e, x, hk, hm => by
    unfold mS at hm
    split at hm <;> rename_i heq <;> try (cases heq; done)
    · cases heq
      simp only [Bool.and_eq_true, Bool.not_eq_true'] at hm
      simp only [okS] at hk
      exact s_setIxE hm.2 (mE_pl ix hm.1.1.2) (sE o (F := F) ok.toOkX hk.1 hm.1.1.1).pe (sE ix (F := F) ok.toOkX hk.2.1 hm.1.1.2).pe (sE e (F := F) ok.toOkX hk.2.2 hm.1.2).pe
    · cases hm
  | .appendE o e, x, hk, hm => by
    unfold mS at hm
    split at hm <;> rename_i heq <;> try (cases heq; done)
    · cases heq
      simp only [Bool.and_eq_true, decide_eq_true_eq] at hm
      simp only [okS] at hk
      exact s_appendE hm.1.1.1.1 hm.1.1.1.2 hm.1.1.2 (mE_pl e hm.2) (sE o (F := F) ok.toOkX hk.1 hm.1.2).pe (sE e (F := F) ok.toOkX hk.2 hm.2).pe
    · cases hm
  | .never, x, hk, hm => s_never
  | .expr e, x, hk, hm => by
    unfold mS at hm
    split at hm <;> rename_i heq <;> try (cases heq; done)
    · cases heq
      simp only [Bool.and_eq_true, Bool.not_eq_true'] at hm
      simp only [okS] at hk
      exact s_expr hm.2 (sE e (F := F) ok.toOkX hk hm.1).pe
    · cases hm
  | .ite c a b, x, hk, hm => by
    unfold mS at hm
    split at hm <;> rename_i heq <;> try (cases heq; done)
    · cases heq
      simp only [Bool.and_eq_true, Bool.not_eq_true'] at hm
      simp only [okS] at hk
      exact s_ite ((sE c (F := F) ok.toOkX hk.1 hm.1.1.1).pt hm.1.1.2) (sSs ok a hk.2.1 hm.1.2) (sSs ok b hk.2.2 hm.2)
    · cases hm
  | .for_ tg it b, x, hk, hm => by
    unfold mS at hm
    split at hm <;> rename_i heq <;> try (cases heq; done)
    · cases heq
      simp only [Bool.and_eq_true] at hm
      simp only [okS] at hk
      exact s_for ok (s_tg ok.toOkX ok.st hm.1.1) (sI it ok.toOkX hk.1 hm.1.2) (mI_set hm.1.2) (sSs ok b hk.2 hm.2)
    · cases hm
  | .whil c b, x, hk, hm => by
    unfold mS at hm
    split at hm <;> rename_i heq <;> try (cases heq; done)
    · cases heq
      simp only [Bool.and_eq_true, Bool.not_eq_true'] at hm
      simp only [okS] at hk
      exact s_while ok ((sE c (F := F) ok.toOkX hk.1 hm.1.1).pt hm.1.2) (sSs ok b hk.2 hm.2)
    · cases hm
  | .ret e, x, hk, hm => by
    unfold mS at hm
    split at hm <;> rename_i heq <;> try (cases heq; done)
    · cases heq
      simp only [okS] at hk
      exact s_ret (sE e (F := F) ok.toOkX hk hm).pe
    · cases hm
  | .pass, x, hk, hm => by
    cases x <;> try (simp [mS] at hm; done)
    exact s_pass
  | .brk, x, hk, hm => by
    cases x <;> try (simp [mS] at hm; done)
    exact s_brk
  | .cont, x, hk, hm => by
    cases x <;> try (simp [mS] at hm; done)
    exact s_cont
theorem sSs {F : Fr} (ok : OkD X) : ∀ (s : Ss) {x : List Stmt}, okSs (prX X) s → mSs X.N X.env.scope s x = true → PSs X x (tX X.K X.mg F (exs s))
  | .nil, x, hk, hm => by
    cases x with
    | nil => exact s_snil
    | cons _ _ => simp [mSs] at hm
  | .cons s ss, x, hk, hm => by
    cases x with
    | nil => simp [mSs] at hm
    | cons x xs =>
      simp only [mSs, Bool.and_eq_true] at hm
      simp only [okSs] at hk
      exact s_scons (sS ok s hk.1 hm.1) (sSs ok ss hk.2 hm.2)
end
end
end Sv

/-! Sv: a def keeps its promise. -/
namespace Sv
open PySem PySem.Spec PyProof.Rows L2
section
variable {P : Program} {w : World} {K : PySem.W.Frag} {mg : Str → Option Value} {base : Heap}
theorem rep_get {α : Type} {n i : Nat} {a b : α} (h : (List.replicate n a)[i]? = some b) : b = a := by
  rw [List.getElem?_replicate] at h
  split at h <;> cases h
  rfl
/-- the entry of a def -/
theorem rel_start {g : G} {hp : List AO} {H : Hp} {vs : List V} {args : List AV} {n : Nat} (R : HRel K mg g hp H) (r : AVRs K g H vs args) (N : List Str) (hN : N.length = n) :
    Rel K mg ⟨g.io, g.Z, H⟩ { g with oa := fun _ => none } ⟨args.map .av ++ List.replicate (n - args.length) .emp, hp⟩ (L2.start N vs) H := by
  have e0 : Ext0 g H { g with oa := fun _ => none } H := ⟨fun _ _ _ h => h, fun _ h => h, ⟨[], by simp, by simp⟩, fun _ o h => ⟨o, h⟩⟩
  refine ⟨⟨R.hl, R.nd, fun j a o h1 h2 => (R.ho j a o h1 h2).ext R e0 fun _ h => h, R.nz, R.zt⟩, ?_, fun i v hi => ?_, fun i xs hi => ?_, fun i a h => by simp at h, fun i j a h => by simp at h, ⟨⟨[], by simp, by simp⟩, fun a h => .inl h, fun a h => h, fun a o _ h => h, fun a o h => ⟨o, h⟩⟩⟩
  · unfold L2.start
    simp [r.length, hN]
  · by_cases hlt : i < args.length
    · rw [List.getElem?_append_left (by simpa using hlt), List.getElem?_map] at hi
      cases q : args[i]? with
      | none => rw [q] at hi; cases hi
      | some u =>
        rw [q] at hi
        cases hi
        obtain ⟨x, h1, h2⟩ := r.get q
        refine ⟨x, ?_, R.avr e0 h2⟩
        unfold L2.start
        rw [List.getElem?_append_left (by simpa [r.length] using hlt), List.getElem?_map, h1]
        rfl
    · rw [List.getElem?_append_right (by simpa using hlt)] at hi
      exact absurd (rep_get hi) (by simp)
  · by_cases hlt : i < args.length
    · rw [List.getElem?_append_left (by simpa using hlt), List.getElem?_map] at hi
      cases q : args[i]? with
      | none => rw [q] at hi; cases hi
      | some u => rw [q] at hi; cases hi
    · rw [List.getElem?_append_right (by simpa using hlt)] at hi
      exact absurd (rep_get hi) (by simp)
/-- what a frame leaves behind -/
theorem fra_ext {g0 g : G} {H0 H : Hp} {F : Fr} (hF : F = ⟨g0.io, g0.Z, H0⟩) (f : Fra F g H) : Ext0 g0 H0 g H ∧ ∀ a, g.Z a → g0.Z a ∨ H0 a = none := by
  subst hF
  exact ⟨⟨f.keep, f.zz, f.io, f.th⟩, f.z⟩
/-- THE DEF -/
theorem def_ok {x qual : Str} {params : Arguments} {body : List Stmt} {scope : Scope} {f : Addr} {fd : FuncData} {N ps : List Str} {k : Nat} {ss : Ss} (FD : FunD K x qual params body scope [] [] f fd) (S : FnScope N ps scope)
    (hm : mSs N scope ss body = true) (free : ∀ n ∈ freeNames, mg n = none)
    (hk : ∀ X : Cx, X.K = K → X.mg = mg → X.prog = P → X.w = w → X.base = base → Room k X.A → okSs (prX X) ss) :
    FnOk P w K mg base CX0 (k + 1) f fd ps (spF K mg (runB N.length ps.length ss)) := by
  refine FD.ok S (fun vs H Q E ⟨g, hp, args, rv, hp', R, r, e, _⟩ => ?_) (fun cdv A outer s H vs Q E hr ⟨g, hp, args, rv, hp', R, r, e, kk⟩ => ?_)
  · unfold runB at e
    split at e
    · rename_i c
      rw [r.length, c]
    · cases e
  · unfold runB at e
    split at e
    · rename_i c
      refine ⟨tX K mg ⟨g.io, g.Z, H⟩ (exs ss), PSs.nox ?_, ?_⟩
      · refine sSs (X := (cxOf CX0 P w K mg base N qual scope f cdv A outer s H E).nox) (F := ⟨g.io, g.Z, H⟩) ⟨⟨rfl, S.nd, ?_, free⟩, S.kind, ?_, ?_⟩ ss (hk _ rfl rfl rfl rfl rfl hr) hm
        · exact hr.mono (Nat.zero_le _)
        · intro y hy
          refine ⟨?_, .inl rfl⟩
          unfold isLoc at hy
          simp only [Bool.or_eq_true, decide_eq_true_eq] at hy
          exact hy
        · exact PassesOwn.never
      · have R0 := rel_start R r N rfl
        rw [c] at R0
        have fin : ∀ {ms2 : MS} {g2 : G} {σ2 : L2.St} {H2 : Hp}, Rel K mg ⟨g.io, g.Z, H⟩ g2 ms2 σ2 H2 → Ext0 g H g2 H2 ∧ ∀ a, g2.Z a → g.Z a ∨ H a = none := fun R2 => fra_ext rfl R2.fr
        split at e
        · rename_i ms2 e2
          cases e
          refine ⟨_, _, _, _, R0, e2, fun g2 σ2 H2 R2 x2 => ?_⟩
          obtain ⟨y1, y2⟩ := fin R2
          exact kk g2 .non H2 R2.hr y1 y2 (.av (.dat .non))
        · rename_i v ms2 e2
          cases e
          refine ⟨_, _, _, _, R0, e2, fun g2 σ2 H2 R2 x2 u r2 => ?_⟩
          obtain ⟨y1, y2⟩ := fin R2
          refine kk g2 u H2 R2.hr y1 y2 ?_
          cases r2 with
          | av r2 => exact .av r2
          | lst h1 h2 h3 h4 h5 h6 => exact .lst h5 h1 h2 h3 h4
        · cases e
    · cases e
/-! ### defs by name -/
/-- a def that may be called -/
def Good (P : Program) (w : World) (K : PySem.W.Frag) (mg : Str → Option Value) (base : Heap) (k : Nat) (f : Fn) : Prop := ∃ (fa : Addr) (fd : FuncData) (ps : List Str), mg f.name = some (.ref fa) ∧ PySem.W.keepIn K (.ref fa) = true ∧ Binds K fd ps [] ∧
  FnOk P w K mg base CX0 k fa fd ps (spF K mg f.run)
def GoodGl (K : PySem.W.Frag) (mg : Str → Option Value) (x : Str) (d : PyData) : Prop := ∃ v u, mg x = some u ∧ RelV v u ∧ ∀ Z H, Dz K Z H v d
theorem Good.ok {X : Cx} {k j : Nat} {f : Fn} (h : Good X.prog X.w X.K X.mg X.base k f) (hr : Room j X.A) (hk : k ≤ j) : OkFn X f := by
  obtain ⟨fa, fd, ps, h1, h2, h3, h4⟩ := h
  exact ⟨k, fa, fd, ps, h1, h2, h3, h4, hr.mono hk⟩
theorem good_of {x : Str} {params : Arguments} {body : List Stmt} {scope : Scope} {fd : FuncData} {N ps : List Str} {k : Nat} {ss : Ss} (FD : FunD K x x params body scope [] [] (He.ga K x) fd) (S : FnScope N ps scope)
    (hm : mSs N scope ss body = true) (free : ∀ n ∈ freeNames, mg n = none) (mgf : mg x = some (.ref (He.ga K x)))
    (hb : ∀ (kV doc pm : Value) (an : Option Addr) (cdv ct : Value) (us : List Value), us.length = ps.length → bindArgs (PySem.W.fnOf x x params body scope .none kV doc pm an cdv ct) ⟨us, []⟩ = pure (ps.zip us))
    (hk : ∀ X : Cx, X.K = K → X.mg = mg → X.prog = P → X.w = w → X.base = base → Room k X.A → okSs (prX X) ss) :
    Good P w K mg base (k + 1) ⟨x, runB N.length ps.length ss⟩ :=
  ⟨He.ga K x, fd, ps, mgf, FD.kp, FD.bindsN hb, def_ok FD S hm free hk⟩
/-! ### classes -/
def GoodAt (K : PySem.W.Frag) (mg : Str → Option Value) (c x : Str) : Prop := ∃ C, mg c = some (.ref C) ∧ Cls K C ∧ NoAttr K C x
def GoodMe (P : Program) (w : World) (K : PySem.W.Frag) (mg : Str → Option Value) (base : Heap) (k : Nat) (c : Str) (f : Fn) : Prop := ∃ (C fa : Addr) (fd : FuncData) (ps : List Str), mg c = some (.ref C) ∧ Cls K C ∧ Meth K C f.name fa ∧ Binds K fd ps [] ∧
  FnOk P w K mg base CX0 k fa fd ps (spF K mg f.run)
def GoodMk (P : Program) (w : World) (K : PySem.W.Frag) (mg : Str → Option Value) (base : Heap) (k : Nat) (c : Str) (f : Fn) : Prop := ∃ (C fa : Addr) (fd : FuncData) (ps : List Str), mg c = some (.ref C) ∧ Mk K C fa ∧ Binds K fd ps [] ∧
  FnOk P w K mg base CX0 k fa fd ps (spF K mg f.run)
theorem GoodAt.ok {X : Cx} {c x : Str} (h : GoodAt X.K X.mg c x) : OkAt X c x := h
theorem GoodMe.ok {X : Cx} {k j : Nat} {c : Str} {f : Fn} (h : GoodMe X.prog X.w X.K X.mg X.base k c f) (hr : Room j X.A) (hk : k ≤ j) : OkMe X c f := by
  obtain ⟨C, fa, fd, ps, h1, h2, h3, h4, h5⟩ := h
  exact ⟨C, k, fa, fd, ps, h1, h2, h3, h4, h5, hr.mono hk⟩
theorem GoodMk.ok {X : Cx} {k j : Nat} {c : Str} {f : Fn} (h : GoodMk X.prog X.w X.K X.mg X.base k c f) (hr : Room j X.A) (hk : k + 1 ≤ j) : OkMk X c f := by
  obtain ⟨C, fa, fd, ps, h1, h2, h3, h4⟩ := h
  exact ⟨C, k, fa, fd, ps, h1, h2, h3, h4, hr.mono hk⟩
theorem me_of {c m qual : Str} {params : Arguments} {body : List Stmt} {scope : Scope} {fd : FuncData} {N ps : List Str} {k : Nat} {ss : Ss} (FD : FunD K m qual params body scope [] [] (He.ma K (He.ga K c) m) fd) (S : FnScope N ps scope)
    (hm : mSs N scope ss body = true) (free : ∀ n ∈ freeNames, mg n = none) (mgc : mg c = some (.ref (He.ga K c))) (cl : Cls K (He.ga K c)) (me : Meth K (He.ga K c) m (He.ma K (He.ga K c) m))
    (hb : ∀ (kV doc pm : Value) (an : Option Addr) (cdv ct : Value) (us : List Value), us.length = ps.length → bindArgs (PySem.W.fnOf m qual params body scope .none kV doc pm an cdv ct) ⟨us, []⟩ = pure (ps.zip us))
    (hk : ∀ X : Cx, X.K = K → X.mg = mg → X.prog = P → X.w = w → X.base = base → Room k X.A → okSs (prX X) ss) :
    GoodMe P w K mg base (k + 1) c ⟨m, runB N.length ps.length ss⟩ :=
  ⟨_, _, fd, ps, mgc, cl, me, FD.bindsN hb, def_ok FD S hm free hk⟩
theorem mk_of {c m qual : Str} {params : Arguments} {body : List Stmt} {scope : Scope} {fd : FuncData} {N ps : List Str} {k : Nat} {ss : Ss} (FD : FunD K m qual params body scope [] [] (He.ma K (He.ga K c) m) fd) (S : FnScope N ps scope)
    (hm : mSs N scope ss body = true) (free : ∀ n ∈ freeNames, mg n = none) (mgc : mg c = some (.ref (He.ga K c))) (mk : Mk K (He.ga K c) (He.ma K (He.ga K c) m))
    (hb : ∀ (kV doc pm : Value) (an : Option Addr) (cdv ct : Value) (us : List Value), us.length = ps.length → bindArgs (PySem.W.fnOf m qual params body scope .none kV doc pm an cdv ct) ⟨us, []⟩ = pure (ps.zip us))
    (hk : ∀ X : Cx, X.K = K → X.mg = mg → X.prog = P → X.w = w → X.base = base → Room k X.A → okSs (prX X) ss) :
    GoodMk P w K mg base (k + 1) c ⟨m, runB N.length ps.length ss⟩ :=
  ⟨_, _, fd, ps, mgc, mk, FD.bindsN hb, def_ok FD S hm free hk⟩
section
variable {fa : List He.Fa} {fn : List He.DefD} {h : Heap}
theorem says_fact (c : He.SaysD fa fn K) {f : He.Fa} (hf : f ∈ fa) : f.ok K = true := by
  obtain ⟨i, hi⟩ := List.getElem?_of_mem hf
  exact c.fact i hi
theorem says_free (X : K.In h) (G : h.Ns mainGlobals mg) (c : He.SaysD fa fn K) {x : Str} (hf : He.Fa.free x ∈ fa) : mg x = none := He.free_ok X G (says_fact c hf)
theorem says_glo (X : K.In h) (G : h.Ns mainGlobals mg) (c : He.SaysD fa fn K) {x : Str} (hf : He.Fa.glo x ∈ fa) : mg x = some (.ref (He.ga K x)) := He.glo_ok X G (says_fact c hf)
theorem says_int (X : K.In h) (G : h.Ns mainGlobals mg) (c : He.SaysD fa fn K) {x : Str} {i : Int} (hf : He.Fa.int x i ∈ fa) : GoodGl K mg x (.int i) := by
  obtain ⟨t, e⟩ := He.int_ok X G (says_fact c hf)
  exact ⟨.int i, _, e, ⟨t, rfl⟩, fun _ _ => .int i⟩
theorem says_str (X : K.In h) (G : h.Ns mainGlobals mg) (c : He.SaysD fa fn K) {x z : Str} (hf : He.Fa.str x z ∈ fa) : GoodGl K mg x (.str z) := by
  obtain ⟨t, e⟩ := He.str_ok X G (says_fact c hf)
  exact ⟨.str z, _, e, ⟨t, rfl⟩, fun _ _ => .str z⟩
theorem says_cls (c : He.SaysD fa fn K) {x : Str} (hf : He.Fa.cls x ∈ fa) : Cls K (He.ga K x) := He.cls_ok (says_fact c hf)
theorem says_noat (c : He.SaysD fa fn K) {x f : Str} (hf : He.Fa.noat x f ∈ fa) : NoAttr K (He.ga K x) f := He.noat_ok (says_fact c hf)
theorem says_meth (c : He.SaysD fa fn K) {x m : Str} (hf : He.Fa.meth x m ∈ fa) : Meth K (He.ga K x) m (He.ma K (He.ga K x) m) := He.meth_ok (says_fact c hf)
theorem says_mkr (c : He.SaysD fa fn K) {x : Str} (hf : He.Fa.mkr x ∈ fa) : Mk K (He.ga K x) (He.ma K (He.ga K x) "__init__") := He.mkr_ok (says_fact c hf)
theorem says_at (X : K.In h) (G : h.Ns mainGlobals mg) (c : He.SaysD fa fn K) {x f : Str} (h1 : He.Fa.glo x ∈ fa) (h2 : He.Fa.cls x ∈ fa) (h3 : He.Fa.noat x f ∈ fa) : GoodAt K mg x f := ⟨_, says_glo X G c h1, says_cls c h2, says_noat c h3⟩
/-- THE LAW'S END -/
theorem law_end {l : PySem.W.OpenLaw} {n nn k : Nat} {q : Program} {loose : List Str} {XP : (Str → Option Value) → Heap → Prop} {d : DefRec} {f : Fn} {x : Str}
    (hn : l.most = some n) (hn2 : n ≤ sizeLine) (hdf : d.params.defaults = []) (hr : Room k callerA) (hd : d.name = f.name)
    (plain : ∀ ns : List Int, ns.length ≤ n → ∃ hp, f.run [.scr ns] [] = some (.av (.dat (.bool true)), hp))
    (facts : ∀ (w : World) (mg : Str → Option Value) (h : Heap) (K : PySem.W.Frag), K.In h → h.Ns mainGlobals mg → He.SaysD fa fn K →
      ∃ fd : FuncData, mg f.name = some (.ref (He.ga K f.name)) ∧ (∀ (s : Shared) (u : Value), BindsTo s fd ⟨[u], []⟩ [(x, u)]) ∧ ∀ base : Heap, K.In base → base.Ns mainGlobals mg → FnOk l.prog w K mg base CX0 k (He.ga K f.name) fd [x] (spF K mg f.run)) :
    PySem.W.WalkO q loose XP (He.hookD nn fa fn).says l.row.toRowW d [] (fun f vs => PySem.call f vs) := by
  refine L2.walk_ofE (l := l) (n := n) (k := k) (x := x) (CX := L2.CX0) hn hn2 hdf hr ?F (fun _ _ _ _ z => z)
  intro w mg fa' h Y G hmg0
  obtain ⟨K, KX, c⟩ := Y
  obtain ⟨fd, e, hb, hF⟩ := facts w mg h K KX G c
  rw [hd] at hmg0
  rw [hmg0] at e
  cases e
  refine ⟨K, fd, spF K mg f.run, KX, hb, fun H a ns hl hO hS => ?_, hF⟩
  obtain ⟨hp, e⟩ := plain ns hl
  have sc : ScrAt K H a ns := by
    rcases hS with (z | ⟨o, z⟩) | z
    · rcases hO a with y | ⟨_, _, y⟩ <;> (rw [z] at y; cases y)
    · exact .inl ⟨o, z⟩
    · exact .inr fun _ => .inr z
  refine ⟨⟨[], fun _ => False, fun _ => none⟩, [], [.scr ns], _, _, ⟨rfl, List.nodup_nil, fun j a o z _ => by simp at z, fun a z => by simp at z, fun a z => z.elim⟩, .cons (.scr sc) .nil, e, fun g' v H' R x z r => ?_⟩
  cases r with
  | av r => cases r with
    | dat r => cases r; rfl
end
end
end Sv

/-! Sv: the interpreter's equations for simp (printed by gen_ev.py off SvCore). -/
namespace Sv
open PySem
@[simp] theorem eve_0 (bb : Bool) (d : PyData) (ms : MS) : ev bb (.lit d) ms = some (.av (.dat d), ms) := by first | rfl | (rw [ev]; done) | (rw [ev]; rfl)
@[simp] theorem eve_1 (bb : Bool) (u0 : Str) (d : PyData) (ms : MS) : ev bb (.glob u0 d) ms = some (.av (.dat d), ms) := by first | rfl | (rw [ev]; done) | (rw [ev]; rfl)
@[simp] theorem eve_2 (b : Bool) (i : Nat) (ms : MS) : ev b (.var i) ms = match ms.rho[i]? with
    | some (.av v) => some (.av v, ms)
    | some (.own xs) => if b then some (.lst xs, ms) else some (.av (.dat (.list xs)), { ms with rho := ms.rho.set i (.av (.dat (.list xs))) })
    | _ => none := by first | rfl | (rw [ev]; done) | (rw [ev]; rfl)
@[simp] theorem eve_3 (bb : Bool) (es : Es) (ms : MS) : ev bb (.tup es) ms = match evs es ms with
    | some (vs, ms1) => (match allD vs with
      | some ds => if ds.length ≤ LINE then some (.av (.dat (.tuple ds)), ms1) else none
      | none => none)
    | none => none := by first | rfl | (rw [ev]; done) | (rw [ev]; rfl)
@[simp] theorem eve_4 (bb : Bool) (es : Es) (ms : MS) : ev bb (.lst es) ms = match evs es ms with
    | some (vs, ms1) => (match allD vs with
      | some ds => if ds.length ≤ LINE then some (.lst ds, ms1) else none
      | none => none)
    | none => none := by first | rfl | (rw [ev]; done) | (rw [ev]; rfl)
@[simp] theorem eve_5 (bb : Bool) (op : BinO) (a : E) (b : E) (ms : MS) : ev bb (.bin op a b) ms = match ev true a ms with
    | some (x, ms1) => (match ev true b ms1 with
      | some (y, ms2) => (binV op x y).map fun z => (z, ms2)
      | none => none)
    | none => none := by first | rfl | (rw [ev]; done) | (rw [ev]; rfl)
@[simp] theorem eve_6 (bb : Bool) (op : CmpO) (a : E) (b : E) (ms : MS) : ev bb (.cmp op a b) ms = match ev true a ms with
    | some (x, ms1) => (match ev true b ms1 with
      | some (y, ms2) => (cmpV op x y).map fun z => (blV z, ms2)
      | none => none)
    | none => none := by first | rfl | (rw [ev]; done) | (rw [ev]; rfl)
@[simp] theorem eve_7 (bb : Bool) (neg : Bool) (a : E) (b : E) (ms : MS) : ev bb (.isin neg a b) ms = match ev true a ms with
    | some (x, ms1) => (match ev true b ms1 with
      | some (y, ms2) => (inV x y).map fun z => (blV (if neg then !z else z), ms2)
      | none => none)
    | none => none := by first | rfl | (rw [ev]; done) | (rw [ev]; rfl)
@[simp] theorem eve_8 (bb : Bool) (neg : Bool) (a : E) (n : E) (ms : MS) : ev bb (.inrange neg a n) ms = match ev true a ms with
    | some (.av (.dat (.int i)), ms1) => (match ev true n ms1 with
      | some (.av (.dat (.int k)), ms2) => if 0 ≤ k ∧ k < B62 then some (blV (if neg then !decide (0 ≤ i ∧ i < k) else decide (0 ≤ i ∧ i < k)), ms2) else none
      | _ => none)
    | _ => none := by first | rfl | (rw [ev]; done) | (rw [ev]; rfl)
@[simp] theorem eve_9 (bb : Bool) (neg : Bool) (a : E) (ms : MS) : ev bb (.isnone neg a) ms = match ev true a ms with
    | some (.av (.dat .none), ms1) => some (blV (!neg), ms1)
    | some (.av (.dat _), ms1) => some (blV neg, ms1)
    | some (.lst _, ms1) => some (blV neg, ms1)
    | _ => none := by first | rfl | (rw [ev]; done) | (rw [ev]; rfl)
@[simp] theorem eve_10 (bb : Bool) (a : E) (b : E) (ms : MS) : ev bb (.and a b) ms = match ev true a ms with
    | some (.av (.dat (.bool c)), ms1) => if c then (match ev true b ms1 with
      | some (.av (.dat (.bool d)), ms2) => some (blV d, ms2)
      | _ => none) else some (blV false, ms1)
    | _ => none := by first | rfl | (rw [ev]; done) | (rw [ev]; rfl)
@[simp] theorem eve_11 (bb : Bool) (a : E) (b : E) (ms : MS) : ev bb (.or a b) ms = match ev true a ms with
    | some (.av (.dat (.bool c)), ms1) => if c then some (blV true, ms1) else (match ev true b ms1 with
      | some (.av (.dat (.bool d)), ms2) => some (blV d, ms2)
      | _ => none)
    | _ => none := by first | rfl | (rw [ev]; done) | (rw [ev]; rfl)
@[simp] theorem eve_12 (bb : Bool) (a : E) (ms : MS) : ev bb (.not a) ms = match ev true a ms with
    | some (.av (.dat (.bool c)), ms1) => some (blV (!c), ms1)
    | _ => none := by first | rfl | (rw [ev]; done) | (rw [ev]; rfl)
@[simp] theorem eve_13 (b : Bool) (c : E) (x : E) (y : E) (ms : MS) : ev b (.ife c x y) ms = match ev true c ms with
    | some (.av (.dat (.bool k)), ms1) => if k then ev b x ms1 else ev b y ms1
    | _ => none := by first | rfl | (rw [ev]; done) | (rw [ev]; rfl)
@[simp] theorem eve_14 (bb : Bool) (a : E) (i : E) (ms : MS) : ev bb (.sub a i) ms = match ev true a ms with
    | some (x, ms1) => (match ev true i ms1 with
      | some (y, ms2) => (subV ms2.hp x y).map fun z => (.av z, ms2)
      | none => none)
    | none => none := by first | rfl | (rw [ev]; done) | (rw [ev]; rfl)
@[simp] theorem eve_15 (bb : Bool) (a : E) (lo : Es) (hi : Es) (ms : MS) : ev bb (.slice a lo hi) ms = match ev true a ms with
    | some (x, ms1) => (match evP lo ms1 with
      | some (l, ms2) => (match evP hi ms2 with
        | some (h, ms3) => (sliceV x l h).map fun z => (z, ms3)
        | none => none)
      | none => none)
    | none => none := by first | rfl | (rw [ev]; done) | (rw [ev]; rfl)
@[simp] theorem eve_16 (bb : Bool) (f : B1) (a : E) (ms : MS) : ev bb (.b1 f a) ms = match ev true a ms with
    | some (x, ms1) => (b1V ms1.hp f x).map fun z => (z, ms1)
    | none => none := by first | rfl | (rw [ev]; done) | (rw [ev]; rfl)
@[simp] theorem eve_17 (bb : Bool) (a : E) (t : Str) (ms : MS) : ev bb (.isi a t) ms = match ev true a ms with
    | some (x, ms1) => (isiV x t).map fun z => (blV z, ms1)
    | none => none := by first | rfl | (rw [ev]; done) | (rw [ev]; rfl)
@[simp] theorem eve_18 (bb : Bool) (f : Fn) (es : Es) (ms : MS) : ev bb (.call f es) ms = match evs es ms with
    | some (vs, ms1) => (match f.run vs ms1.hp with
      | some (v, hp) => some (v, { ms1 with hp := hp })
      | none => none)
    | none => none := by first | rfl | (rw [ev]; done) | (rw [ev]; rfl)
@[simp] theorem eve_19 (bb : Bool) (f : Fn) (es : Es) (ms : MS) : ev bb (.callP f es) ms = match evs es ms with
    | some (vs, ms1) => (match allD vs with
      | some _ => (match f.run vs [] with
        | some (.av (.dat d), _) => some (.av (.dat d), ms1)
        | some (.lst xs, _) => some (.lst xs, ms1)
        | _ => none)
      | none => none)
    | none => none := by first | rfl | (rw [ev]; done) | (rw [ev]; rfl)
@[simp] theorem eve_20 (bb : Bool) (f : Fn) (es : Es) (ms : MS) : ev bb (.callB f es) ms = match evB es ms with
    | some (vs, ms1) => (match allD vs with
      | some _ => (match f.run vs [] with
        | some (.av (.dat d), _) => if noL d then some (.av (.dat d), ms1) else none
        | some (.lst xs, _) => if noLs xs then some (.lst xs, ms1) else none
        | _ => none)
      | none => none)
    | none => none := by first | rfl | (rw [ev]; done) | (rw [ev]; rfl)
@[simp] theorem eve_21 (bb : Bool) (e : E) (ms : MS) : ev bb (.alloc e) ms = match ev false e ms with
    | some (.lst xs, ms1) => some (.av (.ref ms1.hp.length), { ms1 with hp := ms1.hp ++ [.lst (xs.map .dat)] })
    | _ => none := by first | rfl | (rw [ev]; done) | (rw [ev]; rfl)
@[simp] theorem eve_22 (bb : Bool) (es : Es) (ms : MS) : ev bb (.allocL es) ms = match evs es ms with
    | some (vs, ms1) => if vs.length ≤ LINE then some (.av (.ref ms1.hp.length), { ms1 with hp := ms1.hp ++ [.lst vs] }) else none
    | none => none := by first | rfl | (rw [ev]; done) | (rw [ev]; rfl)
@[simp] theorem eve_23 (bb : Bool) (elt : E) (tg : List Nat) (it : I) (cond : Es) (ms : MS) : ev bb (.comp elt tg it cond) ms = match evI it ms with
    | some (xs, ms1) => if plainAt tg ms1.rho then
        (match compX tg (evC cond) (ev false elt) xs { ms1 with rho := wipeR tg ms1.rho } with
        | some (acc, ms2) => some (.lst acc, { ms2 with rho := back tg ms1.rho ms2.rho })
        | none => none)
      else none
    | none => none := by first | rfl | (rw [ev]; done) | (rw [ev]; rfl)
@[simp] theorem eve_24 (bb : Bool) (c : Str) (a : E) (f : Str) (ms : MS) : ev bb (.attr c a f) ms = match ev true a ms with
    | some (.av (.ref r), ms1) => (match ms1.hp[r]? with
      | some (.ins c' fs) => if c' = c then (match fs.lookup f with
        | some v => some (.av v, ms1)
        | none => none) else none
      | _ => none)
    | _ => none := by first | rfl | (rw [ev]; done) | (rw [ev]; rfl)
@[simp] theorem eve_25 (bb : Bool) (c : Str) (f : Fn) (a : E) (es : Es) (ms : MS) : ev bb (.meth c f a es) ms = match ev true a ms with
    | some (.av (.ref r), ms1) => (match ms1.hp[r]? with
      | some (.ins c' fs) => if c' = c ∧ fs.lookup f.name = none then (match evs es ms1 with
        | some (vs, ms2) => (match f.run (.ref r :: vs) ms2.hp with
          | some (v, hp) => some (v, { ms2 with hp := hp })
          | none => none)
        | none => none) else none
      | _ => none)
    | _ => none := by first | rfl | (rw [ev]; done) | (rw [ev]; rfl)
@[simp] theorem eve_26 (bb : Bool) (c : Str) (f : Fn) (es : Es) (ms : MS) : ev bb (.new c f es) ms = match evs es ms with
    | some (vs, ms1) => (match f.run (.ref ms1.hp.length :: vs) (ms1.hp ++ [.ins c []]) with
      | some (.av (.dat .none), hp) => some (.av (.ref ms1.hp.length), { ms1 with hp := hp })
      | _ => none)
    | none => none := by first | rfl | (rw [ev]; done) | (rw [ev]; rfl)
@[simp] theorem eve_27 (bb : Bool) (a : E) (ms : MS) : ev bb (.str1 a) ms = match ev true a ms with
    | some (x, ms1) => (strV x).map fun z => (z, ms1)
    | none => none := by first | rfl | (rw [ev]; done) | (rw [ev]; rfl)
@[simp] theorem eve_28 (bb : Bool) (st : Bool) (a : E) (ms : MS) : ev bb (.srt st a) ms = match ev true a ms with
    | some (x, ms1) => (srtV st x).map fun z => (z, ms1)
    | none => none := by first | rfl | (rw [ev]; done) | (rw [ev]; rfl)
@[simp] theorem eve_29 (bb : Bool) (s : Str) (a : E) (ms : MS) : ev bb (.join s a) ms = match ev true a ms with
    | some (x, ms1) => (joinV s x).map fun z => (z, ms1)
    | none => none := by first | rfl | (rw [ev]; done) | (rw [ev]; rfl)
@[simp] theorem evse_0  (ms : MS) : evs (.nil) ms = some ([], ms) := by first | rfl | (rw [evs]; done) | (rw [evs]; rfl)
@[simp] theorem evse_1 (e : E) (es : Es) (ms : MS) : evs (.cons e es) ms = match ev false e ms with
    | some (v, ms1) => (match evs es ms1 with
      | some (vs, ms2) => some (v.val :: vs, ms2)
      | none => none)
    | none => none := by first | rfl | (rw [evs]; done) | (rw [evs]; rfl)
@[simp] theorem evBe_0  (ms : MS) : evB (.nil) ms = some ([], ms) := by first | rfl | (rw [evB]; done) | (rw [evB]; rfl)
@[simp] theorem evBe_1 (e : E) (es : Es) (ms : MS) : evB (.cons e es) ms = match ev true e ms with
    | some (v, ms1) => (match evB es ms1 with
      | some (vs, ms2) => some (v.val :: vs, ms2)
      | none => none)
    | none => none := by first | rfl | (rw [evB]; done) | (rw [evB]; rfl)
@[simp] theorem evPe_0  (ms : MS) : evP (.nil) ms = some (none, ms) := by first | rfl | (rw [evP]; done) | (rw [evP]; rfl)
@[simp] theorem evPe_1 (e : E) (ms : MS) : evP (.cons e .nil) ms = match ev true e ms with
    | some (.av (.dat (.int i)), ms1) => some (some i, ms1)
    | _ => none := by first | rfl | (rw [evP]; done) | (rw [evP]; rfl)
@[simp] theorem evCe_0  (ms : MS) : evC (.nil) ms = some (true, ms) := by first | rfl | (rw [evC]; done) | (rw [evC]; rfl)
@[simp] theorem evCe_1 (e : E) (ms : MS) : evC (.cons e .nil) ms = match ev true e ms with
    | some (.av (.dat (.bool c)), ms1) => some (c, ms1)
    | _ => none := by first | rfl | (rw [evC]; done) | (rw [evC]; rfl)
@[simp] theorem evIe_0 (e : E) (ms : MS) : evI (.seq e) ms = match ev false e ms with
    | some (.av (.scr ns), ms1) => some (.fix (ns.map .int), ms1)
    | some (.av (.ref r), ms1) => (match ms1.hp[r]? with
      | some (.lst _) => some (.heap r, ms1)
      | _ => none)
    | some (v, ms1) => (match v.d? with
      | some (.list xs) => some (.fix xs, ms1)
      | some (.tuple xs) => some (.fix xs, ms1)
      | _ => none)
    | none => none := by first | rfl | (rw [evI]; done) | (rw [evI]; rfl)
@[simp] theorem evIe_1 (e : E) (ms : MS) : evI (.range1 e) ms = match ev true e ms with
    | some (.av (.dat (.int k)), ms1) => if -B62 ≤ k ∧ k < B62 then some (.fix ((List.range k.toNat).map fun (j : Nat) => PyData.int j), ms1) else none
    | _ => none := by first | rfl | (rw [evI]; done) | (rw [evI]; rfl)
@[simp] theorem evIe_2 (a : E) (b : E) (ms : MS) : evI (.range2 a b) ms = match ev true a ms with
    | some (.av (.dat (.int i)), ms1) => (match ev true b ms1 with
      | some (.av (.dat (.int j)), ms2) => if (-B62 ≤ i ∧ i < B62) ∧ (-B62 ≤ j ∧ j < B62) then some (.fix ((List.range (j - i).toNat).map fun (k : Nat) => PyData.int (i + k)), ms2) else none
      | _ => none)
    | _ => none := by first | rfl | (rw [evI]; done) | (rw [evI]; rfl)
@[simp] theorem exe_0 (i : Nat) (e : E) (ms : MS) : ex (.set i e) ms = match ev false e ms with
    | some (v, ms1) => (setSlot i v ms1).map fun m => (.nx, m)
    | none => none := by first | rfl | (rw [ex]; done) | (rw [ex]; rfl)
@[simp] theorem exe_1 (i : Nat) (elt : E) (tg : List Nat) (it : I) (cond : Es) (ms : MS) : ex (.setC i elt tg it cond) ms = match ev false (.comp elt tg it cond) ms with
    | some (v, ms1) => (setSlot i v ms1).map fun m => (.nx, m)
    | none => none := by first | rfl | (rw [ex]; done) | (rw [ex]; rfl)
@[simp] theorem exe_2 (tg : List Nat) (e : E) (ms : MS) : ex (.setT tg e) ms = match ev true e ms with
    | some (.av (.dat d), ms1) => (bindT tg d ms1.rho).map fun rho => (.nx, { ms1 with rho := rho })
    | _ => none := by first | rfl | (rw [ex]; done) | (rw [ex]; rfl)
@[simp] theorem exe_3 (i : Nat) (ix : E) (e : E) (ms : MS) : ex (.setIx i ix e) ms = match ev false e ms with
    | some (v, ms1) => (match ms1.rho[i]? with
      | some (.own _) => (match ev true ix ms1 with
        | some (.av (.dat (.int k)), ms2) => (match ms2.rho[i]?, v.val with
          | some (.own xs), .dat d => (ixD xs.length k).map fun j => (.nx, { ms2 with rho := ms2.rho.set i (.own (xs.set j d)) })
          | _, _ => none)
        | _ => none)
      | some (.av (.ref r)) => (match ev true ix ms1 with
        | some (.av (.dat (.int k)), ms2) => (match ms2.hp[r]? with
          | some (.lst xs) => (ixD xs.length k).map fun j => (.nx, { ms2 with hp := ms2.hp.set r (.lst (xs.set j v.val)) })
          | _ => none)
        | _ => none)
      | _ => none)
    | none => none := by first | rfl | (rw [ex]; done) | (rw [ex]; rfl)
@[simp] theorem exe_4 (i : Nat) (ms : MS) : ex (.pop0 i) ms = match ms.rho[i]? with
    | some (.own (_ :: xs)) => some (.nx, { ms with rho := ms.rho.set i (.own xs) })
    | some (.av (.ref r)) => (match ms.hp[r]? with
      | some (.lst (_ :: xs)) => some (.nx, { ms with hp := ms.hp.set r (.lst xs) })
      | _ => none)
    | _ => none := by first | rfl | (rw [ex]; done) | (rw [ex]; rfl)
@[simp] theorem exe_5 (i : Nat) (e : E) (ms : MS) : ex (.append i e) ms = match ms.rho[i]? with
    | some (.own _) => (match ev false e ms with
      | some (v, ms1) => (match ms1.rho[i]?, v.d? with
        | some (.own xs), some d => if xs.length < LINE then some (.nx, { ms1 with rho := ms1.rho.set i (.own (xs ++ [d])) }) else none
        | _, _ => none)
      | none => none)
    | some (.av (.ref r)) => (match ms.hp[r]? with
      | some (.lst _) => (match ev false e ms with
        | some (v, ms1) => (match ms1.hp[r]? with
          | some (.lst xs) => if xs.length < LINE then some (.nx, { ms1 with hp := ms1.hp.set r (.lst (xs ++ [v.val])) }) else none
          | _ => none)
        | none => none)
      | _ => none)
    | _ => none := by first | rfl | (rw [ex]; done) | (rw [ex]; rfl)
@[simp] theorem exe_6 (c : Str) (o : E) (f : Str) (e : E) (ms : MS) : ex (.setAttr c o f e) ms = match ev false e ms with
    | some (v, ms1) => (match ev true o ms1 with
      | some (.av (.ref r), ms2) => (match ms2.hp[r]? with
        | some (.ins c' fs) => if c' = c ∧ fs.length < 1000 then some (.nx, { ms2 with hp := ms2.hp.set r (.ins c' (putA f v.val fs)) }) else none
        | _ => none)
      | _ => none)
    | none => none := by first | rfl | (rw [ex]; done) | (rw [ex]; rfl)
@[simp] theorem exe_7 (o : E) (ix : E) (e : E) (ms : MS) : ex (.setIxE o ix e) ms = match ev false e ms with
    | some (v, ms1) => (match ev true o ms1 with
      | some (.av (.ref r), ms2) => (match ev true ix ms2 with
        | some (.av (.dat (.int k)), ms3) => (match ms3.hp[r]? with
          | some (.lst xs) => (ixD xs.length k).map fun j => (.nx, { ms3 with hp := ms3.hp.set r (.lst (xs.set j v.val)) })
          | _ => none)
        | _ => none)
      | _ => none)
    | none => none := by first | rfl | (rw [ex]; done) | (rw [ex]; rfl)
@[simp] theorem exe_8 (o : E) (e : E) (ms : MS) : ex (.appendE o e) ms = match ev true o ms with
    | some (.av (.ref r), ms1) => (match ms1.hp[r]? with
      | some (.lst _) => (match ev false e ms1 with
        | some (v, ms2) => (match ms2.hp[r]? with
          | some (.lst xs) => if xs.length < LINE then some (.nx, { ms2 with hp := ms2.hp.set r (.lst (xs ++ [v.val])) }) else none
          | _ => none)
        | none => none)
      | _ => none)
    | _ => none := by first | rfl | (rw [ex]; done) | (rw [ex]; rfl)
@[simp] theorem exe_9  (ms : MS) : ex (.never) ms = none := by first | rfl | (rw [ex]; done) | (rw [ex]; rfl)
@[simp] theorem exe_10 (e : E) (ms : MS) : ex (.expr e) ms = match ev false e ms with
    | some (_, ms1) => some (.nx, ms1)
    | none => none := by first | rfl | (rw [ex]; done) | (rw [ex]; rfl)
@[simp] theorem exe_11 (c : E) (a : Ss) (b : Ss) (ms : MS) : ex (.ite c a b) ms = match ev true c ms with
    | some (.av (.dat (.bool k)), ms1) => if k then exs a ms1 else exs b ms1
    | _ => none := by first | rfl | (rw [ex]; done) | (rw [ex]; rfl)
@[simp] theorem exe_12 (tg : List Nat) (it : I) (body : Ss) (ms : MS) : ex (.for_ tg it body) ms = match evI it ms with
    | some (xs, ms1) => forX tg (exs body) xs ms1
    | none => none := by first | rfl | (rw [ex]; done) | (rw [ex]; rfl)
@[simp] theorem exe_13 (c : E) (body : Ss) (ms : MS) : ex (.whil c body) ms = whileL (ev true c) (exs body) FUEL ms := by first | rfl | (rw [ex]; done) | (rw [ex]; rfl)
@[simp] theorem exe_14 (e : E) (ms : MS) : ex (.ret e) ms = match ev true e ms with
    | some (v, ms1) => some (.rt v, ms1)
    | none => none := by first | rfl | (rw [ex]; done) | (rw [ex]; rfl)
@[simp] theorem exe_15  (ms : MS) : ex (.pass) ms = some (.nx, ms) := by first | rfl | (rw [ex]; done) | (rw [ex]; rfl)
@[simp] theorem exe_16  (ms : MS) : ex (.brk) ms = some (.bk, ms) := by first | rfl | (rw [ex]; done) | (rw [ex]; rfl)
@[simp] theorem exe_17  (ms : MS) : ex (.cont) ms = some (.ct, ms) := by first | rfl | (rw [ex]; done) | (rw [ex]; rfl)
@[simp] theorem exse_0  (ms : MS) : exs (.nil) ms = some (.nx, ms) := by first | rfl | (rw [exs]; done) | (rw [exs]; rfl)
@[simp] theorem exse_1 (s : S) (ss : Ss) (ms : MS) : exs (.cons s ss) ms = match ex s ms with
    | some (.nx, ms1) => exs ss ms1
    | some (o, ms1) => some (o, ms1)
    | none => none := by first | rfl | (rw [exs]; done) | (rw [exs]; rfl)
end Sv

/-! Sv: the operations on values, for simp. -/
namespace Sv
open PySem
abbrev iv (i : Int) : AV := .dat (.int i)
section
variable {i j k : Int} {b c : Bool} {x y : Str} {xs ys : List PyData} {hp : List AO} {d e : PyData}
@[simp] theorem intV_eq : intV i = .av (.dat (.int i)) := (rfl)
@[simp] theorem blV_eq : blV b = .av (.dat (.bool b)) := (rfl)
@[simp] theorem val_av {v : AV} : (RV.av v).val = v := (rfl)
@[simp] theorem val_lst : (RV.lst xs).val = .dat (.list xs) := (rfl)
@[simp] theorem d_dat : (RV.av (.dat d)).d? = some d := (rfl)
@[simp] theorem d_lst : (RV.lst xs).d? = some (.list xs) := (rfl)
@[simp] theorem bin_add : binV .add (.av (.dat (.int i))) (.av (.dat (.int j))) = some (.av (.dat (.int (i + j)))) := (rfl)
@[simp] theorem bin_sub : binV .sub (.av (.dat (.int i))) (.av (.dat (.int j))) = some (.av (.dat (.int (i - j)))) := (rfl)
@[simp] theorem bin_mul (h : (-18446744073709551616 < i ∧ i < 18446744073709551616) ∨ (-18446744073709551616 < j ∧ j < 18446744073709551616)) : binV .mul (.av (.dat (.int i))) (.av (.dat (.int j))) = some (.av (.dat (.int (i * j)))) := if_pos h
@[simp] theorem bin_fdiv (h : 0 < j) (h2 : j < 1073741824) : binV .fdiv (.av (.dat (.int i))) (.av (.dat (.int j))) = some (.av (.dat (.int (i / j)))) := if_pos ⟨h, h2⟩
@[simp] theorem bin_mod (h : 0 < j) : binV .mod (.av (.dat (.int i))) (.av (.dat (.int j))) = some (.av (.dat (.int (i % j)))) := if_pos h
@[simp] theorem bin_addT (h : xs.length + ys.length ≤ 16777216) : binV .add (.av (.dat (.tuple xs))) (.av (.dat (.tuple ys))) = some (.av (.dat (.tuple (xs ++ ys)))) := if_pos h
@[simp] theorem bin_addS (h : x.length + y.length ≤ 16777216) : binV .add (.av (.dat (.str x))) (.av (.dat (.str y))) = some (.av (.dat (.str (x ++ y)))) := if_pos h
@[simp] theorem bin_addL1 (h : xs.length + ys.length ≤ 16777216) : binV .add (.lst xs) (.lst ys) = some (.lst (xs ++ ys)) := if_pos h
@[simp] theorem bin_addL2 (h : xs.length + ys.length ≤ 16777216) : binV .add (.av (.dat (.list xs))) (.lst ys) = some (.lst (xs ++ ys)) := if_pos h
@[simp] theorem bin_addL3 (h : xs.length + ys.length ≤ 16777216) : binV .add (.lst xs) (.av (.dat (.list ys))) = some (.lst (xs ++ ys)) := if_pos h
@[simp] theorem bin_addL4 (h : xs.length + ys.length ≤ 16777216) : binV .add (.av (.dat (.list xs))) (.av (.dat (.list ys))) = some (.lst (xs ++ ys)) := if_pos h
@[simp] theorem bin_mulL1 (h : -9223372036854775808 ≤ k ∧ k < 9223372036854775808 ∧ xs.length * k.toNat ≤ 16777216) : binV .mul (.lst xs) (.av (.dat (.int k))) = some (.lst (List.replicate k.toNat xs).flatten) := if_pos h
@[simp] theorem bin_mulL2 (h : -9223372036854775808 ≤ k ∧ k < 9223372036854775808 ∧ xs.length * k.toNat ≤ 16777216) : binV .mul (.av (.dat (.list xs))) (.av (.dat (.int k))) = some (.lst (List.replicate k.toNat xs).flatten) := if_pos h
@[simp] theorem cmp_lt : cmpV .lt (.av (.dat (.int i))) (.av (.dat (.int j))) = some (decide (i < j)) := (rfl)
@[simp] theorem cmp_le : cmpV .le (.av (.dat (.int i))) (.av (.dat (.int j))) = some (decide (i ≤ j)) := (rfl)
@[simp] theorem cmp_gt : cmpV .gt (.av (.dat (.int i))) (.av (.dat (.int j))) = some (decide (j < i)) := (rfl)
@[simp] theorem cmp_ge : cmpV .ge (.av (.dat (.int i))) (.av (.dat (.int j))) = some (decide (j ≤ i)) := (rfl)
theorem cmp_eqD {a u : RV} (h1 : a.d? = some d) (h2 : u.d? = some e) (h3 : dep d ≤ 64) (h4 : dep e ≤ 64) : cmpV .eq a u = some (eqq d e) := by
  simp [cmpV, h1, h2, h3, h4]
theorem cmp_neD {a u : RV} (h1 : a.d? = some d) (h2 : u.d? = some e) (h3 : dep d ≤ 64) (h4 : dep e ≤ 64) : cmpV .ne a u = some (!eqq d e) := by
  simp [cmpV, h1, h2, h3, h4]
@[simp] theorem dep_int : dep (.int i) = 0 := (rfl)
@[simp] theorem dep_bool : dep (.bool b) = 0 := (rfl)
@[simp] theorem dep_none : dep .none = 0 := (rfl)
@[simp] theorem dep_str (h : x.cps.toList.all (fun c => decide (c < 1114112)) = true) : dep (.str x) = 0 := if_pos (by rw [← Array.all_toList]; exact h)
@[simp] theorem dep_list : dep (.list xs) = deps xs + 1 := (rfl)
@[simp] theorem dep_tuple : dep (.tuple xs) = deps xs + 1 := (rfl)
@[simp] theorem deps_nil : deps [] = 0 := (rfl)
@[simp] theorem deps_cons : deps (d :: xs) = max (dep d) (deps xs) := (rfl)
@[simp] theorem eqq_int : eqq (.int i) (.int j) = decide (i = j) := (rfl)
@[simp] theorem line_v : LINE = 16777216 := (rfl)
@[simp] theorem b30_v : B30 = 1073741824 := (rfl)
@[simp] theorem b62_v : B62 = 4611686018427387904 := (rfl)
@[simp] theorem eqq_str : eqq (.str x) (.str y) = decide (x = y) := (rfl)
@[simp] theorem eqq_bool : eqq (.bool b) (.bool c) = (b == c) := (rfl)
@[simp] theorem eqq_none : eqq .none .none = true := (rfl)
@[simp] theorem eqq_list : eqq (.list xs) (.list ys) = eqqs xs ys := (rfl)
@[simp] theorem eqq_tuple : eqq (.tuple xs) (.tuple ys) = eqqs xs ys := (rfl)
@[simp] theorem eqqs_nil : eqqs [] [] = true := (rfl)
@[simp] theorem eqqs_cons : eqqs (d :: xs) (e :: ys) = (eqq d e && eqqs xs ys) := (rfl)
@[simp] theorem cmp_eq {d e : PyData} (h3 : dep d ≤ 64) (h4 : dep e ≤ 64) : cmpV .eq (.av (.dat d)) (.av (.dat e)) = some (eqq d e) := cmp_eqD rfl rfl h3 h4
@[simp] theorem cmp_ne {d e : PyData} (h3 : dep d ≤ 64) (h4 : dep e ≤ 64) : cmpV .ne (.av (.dat d)) (.av (.dat e)) = some (!eqq d e) := cmp_neD rfl rfl h3 h4
@[simp] theorem cmp_eq1 (h3 : dep (.list xs) ≤ 64) (h4 : dep e ≤ 64) : cmpV .eq (.lst xs) (.av (.dat e)) = some (eqq (.list xs) e) := cmp_eqD rfl rfl h3 h4
@[simp] theorem cmp_eq2 (h3 : dep d ≤ 64) (h4 : dep (.list ys) ≤ 64) : cmpV .eq (.av (.dat d)) (.lst ys) = some (eqq d (.list ys)) := cmp_eqD rfl rfl h3 h4
@[simp] theorem cmp_eq3 (h3 : dep (.list xs) ≤ 64) (h4 : dep (.list ys) ≤ 64) : cmpV .eq (.lst xs) (.lst ys) = some (eqqs xs ys) := cmp_eqD rfl rfl h3 h4
@[simp] theorem cmp_ne1 (h3 : dep (.list xs) ≤ 64) (h4 : dep e ≤ 64) : cmpV .ne (.lst xs) (.av (.dat e)) = some (!eqq (.list xs) e) := cmp_neD rfl rfl h3 h4
@[simp] theorem cmp_ne2 (h3 : dep d ≤ 64) (h4 : dep (.list ys) ≤ 64) : cmpV .ne (.av (.dat d)) (.lst ys) = some (!eqq d (.list ys)) := cmp_neD rfl rfl h3 h4
@[simp] theorem cmp_ne3 (h3 : dep (.list xs) ≤ 64) (h4 : dep (.list ys) ≤ 64) : cmpV .ne (.lst xs) (.lst ys) = some (!eqqs xs ys) := cmp_neD rfl rfl h3 h4
@[simp] theorem allD_nil : allD [] = some [] := (rfl)
@[simp] theorem allD_cons {r : List AV} : allD (.dat d :: r) = (allD r).map (d :: ·) := (rfl)
@[simp] theorem b1_int : b1V hp .int (.av (.dat (.int i))) = some (.av (.dat (.int i))) := (rfl)
@[simp] theorem b1_intb : b1V hp .int (.av (.dat (.bool b))) = some (.av (.dat (.int (if b then 1 else 0)))) := (rfl)
@[simp] theorem b1_abs : b1V hp .abs (.av (.dat (.int i))) = some (.av (.dat (.int (if i < 0 then -i else i)))) := (rfl)
@[simp] theorem b1_len1 : b1V hp .len (.lst xs) = some (.av (.dat (.int xs.length))) := (rfl)
@[simp] theorem b1_len2 : b1V hp .len (.av (.dat (.list xs))) = some (.av (.dat (.int xs.length))) := (rfl)
@[simp] theorem b1_len3 : b1V hp .len (.av (.dat (.tuple xs))) = some (.av (.dat (.int xs.length))) := (rfl)
theorem b1_lenR {r : Nat} {vs : List AV} (h : hp[r]? = some (.lst vs)) : b1V hp .len (.av (.ref r)) = some (.av (.dat (.int vs.length))) := by
  simp [b1V, lenV, h]
@[simp] theorem b1_tuple1 : b1V hp .tuple (.lst xs) = some (.av (.dat (.tuple xs))) := (rfl)
@[simp] theorem b1_tuple2 : b1V hp .tuple (.av (.dat (.list xs))) = some (.av (.dat (.tuple xs))) := (rfl)
@[simp] theorem b1_tuple3 : b1V hp .tuple (.av (.dat (.tuple xs))) = some (.av (.dat (.tuple xs))) := (rfl)
@[simp] theorem b1_list1 : b1V hp .list (.lst xs) = some (.lst xs) := (rfl)
@[simp] theorem b1_list2 : b1V hp .list (.av (.dat (.list xs))) = some (.lst xs) := (rfl)
@[simp] theorem b1_list3 : b1V hp .list (.av (.dat (.tuple xs))) = some (.lst xs) := (rfl)
@[simp] theorem set_av {v : AV} {ms : MS} {n : Nat} (h : n < ms.rho.length) : setSlot n (.av v) ms = some { ms with rho := ms.rho.set n (.av v) } := if_pos h
@[simp] theorem set_lst {ms : MS} {n : Nat} (h : n < ms.rho.length) : setSlot n (.lst xs) ms = some { ms with rho := ms.rho.set n (.own xs) } := if_pos h
theorem ixD_nn {n j : Nat} (h : j < n) : ixD n (j : Int) = some j := by
  unfold ixD
  rw [if_neg (by omega), if_pos (by omega)]
  simp
@[simp] theorem atD_zero {α : Type} {a : α} {as : List α} : atD (a :: as) 0 = some a := by
  have : ixD (a :: as).length 0 = some 0 := ixD_nn (j := 0) (by simp)
  unfold atD
  rw [this]
  rfl
theorem atD_nat {α : Type} {as : List α} {n : Nat} (h : n < as.length) : atD as (n : Int) = some as[n] := by
  simp [atD, ixD_nn h, h]
theorem atD_pos {α : Type} {as : List α} {i : Int} (h0 : 0 ≤ i) (h : i < as.length) : atD as i = as[i.toNat]? := by
  unfold atD ixD
  rw [if_neg (by omega), if_pos h]
@[simp] theorem sub_list : subV hp (.av (.dat (.list xs))) (.av (.dat (.int i))) = (atD xs i).map .dat := (rfl)
@[simp] theorem sub_lst : subV hp (.lst xs) (.av (.dat (.int i))) = (atD xs i).map .dat := (rfl)
@[simp] theorem sub_tup : subV hp (.av (.dat (.tuple xs))) (.av (.dat (.int i))) = (atD xs i).map .dat := (rfl)
theorem sub_ref {r : Nat} {vs : List AV} (h : hp[r]? = some (.lst vs)) : subV hp (.av (.ref r)) (.av (.dat (.int i))) = atD vs i := by
  simp [subV, h]
@[simp] theorem bind_one {n : Nat} {rho : List Slot} (h : n < rho.length) : bindT [n] d rho = some (rho.set n (.av (.dat d))) := if_pos h
@[simp] theorem forL_nil (tg : List Nat) (body : MS → Option (Out × MS)) (ms : MS) : forL tg body [] ms = some (.nx, ms) := (rfl)
@[simp] theorem forX_fix (tg : List Nat) (body : MS → Option (Out × MS)) (xs : List PyData) (ms : MS) : forX tg body (.fix xs) ms = forL tg body xs ms := (rfl)
@[simp] theorem forX_heap (tg : List Nat) (body : MS → Option (Out × MS)) (r : Nat) (ms : MS) : forX tg body (.heap r) ms = forS tg body (.heap r) FUEL 0 ms := (rfl)
@[simp] theorem compX_fix (tg : List Nat) (test : MS → Option (Bool × MS)) (elt : MS → Option (RV × MS)) (xs : List PyData) (ms : MS) : compX tg test elt (.fix xs) ms = compL tg test elt xs [] ms := (rfl)
@[simp] theorem compX_heap (tg : List Nat) (test : MS → Option (Bool × MS)) (elt : MS → Option (RV × MS)) (r : Nat) (ms : MS) : compX tg test elt (.heap r) ms = compS tg test elt (.heap r) FUEL 0 [] ms := (rfl)
theorem forL_cons (tg : List Nat) (body : MS → Option (Out × MS)) (x : PyData) (r : List PyData) (ms : MS) : forL tg body (x :: r) ms = match bindT tg x ms.rho with
    | some rho => (match body { ms with rho := rho } with
      | some (.nx, ms1) => forL tg body r ms1
      | some (.ct, ms1) => forL tg body r ms1
      | some (.bk, ms1) => some (.nx, ms1)
      | some (.rt v, ms1) => some (.rt v, ms1)
      | none => none)
    | none => none := (rfl)
theorem forL_nx {tg : List Nat} {body : MS → Option (Out × MS)} {x : PyData} {r : List PyData} {ms ms1 : MS} {rho : List Slot} (h1 : bindT tg x ms.rho = some rho) (h2 : body ⟨rho, ms.hp⟩ = some (.nx, ms1)) : forL tg body (x :: r) ms = forL tg body r ms1 := by
  rw [forL_cons, h1]
  simp only [h2]
theorem whileL_succ (test : MS → Option (RV × MS)) (body : MS → Option (Out × MS)) (n : Nat) (ms : MS) : whileL test body (n + 1) ms = match test ms with
    | some (.av (.dat (.bool true)), ms1) => (match body ms1 with
      | some (.nx, ms2) => whileL test body n ms2
      | some (.ct, ms2) => whileL test body n ms2
      | some (.bk, ms2) => some (.nx, ms2)
      | some (.rt v, ms2) => some (.rt v, ms2)
      | none => none)
    | some (.av (.dat (.bool false)), ms1) => some (.nx, ms1)
    | _ => none := (rfl)
/-- a for over items, with an invariant -/
theorem forL_inv {tg : List Nat} {body : MS → Option (Out × MS)} (P : Nat → MS → Prop) : ∀ (l : List PyData) (n : Nat) (ms : MS), P n ms →
    (∀ j d ms, l[j]? = some d → P (n + j) ms → ∃ rho ms1, bindT tg d ms.rho = some rho ∧ body ⟨rho, ms.hp⟩ = some (.nx, ms1) ∧ P (n + j + 1) ms1) →
    ∃ ms', forL tg body l ms = some (.nx, ms') ∧ P (n + l.length) ms'
  | [], n, ms, h, _ => ⟨ms, rfl, h⟩
  | d :: l, n, ms, h, hs => by
    obtain ⟨rho, ms1, e1, e2, h1⟩ := hs 0 d ms rfl h
    obtain ⟨ms', e3, h3⟩ := forL_inv P l (n + 1) ms1 h1 fun j x ms hj hp => by
      obtain ⟨rho, ms2, q1, q2, q3⟩ := hs (j + 1) x ms (by simpa using hj) (by rw [show n + (j + 1) = n + 1 + j by omega]; exact hp)
      exact ⟨rho, ms2, q1, q2, by rw [show n + 1 + j + 1 = n + (j + 1) + 1 by omega]; exact q3⟩
    refine ⟨ms', ?_, by rw [show n + (d :: l).length = n + 1 + l.length by simp; omega]; exact h3⟩
    rw [forL_nx e1 e2]
    exact e3
end
end Sv
namespace Sv
open PySem
section
variable {i : Int} {b : Bool} {xs : List PyData}
theorem isi_of {d : PyData} {a : RV} {t : Str} {r : Bool} (h : a.d? = some d) (ht : t = sInt ∨ t = sBool ∨ t = sList ∨ t = sTuple ∨ t = sStr) (e : (decide (tyD d = t) || (decide (t = sInt) && decide (tyD d = sBool))) = r) : isiV a t = some r := by
  unfold isiV
  rw [h]
  simp only [if_pos ht, e]
@[simp] theorem isi_int_int : isiV (.av (.dat (.int i))) ⟨#[105, 110, 116]⟩ = some true := isi_of (d := .int i) (by rfl) (.inl rfl) (by show (decide ((⟨#[105, 110, 116]⟩ : Str) = ⟨#[105, 110, 116]⟩) || _) = true; simp)
@[simp] theorem isi_int_bool : isiV (.av (.dat (.int i))) ⟨#[98, 111, 111, 108]⟩ = some false := isi_of (d := .int i) (by rfl) (.inr (.inl rfl)) (by show (decide ((⟨#[105, 110, 116]⟩ : Str) = ⟨#[98, 111, 111, 108]⟩) || (decide ((⟨#[98, 111, 111, 108]⟩ : Str) = sInt) && decide ((⟨#[105, 110, 116]⟩ : Str) = sBool))) = false; decide)
theorem evI_range1 {e : E} {ms ms1 : MS} {k : Int} (h : ev true e ms = some (.av (.dat (.int k)), ms1)) (h1 : -4611686018427387904 ≤ k) (h2 : k < 4611686018427387904) : evI (.range1 e) ms = some (.fix ((List.range k.toNat).map fun (j : Nat) => PyData.int j), ms1) := by
  simp [h, h1, h2]
end
end Sv
namespace Sv
open PySem
/-- a comprehension whose tests and values change nothing -/
theorem compL_map {tg : List Nat} {test : MS → Option (Bool × MS)} {elt : MS → Option (RV × MS)} (p : PyData → Bool) (f : PyData → PyData) (ms : MS) : ∀ (xs acc : List PyData),
    (∀ x ∈ xs, ∃ rho, bindT tg x ms.rho = some rho ∧ test ⟨rho, ms.hp⟩ = some (p x, ⟨rho, ms.hp⟩) ∧ (p x = true → ∃ rv, elt ⟨rho, ms.hp⟩ = some (rv, ⟨rho, ms.hp⟩) ∧ rv.d? = some (f x)) ∧ plainAt tg rho = true ∧ wipeR tg rho = ms.rho) →
    acc.length + xs.length ≤ 16777216 → compL tg test elt xs acc ms = some (acc ++ (xs.filter p).map f, ms)
  | [], acc, _, _ => by simp [compL]
  | x :: xs, acc, h, hl => by
    obtain ⟨rho, h1, h2, h3, h4, h5⟩ := h x (List.mem_cons_self ..)
    unfold compL
    rw [h1]
    simp only [h2]
    cases hp : p x with
    | false =>
      simp only [h4, if_true]
      rw [h5, compL_map p f ms xs acc (fun y hy => h y (List.mem_cons_of_mem _ hy)) (by simp at hl; omega)]
      simp [hp]
    | true =>
      obtain ⟨rv, e1, e2⟩ := h3 hp
      have hlt : acc.length < LINE := by simp at hl ⊢; omega
      simp only [e1, e2, if_pos hlt, h4, if_true]
      rw [h5, compL_map p f ms xs (acc ++ [f x]) (fun y hy => h y (List.mem_cons_of_mem _ hy)) (by simp at hl ⊢; omega)]
      simp [hp]
end Sv
namespace Sv
open PySem
section
variable {i j k : Int} {xs : List PyData}
@[simp] theorem bin_mulT (h : xs ≠ [] ∧ -1000 ≤ k ∧ k ≤ 1000 ∧ xs.length ≤ 1000) : binV .mul (.av (.dat (.tuple xs))) (.av (.dat (.int k))) = some (.av (.dat (.tuple (List.replicate k.toNat xs).flatten))) := by
  obtain ⟨h1, h2, h3, h4⟩ := h
  simp [binV, h1, h2, h3, h4]
@[simp] theorem isi_list1 : isiV (.lst xs) ⟨#[108, 105, 115, 116]⟩ = some true := isi_of (d := .list xs) (by rfl) (.inr (.inr (.inl rfl))) (by show (decide ((⟨#[108, 105, 115, 116]⟩ : Str) = ⟨#[108, 105, 115, 116]⟩) || _) = true; simp)
@[simp] theorem isi_list2 : isiV (.av (.dat (.list xs))) ⟨#[108, 105, 115, 116]⟩ = some true := isi_of (d := .list xs) (by rfl) (.inr (.inr (.inl rfl))) (by show (decide ((⟨#[108, 105, 115, 116]⟩ : Str) = ⟨#[108, 105, 115, 116]⟩) || _) = true; simp)
end
end Sv

/-! Sv: the draws that all laws make. -/
namespace Sv
open PySem
/-- _law_state(script): 0 script 1 seed 2 cell -/
def ss__law_state : Ss := (.cons (.set 1 (.lit (.int 7)))
  (.cons (.for_ [2] (.seq (.var 0)) (.cons (.set 1 (.bin .mod (.b1 .int (.bin .add (.bin .mul (.var 1) (.lit (.int 31))) (.var 2))) (.lit (.int 1000003))))
  .nil))
  (.cons (.ret (.allocL (.cons (.alloc (.comp (.b1 .abs (.var 2)) [2] (.seq (.var 0)) .nil)) (.cons (.bin .add (.var 1) (.lit (.int 1))) .nil))))
  .nil)))
def f__law_state : Fn := ⟨⟨#[95, 108, 97, 119, 95, 115, 116, 97, 116, 101]⟩, runB 3 1 ss__law_state⟩
/-- _law_draw(state, many): 0 state 1 many 2 cells 3 value 4 mixed -/
def ss__law_draw : Ss := (.cons (.set 2 (.sub (.var 0) (.lit (.int 0))))
  (.cons (.whil (.and (.cmp .gt (.b1 .len (.var 2)) (.lit (.int 0))) (.cmp .eq (.sub (.var 2) (.lit (.int 0))) (.lit (.int 0)))) (.cons (.pop0 2)
  .nil))
  (.cons (.ite (.cmp .gt (.b1 .len (.var 2)) (.lit (.int 0))) (.cons (.set 3 (.sub (.var 2) (.lit (.int 0))))
  (.cons (.setIx 2 (.lit (.int 0)) (.bin .fdiv (.var 3) (.var 1)))
  (.cons (.ret (.bin .mod (.b1 .int (.var 3)) (.var 1)))
  .nil))) .nil)
  (.cons (.set 4 (.bin .mod (.b1 .int (.bin .add (.bin .mul (.sub (.var 0) (.lit (.int 1))) (.lit (.int 48271))) (.lit (.int 12345)))) (.lit (.int 2147483647))))
  (.cons (.setIx 0 (.lit (.int 1)) (.var 4))
  (.cons (.ret (.bin .mod (.b1 .int (.bin .fdiv (.var 4) (.lit (.int 64)))) (.var 1)))
  .nil))))))
def f__law_draw : Fn := ⟨⟨#[95, 108, 97, 119, 95, 100, 114, 97, 119]⟩, runB 5 2 ss__law_draw⟩

def DS (cs : List Int) (s : Int) : List AO := [.lst (cs.map iv), .lst [.ref 0, iv s]]
/-- the heap holds the draws' state, and rest -/
def DSt (hp rest : List AO) : Prop := ∃ cs s, cs.length ≤ 63 ∧ hp = DS cs s ++ rest
theorem st_loop : ∀ (xs : List Int) (sl : Slot) (seed : Int) (c : Slot) (hp : List AO), (∀ ys, c ≠ .own ys) → ∃ s' c', (∀ ys, c' ≠ .own ys) ∧
    forL [2] (exs (.cons (.set 1 (.bin .mod (.b1 .int (.bin .add (.bin .mul (.var 1) (.lit (.int 31))) (.var 2))) (.lit (.int 1000003)))) .nil)) (xs.map .int) ⟨[sl, .av (iv seed), c], hp⟩ = some (.nx, ⟨[sl, .av (iv s'), c'], hp⟩)
  | [], sl, seed, c, hp, hc => ⟨seed, c, hc, rfl⟩
  | x :: xs, sl, seed, c, hp, hc => by
    obtain ⟨s', c', h1, h2⟩ := st_loop xs sl ((seed * 31 + x) % 1000003) (.av (iv x)) hp (fun _ z => by cases z)
    refine ⟨s', c', h1, ?_⟩
    rw [← h2, List.map_cons]
    refine forL_nx (rho := [sl, .av (iv seed), .av (iv x)]) (by simp [bindT]) ?_
    simp
theorem abs_loop : ∀ (xs : List Int) (sl s1 : Slot) (hp : List AO) (acc : List PyData), acc.length + xs.length ≤ LINE →
    compL [2] (evC .nil) (ev false (.b1 .abs (.var 2))) (xs.map .int) acc ⟨[sl, s1, .emp], hp⟩ = some (acc ++ xs.map (fun x => .int (if x < 0 then -x else x)), ⟨[sl, s1, .emp], hp⟩)
  | [], sl, s1, hp, acc, h => by simp [compL]
  | x :: xs, sl, s1, hp, acc, h => by
    have h' : acc.length < 16777216 := by simp at h; omega
    rw [List.map_cons]
    unfold compL
    simp [h', plainAt, wipeR]
    rw [abs_loop xs sl s1 hp _ (by simp at h ⊢; omega)]
    simp
theorem state_run (ns : List Int) (h : ns.length ≤ 63) : ∃ hp, f__law_state.run [.scr ns] [] = some (.av (.ref 1), hp) ∧ DSt hp [] := by
  obtain ⟨s', c', h1, h2⟩ := st_loop ns (.av (.scr ns)) 7 .emp [] (fun _ z => by cases z)
  refine ⟨DS (ns.map fun x => if x < 0 then -x else x) (s' + 1), ?_, ⟨ns.map fun x => if x < 0 then -x else x, s' + 1, by simpa using h, by simp⟩⟩
  have e := abs_loop ns (.av (.scr ns)) (.av (iv s')) [] [] (by simp [LINE]; omega)
  have hc : plainAt [2] [Slot.av (.scr ns), .av (iv s'), c'] = true := by
    cases c' with
    | own ys => exact absurd rfl (h1 ys)
    | _ => rfl
  simp [f__law_state, runB, ss__law_state, h2, hc, wipeR, e, back, DS]
theorem pop_loop : ∀ (n : Nat) (cs : List Int) (m s : Int) (rest : List AO) (x y : Slot), cs.length < n → ∃ cs', cs'.length ≤ cs.length ∧
    whileL (ev true (.and (.cmp .gt (.b1 .len (.var 2)) (.lit (.int 0))) (.cmp .eq (.sub (.var 2) (.lit (.int 0))) (.lit (.int 0))))) (exs (.cons (.pop0 2) .nil)) n ⟨[.av (.ref 1), .av (iv m), .av (.ref 0), x, y], DS cs s ++ rest⟩ =
      some (.nx, ⟨[.av (.ref 1), .av (iv m), .av (.ref 0), x, y], DS cs' s ++ rest⟩)
  | 0, cs, m, s, rest, x, y, h => by omega
  | n + 1, [], m, s, rest, x, y, h => by
    refine ⟨[], Nat.le_refl _, ?_⟩
    rw [whileL_succ]
    simp [DS, b1_lenR (vs := []), subV]
  | n + 1, c :: cs, m, s, rest, x, y, h => by
    by_cases h0 : c = 0
    · subst h0
      obtain ⟨cs', h1, h2⟩ := pop_loop n cs m s rest x y (by simp at h; omega)
      refine ⟨cs', by simp; omega, ?_⟩
      rw [← h2, whileL_succ]
      have e : (0 : Int) < (cs.length : Int) + 1 := by omega
      simp [DS, b1_lenR (vs := iv 0 :: cs.map iv), sub_ref (vs := iv 0 :: cs.map iv), e]
    · refine ⟨c :: cs, Nat.le_refl _, ?_⟩
      rw [whileL_succ]
      have e : (0 : Int) < (cs.length : Int) + 1 := by omega
      simp [DS, b1_lenR (vs := iv c :: cs.map iv), sub_ref (vs := iv c :: cs.map iv), e, h0]
theorem draw_run {hp rest : List AO} (D : DSt hp rest) {m : Int} (h0 : 0 < m) (h1 : m < B30) : ∃ v hp', f__law_draw.run [.ref 1, iv m] hp = some (.av (iv v), hp') ∧ DSt hp' rest ∧ 0 ≤ v ∧ v < m := by
  obtain ⟨cs, s, hl, rfl⟩ := D
  obtain ⟨cs', q1, q2⟩ := pop_loop FUEL cs m s rest .emp .emp (by unfold FUEL; omega)
  cases cs' with
  | nil =>
    refine ⟨(s * 48271 + 12345) % 2147483647 / 64 % m, DS [] ((s * 48271 + 12345) % 2147483647) ++ rest, ?_, ⟨[], _, by simp, rfl⟩, Int.emod_nonneg _ (by omega), Int.emod_lt_of_pos _ h0⟩
    have e : (DS cs s ++ rest)[1]? = some (.lst [.ref 0, iv s]) := rfl
    simp [f__law_draw, runB, ss__law_draw, sub_ref e, q2]
    simp [DS, b1_lenR (vs := []), sub_ref (vs := [.ref 0, iv s]), atD, ixD, h0]
  | cons c cs' =>
    refine ⟨c % m, DS (c / m :: cs') s ++ rest, ?_, ⟨_, _, by simp at q1 ⊢; omega, rfl⟩, Int.emod_nonneg _ (by omega), Int.emod_lt_of_pos _ h0⟩
    have e : (DS cs s ++ rest)[1]? = some (.lst [.ref 0, iv s]) := rfl
    have e2 : (0 : Int) < (cs'.length : Int) + 1 := by omega
    simp at h1
    simp [f__law_draw, runB, ss__law_draw, sub_ref e, q2]
    simp [DS, b1_lenR (vs := iv c :: cs'.map iv), sub_ref (vs := iv c :: cs'.map iv), ixD, h0, h1, e2]
end Sv

/-! Sv: disks. -/
namespace Sv
open PySem
/-- Disk.__init__(self, contents): 0 self 1 contents 2 row -/
def ss_Disk_init : Ss := (.cons (.setAttr ⟨#[68, 105, 115, 107]⟩ (.var 0) ⟨#[100, 117, 114, 97, 98, 108, 101]⟩ (.alloc (.comp (.b1 .list (.var 2)) [2] (.seq (.var 1)) .nil)))
  (.cons (.setAttr ⟨#[68, 105, 115, 107]⟩ (.var 0) ⟨#[112, 101, 110, 100, 105, 110, 103]⟩ (.alloc (.lst .nil)))
  .nil))
def f_Disk_init : Fn := ⟨⟨#[95, 95, 105, 110, 105, 116, 95, 95]⟩, runB 3 2 ss_Disk_init⟩
/-- Disk.barrier(self): 0 self 1 sector 2 words -/
def ss_Disk_barrier : Ss := (.cons (.for_ [1, 2] (.seq (.attr ⟨#[68, 105, 115, 107]⟩ (.var 0) ⟨#[112, 101, 110, 100, 105, 110, 103]⟩)) (.cons (.setIxE (.attr ⟨#[68, 105, 115, 107]⟩ (.var 0) ⟨#[100, 117, 114, 97, 98, 108, 101]⟩) (.var 1) (.b1 .list (.var 2)))
  .nil))
  (.cons (.setAttr ⟨#[68, 105, 115, 107]⟩ (.var 0) ⟨#[112, 101, 110, 100, 105, 110, 103]⟩ (.alloc (.lst .nil)))
  .nil))
def f_Disk_barrier : Fn := ⟨⟨#[98, 97, 114, 114, 105, 101, 114]⟩, runB 3 1 ss_Disk_barrier⟩
/-- Disk.write(self, sector, words): 0 self 1 sector 2 words -/
def ss_Disk_write : Ss := (.cons (.appendE (.attr ⟨#[68, 105, 115, 107]⟩ (.var 0) ⟨#[112, 101, 110, 100, 105, 110, 103]⟩) (.tup (.cons (.var 1) (.cons (.b1 .list (.var 2)) .nil))))
  .nil)
def f_Disk_write : Fn := ⟨⟨#[119, 114, 105, 116, 101]⟩, runB 3 3 ss_Disk_write⟩
/-- Disk.look(self, sector): 0 self 1 sector 2 words 3 at 4 written -/
def ss_Disk_look : Ss := (.cons (.set 2 (.sub (.attr ⟨#[68, 105, 115, 107]⟩ (.var 0) ⟨#[100, 117, 114, 97, 98, 108, 101]⟩) (.var 1)))
  (.cons (.for_ [3, 4] (.seq (.attr ⟨#[68, 105, 115, 107]⟩ (.var 0) ⟨#[112, 101, 110, 100, 105, 110, 103]⟩)) (.cons (.ite (.cmp .eq (.var 3) (.var 1)) (.cons (.set 2 (.var 4))
  .nil) .nil)
  .nil))
  (.cons (.ret (.b1 .list (.var 2)))
  .nil)))
def f_Disk_look : Fn := ⟨⟨#[108, 111, 111, 107]⟩, runB 5 2 ss_Disk_look⟩
/-- Disk.snapshot(self): 0 self 1 durable 2 row 3 sector 4 words -/
def ss_Disk_snapshot : Ss := (.cons (.set 1 (.b1 .tuple (.comp (.b1 .tuple (.var 2)) [2] (.seq (.attr ⟨#[68, 105, 115, 107]⟩ (.var 0) ⟨#[100, 117, 114, 97, 98, 108, 101]⟩)) .nil)))
  (.cons (.ret (.tup (.cons (.var 1) (.cons (.b1 .tuple (.comp (.tup (.cons (.var 3) (.cons (.b1 .tuple (.var 4)) .nil))) [3, 4] (.seq (.attr ⟨#[68, 105, 115, 107]⟩ (.var 0) ⟨#[112, 101, 110, 100, 105, 110, 103]⟩)) .nil)) .nil))))
  .nil))
def f_Disk_snapshot : Fn := ⟨⟨#[115, 110, 97, 112, 115, 104, 111, 116]⟩, runB 5 1 ss_Disk_snapshot⟩

abbrev cDisk : Str := ⟨#[68, 105, 115, 107]⟩
abbrev aDur : Str := ⟨#[100, 117, 114, 97, 98, 108, 101]⟩
abbrev aPen : Str := ⟨#[112, 101, 110, 100, 105, 110, 103]⟩
/-- rows of a disk, writes that pend -/
def rowV (w : List PyData) : AV := .dat (.list w)
def wrD (p : Int × List PyData) : PyData := .tuple [.int p.1, .list p.2]
def wrV (p : Int × List PyData) : AV := .dat (wrD p)
/-- a disk stands at d, its lists at r1 and r2 -/
structure DiskAt (hp : List AO) (d r1 r2 : Nat) (dur : List (List PyData)) (pen : List (Int × List PyData)) : Prop where
  ob : hp[d]? = some (.ins cDisk [(aDur, .ref r1), (aPen, .ref r2)])
  du : hp[r1]? = some (.lst (dur.map rowV))
  pe : hp[r2]? = some (.lst (pen.map wrV))
/-- nothing but the places of S has changed; new places may have come -/
structure Fm (S : Nat → Prop) (hp hp' : List AO) : Prop where
  le : hp.length ≤ hp'.length
  eq : ∀ i, i < hp.length → ¬ S i → hp'[i]? = hp[i]?
theorem Fm.refl {S : Nat → Prop} {hp : List AO} : Fm S hp hp := ⟨Nat.le_refl _, fun _ _ _ => rfl⟩
theorem Fm.trans {S : Nat → Prop} {h1 h2 h3 : List AO} (a : Fm S h1 h2) (b : Fm S h2 h3) : Fm S h1 h3 := ⟨Nat.le_trans a.le b.le, fun i hi hs => (b.eq i (Nat.lt_of_lt_of_le hi a.le) hs).trans (a.eq i hi hs)⟩
theorem Fm.mono {S T : Nat → Prop} {h1 h2 : List AO} (a : Fm S h1 h2) (h : ∀ i, i < h1.length → S i → T i) : Fm T h1 h2 := ⟨a.le, fun i hi hs => a.eq i hi fun z => hs (h i hi z)⟩
theorem Fm.get {S : Nat → Prop} {h1 h2 : List AO} (a : Fm S h1 h2) {i : Nat} {o : AO} (h : h1[i]? = some o) (hs : ¬ S i) : h2[i]? = some o := by
  rw [a.eq i (List.getElem?_eq_some_iff.mp h).1 hs]
  exact h
theorem DiskAt.lt {hp : List AO} {d r1 r2 : Nat} {dur : List (List PyData)} {pen : List (Int × List PyData)} (D : DiskAt hp d r1 r2 dur pen) : d < hp.length ∧ r1 < hp.length ∧ r2 < hp.length ∧ d ≠ r1 ∧ d ≠ r2 :=
  ⟨(List.getElem?_eq_some_iff.mp D.ob).1, (List.getElem?_eq_some_iff.mp D.du).1, (List.getElem?_eq_some_iff.mp D.pe).1, (fun e => by have h := D.ob; rw [e, D.du] at h; cases h), (fun e => by have h := D.ob; rw [e, D.pe] at h; cases h)⟩
theorem DiskAt.keep {S : Nat → Prop} {h1 h2 : List AO} {d r1 r2 : Nat} {dur : List (List PyData)} {pen : List (Int × List PyData)} (D : DiskAt h1 d r1 r2 dur pen) (f : Fm S h1 h2) (a : ¬ S d) (b : ¬ S r1) (c : ¬ S r2) : DiskAt h2 d r1 r2 dur pen :=
  ⟨f.get D.ob a, f.get D.du b, f.get D.pe c⟩
/-! ### loops over a list of the heap -/
/-- a comprehension over a heap list that it does not change -/
theorem compS_map {tg : List Nat} {test : MS → Option (Bool × MS)} {elt : MS → Option (RV × MS)} (p : PyData → Bool) (f : PyData → PyData) (ms : MS) (r : Nat) (all : List PyData) (hr : ms.hp[r]? = some (.lst (all.map .dat))) : ∀ (xs acc : List PyData) (n i : Nat), all.drop i = xs → xs.length < n →
    (∀ x ∈ xs, ∃ rho, bindT tg x ms.rho = some rho ∧ test ⟨rho, ms.hp⟩ = some (p x, ⟨rho, ms.hp⟩) ∧ (p x = true → ∃ rv, elt ⟨rho, ms.hp⟩ = some (rv, ⟨rho, ms.hp⟩) ∧ rv.d? = some (f x)) ∧ plainAt tg rho = true ∧ wipeR tg rho = ms.rho) →
    acc.length + xs.length ≤ 16777216 → compS tg test elt (.heap r) n i acc ms = some (acc ++ (xs.filter p).map f, ms)
  | xs, acc, 0, i, _, h, _, _ => by omega
  | [], acc, n + 1, i, hd, _, _, _ => by
    have e : (all.map AV.dat)[i]? = none := by
      rw [List.getElem?_eq_none_iff]
      have := congrArg List.length hd
      simp at this
      simp; omega
    rw [compS.eq_2]
    simp only [Src.item, hr, e]
    simp
  | x :: xs, acc, n + 1, i, hd, hn, h, hl => by
    have hlt : i < all.length := by
      have := congrArg List.length hd
      simp at this
      omega
    rw [List.drop_eq_getElem_cons hlt] at hd
    have e1 : (all.map AV.dat)[i]? = some (.dat x) := by
      rw [List.getElem?_map, List.getElem?_eq_getElem hlt, (List.cons.inj hd).1]
      rfl
    obtain ⟨rho, h1, h2, h3, h4, h5⟩ := h x (List.mem_cons_self ..)
    have ih := fun acc hl => compS_map (tg := tg) (test := test) (elt := elt) p f ms r all hr xs acc n (i + 1) (List.cons.inj hd).2 (by simp at hn; omega) (fun y hy => h y (List.mem_cons_of_mem _ hy)) hl
    rw [compS.eq_2]
    simp only [Src.item, hr, e1, h1, h2]
    cases hp : p x with
    | false =>
      simp only [h4, if_true]
      rw [h5, ih acc (by simp at hl; omega)]
      simp [hp]
    | true =>
      obtain ⟨rv, e1, e2⟩ := h3 hp
      have hlt : acc.length < LINE := by simp at hl ⊢; omega
      simp only [e1, e2, if_pos hlt, h4, if_true]
      rw [h5, ih (acc ++ [f x]) (by simp at hl ⊢; omega)]
      simp [hp]
/-- a for over a heap list that its body does not change -/
theorem forS_inv {tg : List Nat} {body : MS → Option (Out × MS)} {r : Nat} {all : List PyData} (P : Nat → MS → Prop) (hr : ∀ n ms, P n ms → ms.hp[r]? = some (.lst (all.map .dat))) : ∀ (xs : List PyData) (n i : Nat) (ms : MS), all.drop i = xs → i ≤ all.length → xs.length < n → P i ms →
    (∀ j d ms, all[j]? = some d → P j ms → ∃ rho ms1, bindT tg d ms.rho = some rho ∧ body ⟨rho, ms.hp⟩ = some (.nx, ms1) ∧ P (j + 1) ms1) →
    ∃ ms', forS tg body (.heap r) n i ms = some (.nx, ms') ∧ P all.length ms'
  | xs, 0, i, ms, _, _, h, _, _ => by omega
  | [], n + 1, i, ms, hd, hi, _, hp, _ => by
    have hl : all.length ≤ i := by
      have := congrArg List.length hd
      simp at this
      omega
    have e : (all.map AV.dat)[i]? = none := by
      rw [List.getElem?_eq_none_iff]
      simp; omega
    have e2 : i = all.length := by omega
    subst e2
    exact ⟨ms, by rw [forS.eq_2]; simp only [Src.item, hr _ ms hp, e], hp⟩
  | x :: xs, n + 1, i, ms, hd, hi, hn, hp, h => by
    have hlt : i < all.length := by
      have := congrArg List.length hd
      simp at this
      omega
    rw [List.drop_eq_getElem_cons hlt] at hd
    have e0 : all[i]? = some x := by rw [List.getElem?_eq_getElem hlt, (List.cons.inj hd).1]
    have e1 : (all.map AV.dat)[i]? = some (.dat x) := by rw [List.getElem?_map, e0]; rfl
    obtain ⟨rho, ms1, q1, q2, q3⟩ := h i x ms e0 hp
    obtain ⟨ms', q4, q5⟩ := forS_inv P hr xs n (i + 1) ms1 (List.cons.inj hd).2 hlt (by simp at hn; omega) q3 h
    refine ⟨ms', ?_, q5⟩
    rw [forS.eq_2]
    simp only [Src.item, hr _ ms hp, e1, q1, q2]
    exact q4

/-! ### what the methods do -/
theorem keys_ne1 : (aPen == aDur) = false := by decide
theorem keys_ne2 : (aDur == aPen) = false := by decide
theorem look_dur {a b : AV} : [(aDur, a), (aPen, b)].lookup aDur = some a := by simp [List.lookup]
theorem look_pen {a b : AV} : [(aDur, a), (aPen, b)].lookup aPen = some b := by simp [List.lookup, keys_ne1]
theorem look_no {a b : AV} {m : Str} (h1 : (m == aDur) = false) (h2 : (m == aPen) = false) : [(aDur, a), (aPen, b)].lookup m = none := by simp [List.lookup, h1, h2]
theorem get_dur {hp : List AO} {d r1 r2 : Nat} {dur : List (List PyData)} {pen : List (Int × List PyData)} (D : DiskAt hp d r1 r2 dur pen) {b : Bool} {a : E} {ms ms1 : MS} (h : ev true a ms = some (.av (.ref d), ms1)) (hh : ms1.hp = hp) : ev b (.attr cDisk a aDur) ms = some (.av (.ref r1), ms1) := by
  subst hh
  simp [h, D.ob, look_dur]
theorem get_pen {hp : List AO} {d r1 r2 : Nat} {dur : List (List PyData)} {pen : List (Int × List PyData)} (D : DiskAt hp d r1 r2 dur pen) {b : Bool} {a : E} {ms ms1 : MS} (h : ev true a ms = some (.av (.ref d), ms1)) (hh : ms1.hp = hp) : ev b (.attr cDisk a aPen) ms = some (.av (.ref r2), ms1) := by
  subst hh
  simp [h, D.ob, look_pen]
/-- a row of the contents that a disk is made of: a list or a tuple -/
def rowD : PyData → Option (List PyData)
  | .list xs => some xs
  | .tuple xs => some xs
  | _ => none
theorem disk_write {hp : List AO} {d r1 r2 : Nat} {dur : List (List PyData)} {pen : List (Int × List PyData)} (D : DiskAt hp d r1 r2 dur pen) (hne : r1 ≠ r2) (hl : pen.length < 16777216) (k : Int) (w : PyData) (ws : List PyData) (hw : rowD w = some ws) :
    ∃ hp', f_Disk_write.run [.ref d, iv k, .dat w] hp = some (.av (.dat .none), hp') ∧ DiskAt hp' d r1 r2 dur (pen ++ [(k, ws)]) ∧ Fm (fun i => i = r2) hp hp' ∧ hp'.length = hp.length := by
  obtain ⟨l1, l2, l3, n1, n2⟩ := D.lt
  refine ⟨hp.set r2 (.lst ((pen ++ [(k, ws)]).map wrV)), ?_, ⟨by rw [List.getElem?_set_ne (Ne.symm n2)]; exact D.ob, by rw [List.getElem?_set_ne (Ne.symm hne)]; exact D.du, by rw [List.getElem?_set_self l3]⟩, ⟨by simp, fun i hi hs => by rw [List.getElem?_set_ne (Ne.symm hs)]⟩, by simp⟩
  have hb : b1V hp .list (.av (.dat w)) = some (.lst ws) := by
    cases w <;> simp [rowD] at hw <;> subst hw <;> rfl
  simp [f_Disk_write, runB, ss_Disk_write, D.ob, D.pe, look_pen, hb, allD, hl]
  rfl

@[simp] theorem bind_two {i j : Nat} {a b : PyData} {rho : List Slot} (h1 : i < rho.length) (h2 : j < rho.length) : bindT [i, j] (.tuple [a, b]) rho = some ((rho.set i (.av (.dat a))).set j (.av (.dat b))) := by
  simp [bindT, bindT.bindN, h1, h2]
@[simp] theorem bind_three {i j k : Nat} {a b c : PyData} {rho : List Slot} (h1 : i < rho.length) (h2 : j < rho.length) (h3 : k < rho.length) : bindT [i, j, k] (.tuple [a, b, c]) rho = some (((rho.set i (.av (.dat a))).set j (.av (.dat b))).set k (.av (.dat c))) := by
  simp [bindT, bindT.bindN, h1, h2, h3]
/-- the writes that pend reach the disk -/
def applyW (dur : List (List PyData)) : List (Int × List PyData) → List (List PyData)
  | [] => dur
  | p :: r => applyW (dur.set p.1.toNat p.2) r
theorem applyW_len : ∀ (pen : List (Int × List PyData)) (dur : List (List PyData)), (applyW dur pen).length = dur.length
  | [], _ => rfl
  | p :: r, dur => by
    show (applyW (dur.set p.1.toNat p.2) r).length = _
    rw [applyW_len r]
    simp
theorem applyW_snoc : ∀ (pen : List (Int × List PyData)) (p : Int × List PyData) (dur : List (List PyData)), applyW dur (pen ++ [p]) = (applyW dur pen).set p.1.toNat p.2
  | [], _, _ => rfl
  | q :: r, p, dur => applyW_snoc r p (dur.set q.1.toNat q.2)
theorem set_rowV (xs : List (List PyData)) (j : Nat) (w : List PyData) : (xs.map rowV).set j (.dat (.list w)) = (xs.set j w).map rowV := by
  rw [List.map_set]
  rfl
theorem disk_barrier {hp : List AO} {d r1 r2 : Nat} {dur : List (List PyData)} {pen : List (Int × List PyData)} (D : DiskAt hp d r1 r2 dur pen) (hne : r1 ≠ r2) (hw : ∀ p ∈ pen, 0 ≤ p.1 ∧ p.1 < dur.length) (hl : pen.length < 1000000000) :
    ∃ hp', f_Disk_barrier.run [.ref d] hp = some (.av (.dat .none), hp') ∧ DiskAt hp' d r1 hp.length (applyW dur pen) [] ∧ Fm (fun i => i = d ∨ i = r1) hp hp' := by
  obtain ⟨l1, l2, l3, n1, n2⟩ := D.lt
  have stay : ∀ xs : List AV, (hp.set r1 (.lst xs))[d]? = some (.ins cDisk [(aDur, .ref r1), (aPen, .ref r2)]) := fun xs => by
    rw [List.getElem?_set_ne (Ne.symm n1)]; exact D.ob
  have stay2 : ∀ xs : List AV, (hp.set r1 (.lst xs))[r2]? = some (.lst (pen.map wrV)) := fun xs => by
    rw [List.getElem?_set_ne hne]; exact D.pe
  have stay3 : ∀ xs : List AV, (hp.set r1 (.lst xs))[r1]? = some (.lst xs) := fun xs => List.getElem?_set_self l2
  have hall : (pen.map wrD).map AV.dat = pen.map wrV := by simp [wrV]
  obtain ⟨ms', e1, s1, s2, rfl⟩ := forS_inv (tg := [1, 2]) (body := exs (.cons (.setIxE (.attr cDisk (.var 0) aDur) (.var 1) (.b1 .list (.var 2))) .nil)) (r := r2) (all := pen.map wrD)
    (fun i ms => ∃ s1 s2, ms = ⟨[.av (.ref d), s1, s2], hp.set r1 (.lst ((applyW dur (pen.take i)).map rowV))⟩) (fun i ms ⟨s1, s2, e⟩ => by rw [e, hall]; exact stay2 _)
    (pen.map wrD) FUEL 0 ⟨[.av (.ref d), .emp, .emp], hp⟩ (by simp) (by simp) (by simp [FUEL]; omega) ⟨.emp, .emp, by
      have : hp.set r1 (.lst (dur.map rowV)) = hp := by
        apply List.ext_getElem?
        intro i
        by_cases h : i = r1
        · subst h; rw [List.getElem?_set_self l2, D.du]
        · rw [List.getElem?_set_ne (Ne.symm h)]
      simp [applyW, this]⟩ (by
      rintro j x ms hj ⟨s1, s2, rfl⟩
      rw [List.getElem?_map] at hj
      cases hp0 : pen[j]? with
      | none => rw [hp0] at hj; cases hj
      | some p =>
        rw [hp0] at hj
        cases hj
        obtain ⟨k, w⟩ := p
        have hk := hw (k, w) (List.mem_of_getElem? hp0)
        have ht : pen.take (j + 1) = pen.take j ++ [(k, w)] := by
          rw [List.take_add_one, hp0]; rfl
        have hix : ixD (dur.length) k = some k.toNat := by
          unfold ixD
          rw [if_neg (by have := hk.1; simp at this; omega), if_pos (by have := hk.2; simpa using this)]
        refine ⟨[.av (.ref d), .av (iv k), .av (.dat (.list w))], ⟨[.av (.ref d), .av (iv k), .av (.dat (.list w))], hp.set r1 (.lst ((applyW dur (pen.take (j + 1))).map rowV))⟩, by simp [wrD], ?_, _, _, rfl⟩
        simp [stay, stay3, look_dur, applyW_len, hix]
        rw [set_rowV, ht, applyW_snoc])
  refine ⟨((hp.set r1 (.lst ((applyW dur pen).map rowV))) ++ [AO.lst []]).set d (.ins cDisk [(aDur, .ref r1), (aPen, .ref hp.length)]), ?_, ?_, ?_⟩
  · have e2 : pen.take (pen.map wrD).length = pen := by simp
    rw [e2] at e1
    have g : (hp.set r1 (.lst ((applyW dur pen).map rowV)) ++ [AO.lst []])[d]? = some (.ins cDisk [(aDur, .ref r1), (aPen, .ref r2)]) := by
      rw [List.getElem?_append_left (by simpa using l1)]; exact stay _
    have e3 : hp[d]? = some (.ins cDisk [(aDur, .ref r1), (aPen, .ref r2)]) := D.ob
    simp [f_Disk_barrier, runB, ss_Disk_barrier, e3, look_pen, D.pe, e1, g, putA]
  · refine ⟨?_, ?_, ?_⟩
    · rw [List.getElem?_set_self (by simp; omega)]
    · rw [List.getElem?_set_ne n1, List.getElem?_append_left (by simpa using l2)]
      exact stay3 _
    · rw [List.getElem?_set_ne (by omega), List.getElem?_append_right (by simp)]
      simp
  · refine ⟨by simp, fun i hi hs => ?_⟩
    rw [List.getElem?_set_ne (fun e => hs (.inl e.symm)), List.getElem?_append_left (by simpa using hi), List.getElem?_set_ne (fun e => hs (.inr e.symm))]

/-- the last words written to a sector, or what it has -/
def lookP (k : Int) (w : List PyData) : List (Int × List PyData) → List PyData
  | [] => w
  | p :: r => lookP k (if p.1 = k then p.2 else w) r
theorem lookP_snoc (k : Int) : ∀ (pen : List (Int × List PyData)) (p : Int × List PyData) (w : List PyData), lookP k w (pen ++ [p]) = if p.1 = k then p.2 else lookP k w pen
  | [], _, _ => rfl
  | q :: r, p, w => lookP_snoc k r p _
theorem disk_look {hp : List AO} {d r1 r2 : Nat} {dur : List (List PyData)} {pen : List (Int × List PyData)} (D : DiskAt hp d r1 r2 dur pen) {k : Nat} {w0 : List PyData} (hk : dur[k]? = some w0) (hl : pen.length < 1000000000) :
    f_Disk_look.run [.ref d, iv k] hp = some (.lst (lookP k w0 pen), hp) := by
  have hall : (pen.map wrD).map AV.dat = pen.map wrV := by simp [wrV]
  have hlt := (List.getElem?_eq_some_iff.mp hk).1
  obtain ⟨ms', e1, s3, s4, rfl⟩ := forS_inv (tg := [3, 4]) (body := exs (.cons (.ite (.cmp .eq (.var 3) (.var 1)) (.cons (.set 2 (.var 4)) .nil) .nil) .nil)) (r := r2) (all := pen.map wrD)
    (fun i ms => ∃ s3 s4, ms = ⟨[.av (.ref d), .av (iv k), .av (.dat (.list (lookP k w0 (pen.take i)))), s3, s4], hp⟩) (fun i ms ⟨s3, s4, e⟩ => by rw [e, hall]; exact D.pe)
    (pen.map wrD) FUEL 0 ⟨[.av (.ref d), .av (iv k), .av (.dat (.list w0)), .emp, .emp], hp⟩ (by simp) (by simp) (by simp [FUEL]; omega) ⟨.emp, .emp, by simp [lookP]⟩ (by
      rintro j x ms hj ⟨s3, s4, rfl⟩
      rw [List.getElem?_map] at hj
      cases hp0 : pen[j]? with
      | none => rw [hp0] at hj; cases hj
      | some p =>
        rw [hp0] at hj
        cases hj
        obtain ⟨q, w⟩ := p
        have ht : pen.take (j + 1) = pen.take j ++ [(q, w)] := by
          rw [List.take_add_one, hp0]; rfl
        refine ⟨[.av (.ref d), .av (iv k), .av (.dat (.list (lookP k w0 (pen.take j)))), .av (iv q), .av (.dat (.list w))], ⟨[.av (.ref d), .av (iv k), .av (.dat (.list (lookP k w0 (pen.take (j + 1))))), .av (iv q), .av (.dat (.list w))], hp⟩, by simp [wrD], ?_, _, _, rfl⟩
        rw [ht, lookP_snoc]
        by_cases c : q = k
        · simp [c]
        · simp [c])
  have e2 : pen.take (pen.map wrD).length = pen := by simp
  rw [e2] at e1
  have e3 : hp[d]? = some (.ins cDisk [(aDur, .ref r1), (aPen, .ref r2)]) := D.ob
  have e4 : atD (dur.map rowV) (k : Int) = some (rowV w0) := by
    rw [atD_nat (by simpa using hlt)]
    simp
    rw [List.getElem?_eq_getElem hlt] at hk
    cases hk
    rfl
  simp [f_Disk_look, runB, ss_Disk_look, e3, look_dur, look_pen, sub_ref D.du, e4, rowV, D.pe, e1]
def snapD (dur : List (List PyData)) (pen : List (Int × List PyData)) : PyData := .tuple [.tuple (dur.map .tuple), .tuple (pen.map fun p => .tuple [.int p.1, .tuple p.2])]
theorem disk_snapshot {hp : List AO} {d r1 r2 : Nat} {dur : List (List PyData)} {pen : List (Int × List PyData)} (D : DiskAt hp d r1 r2 dur pen) (h1 : dur.length ≤ 16777216) (hl : pen.length ≤ 16777216) :
    f_Disk_snapshot.run [.ref d] hp = some (.av (.dat (snapD dur pen)), hp) := by
  have hall : (pen.map wrD).map AV.dat = pen.map wrV := by simp [wrV]
  have hdl : (dur.map PyData.list).map AV.dat = dur.map rowV := by simp [rowV]
  have e3 : hp[d]? = some (.ins cDisk [(aDur, .ref r1), (aPen, .ref r2)]) := D.ob
  have c1 := compS_map (tg := [2]) (test := evC .nil) (elt := ev false (.b1 .tuple (.var 2))) (fun _ => true) (fun x => match x with | .list w => .tuple w | x => x) ⟨[.av (.ref d), .emp, .emp, .emp, .emp], hp⟩ r1 (dur.map .list) (by rw [hdl]; exact D.du)
    (dur.map .list) [] FUEL 0 (by simp) (by simp [FUEL]; omega) (by
      intro x hx
      obtain ⟨w, _, rfl⟩ := List.mem_map.mp hx
      exact ⟨[.av (.ref d), .emp, .av (.dat (.list w)), .emp, .emp], by simp, by simp, fun _ => ⟨.av (.dat (.tuple w)), by simp, by simp⟩, rfl, rfl⟩) (by simpa using h1)
  have c2 := fun s1 : PyData => compS_map (tg := [3, 4]) (test := evC .nil) (elt := ev false (.tup (.cons (.var 3) (.cons (.b1 .tuple (.var 4)) .nil)))) (fun _ => true) (fun x => match x with | .tuple [a, .list w] => .tuple [a, .tuple w] | x => x) ⟨[.av (.ref d), .av (.dat s1), .emp, .emp, .emp], hp⟩ r2 (pen.map wrD) (by rw [hall]; exact D.pe)
    (pen.map wrD) [] FUEL 0 (by simp) (by simp [FUEL]; omega) (by
      intro x hx
      obtain ⟨⟨q, w⟩, _, rfl⟩ := List.mem_map.mp hx
      exact ⟨[.av (.ref d), .av (.dat s1), .emp, .av (iv q), .av (.dat (.list w))], by simp [wrD], by simp, fun _ => ⟨.av (.dat (.tuple [.int q, .tuple w])), by simp, by simp [wrD]⟩, rfl, rfl⟩) (by simpa using hl)
  rw [List.filter_eq_self.mpr (fun _ _ => rfl)] at c1
  have c2 := fun s1 : PyData => by
    have := c2 s1
    rw [List.filter_eq_self.mpr (fun _ _ => rfl)] at this
    exact this
  simp at c1 c2
  have f1 : (fun x => match x with | PyData.list w => PyData.tuple w | x => x) ∘ PyData.list = PyData.tuple := rfl
  have f2 : (fun x => match x with | PyData.tuple [a, .list w] => PyData.tuple [a, .tuple w] | x => x) ∘ wrD = fun p => .tuple [.int p.1, .tuple p.2] := rfl
  rw [f1] at c1
  rw [f2] at c2
  simp [f_Disk_snapshot, runB, ss_Disk_snapshot, e3, look_dur, look_pen, D.du, D.pe, plainAt, wipeR, c1, c2, back, snapD]
/-- Disk(contents) -/
theorem disk_new {hp : List AO} {rows : List PyData} {wss : List (List PyData)} (hr : rows.map rowD = wss.map some) (hl : rows.length ≤ 16777216) :
    f_Disk_init.run [.ref hp.length, .dat (.tuple rows)] (hp ++ [.ins cDisk []]) = some (.av (.dat .none), hp ++ [.ins cDisk [(aDur, .ref (hp.length + 1)), (aPen, .ref (hp.length + 2))], .lst (wss.map rowV), .lst []]) := by
  have c1 := compL_map (tg := [2]) (test := evC .nil) (elt := ev false (.b1 .list (.var 2))) (fun _ => true) (fun x => match rowD x with | some w => .list w | none => x) ⟨[.av (.ref hp.length), .av (.dat (.tuple rows)), .emp], hp ++ [.ins cDisk []]⟩ rows [] (by
      intro x hx
      have : ∃ w, rowD x = some w := by
        have h2 : rowD x ∈ wss.map some := by rw [← hr]; exact List.mem_map_of_mem hx
        obtain ⟨w, _, e⟩ := List.mem_map.mp h2
        exact ⟨w, e.symm⟩
      obtain ⟨w, e⟩ := this
      refine ⟨[.av (.ref hp.length), .av (.dat (.tuple rows)), .av (.dat x)], by simp, by simp, fun _ => ⟨.lst w, ?_, by simp [e]⟩, rfl, rfl⟩
      cases x <;> simp [rowD] at e <;> subst e <;> simp) (by simpa using hl)
  rw [List.filter_eq_self.mpr (fun _ _ => rfl)] at c1
  have e5 : rows.map (fun x => match rowD x with | some w => PyData.list w | none => x) = wss.map .list := by
    have : ∀ (rows : List PyData) (wss : List (List PyData)), rows.map rowD = wss.map some → rows.map (fun x => match rowD x with | some w => PyData.list w | none => x) = wss.map .list := by
      intro rows
      induction rows with
      | nil => intro wss h; cases wss with
        | nil => rfl
        | cons _ _ => simp at h
      | cons x rows ih => intro wss h; cases wss with
        | nil => simp at h
        | cons w wss =>
          simp at h
          simp [h.1]
          exact ih wss (by simpa using h.2)
    exact this rows wss hr
  rw [e5] at c1
  simp at c1
  simp [f_Disk_init, runB, ss_Disk_init, plainAt, wipeR, c1, back, putA]
  exact fun a _ => rfl

/-! ### draws beside other objects -/
def DrawOk (hp : List AO) : Prop := ∃ (cs : List Int) (s : Int), cs.length ≤ 63 ∧ hp[0]? = some (.lst (cs.map iv)) ∧ hp[1]? = some (.lst [.ref 0, iv s])
theorem draw_of {hp : List AO} (D : DSt hp []) : DrawOk hp ∧ hp.length = 2 := by
  obtain ⟨cs, s, h, rfl⟩ := D
  exact ⟨⟨cs, s, h, rfl, rfl⟩, rfl⟩
theorem DrawOk.keep {S : Nat → Prop} {h1 h2 : List AO} (D : DrawOk h1) (f : Fm S h1 h2) (a : ¬ S 0) (b : ¬ S 1) : DrawOk h2 := by
  obtain ⟨cs, s, h, e1, e2⟩ := D
  exact ⟨cs, s, h, f.get e1 a, f.get e2 b⟩
/-- the draws' own places -/
def two (i : Nat) : Prop := i < 2
theorem draw_fm {hp : List AO} (D : DrawOk hp) {m : Int} (h0 : 0 < m) (h1 : m < B30) : ∃ v hp', f__law_draw.run [.ref 1, iv m] hp = some (.av (iv v), hp') ∧ DrawOk hp' ∧ Fm two hp hp' ∧ 0 ≤ v ∧ v < m := by
  obtain ⟨cs, s, hl, e1, e2⟩ := D
  have e : hp = DS cs s ++ hp.drop 2 := by
    cases hp with
    | nil => simp at e1
    | cons a r => cases r with
      | nil => simp at e2
      | cons b r =>
        simp at e1 e2
        subst e1 e2
        rfl
  obtain ⟨v, hp', q1, ⟨cs', s', q2, q3⟩, q4, q5⟩ := draw_run (hp := hp) (rest := hp.drop 2) ⟨cs, s, hl, e⟩ h0 h1
  refine ⟨v, hp', q1, ⟨cs', s', q2, by rw [q3]; rfl, by rw [q3]; rfl⟩, ⟨by rw [q3]; rw [e]; simp [DS], fun i hi hs => ?_⟩, q4, q5⟩
  have h2 : 2 ≤ i := by unfold two at hs; omega
  rw [q3]
  conv => rhs; rw [e]
  rw [List.getElem?_append_right (by simp [DS]; exact h2), List.getElem?_append_right (by simp [DS]; exact h2)]
  simp [DS]
/-- a comprehension whose values change the heap -/
theorem compL_rel {tg : List Nat} {elt : MS → Option (RV × MS)} {rho0 : List Slot} (I : List AO → Prop) (R : PyData → PyData → Prop) : ∀ (xs acc : List PyData) (hp : List AO), I hp →
    (∀ x ∈ xs, ∀ hp, I hp → ∃ rho rv d hp', bindT tg x rho0 = some rho ∧ elt ⟨rho, hp⟩ = some (rv, ⟨rho, hp'⟩) ∧ rv.d? = some d ∧ R x d ∧ I hp' ∧ plainAt tg rho = true ∧ wipeR tg rho = rho0) →
    acc.length + xs.length ≤ 16777216 → ∃ ds hp', compL tg (evC .nil) elt xs acc ⟨rho0, hp⟩ = some (acc ++ ds, ⟨rho0, hp'⟩) ∧ I hp' ∧ ds.length = xs.length ∧ ∀ d ∈ ds, ∃ x ∈ xs, R x d
  | [], acc, hp, hi, _, _ => ⟨[], hp, by simp [compL], hi, rfl, by simp⟩
  | x :: xs, acc, hp, hi, h, hl => by
    obtain ⟨rho, rv, d, hp', h1, h2, h3, h4, h5, h6, h7⟩ := h x (List.mem_cons_self ..) hp hi
    obtain ⟨ds, hp2, q1, q2, q3, q4⟩ := compL_rel (tg := tg) (elt := elt) I R xs (acc ++ [d]) hp' h5 (fun y hy => h y (List.mem_cons_of_mem _ hy)) (by simp at hl ⊢; omega)
    refine ⟨d :: ds, hp2, ?_, q2, by simp [q3], fun z hz => ?_⟩
    · have hlt : acc.length < LINE := by simp at hl ⊢; omega
      unfold compL
      rw [h1]
      simp only [evCe_0, h2, h3, if_pos hlt, h6, if_true]
      rw [h7, q1]
      simp
    · rcases List.mem_cons.mp hz with rfl | hz
      · exact ⟨x, List.mem_cons_self .., h4⟩
      · obtain ⟨y, hy, r⟩ := q4 z hz
        exact ⟨y, List.mem_cons_of_mem _ hy, r⟩
/-! ### data equal to itself, its depth -/
mutual
def noDict : PyData → Bool
  | .dict _ => false
  | .list xs => noDicts xs
  | .tuple xs => noDicts xs
  | _ => true
def noDicts : List PyData → Bool
  | [] => true
  | x :: xs => noDict x && noDicts xs
end
mutual
theorem eqq_refl : ∀ d : PyData, noDict d = true → eqq d d = true
  | .none, _ => rfl
  | .bool b, _ => by simp
  | .int i, _ => by simp
  | .str x, _ => by simp
  | .list xs, h => eqqs_refl xs h
  | .tuple xs, h => eqqs_refl xs h
  | .dict _, h => by cases h
theorem eqqs_refl : ∀ d : List PyData, noDicts d = true → eqqs d d = true
  | [], _ => rfl
  | x :: xs, h => by
    have h' : noDict x = true ∧ noDicts xs = true := by simpa [noDicts] using h
    simp [eqq_refl x h'.1, eqqs_refl xs h'.2]
end
theorem noDicts_of : ∀ {xs : List PyData}, (∀ x ∈ xs, noDict x = true) → noDicts xs = true
  | [], _ => rfl
  | x :: xs, h => by
    simp [noDicts, h x (List.mem_cons_self ..), noDicts_of fun y hy => h y (List.mem_cons_of_mem _ hy)]
theorem deps_le : ∀ {xs : List PyData} {n : Nat}, (∀ x ∈ xs, dep x ≤ n) → deps xs ≤ n
  | [], _, _ => Nat.zero_le _
  | x :: xs, n, h => by
    have h1 := h x (List.mem_cons_self ..)
    have h2 := deps_le (xs := xs) (n := n) fun y hy => h y (List.mem_cons_of_mem _ hy)
    simp
    omega
/-- a word's row: ints alone -/
def Ints (xs : List PyData) : Prop := ∀ x ∈ xs, ∃ i, x = .int i
theorem Ints.dep {xs : List PyData} (h : Ints xs) : deps xs = 0 := by
  have := deps_le (xs := xs) (n := 0) fun x hx => by
    obtain ⟨i, rfl⟩ := h x hx
    simp
  omega
theorem Ints.nd {xs : List PyData} (h : Ints xs) : noDicts xs = true := noDicts_of fun x hx => by
  obtain ⟨i, rfl⟩ := h x hx
  rfl

@[simp] theorem nm1 : (f_Disk_look.name = aDur) = False := eq_false (by decide)
@[simp] theorem nm2 : (f_Disk_look.name = aPen) = False := eq_false (by decide)
@[simp] theorem nm3 : (f_Disk_write.name = aDur) = False := eq_false (by decide)
@[simp] theorem nm4 : (f_Disk_write.name = aPen) = False := eq_false (by decide)
@[simp] theorem nm5 : (f_Disk_barrier.name = aDur) = False := eq_false (by decide)
@[simp] theorem nm6 : (f_Disk_barrier.name = aPen) = False := eq_false (by decide)
@[simp] theorem nm7 : (f_Disk_snapshot.name = aDur) = False := eq_false (by decide)
@[simp] theorem nm8 : (f_Disk_snapshot.name = aPen) = False := eq_false (by decide)
/-- a sector's row -/
def Row (w : List PyData) : Prop := Ints w ∧ w.length ≤ 1000
end Sv

/-! Sv: texts. -/
namespace Sv
open PySem
def cpl (x : Str) : List Nat := x.cps.toList
theorem str_ext {x y : Str} (h : cpl x = cpl y) : x = y := by
  cases x with
  | mk a => cases y with
    | mk b =>
      have : a = b := Array.toList_inj.mp h
      rw [this]
@[simp] theorem cpl_app (x y : Str) : cpl (x ++ y) = cpl x ++ cpl y := by
  show (x.cps ++ y.cps).toList = _
  simp [cpl]
@[simp] theorem cpl_mk (l : List Nat) : cpl ⟨l.toArray⟩ = l := by simp [cpl]
theorem len_cpl (x : Str) : x.length = (cpl x).length := by
  show x.cps.size = x.cps.toList.length
  simp
@[simp] theorem len_app (x y : Str) : (x ++ y).length = x.length + y.length := by
  rw [len_cpl, len_cpl, len_cpl, cpl_app, List.length_append]
/-- texts with something between -/
def joinL (sep : List Nat) : List (List Nat) → List Nat
  | [] => []
  | [x] => x
  | x :: y :: r => x ++ sep ++ joinL sep (y :: r)
theorem cpl_join (s : Str) : ∀ ys : List Str, cpl (Str.join s ys) = joinL (cpl s) (ys.map cpl)
  | [] => rfl
  | [x] => rfl
  | x :: y :: r => by
    show cpl (x ++ s ++ Str.join s (y :: r)) = cpl x ++ cpl s ++ joinL (cpl s) ((y :: r).map cpl)
    rw [cpl_app, cpl_app, cpl_join s (y :: r)]
/-- .. with it ahead of each -/
def flatL (sep : List Nat) : List (List Nat) → List Nat
  | [] => []
  | x :: r => sep ++ x ++ flatL sep r
theorem flat_join (sep : List Nat) : ∀ ys : List (List Nat), (flatL sep ys).drop sep.length = joinL sep ys
  | [] => by simp [flatL, joinL]
  | x :: r => by
    have : ∀ (r : List (List Nat)) (x : List Nat), x ++ flatL sep r = joinL sep (x :: r) := by
      intro r
      induction r with
      | nil => intro x; simp [flatL, joinL]
      | cons y r ih =>
        intro x
        show x ++ (sep ++ y ++ flatL sep r) = x ++ sep ++ joinL sep (y :: r)
        rw [← ih y]
        simp
    rw [← this r x]
    simp [flatL]
theorem flatL_snoc (sep : List Nat) : ∀ (ys : List (List Nat)) (y : List Nat), flatL sep (ys ++ [y]) = flatL sep ys ++ sep ++ y
  | [], y => by simp [flatL]
  | x :: r, y => by
    show sep ++ x ++ flatL sep (r ++ [y]) = _
    rw [flatL_snoc sep r y]
    simp [flatL]
/-- a text of at most n signs, all of them code points -/
def Sm (n : Nat) (x : Str) : Prop := x.length ≤ n ∧ x.cps.toList.all (fun c => decide (c < 1114112)) = true
theorem Sm.app {n m : Nat} {x y : Str} (a : Sm n x) (b : Sm m y) : Sm (n + m) (x ++ y) := by
  refine ⟨by rw [len_app]; have := a.1; have := b.1; omega, ?_⟩
  have h : (x ++ y).cps.toList = x.cps.toList ++ y.cps.toList := cpl_app x y
  rw [h, List.all_append, a.2, b.2]
  rfl
theorem Sm.le {n m : Nat} {x : Str} (a : Sm n x) (h : n ≤ m) : Sm m x := ⟨Nat.le_trans a.1 h, a.2⟩
theorem Sm.dep {n : Nat} {x : Str} (a : Sm n x) : dep (.str x) = 0 := dep_str a.2
theorem Sm.join {n k : Nat} {s : Str} (hs : Sm k s) : ∀ {ys : List Str}, (∀ y ∈ ys, Sm n y) → Sm (ys.length * (n + k)) (Str.join s ys)
  | [], _ => ⟨Nat.zero_le _, rfl⟩
  | [x], h => (h x (List.mem_cons_self ..)).le (by simp)
  | x :: y :: r, h => by
    have a := h x (List.mem_cons_self ..)
    have b := Sm.join hs (ys := y :: r) fun z hz => h z (List.mem_cons_of_mem _ hz)
    refine ((a.app hs).app b).le ?_
    simp [Nat.succ_mul]
    omega
/-- an int's text -/
def istr (i : Int) : Str := toString i
theorem istr_all : ((List.range 256).all fun n => decide ((istr (n : Int)).length ≤ 3) && (istr (n : Int)).cps.toList.all fun c => decide (c < 1114112)) = true := by decide +kernel
theorem istr_sm {i : Int} (h0 : 0 ≤ i) (h1 : i < 256) : Sm 3 (istr i) := by
  have q := List.all_eq_true.mp istr_all i.toNat (by simp; omega)
  rw [show ((i.toNat : Nat) : Int) = i by omega] at q
  simp only [Bool.and_eq_true, decide_eq_true_eq] at q
  exact q
theorem str_val {i : Int} (h0 : 0 ≤ i) (h1 : i < 256) : strV (.av (.dat (.int i))) = some (.av (.dat (.str (istr i)))) := by
  have : i.natAbs.log2 < 1920 := by
    by_cases z : i.natAbs = 0
    · rw [z]; decide
    · have h8 : i.natAbs.log2 < 8 := (Nat.log2_lt z).mpr (by omega)
      omega
  have e : strV (.av (.dat (.int i))) = if i.natAbs.log2 < 1920 then some (.av (.dat (.str (istr i)))) else none := rfl
  rw [e, if_pos this]
theorem strsD_map : ∀ ys : List Str, strsD (ys.map .str) = some ys
  | [] => rfl
  | y :: r => by simp [strsD, strsD_map r]
theorem sum_len {n : Nat} : ∀ {ys : List Str}, (∀ y ∈ ys, Sm n y) → (ys.map (·.length)).sum ≤ ys.length * n
  | [], _ => by simp
  | y :: r, h => by
    have a := (h y (List.mem_cons_self ..)).1
    have b := sum_len (ys := r) fun z hz => h z (List.mem_cons_of_mem _ hz)
    simp [Nat.succ_mul]
    omega
theorem join_val {s : Str} {ys : List Str} {n : Nat} (h : ∀ y ∈ ys, Sm n y) (hl : ys.length * n + ys.length * s.length ≤ 16777216) : joinV s (.lst (ys.map .str)) = some (.av (.dat (.str (Str.join s ys)))) := by
  unfold joinV
  simp only [d_lst, strsD_map]
  rw [if_pos (by have := sum_len h; simp; omega)]
/-- a text without its first k signs -/
theorem slice_text {x : Str} {k : Nat} (h : x.length ≤ 16777216) (hk : k ≤ x.length) : sliceV (.av (.dat (.str x))) (some (k : Int)) none = some (.av (.dat (.str ⟨((cpl x).drop k).toArray⟩))) := by
  have e : sliceV (.av (.dat (.str x))) (some (k : Int)) none = if x.length ≤ LINE then some (.av (.dat (.str ⟨(cutD x.cps.toList (some (k : Int)) none).toArray⟩))) else none := rfl
  rw [e, if_pos (by simpa using h)]
  have hl : x.cps.toList.length = x.length := (len_cpl x).symm
  have c : cutD x.cps.toList (some (k : Int)) none = (cpl x).drop k := by
    unfold cutD clipD
    simp only
    rw [if_neg (by omega), hl]
    have : min (k : Int).toNat x.length = k := by simp; omega
    rw [this]
    exact List.take_of_length_le (by rw [List.length_drop, hl]; exact Nat.le_refl _)
  rw [c]
end Sv

/-! Sv: loops and comprehensions over typed items; data that is told by eqq. -/
namespace Sv
open PySem
section
variable {α : Type} {tg : List Nat} {body : MS → Option (Out × MS)} {test : MS → Option (Bool × MS)} {elt : MS → Option (RV × MS)}
/-- a comprehension over typed items, that changes nothing -/
theorem compL_mapT (e : α → PyData) (p : α → Bool) (f : α → PyData) (ms : MS) : ∀ (xs : List α) (acc : List PyData),
    (∀ x ∈ xs, ∃ rho, bindT tg (e x) ms.rho = some rho ∧ test ⟨rho, ms.hp⟩ = some (p x, ⟨rho, ms.hp⟩) ∧ (p x = true → ∃ rv, elt ⟨rho, ms.hp⟩ = some (rv, ⟨rho, ms.hp⟩) ∧ rv.d? = some (f x)) ∧ plainAt tg rho = true ∧ wipeR tg rho = ms.rho) →
    acc.length + xs.length ≤ 16777216 → compL tg test elt (xs.map e) acc ms = some (acc ++ (xs.filter p).map f, ms)
  | [], acc, _, _ => by simp [compL]
  | x :: xs, acc, h, hl => by
    obtain ⟨rho, h1, h2, h3, h4, h5⟩ := h x (List.mem_cons_self ..)
    rw [List.map_cons]
    unfold compL
    rw [h1]
    simp only [h2]
    cases hp : p x with
    | false =>
      simp only [h4, if_true]
      rw [h5, compL_mapT e p f ms xs acc (fun y hy => h y (List.mem_cons_of_mem _ hy)) (by simp at hl; omega)]
      simp [hp]
    | true =>
      obtain ⟨rv, e1, e2⟩ := h3 hp
      have hlt : acc.length < LINE := by simp at hl ⊢; omega
      simp only [e1, e2, if_pos hlt, h4, if_true]
      rw [h5, compL_mapT e p f ms xs (acc ++ [f x]) (fun y hy => h y (List.mem_cons_of_mem _ hy)) (by simp at hl ⊢; omega)]
      simp [hp]
/-- .. without a test -/
theorem compL_all (e : α → PyData) (f : α → PyData) (ms : MS) (xs : List α) 
    (h : ∀ x ∈ xs, ∃ rho, bindT tg (e x) ms.rho = some rho ∧ (∃ rv, elt ⟨rho, ms.hp⟩ = some (rv, ⟨rho, ms.hp⟩) ∧ rv.d? = some (f x)) ∧ plainAt tg rho = true ∧ wipeR tg rho = ms.rho)
    (hl : xs.length ≤ 16777216) : compL tg (evC .nil) elt (xs.map e) [] ms = some (xs.map f, ms) := by
  have := compL_mapT (test := evC .nil) e (fun _ => true) f ms xs [] (fun x hx => by
    obtain ⟨rho, h1, h2, h3, h4⟩ := h x hx
    exact ⟨rho, h1, by simp, fun _ => h2, h3, h4⟩) (by simpa using hl)
  rw [List.filter_eq_self.mpr (fun _ _ => rfl), List.nil_append] at this
  exact this
/-- a for over typed items, with an invariant of what is behind -/
theorem forL_pre (e : α → PyData) (xs : List α) (P : List α → MS → Prop) : ∀ (post pre : List α) (ms : MS), xs = pre ++ post → P pre ms →
    (∀ pre x post ms, xs = pre ++ x :: post → P pre ms → ∃ rho ms1, bindT tg (e x) ms.rho = some rho ∧ body ⟨rho, ms.hp⟩ = some (.nx, ms1) ∧ P (pre ++ [x]) ms1) →
    ∃ ms', forL tg body (post.map e) ms = some (.nx, ms') ∧ P xs ms'
  | [], pre, ms, hx, hp, _ => ⟨ms, rfl, by rw [hx, List.append_nil]; exact hp⟩
  | x :: post, pre, ms, hx, hp, h => by
    obtain ⟨rho, ms1, h1, h2, h3⟩ := h pre x post ms hx hp
    obtain ⟨ms', h4, h5⟩ := forL_pre e xs P post (pre ++ [x]) ms1 (by simp [hx]) h3 h
    refine ⟨ms', ?_, h5⟩
    rw [List.map_cons, forL_nx h1 h2]
    exact h4
theorem forL_T (e : α → PyData) (xs : List α) (P : List α → MS → Prop) {ms : MS} (h0 : P [] ms)
    (h : ∀ pre x post ms, xs = pre ++ x :: post → P pre ms → ∃ rho ms1, bindT tg (e x) ms.rho = some rho ∧ body ⟨rho, ms.hp⟩ = some (.nx, ms1) ∧ P (pre ++ [x]) ms1) :
    ∃ ms', forL tg body (xs.map e) ms = some (.nx, ms') ∧ P xs ms' := forL_pre e xs P xs [] ms rfl h0 h
/-- .. that may return -/
theorem forL_preR (e : α → PyData) (xs : List α) (P : List α → MS → Prop) (R : RV → MS → Prop) : ∀ (post pre : List α) (ms : MS), xs = pre ++ post → P pre ms →
    (∀ pre x post ms, xs = pre ++ x :: post → P pre ms → ∃ rho, bindT tg (e x) ms.rho = some rho ∧ ((∃ ms1, body ⟨rho, ms.hp⟩ = some (.nx, ms1) ∧ P (pre ++ [x]) ms1) ∨ ∃ v ms1, body ⟨rho, ms.hp⟩ = some (.rt v, ms1) ∧ R v ms1)) →
    (∃ ms', forL tg body (post.map e) ms = some (.nx, ms') ∧ P xs ms') ∨ ∃ v ms', forL tg body (post.map e) ms = some (.rt v, ms') ∧ R v ms'
  | [], pre, ms, hx, hp, _ => .inl ⟨ms, rfl, by rw [hx, List.append_nil]; exact hp⟩
  | x :: post, pre, ms, hx, hp, h => by
    obtain ⟨rho, h1, h2⟩ := h pre x post ms hx hp
    rcases h2 with ⟨ms1, h2, h3⟩ | ⟨v, ms1, h2, h3⟩
    · rcases forL_preR e xs P R post (pre ++ [x]) ms1 (by simp [hx]) h3 h with ⟨ms', h4, h5⟩ | ⟨v, ms', h4, h5⟩
      · exact .inl ⟨ms', by rw [List.map_cons, forL_nx h1 h2]; exact h4, h5⟩
      · exact .inr ⟨v, ms', by rw [List.map_cons, forL_nx h1 h2]; exact h4, h5⟩
    · refine .inr ⟨v, ms1, ?_, h3⟩
      rw [List.map_cons, forL_cons, h1]
      simp only [h2]
theorem forL_TR (e : α → PyData) (xs : List α) (P : List α → MS → Prop) (R : RV → MS → Prop) {ms : MS} (h0 : P [] ms)
    (h : ∀ pre x post ms, xs = pre ++ x :: post → P pre ms → ∃ rho, bindT tg (e x) ms.rho = some rho ∧ ((∃ ms1, body ⟨rho, ms.hp⟩ = some (.nx, ms1) ∧ P (pre ++ [x]) ms1) ∨ ∃ v ms1, body ⟨rho, ms.hp⟩ = some (.rt v, ms1) ∧ R v ms1)) :
    (∃ ms', forL tg body (xs.map e) ms = some (.nx, ms') ∧ P xs ms') ∨ ∃ v ms', forL tg body (xs.map e) ms = some (.rt v, ms') ∧ R v ms' := forL_preR e xs P R xs [] ms rfl h0 h
/-- a comprehension whose values come with a changing heap -/
theorem compL_relT (e : α → PyData) {β : Type} (f : β → PyData) {rho0 : List Slot} (I : List AO → Prop) (R : α → β → Prop) : ∀ (xs : List α) (acc : List PyData) (hp : List AO), I hp →
    (∀ x ∈ xs, ∀ hp, I hp → ∃ rho rv y hp', bindT tg (e x) rho0 = some rho ∧ elt ⟨rho, hp⟩ = some (rv, ⟨rho, hp'⟩) ∧ rv.d? = some (f y) ∧ R x y ∧ I hp' ∧ plainAt tg rho = true ∧ wipeR tg rho = rho0) →
    acc.length + xs.length ≤ 16777216 → ∃ (ys : List β) (hp' : List AO), compL tg (evC .nil) elt (xs.map e) acc ⟨rho0, hp⟩ = some (acc ++ ys.map f, ⟨rho0, hp'⟩) ∧ I hp' ∧ ys.length = xs.length ∧ ∀ y ∈ ys, ∃ x ∈ xs, R x y
  | [], acc, hp, hi, _, _ => ⟨[], hp, by simp [compL], hi, rfl, by simp⟩
  | x :: xs, acc, hp, hi, h, hl => by
    obtain ⟨rho, rv, y, hp', h1, h2, h3, h4, h5, h6, h7⟩ := h x (List.mem_cons_self ..) hp hi
    obtain ⟨ys, hp2, q1, q2, q3, q4⟩ := compL_relT e f I R xs (acc ++ [f y]) hp' h5 (fun y hy => h y (List.mem_cons_of_mem _ hy)) (by simp at hl ⊢; omega)
    refine ⟨y :: ys, hp2, ?_, q2, by simp [q3], fun z hz => ?_⟩
    · have hlt : acc.length < LINE := by simp at hl ⊢; omega
      rw [List.map_cons]
      unfold compL
      rw [h1]
      simp only [evCe_0, h2, h3, if_pos hlt, h6, if_true]
      rw [h7, q1]
      simp
    · rcases List.mem_cons.mp hz with rfl | hz
      · exact ⟨x, List.mem_cons_self .., h4⟩
      · obtain ⟨y, hy, r⟩ := q4 z hz
        exact ⟨y, List.mem_cons_of_mem _ hy, r⟩
end
theorem ex_append_own {i : Nat} {e : E} {ms ms1 : MS} {xs0 xs : List PyData} {v : RV} {d : PyData} (h1 : ms.rho[i]? = some (.own xs0)) (he : ev false e ms = some (v, ms1)) (h2 : ms1.rho[i]? = some (.own xs)) (hd : v.d? = some d) (hl : xs.length < 16777216) :
    ex (.append i e) ms = some (.nx, { ms1 with rho := ms1.rho.set i (.own (xs ++ [d])) }) := by
  unfold ex
  simp only [h1, he, h2, hd]
  rw [if_pos hl]
/-! ### places that are written -/
section
variable {β : Type} {a b c d e f g h i : β} {as : List β}
theorem atD_lit {xs : List β} {n : Nat} {x : β} (hx : xs[n]? = some x) : atD xs (n : Int) = some x := by
  have hl := (List.getElem?_eq_some_iff.mp hx).1
  unfold atD
  rw [ixD_nn hl]
  exact hx
@[simp] theorem atD_one : atD (a :: b :: as) 1 = some b := atD_lit (n := 1) rfl
@[simp] theorem atD_two : atD (a :: b :: c :: as) 2 = some c := atD_lit (n := 2) rfl
@[simp] theorem atD_three : atD (a :: b :: c :: d :: as) 3 = some d := atD_lit (n := 3) rfl
@[simp] theorem atD_four : atD (a :: b :: c :: d :: e :: as) 4 = some e := atD_lit (n := 4) rfl
@[simp] theorem atD_five : atD (a :: b :: c :: d :: e :: f :: as) 5 = some f := atD_lit (n := 5) rfl
@[simp] theorem atD_six : atD (a :: b :: c :: d :: e :: f :: g :: as) 6 = some g := atD_lit (n := 6) rfl
@[simp] theorem atD_seven : atD (a :: b :: c :: d :: e :: f :: g :: h :: as) 7 = some h := atD_lit (n := 7) rfl
@[simp] theorem atD_eight : atD (a :: b :: c :: d :: e :: f :: g :: h :: i :: as) 8 = some i := atD_lit (n := 8) rfl
end
/-! ### data that == tells apart -/
structure EqOk {α : Type} [DecidableEq α] (P : α → Prop) (e : α → PyData) (n : Nat) : Prop where
  eq : ∀ a b, P a → P b → eqq (e a) (e b) = decide (a = b)
  dep : ∀ a, P a → dep (e a) ≤ n
section
variable {α β γ : Type} [DecidableEq α] [DecidableEq β] [DecidableEq γ] {P : α → Prop} {e : α → PyData} {n : Nat}
theorem EqOk.eqqs (h : EqOk P e n) : ∀ {xs ys : List α}, (∀ x ∈ xs, P x) → (∀ y ∈ ys, P y) → Sv.eqqs (xs.map e) (ys.map e) = decide (xs = ys)
  | [], [], _, _ => by simp
  | [], _ :: _, _, _ => by simp [Sv.eqqs]
  | _ :: _, [], _, _ => by simp [Sv.eqqs]
  | x :: xs, y :: ys, hx, hy => by
    have h1 := h.eq x y (hx x (List.mem_cons_self ..)) (hy y (List.mem_cons_self ..))
    have h2 := EqOk.eqqs h (xs := xs) (ys := ys) (fun z hz => hx z (List.mem_cons_of_mem _ hz)) (fun z hz => hy z (List.mem_cons_of_mem _ hz))
    rw [List.map_cons, List.map_cons, eqqs_cons, h1, h2]
    by_cases c : x = y <;> by_cases d : xs = ys <;> simp [c, d]
theorem EqOk.deps (h : EqOk P e n) {xs : List α} (hx : ∀ x ∈ xs, P x) : Sv.deps (xs.map e) ≤ n := deps_le fun d hd => by
  obtain ⟨x, h1, rfl⟩ := List.mem_map.mp hd
  exact h.dep x (hx x h1)
theorem EqOk.tup (h : EqOk P e n) : EqOk (fun xs : List α => ∀ x ∈ xs, P x) (fun xs => .tuple (xs.map e)) (n + 1) :=
  ⟨fun a b ha hb => by rw [eqq_tuple]; exact h.eqqs ha hb, fun a ha => by rw [dep_tuple]; exact Nat.succ_le_succ (h.deps ha)⟩
theorem EqOk.lst (h : EqOk P e n) : EqOk (fun xs : List α => ∀ x ∈ xs, P x) (fun xs => .list (xs.map e)) (n + 1) :=
  ⟨fun a b ha hb => by rw [eqq_list]; exact h.eqqs ha hb, fun a ha => by rw [dep_list]; exact Nat.succ_le_succ (h.deps ha)⟩
theorem EqOk.inn (h : EqOk P e n) {x : α} (hx : P x) : ∀ {xs : List α}, (∀ x ∈ xs, P x) → Sv.inn (e x) (xs.map e) = decide (x ∈ xs)
  | [], _ => by simp [Sv.inn]
  | y :: ys, hy => by
    have h2 := EqOk.inn h hx (xs := ys) fun z hz => hy z (List.mem_cons_of_mem _ hz)
    unfold Sv.inn at h2 ⊢
    rw [List.map_cons, List.any_cons, h2, h.eq y x (hy y (List.mem_cons_self ..)) hx]
    by_cases c : x = y
    · subst c; simp
    · have c' : ¬ y = x := fun z => c z.symm
      simp [c, c']
theorem EqOk.int : EqOk (fun _ : Int => True) .int 0 := ⟨fun a b _ _ => eqq_int, fun a _ => Nat.le_refl _⟩
theorem EqOk.nat : EqOk (fun _ : Nat => True) (fun n => .int n) 0 := ⟨fun a b _ _ => by rw [eqq_int]; by_cases c : a = b <;> simp [c] <;> omega, fun a _ => Nat.le_refl _⟩
theorem EqOk.bool : EqOk (fun _ : Bool => True) .bool 0 := ⟨fun a b _ _ => by rw [eqq_bool]; cases a <;> cases b <;> rfl, fun a _ => Nat.le_refl _⟩
theorem EqOk.mono (h : EqOk P e n) {Q : α → Prop} (i : ∀ a, Q a → P a) {m : Nat} (hm : n ≤ m) : EqOk Q e m := ⟨fun a b ha hb => h.eq a b (i a ha) (i b hb), fun a ha => Nat.le_trans (h.dep a (i a ha)) hm⟩
theorem EqOk.pair {Q : β → Prop} {f : β → PyData} {m : Nat} (h : EqOk P e n) (g : EqOk Q f m) : EqOk (fun p : α × β => P p.1 ∧ Q p.2) (fun p => .tuple [e p.1, f p.2]) (max n m + 1) :=
  ⟨fun a b ha hb => by
    obtain ⟨a1, a2⟩ := a
    obtain ⟨b1, b2⟩ := b
    simp [h.eq a1 b1 ha.1 hb.1, g.eq a2 b2 ha.2 hb.2], fun a ha => by
    have := h.dep _ ha.1
    have := g.dep _ ha.2
    simp; omega⟩
theorem EqOk.triple {Q : β → Prop} {f : β → PyData} {m : Nat} {R : γ → Prop} {f3 : γ → PyData} {k : Nat} (h : EqOk P e n) (g : EqOk Q f m) (g3 : EqOk R f3 k) : EqOk (fun p : α × β × γ => P p.1 ∧ Q p.2.1 ∧ R p.2.2) (fun p => .tuple [e p.1, f p.2.1, f3 p.2.2]) (max n (max m k) + 1) :=
  ⟨fun a b ha hb => by
    obtain ⟨a1, a2, a3⟩ := a
    obtain ⟨b1, b2, b3⟩ := b
    simp [h.eq a1 b1 ha.1 hb.1, g.eq a2 b2 ha.2.1 hb.2.1, g3.eq a3 b3 ha.2.2 hb.2.2], fun a ha => by
    have := h.dep _ ha.1
    have := g.dep _ ha.2.1
    have := g3.dep _ ha.2.2
    simp; omega⟩
end
section
variable {α : Type} [DecidableEq α] {P : α → Prop} {e : α → PyData} {n : Nat}
theorem EqOk.cmpE (h : EqOk P e n) {x y : RV} {a b : α} (hx : x.d? = some (e a)) (hy : y.d? = some (e b)) (ha : P a) (hb : P b) (hn : n ≤ 64) : cmpV .eq x y = some (decide (a = b)) := by
  rw [cmp_eqD hx hy (Nat.le_trans (h.dep a ha) hn) (Nat.le_trans (h.dep b hb) hn), h.eq a b ha hb]
theorem EqOk.cmpN (h : EqOk P e n) {x y : RV} {a b : α} (hx : x.d? = some (e a)) (hy : y.d? = some (e b)) (ha : P a) (hb : P b) (hn : n ≤ 64) : cmpV .ne x y = some (!decide (a = b)) := by
  rw [cmp_neD hx hy (Nat.le_trans (h.dep a ha) hn) (Nat.le_trans (h.dep b hb) hn), h.eq a b ha hb]
theorem EqOk.inL (h : EqOk P e n) {x y : RV} {a : α} {bs : List α} (hx : x.d? = some (e a)) (hy : y.d? = some (.list (bs.map e))) (ha : P a) (hb : ∀ b ∈ bs, P b) (hn : n ≤ 60) : inV x y = some (decide (a ∈ bs)) := by
  unfold inV
  simp only [hx, hy]
  rw [if_pos ⟨Nat.le_trans (h.dep a ha) hn, Nat.le_trans (h.deps hb) hn⟩, h.inn ha hb]
theorem EqOk.inT (h : EqOk P e n) {x y : RV} {a : α} {bs : List α} (hx : x.d? = some (e a)) (hy : y.d? = some (.tuple (bs.map e))) (ha : P a) (hb : ∀ b ∈ bs, P b) (hn : n ≤ 60) : inV x y = some (decide (a ∈ bs)) := by
  unfold inV
  simp only [hx, hy]
  rw [if_pos ⟨Nat.le_trans (h.dep a ha) hn, Nat.le_trans (h.deps hb) hn⟩, h.inn ha hb]
end
end Sv

namespace K16
open Sv PySem
/-- _law_row(state, many, most): 0 state 1 many 2 most 3 k -/
def ss__law_row : Ss := (.cons (.ret (.b1 .tuple (.comp (.call f__law_draw (.cons (.var 0) (.cons (.var 2) .nil))) [3] (.range1 (.var 1)) .nil)))
  .nil)
def f__law_row : Fn := ⟨⟨#[95, 108, 97, 119, 95, 114, 111, 119]⟩, runB 4 3 ss__law_row⟩
/-- words_text(row): 0 row 1 word -/
def ss_words_text : Ss := (.cons (.ret (.join ⟨#[32]⟩ (.comp (.str1 (.var 1)) [1] (.seq (.var 0)) .nil)))
  .nil)
def f_words_text : Fn := ⟨⟨#[119, 111, 114, 100, 115, 95, 116, 101, 120, 116]⟩, runB 2 1 ss_words_text⟩
/-- path_lines(path): 0 path 1 cut 2 row -/
def ss_path_lines : Ss := (.cons (.ret (.comp (.bin .add (.bin .add (.bin .add (.lit (.str ⟨#[99, 114, 97, 115, 104, 32, 97, 116, 32]⟩)) (.str1 (.var 1))) (.lit (.str ⟨#[32, 119, 105, 116, 104, 32]⟩))) (.callP f_words_text (.cons (.var 2) .nil))) [1, 2] (.seq (.var 0)) .nil))
  .nil)
def f_path_lines : Fn := ⟨⟨#[112, 97, 116, 104, 95, 108, 105, 110, 101, 115]⟩, runB 3 1 ss_path_lines⟩
/-- report(verdict): 0 verdict 1 lines -/
def ss_report : Ss := (.cons (.ite (.cmp .eq (.sub (.var 0) (.lit (.int 0))) (.lit (.str ⟨#[115, 97, 102, 101]⟩))) (.cons (.ret (.lst (.cons (.bin .add (.bin .add (.lit (.str ⟨#[115, 97, 102, 101, 58, 32]⟩)) (.str1 (.b1 .len (.sub (.var 0) (.lit (.int 1)))))) (.lit (.str ⟨#[32, 115, 116, 97, 116, 101, 115]⟩))) .nil)))
  .nil) .nil)
  (.cons (.set 1 (.bin .add (.lst (.cons (.bin .add (.bin .add (.lit (.str ⟨#[117, 110, 115, 97, 102, 101, 58, 32]⟩)) (.str1 (.b1 .len (.sub (.var 0) (.lit (.int 1)))))) (.lit (.str ⟨#[32, 99, 114, 97, 115, 104, 101, 115]⟩))) .nil)) (.callP f_path_lines (.cons (.sub (.var 0) (.lit (.int 1))) .nil))))
  (.cons (.ret (.bin .add (.var 1) (.lst (.cons (.bin .add (.lit (.str ⟨#[102, 111, 117, 110, 100, 32]⟩)) (.callP f_words_text (.cons (.sub (.var 0) (.lit (.int 2))) .nil))) .nil))))
  .nil)))
def f_report : Fn := ⟨⟨#[114, 101, 112, 111, 114, 116]⟩, runB 2 1 ss_report⟩
/-- image_text(contents): 0 contents 1 row -/
def ss_image_text : Ss := (.cons (.ret (.join ⟨#[32, 124, 32]⟩ (.comp (.callP f_words_text (.cons (.var 1) .nil)) [1] (.seq (.var 0)) .nil)))
  .nil)
def f_image_text : Fn := ⟨⟨#[105, 109, 97, 103, 101, 95, 116, 101, 120, 116]⟩, runB 2 1 ss_image_text⟩
/-- state_lines(states): 0 states 1 lines 2 session 3 contents 4 maps 5 legal 6 mapping -/
def lb_state_lines_0 : Ss := (.cons (.set 5 (.join ⟨#[44, 32]⟩ (.comp (.callP f_words_text (.cons (.var 6) .nil)) [6] (.seq (.var 4)) .nil)))
  (.cons (.append 1 (.bin .add (.bin .add (.bin .add (.bin .add (.bin .add (.lit (.str ⟨#[115, 101, 115, 115, 105, 111, 110, 32]⟩)) (.str1 (.var 2))) (.lit (.str ⟨#[32, 100, 105, 115, 107, 32]⟩))) (.callP f_image_text (.cons (.var 3) .nil))) (.lit (.str ⟨#[32, 97, 108, 108, 111, 119, 101, 100, 32]⟩))) (.var 5)))
  .nil))
def ss_state_lines : Ss := (.cons (.set 1 (.lst .nil))
  (.cons (.for_ [2, 3, 4] (.seq (.var 0)) lb_state_lines_0)
  (.cons (.ret (.var 1))
  .nil)))
def f_state_lines : Fn := ⟨⟨#[115, 116, 97, 116, 101, 95, 108, 105, 110, 101, 115]⟩, runB 7 1 ss_state_lines⟩
/-- _law_words(row): 0 row 1 text 2 word -/
def lb__law_words_0 : Ss := (.cons (.set 1 (.bin .add (.bin .add (.var 1) (.lit (.str ⟨#[32]⟩))) (.str1 (.var 2))))
  .nil)
def ss__law_words : Ss := (.cons (.set 1 (.lit (.str ⟨#[]⟩)))
  (.cons (.for_ [2] (.seq (.var 0)) lb__law_words_0)
  (.cons (.ret (.slice (.var 1) (.cons (.lit (.int 1)) .nil) .nil))
  .nil)))
def f__law_words : Fn := ⟨⟨#[95, 108, 97, 119, 95, 119, 111, 114, 100, 115]⟩, runB 3 1 ss__law_words⟩
/-- _law_state_line(one): 0 one 1 disk 2 row 3 maps 4 mapping -/
def lb__law_state_line_0 : Ss := (.cons (.set 3 (.bin .add (.bin .add (.var 3) (.lit (.str ⟨#[44, 32]⟩))) (.callP f__law_words (.cons (.var 4) .nil))))
  .nil)
def lb__law_state_line_1 : Ss := (.cons (.set 1 (.bin .add (.bin .add (.var 1) (.lit (.str ⟨#[32, 124, 32]⟩))) (.callP f__law_words (.cons (.var 2) .nil))))
  .nil)
def ss__law_state_line : Ss := (.cons (.set 1 (.lit (.str ⟨#[]⟩)))
  (.cons (.for_ [2] (.seq (.sub (.var 0) (.lit (.int 1)))) lb__law_state_line_1)
  (.cons (.set 3 (.lit (.str ⟨#[]⟩)))
  (.cons (.for_ [4] (.seq (.sub (.var 0) (.lit (.int 2)))) lb__law_state_line_0)
  (.cons (.ret (.bin .add (.bin .add (.bin .add (.bin .add (.bin .add (.lit (.str ⟨#[115, 101, 115, 115, 105, 111, 110, 32]⟩)) (.str1 (.sub (.var 0) (.lit (.int 0))))) (.lit (.str ⟨#[32, 100, 105, 115, 107, 32]⟩))) (.slice (.var 1) (.cons (.lit (.int 3)) .nil) .nil)) (.lit (.str ⟨#[32, 97, 108, 108, 111, 119, 101, 100, 32]⟩))) (.slice (.var 3) (.cons (.lit (.int 2)) .nil) .nil)))
  .nil)))))
def f__law_state_line : Fn := ⟨⟨#[95, 108, 97, 119, 95, 115, 116, 97, 116, 101, 95, 108, 105, 110, 101]⟩, runB 5 1 ss__law_state_line⟩
/-- law(script): 0 script 1 state 2 sectors 3 keys 4 width 5 path 6 k 7 mapping 8 due 9 cut 10 row 11 told 12 states 13 contents 14 sector 15 maps 16 j 17 one -/
def lb_law_0 : Ss := (.cons (.set 13 (.b1 .tuple (.comp (.call f__law_row (.cons (.var 1) (.cons (.var 4) (.cons (.lit (.int 16)) .nil)))) [14] (.range1 (.var 2)) .nil)))
  (.cons (.set 15 (.b1 .tuple (.srt true (.comp (.call f__law_row (.cons (.var 1) (.cons (.var 3) (.cons (.lit (.int 16)) .nil)))) [16] (.range1 (.bin .add (.lit (.int 1)) (.call f__law_draw (.cons (.var 1) (.cons (.lit (.int 3)) .nil))))) .nil))))
  (.cons (.set 17 (.tup (.cons (.call f__law_draw (.cons (.var 1) (.cons (.lit (.int 4)) .nil))) (.cons (.var 13) (.cons (.var 15) .nil)))))
  (.cons (.ite (.isin true (.var 17) (.var 12)) (.cons (.append 12 (.var 17))
  .nil) .nil)
  .nil))))
def lb_law_1 : Ss := (.cons (.append 8 (.bin .add (.bin .add (.bin .add (.lit (.str ⟨#[99, 114, 97, 115, 104, 32, 97, 116, 32]⟩)) (.str1 (.var 9))) (.lit (.str ⟨#[32, 119, 105, 116, 104, 32]⟩))) (.callP f__law_words (.cons (.var 10) .nil))))
  .nil)
def ss_law : Ss := (.cons (.set 1 (.call f__law_state (.cons (.var 0) .nil)))
  (.cons (.set 2 (.bin .add (.lit (.int 1)) (.call f__law_draw (.cons (.var 1) (.cons (.lit (.int 6)) .nil)))))
  (.cons (.set 3 (.bin .add (.lit (.int 1)) (.call f__law_draw (.cons (.var 1) (.cons (.lit (.int 3)) .nil)))))
  (.cons (.set 4 (.bin .add (.lit (.int 1)) (.call f__law_draw (.cons (.var 1) (.cons (.lit (.int 4)) .nil)))))
  (.cons (.set 5 (.b1 .tuple (.comp (.tup (.cons (.call f__law_draw (.cons (.var 1) (.cons (.lit (.int 200)) .nil))) (.cons (.call f__law_row (.cons (.var 1) (.cons (.var 2) (.cons (.lit (.int 30)) .nil)))) .nil))) [6] (.range1 (.call f__law_draw (.cons (.var 1) (.cons (.lit (.int 5)) .nil)))) .nil)))
  (.cons (.set 7 (.call f__law_row (.cons (.var 1) (.cons (.var 3) (.cons (.lit (.int 16)) .nil)))))
  (.cons (.set 8 (.lst (.cons (.bin .add (.bin .add (.lit (.str ⟨#[117, 110, 115, 97, 102, 101, 58, 32]⟩)) (.str1 (.b1 .len (.var 5)))) (.lit (.str ⟨#[32, 99, 114, 97, 115, 104, 101, 115]⟩))) .nil)))
  (.cons (.for_ [9, 10] (.seq (.var 5)) lb_law_1)
  (.cons (.append 8 (.bin .add (.lit (.str ⟨#[102, 111, 117, 110, 100, 32]⟩)) (.callP f__law_words (.cons (.var 7) .nil))))
  (.cons (.set 11 (.callP f_report (.cons (.tup (.cons (.lit (.str ⟨#[117, 110, 115, 97, 102, 101]⟩)) (.cons (.var 5) (.cons (.var 7) .nil)))) .nil)))
  (.cons (.ite (.or (.not (.isi (.var 11) ⟨#[108, 105, 115, 116]⟩)) (.cmp .ne (.var 11) (.var 8))) (.cons (.ret (.lit (.bool false)))
  .nil) .nil)
  (.cons (.set 12 (.lst .nil))
  (.cons (.for_ [6] (.range1 (.bin .add (.lit (.int 1)) (.call f__law_draw (.cons (.var 1) (.cons (.lit (.int 5)) .nil))))) lb_law_0)
  (.cons (.ite (.cmp .ne (.callP f_report (.cons (.tup (.cons (.lit (.str ⟨#[115, 97, 102, 101]⟩)) (.cons (.b1 .list (.var 12)) .nil))) .nil)) (.lst (.cons (.bin .add (.bin .add (.lit (.str ⟨#[115, 97, 102, 101, 58, 32]⟩)) (.str1 (.b1 .len (.var 12)))) (.lit (.str ⟨#[32, 115, 116, 97, 116, 101, 115]⟩))) .nil))) (.cons (.ret (.lit (.bool false)))
  .nil) .nil)
  (.cons (.set 11 (.callP f_state_lines (.cons (.b1 .list (.var 12)) .nil)))
  (.cons (.ret (.and (.isi (.var 11) ⟨#[108, 105, 115, 116]⟩) (.cmp .eq (.var 11) (.comp (.callP f__law_state_line (.cons (.var 17) .nil)) [17] (.seq (.var 12)) .nil))))
  .nil))))))))))))))))
def f_law : Fn := ⟨⟨#[108, 97, 119]⟩, runB 18 1 ss_law⟩
end K16

namespace K16
open Sv PySem
/-- a row of small ints -/
def SmI (ns : List Int) : Prop := ∀ n ∈ ns, 0 ≤ n ∧ n < 256
def rw (ns : List Int) : PyData := .tuple (ns.map .int)
def wt (ns : List Int) : Str := Str.join ⟨#[32]⟩ (ns.map istr)
theorem sp_sm : Sm 1 (⟨#[32]⟩ : Str) := ⟨by decide, by decide⟩
theorem wt_sm {ns : List Int} (h : SmI ns) : Sm (ns.length * 4) (wt ns) := by
  have := Sm.join sp_sm (ys := ns.map istr) (n := 3) fun y hy => by
    obtain ⟨n, hn, rfl⟩ := List.mem_map.mp hy
    exact istr_sm (h n hn).1 (h n hn).2
  simpa [wt] using this
theorem words_text {ns : List Int} (h : SmI ns) (hl : ns.length ≤ 1000) : f_words_text.run [.dat (rw ns)] [] = some (.av (.dat (.str (wt ns))), []) := by
  have c := compL_map (tg := [1]) (test := evC .nil) (elt := ev false (.str1 (.var 1))) (fun _ => true) (fun x => match x with | .int n => .str (istr n) | x => x) ⟨[.av (.dat (rw ns)), .emp], []⟩ (ns.map .int) [] (by
    intro x hx
    obtain ⟨n, hn, rfl⟩ := List.mem_map.mp hx
    exact ⟨[.av (.dat (rw ns)), .av (iv n)], by simp, by simp, fun _ => ⟨.av (.dat (.str (istr n))), by simp [str_val (h n hn).1 (h n hn).2], by simp⟩, rfl, rfl⟩) (by simp; omega)
  rw [List.filter_eq_self.mpr (fun _ _ => rfl), List.map_map] at c
  have f1 : ((fun x => match x with | PyData.int n => PyData.str (istr n) | x => x) ∘ PyData.int) = PyData.str ∘ istr := rfl
  rw [f1, ← List.map_map] at c
  have hn : ∀ y ∈ ns.map istr, Sm 3 y := fun y hy => by
    obtain ⟨n, hn, rfl⟩ := List.mem_map.mp hy
    exact istr_sm (h n hn).1 (h n hn).2
  have j := join_val (s := ⟨#[32]⟩) (ys := ns.map istr) (n := 3) hn (by
      have : (⟨#[32]⟩ : Str).length = 1 := rfl
      rw [this]; simp; omega)
  rw [List.nil_append] at c
  rw [List.map_map] at c j
  unfold rw at c
  simp [f_words_text, runB, ss_words_text, rw, plainAt, wipeR, back, c, j, wt]
end K16

namespace K16
open Sv PySem
def flS (sep : Str) (ys : List Str) : Str := ⟨(flatL (cpl sep) (ys.map cpl)).toArray⟩
theorem flS_nil (sep : Str) : flS sep [] = ⟨#[]⟩ := rfl
theorem flS_snoc (sep : Str) (ys : List Str) (y : Str) : flS sep (ys ++ [y]) = flS sep ys ++ sep ++ y := str_ext (by simp [flS, flatL_snoc])
theorem flS_cons (sep : Str) (ys : List Str) (y : Str) : flS sep (y :: ys) = sep ++ y ++ flS sep ys := str_ext (by simp [flS, flatL])
theorem flS_sm {n k : Nat} {sep : Str} (hs : Sm k sep) : ∀ {ys : List Str}, (∀ y ∈ ys, Sm n y) → Sm (ys.length * (k + n)) (flS sep ys)
  | [], _ => ⟨Nat.zero_le _, rfl⟩
  | y :: r, h => by
    rw [flS_cons]
    refine ((hs.app (h y (List.mem_cons_self ..))).app (flS_sm hs (ys := r) fun z hz => h z (List.mem_cons_of_mem _ hz))).le ?_
    simp [Nat.succ_mul]; omega
theorem flS_slice {n k : Nat} {sep : Str} {ys : List Str} {i : Int} (hi : i = (sep.length : Int)) (hs : Sm k sep) (h : ∀ y ∈ ys, Sm n y) (hl : ys.length * (k + n) ≤ 16777216) (hne : ys ≠ []) :
    sliceV (.av (.dat (.str (flS sep ys)))) (some i) none = some (.av (.dat (.str (Str.join sep ys)))) := by
  subst hi
  rw [slice_text (Nat.le_trans (flS_sm hs h).1 hl)]
  · have e : (⟨((cpl (flS sep ys)).drop sep.length).toArray⟩ : Str) = Str.join sep ys := str_ext (by
      rw [cpl_mk, cpl_join, ← flat_join, len_cpl]
      simp [flS])
    rw [e]
  · cases ys with
    | nil => exact absurd rfl hne
    | cons y r => rw [flS_cons, len_app, len_app]; omega
theorem cat_inv {tg : List Nat} {body : MS → Option (Out × MS)} (sep : Str) (items : List PyData) (ys : List Str) (hl : items.length = ys.length) (st : Str → Slot → MS) {n k : Nat} (hs : Sm k sep) (hn : ∀ y ∈ ys, Sm n y) (hb : ys.length * (k + n) ≤ 16000000)
    (step : ∀ (i : Nat) d y t x, items[i]? = some d → ys[i]? = some y → t.length + k + n ≤ 16777216 → ∃ rho, bindT tg d (st t x).rho = some rho ∧ ∃ x', body ⟨rho, (st t x).hp⟩ = some (.nx, st (t ++ sep ++ y) x')) (x0 : Slot) (hk : k + n ≤ 1000) :
    ∃ x', forL tg body items (st ⟨#[]⟩ x0) = some (.nx, st (flS sep ys) x') := by
  obtain ⟨ms', e, x', rfl⟩ := forL_inv (tg := tg) (body := body) (fun j ms => ∃ x, ms = st (flS sep (ys.take j)) x) items 0 _ ⟨x0, rfl⟩ (by
    rintro j d ms hj ⟨x, rfl⟩
    have hlt : j < ys.length := by rw [← hl]; exact (List.getElem?_eq_some_iff.mp hj).1
    have hsm := flS_sm hs (ys := ys.take j) fun y hy => hn y (List.mem_of_mem_take hy)
    have hle : (ys.take j).length * (k + n) ≤ ys.length * (k + n) := Nat.mul_le_mul_right _ (by simp; omega)
    obtain ⟨rho, h1, x', h2⟩ := step j d ys[j] (flS sep (ys.take j)) x hj (List.getElem?_eq_getElem hlt) (by have := hsm.1; omega)
    refine ⟨rho, _, by simpa using h1, by simpa using h2, x', ?_⟩
    have : ys.take (0 + j + 1) = ys.take j ++ [ys[j]] := by rw [Nat.zero_add, List.take_succ_eq_append_getElem hlt]
    rw [this, flS_snoc])
  refine ⟨x', ?_⟩
  rw [hl, Nat.zero_add, List.take_length] at e
  exact e
theorem law_words {ns : List Int} (h : SmI ns) (hne : ns ≠ []) (hl : ns.length ≤ 1000) : f__law_words.run [.dat (rw ns)] [] = some (.av (.dat (.str (wt ns))), []) := by
  have hn : ∀ y ∈ ns.map istr, Sm 3 y := fun y hy => by
    obtain ⟨n, hn, rfl⟩ := List.mem_map.mp hy
    exact istr_sm (h n hn).1 (h n hn).2
  obtain ⟨x', e⟩ := cat_inv (tg := [2]) (body := exs lb__law_words_0) ⟨#[32]⟩ (ns.map .int) (ns.map istr) (by simp) (fun t x => ⟨[.av (.dat (rw ns)), .av (.dat (.str t)), x], []⟩) sp_sm hn (by simp; omega) (by
    intro i d y t x hd hy ht
    have hi : i < ns.length := by have := (List.getElem?_eq_some_iff.mp hd).1; simpa using this
    simp [hi] at hd hy
    subst hd hy
    have hb := h ns[i] (List.getElem_mem hi)
    have hsm := istr_sm hb.1 hb.2
    have l1 : (⟨#[32]⟩ : Str).length = 1 := rfl
    have hle := hsm.1
    refine ⟨[.av (.dat (rw ns)), .av (.dat (.str t)), .av (.dat (.int ns[i]))], by simp, .av (.dat (.int ns[i])), ?_⟩
    simp [lb__law_words_0]
    rw [bin_addS (by rw [l1]; omega)]
    simp
    rw [str_val hb.1 hb.2]
    simp
    rw [bin_addS (by rw [len_app, l1]; omega)]
    simp) .emp (by decide)
  have sl := flS_slice (i := 1) (sep := ⟨#[32]⟩) (ys := ns.map istr) rfl sp_sm hn (by simp; omega) (by simpa using hne)
  simp [f__law_words, runB, ss__law_words, rw] at e ⊢
  simp [e, sl, wt]
end K16

namespace K16
open Sv PySem
def RowOk (r : List Int) : Prop := SmI r ∧ r ≠ [] ∧ r.length ≤ 8
theorem RowOk.wt {r : List Int} (h : RowOk r) : Sm 32 (wt r) := (wt_sm h.1).le (by have := h.2.2; omega)
theorem RowOk.text {r : List Int} (h : RowOk r) : f_words_text.run [.dat (rw r)] [] = some (.av (.dat (.str (K16.wt r))), []) := words_text h.1 (by have := h.2.2; omega)
theorem RowOk.law {r : List Int} (h : RowOk r) : f__law_words.run [.dat (rw r)] [] = some (.av (.dat (.str (K16.wt r))), []) := law_words h.1 h.2.1 (by have := h.2.2; omega)
/-! paths -/
def pD (p : Int × List Int) : PyData := .tuple [.int p.1, rw p.2]
def POk (p : Int × List Int) : Prop := 0 ≤ p.1 ∧ p.1 < 256 ∧ RowOk p.2
def pT (p : Int × List Int) : Str := ⟨#[99, 114, 97, 115, 104, 32, 97, 116, 32]⟩ ++ istr p.1 ++ ⟨#[32, 119, 105, 116, 104, 32]⟩ ++ wt p.2
theorem lit1 : (⟨#[99, 114, 97, 115, 104, 32, 97, 116, 32]⟩ : Str).length = 9 := rfl
theorem lit2 : (⟨#[32, 119, 105, 116, 104, 32]⟩ : Str).length = 6 := rfl
theorem lit3 : (⟨#[115, 101, 115, 115, 105, 111, 110, 32]⟩ : Str).length = 8 := rfl
theorem lit4 : (⟨#[32, 100, 105, 115, 107, 32]⟩ : Str).length = 6 := rfl
theorem lit5 : (⟨#[32, 97, 108, 108, 111, 119, 101, 100, 32]⟩ : Str).length = 9 := rfl
theorem lit6 : (⟨#[44, 32]⟩ : Str).length = 2 := rfl
theorem lit7 : (⟨#[32, 124, 32]⟩ : Str).length = 3 := rfl
theorem lit8 : (⟨#[117, 110, 115, 97, 102, 101, 58, 32]⟩ : Str).length = 8 := rfl
theorem lit9 : (⟨#[32, 99, 114, 97, 115, 104, 101, 115]⟩ : Str).length = 8 := rfl
theorem lit10 : (⟨#[102, 111, 117, 110, 100, 32]⟩ : Str).length = 6 := rfl
theorem lit11 : (⟨#[115, 97, 102, 101, 58, 32]⟩ : Str).length = 6 := rfl
theorem lit12 : (⟨#[32, 115, 116, 97, 116, 101, 115]⟩ : Str).length = 7 := rfl
theorem line_eval {c : Int} {r : List Int} (h : POk (c, r)) (f : Fn) (hf : f.run [.dat (rw r)] [] = some (.av (.dat (.str (wt r))), [])) {rho : List Sv.Slot} {hp : List AO} {i j : Nat} (hi : rho[i]? = some (.av (iv c))) (hj : rho[j]? = some (.av (.dat (rw r)))) (b : Bool) :
    ev b (.bin .add (.bin .add (.bin .add (.lit (.str ⟨#[99, 114, 97, 115, 104, 32, 97, 116, 32]⟩)) (.str1 (.var i))) (.lit (.str ⟨#[32, 119, 105, 116, 104, 32]⟩))) (.callP f (.cons (.var j) .nil))) ⟨rho, hp⟩ = some (.av (.dat (.str (pT (c, r)))), ⟨rho, hp⟩) := by
  have h1 := (istr_sm h.1 h.2.1).1
  have h2 := h.2.2.wt.1
  simp at h1 h2
  have a1 := bin_addS (x := ⟨#[99, 114, 97, 115, 104, 32, 97, 116, 32]⟩) (y := istr c) (by rw [lit1]; omega)
  have a2 := bin_addS (x := ⟨#[99, 114, 97, 115, 104, 32, 97, 116, 32]⟩ ++ istr c) (y := ⟨#[32, 119, 105, 116, 104, 32]⟩) (by rw [len_app, lit1, lit2]; omega)
  have a3 := bin_addS (x := ⟨#[99, 114, 97, 115, 104, 32, 97, 116, 32]⟩ ++ istr c ++ ⟨#[32, 119, 105, 116, 104, 32]⟩) (y := wt r) (by rw [len_app, len_app, lit1, lit2]; omega)
  simp [hi, hj, str_val h.1 h.2.1, hf, a1, a2, a3, pT]
theorem path_lines {ps : List (Int × List Int)} (h : ∀ p ∈ ps, POk p) (hl : ps.length ≤ 1000) : f_path_lines.run [.dat (.tuple (ps.map pD))] [] = some (.lst (ps.map fun p => .str (pT p)), []) := by
  have c := compL_all (tg := [1, 2]) (elt := ev false (.bin .add (.bin .add (.bin .add (.lit (.str ⟨#[99, 114, 97, 115, 104, 32, 97, 116, 32]⟩)) (.str1 (.var 1))) (.lit (.str ⟨#[32, 119, 105, 116, 104, 32]⟩))) (.callP f_words_text (.cons (.var 2) .nil)))) pD (fun p => .str (pT p)) ⟨[.av (.dat (.tuple (ps.map pD))), .emp, .emp], []⟩ ps (by
    rintro ⟨c, r⟩ hp
    have hpo := h _ hp
    exact ⟨[.av (.dat (.tuple (ps.map pD))), .av (iv c), .av (.dat (rw r))], by simp [pD], ⟨.av (.dat (.str (pT (c, r)))), line_eval hpo f_words_text hpo.2.2.text rfl rfl _, rfl⟩, rfl, rfl⟩) (by omega)
  simp [f_path_lines, runB, ss_path_lines, plainAt, wipeR, back, c]
end K16

namespace K16
open Sv PySem
/-! states -/
structure Ste where
  s : Int
  c : List (List Int)
  m : List (List Int)
  deriving DecidableEq
def mat (c : List (List Int)) : PyData := .tuple (c.map rw)
def sD (x : Ste) : PyData := .tuple [.int x.s, mat x.c, mat x.m]
def MOk (c : List (List Int)) : Prop := c ≠ [] ∧ c.length ≤ 8 ∧ ∀ r ∈ c, RowOk r
def SOk (x : Ste) : Prop := 0 ≤ x.s ∧ x.s < 256 ∧ MOk x.c ∧ MOk x.m
def cT (c : List (List Int)) : Str := Str.join ⟨#[32, 124, 32]⟩ (c.map wt)
def mT (c : List (List Int)) : Str := Str.join ⟨#[44, 32]⟩ (c.map wt)
def sT (x : Ste) : Str := ⟨#[115, 101, 115, 115, 105, 111, 110, 32]⟩ ++ istr x.s ++ ⟨#[32, 100, 105, 115, 107, 32]⟩ ++ cT x.c ++ ⟨#[32, 97, 108, 108, 111, 119, 101, 100, 32]⟩ ++ mT x.m
theorem bar_sm : Sm 3 (⟨#[32, 124, 32]⟩ : Str) := ⟨by decide, by decide⟩
theorem com_sm : Sm 2 (⟨#[44, 32]⟩ : Str) := ⟨by decide, by decide⟩
theorem MOk.rows {c : List (List Int)} (h : MOk c) : ∀ y ∈ c.map wt, Sm 32 y := fun y hy => by
  obtain ⟨r, hr, rfl⟩ := List.mem_map.mp hy
  exact (h.2.2 r hr).wt
theorem MOk.cT {c : List (List Int)} (h : MOk c) : Sm 300 (cT c) := (Sm.join bar_sm h.rows).le (by have := h.2.1; simp; omega)
theorem MOk.mT {c : List (List Int)} (h : MOk c) : Sm 300 (mT c) := (Sm.join com_sm h.rows).le (by have := h.2.1; simp; omega)
theorem rows_comp {c : List (List Int)} (h : MOk c) {rho : List Sv.Slot} {hp : List AO} {i : Nat} (hi : i < rho.length) (hw : rho[i]? = some .emp) : compL [i] (evC .nil) (ev false (.callP f_words_text (.cons (.var i) .nil))) (c.map rw) [] ⟨rho, hp⟩ = some (c.map fun r => .str (wt r), ⟨rho, hp⟩) := by
  refine compL_all rw (fun r => .str (wt r)) ⟨rho, hp⟩ c (fun r hr => ⟨rho.set i (.av (.dat (rw r))), by simp [hi], ⟨.av (.dat (.str (wt r))), by simp [hi, (h.2.2 r hr).text], rfl⟩, ?_, ?_⟩) (by have := h.2.1; omega)
  · simp [plainAt, hi]
  · simp [wipeR]
    apply List.ext_getElem?
    intro j
    by_cases e : i = j
    · subst e; rw [List.getElem?_set_self hi, hw]
    · rw [List.getElem?_set_ne e]
theorem image_text {c : List (List Int)} (h : MOk c) : f_image_text.run [.dat (mat c)] [] = some (.av (.dat (.str (cT c))), []) := by
  have e := rows_comp h (rho := [.av (.dat (mat c)), .emp]) (hp := []) (i := 1) (by simp) rfl
  have j := join_val (s := ⟨#[32, 124, 32]⟩) (ys := c.map wt) (n := 32) h.rows (by have := h.2.1; rw [lit7]; simp; omega)
  rw [List.map_map] at j
  unfold mat at e
  simp [f_image_text, runB, ss_image_text, mat, plainAt, wipeR, back, e]
  rw [show (c.map fun r => PyData.str (wt r)) = c.map (PyData.str ∘ wt) from rfl, j]
  simp [cT]
theorem state_line {x : Ste} (h : SOk x) : f__law_state_line.run [.dat (sD x)] [] = some (.av (.dat (.str (sT x))), []) := by
  obtain ⟨h0, h1, hc, hm⟩ := h
  have go : ∀ (sep : Str) (k : Nat) (hs : Sm k sep) (hk : k ≤ 3) (c : List (List Int)) (hc : MOk c) (i j : Nat) (st : Str → Sv.Slot → MS) (hst : ∀ t x, (st t x).rho[i]? = some (.av (.dat (.str t))) ∧ j < (st t x).rho.length ∧ i < (st t x).rho.length ∧ i ≠ j ∧ ∀ y, (⟨(st t x).rho.set j y, (st t x).hp⟩ : MS) = st t y) (hst2 : ∀ t t' x, (⟨(st t x).rho.set i (.av (.dat (.str t'))), (st t x).hp⟩ : MS) = st t' x),
      ∃ x', forL [j] (exs (.cons (.set i (.bin .add (.bin .add (.var i) (.lit (.str sep))) (.callP f__law_words (.cons (.var j) .nil)))) .nil)) (c.map rw) (st ⟨#[]⟩ .emp) = some (.nx, st (flS sep (c.map wt)) x') := by
    intro sep k hs hk c hc i j st hst hst2
    refine cat_inv (tg := [j]) sep (c.map rw) (c.map wt) (by simp) st (n := 32) (k := k) hs hc.rows (by
      have := hc.2.1
      have : c.length * (k + 32) ≤ 8 * 35 := Nat.mul_le_mul this (by omega)
      simp; omega) ?_ .emp (by omega)
    intro l d y t x hd hy ht
    have hl : l < c.length := by have := (List.getElem?_eq_some_iff.mp hd).1; simpa using this
    simp [hl] at hd hy
    subst hd hy
    have hr := hc.2.2 _ (List.getElem_mem hl)
    obtain ⟨a1, a2, a3, a4, a5⟩ := hst t x
    have sl := hs.1
    have wl := hr.wt.1
    refine ⟨_, bind_one a2, .av (.dat (rw c[l])), ?_⟩
    rw [a5]
    obtain ⟨b1, b2, b3, b4, b5⟩ := hst t (.av (.dat (rw c[l])))
    have b6 : (st t (.av (.dat (rw c[l])))).rho[j]? = some (.av (.dat (rw c[l]))) := by
      rw [← a5 (.av (.dat (rw c[l])))]
      exact List.getElem?_set_self a2
    have d1 := bin_addS (x := t) (y := sep) (by omega)
    have d2 := bin_addS (x := t ++ sep) (y := wt c[l]) (by rw [len_app]; omega)
    have z := set_av (v := .dat (.str (t ++ sep ++ wt c[l]))) b3
    simp [b1, b6, hr.law, d1, d2, z]
    rw [hst2]
  obtain ⟨x1, e1⟩ := go ⟨#[32, 124, 32]⟩ 3 bar_sm (by decide) x.c hc 1 2 (fun t y => ⟨[.av (.dat (sD x)), .av (.dat (.str t)), y, .emp, .emp], []⟩) (fun t y => ⟨rfl, by simp, by simp, by decide, fun _ => rfl⟩) (fun t t' y => rfl)
  obtain ⟨x2, e2⟩ := go ⟨#[44, 32]⟩ 2 com_sm (by decide) x.m hm 3 4 (fun t y => ⟨[.av (.dat (sD x)), .av (.dat (.str (flS ⟨#[32, 124, 32]⟩ (x.c.map wt)))), x1, .av (.dat (.str t)), y], []⟩) (fun t y => ⟨rfl, by simp, by simp, by decide, fun _ => rfl⟩) (fun t t' y => rfl)
  have s1 := flS_slice (i := 3) (sep := ⟨#[32, 124, 32]⟩) (ys := x.c.map wt) rfl bar_sm hc.rows (by have := hc.2.1; simp; omega) (by simpa using hc.1)
  have s2 := flS_slice (i := 2) (sep := ⟨#[44, 32]⟩) (ys := x.m.map wt) rfl com_sm hm.rows (by have := hm.2.1; simp; omega) (by simpa using hm.1)
  have l1 := (istr_sm h0 h1).1
  have l2 := hc.cT.1
  have l3 := hm.mT.1
  have a1 := bin_addS (x := ⟨#[115, 101, 115, 115, 105, 111, 110, 32]⟩) (y := istr x.s) (by rw [lit3]; omega)
  have a2 := bin_addS (x := ⟨#[115, 101, 115, 115, 105, 111, 110, 32]⟩ ++ istr x.s) (y := ⟨#[32, 100, 105, 115, 107, 32]⟩) (by rw [len_app, lit3, lit4]; omega)
  have a3 := bin_addS (x := ⟨#[115, 101, 115, 115, 105, 111, 110, 32]⟩ ++ istr x.s ++ ⟨#[32, 100, 105, 115, 107, 32]⟩) (y := cT x.c) (by rw [len_app, len_app, lit3, lit4]; omega)
  have a4 := bin_addS (x := ⟨#[115, 101, 115, 115, 105, 111, 110, 32]⟩ ++ istr x.s ++ ⟨#[32, 100, 105, 115, 107, 32]⟩ ++ cT x.c) (y := ⟨#[32, 97, 108, 108, 111, 119, 101, 100, 32]⟩) (by rw [len_app, len_app, len_app, lit3, lit4, lit5]; omega)
  have a5 := bin_addS (x := ⟨#[115, 101, 115, 115, 105, 111, 110, 32]⟩ ++ istr x.s ++ ⟨#[32, 100, 105, 115, 107, 32]⟩ ++ cT x.c ++ ⟨#[32, 97, 108, 108, 111, 119, 101, 100, 32]⟩) (y := mT x.m) (by rw [len_app, len_app, len_app, len_app, lit3, lit4, lit5]; omega)
  have p1 : atD [PyData.int x.s, mat x.c, mat x.m] 1 = some (mat x.c) := rfl
  have p2 : atD [PyData.int x.s, mat x.c, mat x.m] 2 = some (mat x.m) := rfl
  simp [f__law_state_line, runB, ss__law_state_line, lb__law_state_line_0, lb__law_state_line_1, sD, p1, p2] at e1 e2 ⊢
  have q1 : ∀ ms : MS, (evI (.seq (.sub (.var 0) (.lit (.int 1)))) ms) = (evI (.seq (.sub (.var 0) (.lit (.int 1)))) ms) := fun _ => rfl
  simp [mat] at e1 e2 s1 s2 ⊢
  simp [e1, e2, s1, s2, str_val h0 h1, show Str.join ⟨#[32, 124, 32]⟩ (x.c.map wt) = cT x.c from rfl, show Str.join ⟨#[44, 32]⟩ (x.m.map wt) = mT x.m from rfl, a1, a2, a3, a4, a5, sT]
end K16

namespace K16
open Sv PySem
theorem rg (n : Nat) : ((List.range n).map fun (j : Nat) => PyData.int j) = (List.range n).map (fun (j : Nat) => PyData.int j) := rfl
theorem row_run {hp : List AO} (D : DrawOk hp) {n m : Int} (h0 : 0 ≤ n) (h1 : n ≤ 1000) (m0 : 0 < m) (m1 : m < 1000) : ∃ ns hp', f__law_row.run [.ref 1, iv n, iv m] hp = some (.av (.dat (rw ns)), hp') ∧ DrawOk hp' ∧ Fm two hp hp' ∧ (ns.length : Int) = n ∧ ∀ x ∈ ns, 0 ≤ x ∧ x < m := by
  obtain ⟨ns, hp', e, ⟨D1, F1⟩, l, q⟩ := compL_relT (tg := [3]) (elt := ev false (.call f__law_draw (.cons (.var 0) (.cons (.var 2) .nil)))) (fun (j : Nat) => PyData.int j) PyData.int (rho0 := [.av (.ref 1), .av (iv n), .av (iv m), .emp]) (fun h => DrawOk h ∧ Fm two hp h) (fun _ v => 0 ≤ v ∧ v < m)
    (List.range n.toNat) [] hp ⟨D, .refl⟩ (by
      rintro j hj h2 ⟨D2, F2⟩
      obtain ⟨v, h3, q1, q2, q3, q4, q5⟩ := draw_fm D2 m0 (by simp; omega)
      exact ⟨[.av (.ref 1), .av (iv n), .av (iv m), .av (iv j)], .av (iv v), v, h3, by simp, by simp [q1], rfl, ⟨q4, q5⟩, ⟨q2, F2.trans q3⟩, rfl, rfl⟩) (by simp; omega)
  have c1 : -4611686018427387904 ≤ n := by omega
  have c2 : n < 4611686018427387904 := by omega
  simp at e l
  refine ⟨ns, hp', ?_, D1, F1, by omega, fun x hx => ?_⟩
  · simp [f__law_row, runB, ss__law_row, c1, c2, plainAt, wipeR, e, back, rw]
  · obtain ⟨_, _, r⟩ := q x hx
    exact r
theorem rw_eq : EqOk (fun _ : List Int => True) rw 1 := (EqOk.int.tup).mono (fun _ _ _ _ => trivial) (Nat.le_refl _)
theorem mat_eq : EqOk (fun _ : List (List Int) => True) mat 2 := (rw_eq.tup).mono (fun _ _ _ _ => trivial) (Nat.le_refl _)
theorem sD_eq : EqOk (fun _ : Ste => True) sD 3 := by
  have h := (EqOk.int).triple mat_eq mat_eq
  refine ⟨fun a b _ _ => ?_, fun a _ => h.dep (a.s, a.c, a.m) ⟨trivial, trivial, trivial⟩⟩
  have := h.eq (a.s, a.c, a.m) (b.s, b.c, b.m) ⟨trivial, trivial, trivial⟩ ⟨trivial, trivial, trivial⟩
  show eqq (.tuple [.int a.s, mat a.c, mat a.m]) (.tuple [.int b.s, mat b.c, mat b.m]) = _
  rw [this]
  obtain ⟨a1, a2, a3⟩ := a
  obtain ⟨b1, b2, b3⟩ := b
  by_cases c : a1 = b1 <;> by_cases d : a2 = b2 <;> by_cases f : a3 = b3 <;> simp [c, d, f]
theorem intsD_map : ∀ ns : List Int, intsD (ns.map .int) = some ns
  | [] => rfl
  | n :: r => by simp [intsD, intsD_map r]
theorem tupsI_map : ∀ rs : List (List Int), tupsI (rs.map rw) = some rs
  | [] => rfl
  | r :: rs => by
    show (match intsD (r.map .int), tupsI (rs.map rw) with
      | some n, some m => some (n :: m)
      | _, _ => none) = _
    rw [intsD_map, tupsI_map rs]
theorem dedC_sub : ∀ {l : List (List Int)} {x : List Int}, x ∈ dedC l → x ∈ l
  | [], _, h => h
  | y :: r, x, h => by
    unfold dedC at h
    split at h
    · exact List.mem_cons_of_mem _ (dedC_sub h)
    · rcases List.mem_cons.mp h with rfl | h
      · exact List.mem_cons_self ..
      · exact List.mem_cons_of_mem _ (dedC_sub h)
theorem dedC_ne : ∀ {l : List (List Int)}, l ≠ [] → dedC l ≠ []
  | [], h => absurd rfl h
  | y :: r, h => by
    unfold dedC
    split
    · rename_i c
      exact dedC_ne fun z => by rw [z] at c; cases c
    · simp
theorem dedC_len : ∀ l : List (List Int), (dedC l).length ≤ l.length
  | [] => Nat.le_refl _
  | y :: r => by
    have := dedC_len r
    unfold dedC
    split <;> simp <;> omega
theorem insC_mem (x : List Int) : ∀ {l : List (List Int)} {y : List Int}, y ∈ insC x l ↔ y = x ∨ y ∈ l
  | [], y => by simp [insC]
  | z :: r, y => by
    unfold insC
    split
    · simp
    · simp [insC_mem x (l := r)]
      constructor
      · rintro (h | h | h) <;> simp [h]
      · rintro (h | h | h) <;> simp [h]
theorem sortC_mem : ∀ {l : List (List Int)} {y : List Int}, y ∈ sortC l ↔ y ∈ l
  | [], y => .rfl
  | x :: r, y => by simp [sortC, insC_mem, sortC_mem (l := r)]
theorem insC_len (x : List Int) : ∀ l : List (List Int), (insC x l).length = l.length + 1
  | [] => rfl
  | z :: r => by
    unfold insC
    split
    · rfl
    · simp [insC_len x r]
theorem sortC_len : ∀ l : List (List Int), (sortC l).length = l.length
  | [] => rfl
  | x :: r => by simp [sortC, insC_len, sortC_len r]
def ns_ok (rs : List (List Int)) : Prop := rs.all (okT ((rs.headD [0]).length)) = true
theorem srt_val {rs : List (List Int)} {d : Nat} (hne : rs ≠ []) (hl : rs.length < 64) (hd : 1 ≤ d) (h : ∀ r ∈ rs, r.length = d ∧ ∀ x ∈ r, 0 ≤ x ∧ x < 16) :
    ∃ ss : List (List Int), srtV true (.lst (rs.map rw)) = some (.lst (ss.map rw)) ∧ ss ≠ [] ∧ ss.length ≤ rs.length ∧ ∀ r ∈ ss, r ∈ rs := by
  have hh : (rs.headD [0]).length = d := by
    cases rs with
    | nil => exact absurd rfl hne
    | cons r _ => exact (h r (List.mem_cons_self ..)).1
  refine ⟨sortC (dedC rs), ?_, ?_, ?_, ?_⟩
  · unfold srtV
    simp only [d_lst, tupsI_map]
    have z : ns_ok rs := ?_
    rw [if_pos ⟨hl, z, by rw [hh]; exact hd⟩]
    · rfl
    show rs.all (okT ((rs.headD [0]).length)) = true
    rw [hh, List.all_eq_true]
    intro r hr
    obtain ⟨h1, h2⟩ := h r hr
    unfold okT
    rw [Bool.and_eq_true, decide_eq_true_eq, List.all_eq_true]
    exact ⟨h1, fun x hx => by have := h2 x hx; simp; omega⟩
  · intro z
    have := sortC_len (dedC rs)
    rw [z] at this
    exact dedC_ne hne (List.length_eq_zero_iff.mp this.symm)
  · rw [sortC_len]
    exact dedC_len rs
  · intro r hr
    exact dedC_sub (sortC_mem.mp hr)
end K16

namespace K16
open Sv PySem
def Strs (xs : List PyData) : Prop := ∀ d ∈ xs, ∃ s n, d = .str s ∧ Sm n s
theorem Strs.dep {xs : List PyData} (h : Strs xs) : deps xs = 0 := Nat.le_zero.mp (deps_le fun d hd => by
  obtain ⟨s, n, rfl, q⟩ := h d hd
  exact Nat.le_of_eq q.dep)
theorem Strs.refl {xs : List PyData} (h : Strs xs) : eqqs xs xs = true := eqqs_refl _ (noDicts_of fun d hd => by
  obtain ⟨s, n, rfl, q⟩ := h d hd
  rfl)
def cntT (a : Str) (n : Nat) (b : Str) : Str := a ++ istr (n : Int) ++ b
theorem cnt_sm {a b : Str} {i j n : Nat} (ha : Sm i a) (hb : Sm j b) (hn : n < 256) : Sm (i + 3 + j) (cntT a n b) := (ha.app (istr_sm (by omega) (by omega))).app hb
theorem cnt_a1 {a b : Str} {i j n : Nat} (ha : Sm i a) (hn : n < 256) (hi : i ≤ 100) : binV .add (.av (.dat (.str a))) (.av (.dat (.str (istr (n : Int))))) = some (.av (.dat (.str (a ++ istr (n : Int))))) := bin_addS (by
  have := ha.1
  have := (istr_sm (i := (n : Int)) (by omega) (by omega)).1
  omega)
theorem cnt_a2 {a b : Str} {i j n : Nat} (ha : Sm i a) (hb : Sm j b) (hn : n < 256) (hi : i ≤ 100) (hj : j ≤ 100) : binV .add (.av (.dat (.str (a ++ istr (n : Int))))) (.av (.dat (.str b))) = some (.av (.dat (.str (cntT a n b)))) := bin_addS (by
  have := ha.1
  have := hb.1
  have := (istr_sm (i := (n : Int)) (by omega) (by omega)).1
  rw [len_app]
  omega)
theorem un_sm : Sm 8 (⟨#[117, 110, 115, 97, 102, 101, 58, 32]⟩ : Str) := ⟨by decide, by decide⟩
theorem cr_sm : Sm 8 (⟨#[32, 99, 114, 97, 115, 104, 101, 115]⟩ : Str) := ⟨by decide, by decide⟩
theorem sf_sm : Sm 6 (⟨#[115, 97, 102, 101, 58, 32]⟩ : Str) := ⟨by decide, by decide⟩
theorem st_sm : Sm 7 (⟨#[32, 115, 116, 97, 116, 101, 115]⟩ : Str) := ⟨by decide, by decide⟩
theorem fo_sm : Sm 6 (⟨#[102, 111, 117, 110, 100, 32]⟩ : Str) := ⟨by decide, by decide⟩
def uH (ps : List (Int × List Int)) : Str := cntT ⟨#[117, 110, 115, 97, 102, 101, 58, 32]⟩ ps.length ⟨#[32, 99, 114, 97, 115, 104, 101, 115]⟩
def fH (m : List Int) : Str := ⟨#[102, 111, 117, 110, 100, 32]⟩ ++ wt m
def uT (ps : List (Int × List Int)) (m : List Int) : List PyData := [.str (uH ps)] ++ (ps.map fun p => .str (pT p)) ++ [.str (fH m)]
theorem fH_add {m : List Int} (h : RowOk m) : binV .add (.av (.dat (.str ⟨#[102, 111, 117, 110, 100, 32]⟩))) (.av (.dat (.str (wt m)))) = some (.av (.dat (.str (fH m)))) := bin_addS (by
  have := h.wt.1
  rw [lit10]
  omega)
theorem pT_sm {p : Int × List Int} (h : POk p) : Sm 50 (pT p) := by
  have a : Sm 9 (⟨#[99, 114, 97, 115, 104, 32, 97, 116, 32]⟩ : Str) := ⟨by decide, by decide⟩
  have b : Sm 6 (⟨#[32, 119, 105, 116, 104, 32]⟩ : Str) := ⟨by decide, by decide⟩
  exact ((a.app (istr_sm h.1 h.2.1)).app b).app h.2.2.wt |>.le (by decide)
theorem uT_strs {ps : List (Int × List Int)} {m : List Int} (h : ∀ p ∈ ps, POk p) (hl : ps.length < 256) (hm : RowOk m) : Strs (uT ps m) := fun d hd => by
  unfold uT at hd
  rw [List.mem_append, List.mem_append] at hd
  rcases hd with (hd | hd) | hd
  · simp at hd
    exact ⟨_, _, hd, cnt_sm un_sm cr_sm hl⟩
  · obtain ⟨p, hp, rfl⟩ := List.mem_map.mp hd
    exact ⟨_, _, rfl, pT_sm (h p hp)⟩
  · simp at hd
    exact ⟨_, _, hd, fo_sm.app hm.wt⟩
theorem report_unsafe {ps : List (Int × List Int)} {m : List Int} (h : ∀ p ∈ ps, POk p) (hl : ps.length < 256) (hm : RowOk m) : f_report.run [.dat (.tuple [.str ⟨#[117, 110, 115, 97, 102, 101]⟩, .tuple (ps.map pD), rw m])] [] = some (.lst (uT ps m), []) := by
  have a1 := cnt_a1 (b := ⟨#[]⟩) (j := 0) un_sm hl (by decide)
  have a2 := cnt_a2 un_sm cr_sm hl (by decide) (by decide)
  have b1 := bin_addL1 (xs := [.str (uH ps)]) (ys := ps.map fun p => .str (pT p)) (by simp; omega)
  have b2 := bin_addL1 (xs := [.str (uH ps)] ++ ps.map fun p => .str (pT p)) (ys := [.str (fH m)]) (by simp; omega)
  simp [uH] at b1 b2 
  simp [f_report, runB, ss_report, show ¬ (⟨#[117, 110, 115, 97, 102, 101]⟩ : Str) = ⟨#[115, 97, 102, 101]⟩ by decide, path_lines h (by omega), str_val (i := (ps.length : Int)) (by omega) (by omega), a1, a2, hm.text, fH_add hm, uT, uH, b1, b2]
def safeH (n : Nat) : Str := cntT ⟨#[115, 97, 102, 101, 58, 32]⟩ n ⟨#[32, 115, 116, 97, 116, 101, 115]⟩
theorem report_safe {xs : List PyData} (hl : xs.length < 256) : f_report.run [.dat (.tuple [.str ⟨#[115, 97, 102, 101]⟩, .list xs])] [] = some (.lst [.str (safeH xs.length)], []) := by
  have a1 := cnt_a1 (b := ⟨#[]⟩) (j := 0) sf_sm hl (by decide)
  have a2 := cnt_a2 sf_sm st_sm hl (by decide) (by decide)
  simp [f_report, runB, ss_report, str_val (i := (xs.length : Int)) (by omega) (by omega), a1, a2, safeH]
theorem sT_sm {x : Ste} (h : SOk x) : Sm 700 (sT x) := by
  have a : Sm 8 (⟨#[115, 101, 115, 115, 105, 111, 110, 32]⟩ : Str) := ⟨by decide, by decide⟩
  have b : Sm 6 (⟨#[32, 100, 105, 115, 107, 32]⟩ : Str) := ⟨by decide, by decide⟩
  have c : Sm 9 (⟨#[32, 97, 108, 108, 111, 119, 101, 100, 32]⟩ : Str) := ⟨by decide, by decide⟩
  exact (((((a.app (istr_sm h.1 h.2.1)).app b).app h.2.2.1.cT).app c).app h.2.2.2.mT).le (by decide)
theorem state_lines {sts : List Ste} (h : ∀ s ∈ sts, SOk s) (hl : sts.length < 256) : f_state_lines.run [.dat (.list (sts.map sD))] [] = some (.lst (sts.map fun s => .str (sT s)), []) := by
  obtain ⟨ms', e, x2, x3, x4, x5, rfl⟩ := forL_T (tg := [2, 3, 4]) (body := exs lb_state_lines_0) sD sts (fun pre ms => ∃ x2 x3 x4 x5, ms = ⟨[.av (.dat (.list (sts.map sD))), .own (pre.map fun s => .str (sT s)), x2, x3, x4, x5, .emp], []⟩) ⟨.emp, .emp, .emp, .emp, rfl⟩ (by
    rintro pre x post ms hx ⟨x2, x3, x4, x5, rfl⟩
    have hs := h x (by rw [hx]; simp)
    have hpl : pre.length < 16777216 := by have := congrArg List.length hx; simp at this; omega
    obtain ⟨h0, h1, hc, hm⟩ := hs
    have c := rows_comp hm (rho := [.av (.dat (.list (sts.map sD))), .own (pre.map fun s => .str (sT s)), .av (iv x.s), .av (.dat (mat x.c)), .av (.dat (mat x.m)), x5, .emp]) (hp := []) (i := 6) (by simp) rfl
    have j := join_val (s := ⟨#[44, 32]⟩) (ys := x.m.map wt) (n := 32) hm.rows (by have := hm.2.1; rw [lit6]; simp; omega)
    rw [List.map_map] at j
    have l1 := (istr_sm h0 h1).1
    have l2 := hc.cT.1
    have l3 := hm.mT.1
    have a1 := bin_addS (x := ⟨#[115, 101, 115, 115, 105, 111, 110, 32]⟩) (y := istr x.s) (by rw [lit3]; omega)
    have a2 := bin_addS (x := ⟨#[115, 101, 115, 115, 105, 111, 110, 32]⟩ ++ istr x.s) (y := ⟨#[32, 100, 105, 115, 107, 32]⟩) (by rw [len_app, lit3, lit4]; omega)
    have a3 := bin_addS (x := ⟨#[115, 101, 115, 115, 105, 111, 110, 32]⟩ ++ istr x.s ++ ⟨#[32, 100, 105, 115, 107, 32]⟩) (y := cT x.c) (by rw [len_app, len_app, lit3, lit4]; omega)
    have a4 := bin_addS (x := ⟨#[115, 101, 115, 115, 105, 111, 110, 32]⟩ ++ istr x.s ++ ⟨#[32, 100, 105, 115, 107, 32]⟩ ++ cT x.c) (y := ⟨#[32, 97, 108, 108, 111, 119, 101, 100, 32]⟩) (by rw [len_app, len_app, len_app, lit3, lit4, lit5]; omega)
    have a5 := bin_addS (x := ⟨#[115, 101, 115, 115, 105, 111, 110, 32]⟩ ++ istr x.s ++ ⟨#[32, 100, 105, 115, 107, 32]⟩ ++ cT x.c ++ ⟨#[32, 97, 108, 108, 111, 119, 101, 100, 32]⟩) (y := mT x.m) (by rw [len_app, len_app, len_app, len_app, lit3, lit4, lit5]; omega)
    refine ⟨[.av (.dat (.list (sts.map sD))), .own (pre.map fun s => .str (sT s)), .av (iv x.s), .av (.dat (mat x.c)), .av (.dat (mat x.m)), x5, .emp], _, by simp [sD], ?_, .av (iv x.s), .av (.dat (mat x.c)), .av (.dat (mat x.m)), .av (.dat (.str (mT x.m))), rfl⟩
    have q : x.m.map (fun r => PyData.str (wt r)) = x.m.map (PyData.str ∘ wt) := rfl
    rw [q] at c
    simp [lb_state_lines_0, mat] at c ⊢
    have im := image_text hc
    simp [mat] at im
    simp [plainAt, wipeR, back, c, j, str_val h0 h1, im, show Str.join ⟨#[44, 32]⟩ (x.m.map wt) = mT x.m from rfl, a1, a2, a3, a4, a5, hpl]
    rfl)
  simp at e
  simp [f_state_lines, runB, ss_state_lines, e]
end K16

namespace K16
open Sv PySem
def pth_ok (sec : Int) (p : Int × List Int) : Prop := 0 ≤ p.1 ∧ p.1 < 200 ∧ (p.2.length : Int) = sec ∧ ∀ x ∈ p.2, 0 ≤ x ∧ x < 30
theorem row_ok {r : List Int} {n m : Int} (h : ∀ x ∈ r, 0 ≤ x ∧ x < m) (hm : m ≤ 30) (hl : (r.length : Int) = n) (h1 : 1 ≤ n) (h2 : n ≤ 8) : RowOk r :=
  ⟨fun x hx => by have := h x hx; omega, fun z => by rw [z] at hl; simp at hl; omega, by omega⟩
/-- how the loop over the states stands -/
def LI (ns : List Int) (sec keys wid : Int) (ps : List (Int × List Int)) (mp : List Int) (y8 y9 y10 y11 : Sv.Slot) (n : Nat) (ms : MS) : Prop := ∃ (x6 x13 x15 x17 : Sv.Slot) (sts : List Ste) (hp : List AO), ms = ⟨[.av (.scr ns), .av (.ref 1), .av (iv sec), .av (iv keys), .av (iv wid), .av (.dat (.tuple (ps.map pD))), x6, .av (.dat (rw mp)), y8, y9, y10, y11, .own (sts.map sD), x13, .emp, x15, .emp, x17], hp⟩ ∧ DrawOk hp ∧ (∀ s ∈ sts, SOk s) ∧ sts.length ≤ n ∧ ∀ ys, x17 ≠ Sv.Slot.own ys
theorem turn {ns : List Int} {sec keys wid : Int} {ps : List (Int × List Int)} {mp : List Int} {y8 y9 y10 y11 : Sv.Slot} (s0 : 1 ≤ sec) (s1 : sec ≤ 6) (k0 : 1 ≤ keys) (k1 : keys ≤ 3) (w0 : 1 ≤ wid) (w1 : wid ≤ 4) {n : Nat} (hn : n < 100) {ms : MS} (h : LI ns sec keys wid ps mp y8 y9 y10 y11 n ms) (o : PyData) :
    ∃ rho ms1, bindT [6] o ms.rho = some rho ∧ exs lb_law_0 ⟨rho, ms.hp⟩ = some (.nx, ms1) ∧ LI ns sec keys wid ps mp y8 y9 y10 y11 (n + 1) ms1 := by
  obtain ⟨x6, x13, x15, x17, sts, hp, rfl, W, hs, hl, _⟩ := h
  obtain ⟨cs, hp1, e1, W1, l1, q1⟩ := compL_relT (tg := [14]) (elt := ev false (.call f__law_row (.cons (.var 1) (.cons (.var 4) (.cons (.lit (.int 16)) .nil))))) (fun (j : Nat) => PyData.int j) rw
    (rho0 := [.av (.scr ns), .av (.ref 1), .av (iv sec), .av (iv keys), .av (iv wid), .av (.dat (.tuple (ps.map pD))), .av (.dat o), .av (.dat (rw mp)), y8, y9, y10, y11, .own (sts.map sD), x13, .emp, x15, .emp, x17]) DrawOk (fun _ r => (r.length : Int) = wid ∧ ∀ x ∈ r, 0 ≤ x ∧ x < 16) (List.range sec.toNat) [] hp W (by
      intro j hj h2 D2
      obtain ⟨r, h4, r1, r2, _, r4, r5⟩ := row_run D2 (n := wid) (m := 16) (by omega) (by omega) (by omega) (by omega)
      exact ⟨[.av (.scr ns), .av (.ref 1), .av (iv sec), .av (iv keys), .av (iv wid), .av (.dat (.tuple (ps.map pD))), .av (.dat o), .av (.dat (rw mp)), y8, y9, y10, y11, .own (sts.map sD), x13, .av (iv j), x15, .emp, x17], .av (.dat (rw r)), r, h4, by simp, by simp [r1], rfl, ⟨r4, r5⟩, r2, rfl, rfl⟩) (by simp; omega)
  obtain ⟨k, hp2, e2, W2, _, v0, v1⟩ := draw_fm W1 (m := 3) (by decide) (by decide)
  obtain ⟨rs, hp3, e3, W3, l3, q3⟩ := compL_relT (tg := [16]) (elt := ev false (.call f__law_row (.cons (.var 1) (.cons (.var 3) (.cons (.lit (.int 16)) .nil))))) (fun (j : Nat) => PyData.int j) rw
    (rho0 := [.av (.scr ns), .av (.ref 1), .av (iv sec), .av (iv keys), .av (iv wid), .av (.dat (.tuple (ps.map pD))), .av (.dat o), .av (.dat (rw mp)), y8, y9, y10, y11, .own (sts.map sD), .av (.dat (mat cs)), .emp, x15, .emp, x17]) DrawOk (fun _ r => (r.length : Int) = keys ∧ ∀ x ∈ r, 0 ≤ x ∧ x < 16) (List.range (1 + k).toNat) [] hp2 W2 (by
      intro j hj h2 D2
      obtain ⟨r, h4, r1, r2, _, r4, r5⟩ := row_run D2 (n := keys) (m := 16) (by omega) (by omega) (by omega) (by omega)
      exact ⟨[.av (.scr ns), .av (.ref 1), .av (iv sec), .av (iv keys), .av (iv wid), .av (.dat (.tuple (ps.map pD))), .av (.dat o), .av (.dat (rw mp)), y8, y9, y10, y11, .own (sts.map sD), .av (.dat (mat cs)), .emp, x15, .av (iv j), x17], .av (.dat (rw r)), r, h4, by simp, by simp [r1], rfl, ⟨r4, r5⟩, r2, rfl, rfl⟩) (by simp; omega)
  simp at l1 l3
  obtain ⟨ss, e4, n4, l4, q4⟩ := srt_val (rs := rs) (d := keys.toNat) (fun z => by rw [z] at l3; simp at l3; omega) (by omega) (by omega) (fun r hr => by
    obtain ⟨_, _, r1, r2⟩ := q3 r hr
    exact ⟨by omega, r2⟩)
  obtain ⟨u, hp5, e5, W5, _, u0, u1⟩ := draw_fm W3 (m := 4) (by decide) (by decide)
  have hcs : MOk cs := ⟨fun z => by rw [z] at l1; simp at l1; omega, by omega, fun r hr => by
    obtain ⟨_, _, r1, r2⟩ := q1 r hr
    exact row_ok r2 (by decide) r1 (by omega) (by omega)⟩
  have hss : MOk ss := ⟨n4, by omega, fun r hr => by
    obtain ⟨_, _, r1, r2⟩ := q3 r (q4 r hr)
    exact row_ok r2 (by decide) r1 (by omega) (by omega)⟩
  have so : SOk ⟨u, cs, ss⟩ := ⟨u0, Int.lt_trans u1 (by decide), hcs, hss⟩
  have c1 : -4611686018427387904 ≤ sec := by omega
  have c2 : sec < 4611686018427387904 := by omega
  have c3 : -4611686018427387904 ≤ 1 + k := by omega
  have c4 : 1 + k < 4611686018427387904 := by omega
  simp [mat] at e1 e3
  have ein := (sD_eq).inL (x := .av (.dat (sD ⟨u, cs, ss⟩))) (y := .lst (sts.map sD)) (a := ⟨u, cs, ss⟩) (bs := sts) rfl rfl trivial (fun _ _ => trivial) (by decide)
  have hsl : sts.length < 16777216 := by omega
  simp [sD, mat] at ein
  by_cases hin : (⟨u, cs, ss⟩ : Ste) ∈ sts
  · refine ⟨_, _, bind_one (by simp), ?_, .av (.dat o), .av (.dat (mat cs)), .av (.dat (mat ss)), .av (.dat (sD ⟨u, cs, ss⟩)), sts, hp5, rfl, W5, hs, by omega, by simp⟩
    simp [lb_law_0, c1, c2, plainAt, wipeR, back, e1, e2, c3, c4, e3, e4, e5, sD, mat]
    simp [sD, mat, ein, hin]
  · refine ⟨_, _, bind_one (by simp), ?_, .av (.dat o), .av (.dat (mat cs)), .av (.dat (mat ss)), .av (.dat (sD ⟨u, cs, ss⟩)), sts ++ [⟨u, cs, ss⟩], hp5, rfl, W5, fun s hs' => ?_, by simp; omega, by simp⟩
    · simp [lb_law_0, c1, c2, plainAt, wipeR, back, e1, e2, c3, c4, e3, e4, e5, sD, mat]
      simp [sD, mat, ein, hin, hsl]
    · rcases List.mem_append.mp hs' with z | z
      · exact hs s z
      · rw [List.mem_singleton.mp z]
        exact so
theorem law_plain (ns : List Int) (h : ns.length ≤ 63) : ∃ hp, f_law.run [.scr ns] [] = some (.av (.dat (.bool true)), hp) := by
  obtain ⟨hp0, e0, D0⟩ := state_run ns h
  obtain ⟨W0, L0⟩ := draw_of D0
  obtain ⟨a, hp1, e1, W1, F1, a0, a1⟩ := draw_fm W0 (m := 6) (by decide) (by decide)
  obtain ⟨b, hp2, e2, W2, F2, b0, b1⟩ := draw_fm W1 (m := 3) (by decide) (by decide)
  obtain ⟨c, hp3, e3, W3, F3, c0, c1⟩ := draw_fm W2 (m := 4) (by decide) (by decide)
  obtain ⟨n, hp4, e4, W4, F4, n0, n1⟩ := draw_fm W3 (m := 5) (by decide) (by decide)
  obtain ⟨ps, hp5, e5, W5, l5, q5⟩ := compL_relT (tg := [6]) (elt := ev false (.tup (.cons (.call f__law_draw (.cons (.var 1) (.cons (.lit (.int 200)) .nil))) (.cons (.call f__law_row (.cons (.var 1) (.cons (.var 2) (.cons (.lit (.int 30)) .nil)))) .nil)))) (fun (j : Nat) => PyData.int j) pD
    (rho0 := [.av (.scr ns), .av (.ref 1), .av (iv (1 + a)), .av (iv (1 + b)), .av (iv (1 + c)), .emp, .emp, .emp, .emp, .emp, .emp, .emp, .emp, .emp, .emp, .emp, .emp, .emp]) DrawOk (fun _ p => pth_ok (1 + a) p) (List.range n.toNat) [] hp4 W4 (by
      intro j hj h2 D2
      obtain ⟨v, h3, p1, p2, _, p4, p5⟩ := draw_fm D2 (m := 200) (by decide) (by decide)
      obtain ⟨r, h4, r1, r2, _, r4, r5⟩ := row_run p2 (n := 1 + a) (m := 30) (by omega) (by omega) (by omega) (by omega)
      exact ⟨[.av (.scr ns), .av (.ref 1), .av (iv (1 + a)), .av (iv (1 + b)), .av (iv (1 + c)), .emp, .av (iv j), .emp, .emp, .emp, .emp, .emp, .emp, .emp, .emp, .emp, .emp, .emp], .av (.dat (pD (v, r))), (v, r), h4, by simp, by simp [p1, r1, pD], rfl, ⟨p4, p5, r4, r5⟩, r2, rfl, rfl⟩) (by simp; omega)
  obtain ⟨mp, hp6, e6, W6, _, l6, q6⟩ := row_run W5 (n := 1 + b) (m := 16) (by omega) (by omega) (by omega) (by omega)
  have hmp : RowOk mp := row_ok q6 (by decide) l6 (by omega) (by omega)
  have hps : ∀ p ∈ ps, POk p := fun p hp => by
    obtain ⟨_, _, r⟩ := q5 p hp
    exact ⟨r.1, by have := r.2.1; omega, row_ok r.2.2.2 (by decide) r.2.2.1 (by omega) (by omega)⟩
  have hpl : ps.length < 256 := by simp at l5; omega
  obtain ⟨ms7, e7, y9, y10, rfl⟩ := forL_T (tg := [9, 10]) (body := exs lb_law_1) pD ps (fun pre ms => ∃ y9 y10, ms = ⟨[.av (.scr ns), .av (.ref 1), .av (iv (1 + a)), .av (iv (1 + b)), .av (iv (1 + c)), .av (.dat (.tuple (ps.map pD))), .emp, .av (.dat (rw mp)), .own ([.str (uH ps)] ++ pre.map fun p => .str (pT p)), y9, y10, .emp, .emp, .emp, .emp, .emp, .emp, .emp], hp6⟩) ⟨.emp, .emp, rfl⟩ (by
    rintro pre ⟨k, r⟩ post ms hx ⟨y9, y10, rfl⟩
    have hpo := hps (k, r) (by rw [hx]; simp)
    have hl : pre.length < 1000 := by have := congrArg List.length hx; simp at this; omega
    refine ⟨[.av (.scr ns), .av (.ref 1), .av (iv (1 + a)), .av (iv (1 + b)), .av (iv (1 + c)), .av (.dat (.tuple (ps.map pD))), .emp, .av (.dat (rw mp)), .own ([.str (uH ps)] ++ pre.map fun p => .str (pT p)), .av (iv k), .av (.dat (rw r)), .emp, .emp, .emp, .emp, .emp, .emp, .emp], _, by simp [pD], ?_, .av (iv k), .av (.dat (rw r)), rfl⟩
    have ln := line_eval hpo f__law_words hpo.2.2.law (rho := [.av (.scr ns), .av (.ref 1), .av (iv (1 + a)), .av (iv (1 + b)), .av (iv (1 + c)), .av (.dat (.tuple (ps.map pD))), .emp, .av (.dat (rw mp)), .own ([.str (uH ps)] ++ pre.map fun p => .str (pT p)), .av (iv k), .av (.dat (rw r)), .emp, .emp, .emp, .emp, .emp, .emp, .emp]) (hp := hp6) (i := 9) (j := 10) rfl rfl false
    have hl2 : pre.length + 1 < 16777216 := by omega
    unfold lb_law_1
    rw [exs.eq_2, ex_append_own (xs := [.str (uH ps)] ++ pre.map fun p => .str (pT p)) rfl ln rfl rfl (by simpa using hl2)]
    simp)
  have hwords : f__law_words.run [.dat (rw mp)] [] = some (.av (.dat (.str (wt mp))), []) := hmp.law
  have rp := report_unsafe hps hpl hmp
  have us := uT_strs hps hpl hmp
  obtain ⟨n2, hp8, e8, W8, _, u0, u1⟩ := draw_fm W6 (m := 5) (by decide) (by decide)
  obtain ⟨ms9, e9, x6, x13, x15, x17, sts, hp9, rfl, W9, hst, hsl, h17⟩ := forL_inv (tg := [6]) (body := exs lb_law_0) (fun n ms => LI ns (1 + a) (1 + b) (1 + c) ps mp (.own (uT ps mp)) y9 y10 (.own (uT ps mp)) n ms) ((List.range (1 + n2).toNat).map fun (j : Nat) => PyData.int j) 0
    ⟨[.av (.scr ns), .av (.ref 1), .av (iv (1 + a)), .av (iv (1 + b)), .av (iv (1 + c)), .av (.dat (.tuple (ps.map pD))), .emp, .av (.dat (rw mp)), .own (uT ps mp), y9, y10, .own (uT ps mp), .own [], .emp, .emp, .emp, .emp, .emp], hp8⟩
    ⟨.emp, .emp, .emp, .emp, [], hp8, rfl, W8, by simp, by simp, by simp⟩ (by
      intro j o ms hj hP
      have hj' : j < (1 + n2).toNat := by
        have := (List.getElem?_eq_some_iff.mp hj).1
        simpa using this
      exact turn (by omega) (by omega) (by omega) (by omega) (by omega) (by omega) (by omega) hP o)
  have hsn : sts.length < 256 := by simp at hsl; omega
  have rs := report_safe (xs := sts.map sD) (by simpa using hsn)
  have sl := state_lines hst hsn
  have e10 := compL_all (tg := [17]) (elt := ev false (.callP f__law_state_line (.cons (.var 17) .nil))) sD (fun s => .str (sT s)) ⟨[.av (.scr ns), .av (.ref 1), .av (iv (1 + a)), .av (iv (1 + b)), .av (iv (1 + c)), .av (.dat (.tuple (ps.map pD))), x6, .av (.dat (rw mp)), .own (uT ps mp), y9, y10, .own (sts.map fun s => .str (sT s)), .av (.dat (.list (sts.map sD))), x13, .emp, x15, .emp, .emp], hp9⟩ sts (by
    intro s hs
    exact ⟨[.av (.scr ns), .av (.ref 1), .av (iv (1 + a)), .av (iv (1 + b)), .av (iv (1 + c)), .av (.dat (.tuple (ps.map pD))), x6, .av (.dat (rw mp)), .own (uT ps mp), y9, y10, .own (sts.map fun s => .str (sT s)), .av (.dat (.list (sts.map sD))), x13, .emp, x15, .emp, .av (.dat (sD s))], by simp, ⟨.av (.dat (.str (sT s))), by simp [state_line (hst s hs)], rfl⟩, rfl, rfl⟩) (by omega)
  have hx17 : (match (some x17 : Option Sv.Slot) with | some (Slot.own xs) => false | none => false | some val => true) = true := by
    cases x17 with
    | own ys => exact absurd rfl (h17 ys)
    | _ => rfl
  have a1 := cnt_a1 (b := ⟨#[]⟩) (j := 0) un_sm hpl (by decide)
  have a2 := cnt_a2 un_sm cr_sm hpl (by decide) (by decide)
  have b1 := cnt_a1 (b := ⟨#[]⟩) (j := 0) sf_sm hsn (by decide)
  have b2 := cnt_a2 sf_sm st_sm hsn (by decide) (by decide)
  have ne1 := cmp_ne3 (xs := uT ps mp) (ys := uT ps mp) (by simp [us.dep]) (by simp [us.dep])
  have ss : Strs [.str (safeH sts.length)] := fun d hd => ⟨_, _, List.mem_singleton.mp hd, cnt_sm sf_sm st_sm hsn⟩
  have ne2 := cmp_ne3 (xs := [.str (safeH sts.length)]) (ys := [.str (safeH sts.length)]) (by rw [dep_list, ss.dep]; decide) (by rw [dep_list, ss.dep]; decide)
  have sT : Strs (sts.map fun s => .str (sT s)) := fun d hd => by
    obtain ⟨s, hs, rfl⟩ := List.mem_map.mp hd
    exact ⟨_, _, rfl, sT_sm (hst s hs)⟩
  have ne3 := cmp_eq3 (xs := sts.map fun s => .str (K16.sT s)) (ys := sts.map fun s => .str (K16.sT s)) (by rw [dep_list, sT.dep]; decide) (by rw [dep_list, sT.dep]; decide)
  rw [us.refl] at ne1
  rw [ss.refl] at ne2
  rw [sT.refl] at ne3
  have q1 : -4611686018427387904 ≤ n := by omega
  have q2 : n < 4611686018427387904 := by omega
  have q3 : -4611686018427387904 ≤ 1 + n2 := by omega
  have q4 : 1 + n2 < 4611686018427387904 := by omega
  have hul : ps.length + 1 < 16777216 := by omega
  have huT : PyData.str (uH ps) :: (ps.map (fun p => PyData.str (pT p)) ++ [PyData.str (fH mp)]) = uT ps mp := rfl
  simp at e5 e7 e9 rs
  refine ⟨hp9, ?_⟩
  simp [f_law, runB, ss_law, e0, e1, e2, e3, e4, q1, q2, plainAt, wipeR, back, e5, e6, str_val (i := (ps.length : Int)) (by omega) (by omega), a1, a2]
  rw [show cntT _ ps.length _ = uH ps from rfl, e7]
  simp [hwords, fH_add hmp, hul, huT, rp, ne1, e8, q3, q4, e9]
  simp [rs, str_val (i := (sts.length : Int)) (by omega) (by omega), b1, b2, show cntT _ sts.length _ = safeH sts.length from rfl, ne2, sl]

  simp [wipeR, e10, back, ne3]
end K16

namespace K16
open PySem PySem.Spec PyProof.Rows L2 Sv
def top (i : Nat) : Stmt := PySem.Challenge.pw_salvor_k16_reports.main.body.getD i (.Pass ⟨0, 0, 0, 0⟩)
def sub (i j : Nat) : Stmt := (C8.clsBody (top i)).getD j (.Pass ⟨0, 0, 0, 0⟩)
theorem m__law_state : mSs [⟨#[115, 99, 114, 105, 112, 116]⟩, ⟨#[115, 101, 101, 100]⟩, ⟨#[99, 101, 108, 108]⟩] (defScope (top 7)) ss__law_state (defBody (top 7)) = true := by kernel_rfl
theorem c__law_state : FnScope [⟨#[115, 99, 114, 105, 112, 116]⟩, ⟨#[115, 101, 101, 100]⟩, ⟨#[99, 101, 108, 108]⟩] [⟨#[115, 99, 114, 105, 112, 116]⟩] (defScope (top 7)) := C8.fnScope_by (by kernel_rfl)
theorem m__law_draw : mSs [⟨#[115, 116, 97, 116, 101]⟩, ⟨#[109, 97, 110, 121]⟩, ⟨#[99, 101, 108, 108, 115]⟩, ⟨#[118, 97, 108, 117, 101]⟩, ⟨#[109, 105, 120, 101, 100]⟩] (defScope (top 8)) ss__law_draw (defBody (top 8)) = true := by kernel_rfl
theorem c__law_draw : FnScope [⟨#[115, 116, 97, 116, 101]⟩, ⟨#[109, 97, 110, 121]⟩, ⟨#[99, 101, 108, 108, 115]⟩, ⟨#[118, 97, 108, 117, 101]⟩, ⟨#[109, 105, 120, 101, 100]⟩] [⟨#[115, 116, 97, 116, 101]⟩, ⟨#[109, 97, 110, 121]⟩] (defScope (top 8)) := C8.fnScope_by (by kernel_rfl)
theorem m__law_row : mSs [⟨#[115, 116, 97, 116, 101]⟩, ⟨#[109, 97, 110, 121]⟩, ⟨#[109, 111, 115, 116]⟩, ⟨#[107]⟩] (defScope (top 9)) ss__law_row (defBody (top 9)) = true := by kernel_rfl
theorem c__law_row : FnScope [⟨#[115, 116, 97, 116, 101]⟩, ⟨#[109, 97, 110, 121]⟩, ⟨#[109, 111, 115, 116]⟩, ⟨#[107]⟩] [⟨#[115, 116, 97, 116, 101]⟩, ⟨#[109, 97, 110, 121]⟩, ⟨#[109, 111, 115, 116]⟩] (defScope (top 9)) := C8.fnScope_by (by kernel_rfl)
theorem m_words_text : mSs [⟨#[114, 111, 119]⟩, ⟨#[119, 111, 114, 100]⟩] (defScope (top 1)) ss_words_text (defBody (top 1)) = true := by kernel_rfl
theorem c_words_text : FnScope [⟨#[114, 111, 119]⟩, ⟨#[119, 111, 114, 100]⟩] [⟨#[114, 111, 119]⟩] (defScope (top 1)) := C8.fnScope_by (by kernel_rfl)
theorem m_path_lines : mSs [⟨#[112, 97, 116, 104]⟩, ⟨#[99, 117, 116]⟩, ⟨#[114, 111, 119]⟩] (defScope (top 3)) ss_path_lines (defBody (top 3)) = true := by kernel_rfl
theorem c_path_lines : FnScope [⟨#[112, 97, 116, 104]⟩, ⟨#[99, 117, 116]⟩, ⟨#[114, 111, 119]⟩] [⟨#[112, 97, 116, 104]⟩] (defScope (top 3)) := C8.fnScope_by (by kernel_rfl)
theorem m_report : mSs [⟨#[118, 101, 114, 100, 105, 99, 116]⟩, ⟨#[108, 105, 110, 101, 115]⟩] (defScope (top 4)) ss_report (defBody (top 4)) = true := by kernel_rfl
theorem c_report : FnScope [⟨#[118, 101, 114, 100, 105, 99, 116]⟩, ⟨#[108, 105, 110, 101, 115]⟩] [⟨#[118, 101, 114, 100, 105, 99, 116]⟩] (defScope (top 4)) := C8.fnScope_by (by kernel_rfl)
theorem m_image_text : mSs [⟨#[99, 111, 110, 116, 101, 110, 116, 115]⟩, ⟨#[114, 111, 119]⟩] (defScope (top 2)) ss_image_text (defBody (top 2)) = true := by kernel_rfl
theorem c_image_text : FnScope [⟨#[99, 111, 110, 116, 101, 110, 116, 115]⟩, ⟨#[114, 111, 119]⟩] [⟨#[99, 111, 110, 116, 101, 110, 116, 115]⟩] (defScope (top 2)) := C8.fnScope_by (by kernel_rfl)
theorem m_state_lines : mSs [⟨#[115, 116, 97, 116, 101, 115]⟩, ⟨#[108, 105, 110, 101, 115]⟩, ⟨#[115, 101, 115, 115, 105, 111, 110]⟩, ⟨#[99, 111, 110, 116, 101, 110, 116, 115]⟩, ⟨#[109, 97, 112, 115]⟩, ⟨#[108, 101, 103, 97, 108]⟩, ⟨#[109, 97, 112, 112, 105, 110, 103]⟩] (defScope (top 5)) ss_state_lines (defBody (top 5)) = true := by kernel_rfl
theorem c_state_lines : FnScope [⟨#[115, 116, 97, 116, 101, 115]⟩, ⟨#[108, 105, 110, 101, 115]⟩, ⟨#[115, 101, 115, 115, 105, 111, 110]⟩, ⟨#[99, 111, 110, 116, 101, 110, 116, 115]⟩, ⟨#[109, 97, 112, 115]⟩, ⟨#[108, 101, 103, 97, 108]⟩, ⟨#[109, 97, 112, 112, 105, 110, 103]⟩] [⟨#[115, 116, 97, 116, 101, 115]⟩] (defScope (top 5)) := C8.fnScope_by (by kernel_rfl)
theorem m__law_words : mSs [⟨#[114, 111, 119]⟩, ⟨#[116, 101, 120, 116]⟩, ⟨#[119, 111, 114, 100]⟩] (defScope (top 10)) ss__law_words (defBody (top 10)) = true := by kernel_rfl
theorem c__law_words : FnScope [⟨#[114, 111, 119]⟩, ⟨#[116, 101, 120, 116]⟩, ⟨#[119, 111, 114, 100]⟩] [⟨#[114, 111, 119]⟩] (defScope (top 10)) := C8.fnScope_by (by kernel_rfl)
theorem m__law_state_line : mSs [⟨#[111, 110, 101]⟩, ⟨#[100, 105, 115, 107]⟩, ⟨#[114, 111, 119]⟩, ⟨#[109, 97, 112, 115]⟩, ⟨#[109, 97, 112, 112, 105, 110, 103]⟩] (defScope (top 11)) ss__law_state_line (defBody (top 11)) = true := by kernel_rfl
theorem c__law_state_line : FnScope [⟨#[111, 110, 101]⟩, ⟨#[100, 105, 115, 107]⟩, ⟨#[114, 111, 119]⟩, ⟨#[109, 97, 112, 115]⟩, ⟨#[109, 97, 112, 112, 105, 110, 103]⟩] [⟨#[111, 110, 101]⟩] (defScope (top 11)) := C8.fnScope_by (by kernel_rfl)
theorem m_law : mSs [⟨#[115, 99, 114, 105, 112, 116]⟩, ⟨#[115, 116, 97, 116, 101]⟩, ⟨#[115, 101, 99, 116, 111, 114, 115]⟩, ⟨#[107, 101, 121, 115]⟩, ⟨#[119, 105, 100, 116, 104]⟩, ⟨#[112, 97, 116, 104]⟩, ⟨#[107]⟩, ⟨#[109, 97, 112, 112, 105, 110, 103]⟩, ⟨#[100, 117, 101]⟩, ⟨#[99, 117, 116]⟩, ⟨#[114, 111, 119]⟩, ⟨#[116, 111, 108, 100]⟩, ⟨#[115, 116, 97, 116, 101, 115]⟩, ⟨#[99, 111, 110, 116, 101, 110, 116, 115]⟩, ⟨#[115, 101, 99, 116, 111, 114]⟩, ⟨#[109, 97, 112, 115]⟩, ⟨#[106]⟩, ⟨#[111, 110, 101]⟩] (defScope (top 12)) ss_law (defBody (top 12)) = true := by kernel_rfl
theorem c_law : FnScope [⟨#[115, 99, 114, 105, 112, 116]⟩, ⟨#[115, 116, 97, 116, 101]⟩, ⟨#[115, 101, 99, 116, 111, 114, 115]⟩, ⟨#[107, 101, 121, 115]⟩, ⟨#[119, 105, 100, 116, 104]⟩, ⟨#[112, 97, 116, 104]⟩, ⟨#[107]⟩, ⟨#[109, 97, 112, 112, 105, 110, 103]⟩, ⟨#[100, 117, 101]⟩, ⟨#[99, 117, 116]⟩, ⟨#[114, 111, 119]⟩, ⟨#[116, 111, 108, 100]⟩, ⟨#[115, 116, 97, 116, 101, 115]⟩, ⟨#[99, 111, 110, 116, 101, 110, 116, 115]⟩, ⟨#[115, 101, 99, 116, 111, 114]⟩, ⟨#[109, 97, 112, 115]⟩, ⟨#[106]⟩, ⟨#[111, 110, 101]⟩] [⟨#[115, 99, 114, 105, 112, 116]⟩] (defScope (top 12)) := C8.fnScope_by (by kernel_rfl)
def d__law_state : He.DefD := ⟨(⟨#[95, 108, 97, 119, 95, 115, 116, 97, 116, 101]⟩, none), ⟨#[95, 108, 97, 119, 95, 115, 116, 97, 116, 101]⟩, ⟨#[95, 108, 97, 119, 95, 115, 116, 97, 116, 101]⟩, defArgs (top 7), defBody (top 7), defScope (top 7), [], []⟩
def d__law_draw : He.DefD := ⟨(⟨#[95, 108, 97, 119, 95, 100, 114, 97, 119]⟩, none), ⟨#[95, 108, 97, 119, 95, 100, 114, 97, 119]⟩, ⟨#[95, 108, 97, 119, 95, 100, 114, 97, 119]⟩, defArgs (top 8), defBody (top 8), defScope (top 8), [], []⟩
def d__law_row : He.DefD := ⟨(⟨#[95, 108, 97, 119, 95, 114, 111, 119]⟩, none), ⟨#[95, 108, 97, 119, 95, 114, 111, 119]⟩, ⟨#[95, 108, 97, 119, 95, 114, 111, 119]⟩, defArgs (top 9), defBody (top 9), defScope (top 9), [], []⟩
def d_words_text : He.DefD := ⟨(⟨#[119, 111, 114, 100, 115, 95, 116, 101, 120, 116]⟩, none), ⟨#[119, 111, 114, 100, 115, 95, 116, 101, 120, 116]⟩, ⟨#[119, 111, 114, 100, 115, 95, 116, 101, 120, 116]⟩, defArgs (top 1), defBody (top 1), defScope (top 1), [], []⟩
def d_path_lines : He.DefD := ⟨(⟨#[112, 97, 116, 104, 95, 108, 105, 110, 101, 115]⟩, none), ⟨#[112, 97, 116, 104, 95, 108, 105, 110, 101, 115]⟩, ⟨#[112, 97, 116, 104, 95, 108, 105, 110, 101, 115]⟩, defArgs (top 3), defBody (top 3), defScope (top 3), [], []⟩
def d_report : He.DefD := ⟨(⟨#[114, 101, 112, 111, 114, 116]⟩, none), ⟨#[114, 101, 112, 111, 114, 116]⟩, ⟨#[114, 101, 112, 111, 114, 116]⟩, defArgs (top 4), defBody (top 4), defScope (top 4), [], []⟩
def d_image_text : He.DefD := ⟨(⟨#[105, 109, 97, 103, 101, 95, 116, 101, 120, 116]⟩, none), ⟨#[105, 109, 97, 103, 101, 95, 116, 101, 120, 116]⟩, ⟨#[105, 109, 97, 103, 101, 95, 116, 101, 120, 116]⟩, defArgs (top 2), defBody (top 2), defScope (top 2), [], []⟩
def d_state_lines : He.DefD := ⟨(⟨#[115, 116, 97, 116, 101, 95, 108, 105, 110, 101, 115]⟩, none), ⟨#[115, 116, 97, 116, 101, 95, 108, 105, 110, 101, 115]⟩, ⟨#[115, 116, 97, 116, 101, 95, 108, 105, 110, 101, 115]⟩, defArgs (top 5), defBody (top 5), defScope (top 5), [], []⟩
def d__law_words : He.DefD := ⟨(⟨#[95, 108, 97, 119, 95, 119, 111, 114, 100, 115]⟩, none), ⟨#[95, 108, 97, 119, 95, 119, 111, 114, 100, 115]⟩, ⟨#[95, 108, 97, 119, 95, 119, 111, 114, 100, 115]⟩, defArgs (top 10), defBody (top 10), defScope (top 10), [], []⟩
def d__law_state_line : He.DefD := ⟨(⟨#[95, 108, 97, 119, 95, 115, 116, 97, 116, 101, 95, 108, 105, 110, 101]⟩, none), ⟨#[95, 108, 97, 119, 95, 115, 116, 97, 116, 101, 95, 108, 105, 110, 101]⟩, ⟨#[95, 108, 97, 119, 95, 115, 116, 97, 116, 101, 95, 108, 105, 110, 101]⟩, defArgs (top 11), defBody (top 11), defScope (top 11), [], []⟩
def d_law : He.DefD := ⟨(⟨#[108, 97, 119]⟩, none), ⟨#[108, 97, 119]⟩, ⟨#[108, 97, 119]⟩, defArgs (top 12), defBody (top 12), defScope (top 12), [], []⟩
def fn : List He.DefD := [d__law_state, d__law_draw, d__law_row, d_words_text, d_path_lines, d_report, d_image_text, d_state_lines, d__law_words, d__law_state_line, d_law]
def gloL : List Str := [⟨#[95, 108, 97, 119, 95, 115, 116, 97, 116, 101]⟩, ⟨#[95, 108, 97, 119, 95, 100, 114, 97, 119]⟩, ⟨#[95, 108, 97, 119, 95, 114, 111, 119]⟩, ⟨#[119, 111, 114, 100, 115, 95, 116, 101, 120, 116]⟩, ⟨#[112, 97, 116, 104, 95, 108, 105, 110, 101, 115]⟩, ⟨#[114, 101, 112, 111, 114, 116]⟩, ⟨#[105, 109, 97, 103, 101, 95, 116, 101, 120, 116]⟩, ⟨#[115, 116, 97, 116, 101, 95, 108, 105, 110, 101, 115]⟩, ⟨#[95, 108, 97, 119, 95, 119, 111, 114, 100, 115]⟩, ⟨#[95, 108, 97, 119, 95, 115, 116, 97, 116, 101, 95, 108, 105, 110, 101]⟩, ⟨#[108, 97, 119]⟩]
def clsL : List Str := []
def noatL : List (Str × Str) := []
def methL : List (Str × Str) := []
def mkrL : List Str := []
def intL : List (Str × Int) := []
def strL : List (Str × Str) := []
def fa : List He.Fa := gloL.map (fun x => He.Fa.glo x) ++ (clsL.map (fun x => He.Fa.cls x) ++ (noatL.map (fun x => He.Fa.noat x.1 x.2) ++ (methL.map (fun x => He.Fa.meth x.1 x.2) ++ (mkrL.map (fun x => He.Fa.mkr x) ++ (intL.map (fun x => He.Fa.int x.1 x.2) ++ (strL.map (fun x => He.Fa.str x.1 x.2) ++ (freeNames.map He.Fa.free)))))))
section
variable {P : Program} {w : World} {K : PySem.W.Frag} {mg : Str → Option Value} {base : Heap}
theorem ok__law_state (free : ∀ n ∈ freeNames, mg n = none) : ∀ X : Cx, X.K = K → X.mg = mg → X.prog = P → X.w = w → X.base = base → Room 0 X.A → okSs (prX X) ss__law_state := by
  intro X e1 e2 e3 e4 e5 hr
  subst e1 e2 e3 e4 e5
  simp only [ss__law_state, okSs, okS, okE, okEs, okI, and_true, true_and]
  repeat' (first | exact trivial | apply And.intro)
theorem ok__law_draw (free : ∀ n ∈ freeNames, mg n = none) : ∀ X : Cx, X.K = K → X.mg = mg → X.prog = P → X.w = w → X.base = base → Room 0 X.A → okSs (prX X) ss__law_draw := by
  intro X e1 e2 e3 e4 e5 hr
  subst e1 e2 e3 e4 e5
  simp only [ss__law_draw, okSs, okS, okE, okEs, okI, and_true, true_and]
  repeat' (first | exact trivial | apply And.intro)
theorem ok__law_row (free : ∀ n ∈ freeNames, mg n = none) (g__law_draw : Good P w K mg base 1 f__law_draw) : ∀ X : Cx, X.K = K → X.mg = mg → X.prog = P → X.w = w → X.base = base → Room 1 X.A → okSs (prX X) ss__law_row := by
  intro X e1 e2 e3 e4 e5 hr
  subst e1 e2 e3 e4 e5
  simp only [ss__law_row, okSs, okS, okE, okEs, okI, and_true, true_and]
  repeat' (first | exact trivial | exact g__law_draw.ok hr (by decide) | apply And.intro)
theorem ok_words_text (free : ∀ n ∈ freeNames, mg n = none) : ∀ X : Cx, X.K = K → X.mg = mg → X.prog = P → X.w = w → X.base = base → Room 0 X.A → okSs (prX X) ss_words_text := by
  intro X e1 e2 e3 e4 e5 hr
  subst e1 e2 e3 e4 e5
  simp only [ss_words_text, okSs, okS, okE, okEs, okI, and_true, true_and]
  repeat' (first | exact trivial | apply And.intro)
theorem ok_path_lines (free : ∀ n ∈ freeNames, mg n = none) (g_words_text : Good P w K mg base 1 f_words_text) : ∀ X : Cx, X.K = K → X.mg = mg → X.prog = P → X.w = w → X.base = base → Room 1 X.A → okSs (prX X) ss_path_lines := by
  intro X e1 e2 e3 e4 e5 hr
  subst e1 e2 e3 e4 e5
  simp only [ss_path_lines, okSs, okS, okE, okEs, okI, and_true, true_and]
  repeat' (first | exact trivial | exact g_words_text.ok hr (by decide) | apply And.intro)
theorem ok_report (free : ∀ n ∈ freeNames, mg n = none) (g_words_text : Good P w K mg base 1 f_words_text) (g_path_lines : Good P w K mg base 2 f_path_lines) : ∀ X : Cx, X.K = K → X.mg = mg → X.prog = P → X.w = w → X.base = base → Room 2 X.A → okSs (prX X) ss_report := by
  intro X e1 e2 e3 e4 e5 hr
  subst e1 e2 e3 e4 e5
  simp only [ss_report, okSs, okS, okE, okEs, okI, and_true, true_and]
  repeat' (first | exact trivial | exact g_words_text.ok hr (by decide) | exact g_path_lines.ok hr (by decide) | apply And.intro)
theorem ok_image_text (free : ∀ n ∈ freeNames, mg n = none) (g_words_text : Good P w K mg base 1 f_words_text) : ∀ X : Cx, X.K = K → X.mg = mg → X.prog = P → X.w = w → X.base = base → Room 1 X.A → okSs (prX X) ss_image_text := by
  intro X e1 e2 e3 e4 e5 hr
  subst e1 e2 e3 e4 e5
  simp only [ss_image_text, okSs, okS, okE, okEs, okI, and_true, true_and]
  repeat' (first | exact trivial | exact g_words_text.ok hr (by decide) | apply And.intro)
theorem ok_state_lines (free : ∀ n ∈ freeNames, mg n = none) (g_image_text : Good P w K mg base 2 f_image_text) (g_words_text : Good P w K mg base 1 f_words_text) : ∀ X : Cx, X.K = K → X.mg = mg → X.prog = P → X.w = w → X.base = base → Room 2 X.A → okSs (prX X) ss_state_lines := by
  intro X e1 e2 e3 e4 e5 hr
  subst e1 e2 e3 e4 e5
  simp only [ss_state_lines, lb_state_lines_0, okSs, okS, okE, okEs, okI, and_true, true_and]
  repeat' (first | exact trivial | exact g_image_text.ok hr (by decide) | exact g_words_text.ok hr (by decide) | apply And.intro)
theorem ok__law_words (free : ∀ n ∈ freeNames, mg n = none) : ∀ X : Cx, X.K = K → X.mg = mg → X.prog = P → X.w = w → X.base = base → Room 0 X.A → okSs (prX X) ss__law_words := by
  intro X e1 e2 e3 e4 e5 hr
  subst e1 e2 e3 e4 e5
  simp only [ss__law_words, lb__law_words_0, okSs, okS, okE, okEs, okI, and_true, true_and]
  repeat' (first | exact trivial | apply And.intro)
theorem ok__law_state_line (free : ∀ n ∈ freeNames, mg n = none) (g__law_words : Good P w K mg base 1 f__law_words) : ∀ X : Cx, X.K = K → X.mg = mg → X.prog = P → X.w = w → X.base = base → Room 1 X.A → okSs (prX X) ss__law_state_line := by
  intro X e1 e2 e3 e4 e5 hr
  subst e1 e2 e3 e4 e5
  simp only [ss__law_state_line, lb__law_state_line_0, lb__law_state_line_1, okSs, okS, okE, okEs, okI, and_true, true_and]
  repeat' (first | exact trivial | exact g__law_words.ok hr (by decide) | apply And.intro)
theorem ok_law (free : ∀ n ∈ freeNames, mg n = none) (g__law_state_line : Good P w K mg base 2 f__law_state_line) (g_state_lines : Good P w K mg base 3 f_state_lines) (g_report : Good P w K mg base 3 f_report) (g__law_draw : Good P w K mg base 1 f__law_draw) (g__law_row : Good P w K mg base 2 f__law_row) (g__law_words : Good P w K mg base 1 f__law_words) (g__law_state : Good P w K mg base 1 f__law_state) : ∀ X : Cx, X.K = K → X.mg = mg → X.prog = P → X.w = w → X.base = base → Room 3 X.A → okSs (prX X) ss_law := by
  intro X e1 e2 e3 e4 e5 hr
  subst e1 e2 e3 e4 e5
  simp only [ss_law, lb_law_0, lb_law_1, okSs, okS, okE, okEs, okI, and_true, true_and]
  repeat' (first | exact trivial | exact g__law_state_line.ok hr (by decide) | exact g_state_lines.ok hr (by decide) | exact g_report.ok hr (by decide) | exact g__law_draw.ok hr (by decide) | exact g__law_row.ok hr (by decide) | exact g__law_words.ok hr (by decide) | exact g__law_state.ok hr (by decide) | apply And.intro)
theorem facts {h : Heap} (X : K.In h) (G : h.Ns mainGlobals mg) (c : He.SaysD fa fn K) : ∃ fd : FuncData, mg f_law.name = some (.ref (He.ga K f_law.name)) ∧ (∀ (s : Shared) (u : Value), BindsTo s fd ⟨[u], []⟩ [(⟨#[115, 99, 114, 105, 112, 116]⟩, u)]) ∧
    ∀ base : Heap, K.In base → base.Ns mainGlobals mg → FnOk P w K mg base CX0 4 (He.ga K f_law.name) fd [⟨#[115, 99, 114, 105, 112, 116]⟩] (spF K mg f_law.run) := by
  have free : ∀ n ∈ freeNames, mg n = none := fun n hn => says_free X G c (List.mem_append_right _ (List.mem_append_right _ (List.mem_append_right _ (List.mem_append_right _ (List.mem_append_right _ (List.mem_append_right _ (List.mem_append_right _ (List.mem_map_of_mem hn))))))))
  have n__law_state : mg ⟨#[95, 108, 97, 119, 95, 115, 116, 97, 116, 101]⟩ = some (.ref (He.ga K ⟨#[95, 108, 97, 119, 95, 115, 116, 97, 116, 101]⟩)) := says_glo X G c (List.mem_append_left _ (List.mem_map_of_mem (f := fun x => He.Fa.glo x) (List.mem_of_getElem? (i := 0) (a := (⟨#[95, 108, 97, 119, 95, 115, 116, 97, 116, 101]⟩ : Str)) rfl)))
  have n__law_draw : mg ⟨#[95, 108, 97, 119, 95, 100, 114, 97, 119]⟩ = some (.ref (He.ga K ⟨#[95, 108, 97, 119, 95, 100, 114, 97, 119]⟩)) := says_glo X G c (List.mem_append_left _ (List.mem_map_of_mem (f := fun x => He.Fa.glo x) (List.mem_of_getElem? (i := 1) (a := (⟨#[95, 108, 97, 119, 95, 100, 114, 97, 119]⟩ : Str)) rfl)))
  have n__law_row : mg ⟨#[95, 108, 97, 119, 95, 114, 111, 119]⟩ = some (.ref (He.ga K ⟨#[95, 108, 97, 119, 95, 114, 111, 119]⟩)) := says_glo X G c (List.mem_append_left _ (List.mem_map_of_mem (f := fun x => He.Fa.glo x) (List.mem_of_getElem? (i := 2) (a := (⟨#[95, 108, 97, 119, 95, 114, 111, 119]⟩ : Str)) rfl)))
  have n_words_text : mg ⟨#[119, 111, 114, 100, 115, 95, 116, 101, 120, 116]⟩ = some (.ref (He.ga K ⟨#[119, 111, 114, 100, 115, 95, 116, 101, 120, 116]⟩)) := says_glo X G c (List.mem_append_left _ (List.mem_map_of_mem (f := fun x => He.Fa.glo x) (List.mem_of_getElem? (i := 3) (a := (⟨#[119, 111, 114, 100, 115, 95, 116, 101, 120, 116]⟩ : Str)) rfl)))
  have n_path_lines : mg ⟨#[112, 97, 116, 104, 95, 108, 105, 110, 101, 115]⟩ = some (.ref (He.ga K ⟨#[112, 97, 116, 104, 95, 108, 105, 110, 101, 115]⟩)) := says_glo X G c (List.mem_append_left _ (List.mem_map_of_mem (f := fun x => He.Fa.glo x) (List.mem_of_getElem? (i := 4) (a := (⟨#[112, 97, 116, 104, 95, 108, 105, 110, 101, 115]⟩ : Str)) rfl)))
  have n_report : mg ⟨#[114, 101, 112, 111, 114, 116]⟩ = some (.ref (He.ga K ⟨#[114, 101, 112, 111, 114, 116]⟩)) := says_glo X G c (List.mem_append_left _ (List.mem_map_of_mem (f := fun x => He.Fa.glo x) (List.mem_of_getElem? (i := 5) (a := (⟨#[114, 101, 112, 111, 114, 116]⟩ : Str)) rfl)))
  have n_image_text : mg ⟨#[105, 109, 97, 103, 101, 95, 116, 101, 120, 116]⟩ = some (.ref (He.ga K ⟨#[105, 109, 97, 103, 101, 95, 116, 101, 120, 116]⟩)) := says_glo X G c (List.mem_append_left _ (List.mem_map_of_mem (f := fun x => He.Fa.glo x) (List.mem_of_getElem? (i := 6) (a := (⟨#[105, 109, 97, 103, 101, 95, 116, 101, 120, 116]⟩ : Str)) rfl)))
  have n_state_lines : mg ⟨#[115, 116, 97, 116, 101, 95, 108, 105, 110, 101, 115]⟩ = some (.ref (He.ga K ⟨#[115, 116, 97, 116, 101, 95, 108, 105, 110, 101, 115]⟩)) := says_glo X G c (List.mem_append_left _ (List.mem_map_of_mem (f := fun x => He.Fa.glo x) (List.mem_of_getElem? (i := 7) (a := (⟨#[115, 116, 97, 116, 101, 95, 108, 105, 110, 101, 115]⟩ : Str)) rfl)))
  have n__law_words : mg ⟨#[95, 108, 97, 119, 95, 119, 111, 114, 100, 115]⟩ = some (.ref (He.ga K ⟨#[95, 108, 97, 119, 95, 119, 111, 114, 100, 115]⟩)) := says_glo X G c (List.mem_append_left _ (List.mem_map_of_mem (f := fun x => He.Fa.glo x) (List.mem_of_getElem? (i := 8) (a := (⟨#[95, 108, 97, 119, 95, 119, 111, 114, 100, 115]⟩ : Str)) rfl)))
  have n__law_state_line : mg ⟨#[95, 108, 97, 119, 95, 115, 116, 97, 116, 101, 95, 108, 105, 110, 101]⟩ = some (.ref (He.ga K ⟨#[95, 108, 97, 119, 95, 115, 116, 97, 116, 101, 95, 108, 105, 110, 101]⟩)) := says_glo X G c (List.mem_append_left _ (List.mem_map_of_mem (f := fun x => He.Fa.glo x) (List.mem_of_getElem? (i := 9) (a := (⟨#[95, 108, 97, 119, 95, 115, 116, 97, 116, 101, 95, 108, 105, 110, 101]⟩ : Str)) rfl)))
  have n_law : mg ⟨#[108, 97, 119]⟩ = some (.ref (He.ga K ⟨#[108, 97, 119]⟩)) := says_glo X G c (List.mem_append_left _ (List.mem_map_of_mem (f := fun x => He.Fa.glo x) (List.mem_of_getElem? (i := 10) (a := (⟨#[108, 97, 119]⟩ : Str)) rfl)))
  obtain ⟨fd__law_state, FD__law_state⟩ := c.def_ 0 (d := d__law_state) rfl
  obtain ⟨fd__law_draw, FD__law_draw⟩ := c.def_ 1 (d := d__law_draw) rfl
  obtain ⟨fd__law_row, FD__law_row⟩ := c.def_ 2 (d := d__law_row) rfl
  obtain ⟨fd_words_text, FD_words_text⟩ := c.def_ 3 (d := d_words_text) rfl
  obtain ⟨fd_path_lines, FD_path_lines⟩ := c.def_ 4 (d := d_path_lines) rfl
  obtain ⟨fd_report, FD_report⟩ := c.def_ 5 (d := d_report) rfl
  obtain ⟨fd_image_text, FD_image_text⟩ := c.def_ 6 (d := d_image_text) rfl
  obtain ⟨fd_state_lines, FD_state_lines⟩ := c.def_ 7 (d := d_state_lines) rfl
  obtain ⟨fd__law_words, FD__law_words⟩ := c.def_ 8 (d := d__law_words) rfl
  obtain ⟨fd__law_state_line, FD__law_state_line⟩ := c.def_ 9 (d := d__law_state_line) rfl
  obtain ⟨fd_law, FD_law⟩ := c.def_ 10 (d := d_law) rfl
  refine ⟨fd_law, n_law, fun s u => FunD.bindsA (ps := [⟨#[115, 99, 114, 105, 112, 116]⟩]) FD_law (fun _ _ _ _ _ _ us hl => match us, hl with | [_], _ => rfl) s [u] rfl, fun base KB GB => ?_⟩
  have g__law_state : Good P w K mg base 1 f__law_state := good_of FD__law_state c__law_state m__law_state free n__law_state (fun _ _ _ _ _ _ us hl => match us, hl with | [_], _ => rfl) (ok__law_state free)
  have g__law_draw : Good P w K mg base 1 f__law_draw := good_of FD__law_draw c__law_draw m__law_draw free n__law_draw (fun _ _ _ _ _ _ us hl => match us, hl with | [_, _], _ => rfl) (ok__law_draw free)
  have g__law_row : Good P w K mg base 2 f__law_row := good_of FD__law_row c__law_row m__law_row free n__law_row (fun _ _ _ _ _ _ us hl => match us, hl with | [_, _, _], _ => rfl) (ok__law_row free g__law_draw)
  have g_words_text : Good P w K mg base 1 f_words_text := good_of FD_words_text c_words_text m_words_text free n_words_text (fun _ _ _ _ _ _ us hl => match us, hl with | [_], _ => rfl) (ok_words_text free)
  have g_path_lines : Good P w K mg base 2 f_path_lines := good_of FD_path_lines c_path_lines m_path_lines free n_path_lines (fun _ _ _ _ _ _ us hl => match us, hl with | [_], _ => rfl) (ok_path_lines free g_words_text)
  have g_report : Good P w K mg base 3 f_report := good_of FD_report c_report m_report free n_report (fun _ _ _ _ _ _ us hl => match us, hl with | [_], _ => rfl) (ok_report free g_words_text g_path_lines)
  have g_image_text : Good P w K mg base 2 f_image_text := good_of FD_image_text c_image_text m_image_text free n_image_text (fun _ _ _ _ _ _ us hl => match us, hl with | [_], _ => rfl) (ok_image_text free g_words_text)
  have g_state_lines : Good P w K mg base 3 f_state_lines := good_of FD_state_lines c_state_lines m_state_lines free n_state_lines (fun _ _ _ _ _ _ us hl => match us, hl with | [_], _ => rfl) (ok_state_lines free g_image_text g_words_text)
  have g__law_words : Good P w K mg base 1 f__law_words := good_of FD__law_words c__law_words m__law_words free n__law_words (fun _ _ _ _ _ _ us hl => match us, hl with | [_], _ => rfl) (ok__law_words free)
  have g__law_state_line : Good P w K mg base 2 f__law_state_line := good_of FD__law_state_line c__law_state_line m__law_state_line free n__law_state_line (fun _ _ _ _ _ _ us hl => match us, hl with | [_], _ => rfl) (ok__law_state_line free g__law_words)
  exact def_ok FD_law c_law m_law free (ok_law free g__law_state_line g_state_lines g_report g__law_draw g__law_row g__law_words g__law_state)
end
abbrev R : PySem.W.OpenRow := PySem.W.OpenLaw.row PySem.Challenge.rw_salvor_k16_reports
abbrev hk : PySem.W.Hook := He.hookD 4 fa fn
def ob (s : PySem.W.SharedT) : He.AlD := He.obsDG 4 fa fn (HandSHeadRun.getT s)
theorem ob_eq (s : PySem.W.SharedT) : ob s = hk.obs s.abs := He.obsDG_eq (HandSHeadRun.getT_eq s)
def loose : List PySem.Str := ([⟨#[95, 108, 97, 119, 95, 100, 114, 97, 119]⟩, ⟨#[95, 108, 97, 119, 95, 114, 111, 119]⟩, ⟨#[95, 108, 97, 119, 95, 115, 116, 97, 116, 101]⟩, ⟨#[95, 108, 97, 119, 95, 115, 116, 97, 116, 101, 95, 108, 105, 110, 101]⟩, ⟨#[95, 108, 97, 119, 95, 119, 111, 114, 100, 115]⟩, ⟨#[105, 109, 97, 103, 101, 95, 116, 101, 120, 116]⟩, ⟨#[112, 97, 116, 104, 95, 108, 105, 110, 101, 115]⟩, ⟨#[114, 101, 112, 111, 114, 116]⟩, ⟨#[115, 116, 97, 116, 101, 95, 108, 105, 110, 101, 115]⟩, ⟨#[119, 111, 114, 100, 115, 95, 116, 101, 120, 116]⟩] : List PySem.Str)
theorem run (w : World) : HandSHeadRun.RunEq R (PySem.W.view R.prog [12]) hk ob 600 loose w := by
  intro os
  kernel_rfl
end K16
open PySem PySem.W PySem.Calls PyProof.Rows
theorem PySem.Challenge.cw_salvor_k16_reports_holds : PySem.Challenge.rw_salvor_k16_reports.Holds := by
  w_on; o_law
  refine HandSHeadRun.head_any (r := OpenLaw.row PySem.Challenge.rw_salvor_k16_reports) (q := view (OpenLaw.row PySem.Challenge.rw_salvor_k16_reports).prog [12]) (H := K16.hk) (ob := K16.ob) (M := 600) (loose := K16.loose) (d := HandSHeadRun.topDef (OpenLaw.row PySem.Challenge.rw_salvor_k16_reports).prog 12) (kwd := []) K16.ob_eq
    (by kernel_rfl) (fun s => by kernel_rfl) K16.run (by kernel_rfl) (by kernel_rfl) (by kernel_rfl) (by rfl) (by first | assumption | decide +kernel) (by decide +kernel) ⟨rfl, rfl, rfl, rfl, rfl, by decide +kernel⟩ ?hw ?hc
  case hw => w_witness2
  case hc => exact Sv.law_end (l := PySem.Challenge.rw_salvor_k16_reports) (n := 63) (k := 4) (f := K16.f_law) rfl (by decide) (by kernel_rfl) ⟨rfl, by decide, by decide⟩ (by kernel_rfl) K16.law_plain fun w mg h K X G c => K16.facts X G c

