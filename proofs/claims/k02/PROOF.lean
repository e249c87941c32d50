import PyProof.Rows.All
import Wide.All
import OpenK.AllK
import Wide.FinOn
import PyProof.ReprReads
import HandS.ForMost
import HandS.Deep
import HandS.IsInst
import HandS.Style
import PyProof.P3In
import KE.KeyNested
import KE.KDictKeyed
import HandS.Exc
import HandS.CallSlots
import HandS.ExcInit
import HandS.ExcField
import HandS.ExcIs
import HandS.WordsExc
import HandS.TupAny
import HandS.TupMul
import HandS.Sort
import HandS.NoneIn
import HandS.TupSets
import KE.DataMinMax
import HandS.SortKw
import HandS.Rev
import HandS.More
import KE.KDictDisplayH
import HandS.Defaults
import HandS.Codes
import HandS.Words
import HandS.HeadEnd
import HandS.HeadHook1
import HandS.HeadHook2
import HandS.Head0
import HandS.Head1
import HandS.Head2
import HandS.HeadHook3
import HandS.HeadHook4
import PySem.Challenge.RW_salvor_k02_valid_stores
set_option Elab.async false
set_option linter.all false
set_option maxRecDepth 100000
set_option maxHeartbeats 0
/-! Sv: a small interpreter for the part of Python that is used here. Core: values, syntax, evaluation. -/
namespace Sv
open PySem

/-! ### values -/
/-- an item of a tuple that holds objects, too -/
inductive A0 where
  | d (d : PyData)
  | r (i : Nat)
inductive AV where
  | dat (d : PyData)
  | ref (i : Nat)
  | fd (kvs : List (Str × PyData))
  | scr (ns : List Int)
  | tup (xs : List A0)
inductive AO where
  | lst (xs : List AV)
  | dct (kvs : List (Str × AV))
  | ins (c : Str) (fs : List (Str × AV))
  | kd (kvs : List (PyData × AV))
def A0.av : A0 → AV
  | A0.d x => AV.dat x
  | A0.r i => AV.ref i
def allA0 : List AV → Option (List A0)
  | [] => some []
  | .dat d :: r => (allA0 r).map (A0.d d :: ·)
  | .ref i :: r => (allA0 r).map (A0.r i :: ·)
  | _ :: _ => none
inductive Slot where
  | emp
  | av (v : AV)
  | own (xs : List PyData)
structure MS where
  rho : List Slot
  hp : List AO
/-- what an expression gives: a value, or a list that nobody else holds (or that is only looked at) -/
inductive RV where
  | av (v : AV)
  | lst (xs : List PyData)
/-- a def of the program, by what it does to the whole small heap -/
structure Fn where
  name : Str
  run : List AV → List AO → Option (RV × List AO)
/-- an exception: its class, its fields -/
abbrev Exc := Str × List (Str × PyData)
/-- a def that may raise -/
structure FnX where
  name : Str
  run : List AV → List AO → Option (RV × List AO)
  exn : List AV → List AO → Option (Exc × List AO)
def FnX.fn (f : FnX) : Fn := ⟨f.name, f.run⟩

@[reducible] def LINE : Nat := 16777216
@[reducible] def B62 : Int := 4611686018427387904
@[reducible] def B63 : Int := 9223372036854775808
@[reducible] def B64 : Int := 18446744073709551616
@[reducible] def B30 : Int := 1073741824

/-- a small int; nothing is reckoned before the int is known -/
def smB (n : Nat) (k : Int) : Bool := Nat.ble k.natAbs n
theorem smB_iff {n : Nat} {k : Int} : smB n k = true ↔ -(n : Int) ≤ k ∧ k ≤ n := by
  unfold smB
  rw [Nat.ble_eq]
  omega
theorem smB_in {n : Nat} {k : Int} (h1 : -(n : Int) ≤ k) (h2 : k ≤ n) : smB n k = true := smB_iff.mpr ⟨h1, h2⟩
def RV.val : RV → AV
  | .av v => v
  | .lst xs => .dat (.list xs)
def AV.d? : AV → Option PyData
  | .dat d => some d
  | _ => none
def RV.d? : RV → Option PyData
  | .av (.dat d) => some d
  | .lst xs => some (.list xs)
  | _ => none
def allD : List AV → Option (List PyData)
  | [] => some []
  | .dat d :: r => (allD r).map (d :: ·)
  | _ :: _ => none

/-! ### data: equality, depth -/
mutual
def eqq : PyData → PyData → Bool
  | .none, .none => true
  | .bool a, .bool b => a == b
  | .bool a, .int j => (if a then 1 else 0) == j
  | .int i, .bool b => i == (if b then 1 else 0)
  | .int i, .int j => i == j
  | .str x, .str y => decide (x = y)
  | .list xs, .list ys => eqqs xs ys
  | .tuple xs, .tuple ys => eqqs xs ys
  | _, _ => false
def eqqs : List PyData → List PyData → Bool
  | [], [] => true
  | x :: xs, y :: ys => eqq x y && eqqs xs ys
  | _, _ => false
end
mutual
def dep : PyData → Nat
  | .list xs => deps xs + 1
  | .tuple xs => deps xs + 1
  | .str x => if x.cps.all (fun c => decide (c < 1114112)) then 0 else 1000
  | _ => 0
def deps : List PyData → Nat
  | [] => 0
  | x :: xs => max (dep x) (deps xs)
end
def inn (x : PyData) (xs : List PyData) : Bool := xs.any fun y => eqq y x

/-! ### places -/
def ixD (n : Nat) (i : Int) : Option Nat :=
  if i < 0 then (if i + n < 0 then none else some (i + n).toNat) else (if i < n then some i.toNat else none)
def atD {α : Type} (xs : List α) (i : Int) : Option α := match ixD xs.length i with
  | some j => xs[j]?
  | none => none
def clipD (n d : Nat) : Option Int → Nat
  | none => d
  | some i => if i < 0 then (i + n).toNat else min i.toNat n
def cutD {α : Type} (xs : List α) (lo hi : Option Int) : List α :=
  (xs.drop (clipD xs.length 0 lo)).take (clipD xs.length xs.length hi - clipD xs.length 0 lo)

/-! ### syntax -/
inductive BinO | add | sub | mul | fdiv | mod
  deriving DecidableEq
inductive CmpO | eq | ne | lt | le | gt | ge
  deriving DecidableEq
inductive B1 | len | int | abs | sum | tuple | list | all
  deriving DecidableEq
mutual
inductive E where
  | lit (d : PyData)
  | glob (x : Str) (d : PyData)
  | var (i : Nat)
  | tup (es : Es)
  | lst (es : Es)
  | bin (op : BinO) (a b : E)
  | cmp (op : CmpO) (a b : E)
  | isin (neg : Bool) (a b : E)
  | inrange (neg : Bool) (a n : E)
  | isnone (neg : Bool) (a : E)
  | and (a b : E)
  | or (a b : E)
  | not (a : E)
  | ife (c a b : E)
  | sub (a i : E)
  | slice (a : E) (lo hi : Es)
  | b1 (f : B1) (a : E)
  | isi (a : E) (t : Str)
  | call (f : Fn) (es : Es)
  | callP (f : Fn) (es : Es)
  | callB (f : Fn) (es : Es)
  | alloc (e : E)
  | allocL (es : Es)
  | comp (elt : E) (tg : List Nat) (it : I) (cond : Es)
  | attr (c : Str) (a : E) (f : Str)
  | meth (c : Str) (f : Fn) (a : E) (es : Es)
  | new (c : Str) (f : Fn) (es : Es)
  | str1 (a : E)
  | join (s : Str) (a : E)
  | srt (set : Bool) (a : E)
  | cmpH (op : CmpO) (a b : E)
  | b1H (f : B1) (a : E)
  | chain (o1 o2 : CmpO) (a b c : E)
  | mx (mn : Bool) (a b : E)
  | mxL (mn : Bool) (a : E)
  | mxD (a d : E)
  | isb (neg v : Bool) (a : E)
  | dget (a k : E)
  | fdict (ks : List Str) (es : Es)
  | fdcopy (a : E)
  | adict (ks : List Str) (es : Es)
  | tupR (es : Es)
  | subT (a i : E)
  | kd0
  | kd1 (k v : E)
  | kin (neg : Bool) (k d : E)
  | kget (d k : E)
  | ksetd (d k : E)
  | repr (a : E)
inductive Es where
  | nil
  | cons (e : E) (es : Es)
inductive I where
  | seq (e : E)
  | range1 (e : E)
  | range2 (a b : E)
  | rev (e : E)
end

/-! ### operations by values -/
def intV (i : Int) : RV := .av (.dat (.int i))
def blV (b : Bool) : RV := .av (.dat (.bool b))
def binV : BinO → RV → RV → Option RV
  | .add, .av (.dat (.int i)), .av (.dat (.int j)) => some (intV (i + j))
  | .sub, .av (.dat (.int i)), .av (.dat (.int j)) => some (intV (i - j))
  | .mul, .av (.dat (.int i)), .av (.dat (.int j)) => if (smB 18446744073709551615 i || smB 18446744073709551615 j) = true then some (intV (i * j)) else none
  | .fdiv, .av (.dat (.int i)), .av (.dat (.int j)) => if 0 < j ∧ smB 1073741823 j = true then some (intV (i / j)) else none
  | .mod, .av (.dat (.int i)), .av (.dat (.int j)) => if 0 < j then some (intV (i % j)) else none
  | .add, .av (.dat (.str x)), .av (.dat (.str y)) => if x.length + y.length ≤ LINE then some (.av (.dat (.str (x ++ y)))) else none
  | .add, .av (.dat (.tuple xs)), .av (.dat (.tuple ys)) => if xs.length + ys.length ≤ LINE then some (.av (.dat (.tuple (xs ++ ys)))) else none
  | .mul, .av (.dat (.tuple xs)), .av (.dat (.int k)) => if xs ≠ [] ∧ smB 1000 k = true ∧ xs.length ≤ 1000 then some (.av (.dat (.tuple (List.replicate k.toNat xs).flatten))) else none
  | .add, a, b => match a.d?, b.d? with
    | some (.list xs), some (.list ys) => if xs.length + ys.length ≤ LINE then some (.lst (xs ++ ys)) else none
    | _, _ => none
  | .mul, a, .av (.dat (.int k)) => match a.d? with
    | some (.list xs) => if smB 9223372036854775807 k = true ∧ xs.length * k.toNat ≤ LINE then some (.lst (List.replicate k.toNat xs).flatten) else none
    | _ => none
  | _, _, _ => none
def cmpV : CmpO → RV → RV → Option Bool
  | .eq, a, b => match a.d?, b.d? with
    | some x, some y => if dep x ≤ 64 ∧ dep y ≤ 64 then some (eqq x y) else none
    | _, _ => none
  | .ne, a, b => match a.d?, b.d? with
    | some x, some y => if dep x ≤ 64 ∧ dep y ≤ 64 then some (!eqq x y) else none
    | _, _ => none
  | .lt, .av (.dat (.int i)), .av (.dat (.int j)) => some (decide (i < j))
  | .le, .av (.dat (.int i)), .av (.dat (.int j)) => some (decide (i ≤ j))
  | .gt, .av (.dat (.int i)), .av (.dat (.int j)) => some (decide (j < i))
  | .ge, .av (.dat (.int i)), .av (.dat (.int j)) => some (decide (j ≤ i))
  | _, _, _ => none
def inV : RV → RV → Option Bool
  | a, b => match a.d?, b.d? with
    | some x, some (.list ys) => if dep x ≤ 60 ∧ deps ys ≤ 60 then some (inn x ys) else none
    | some x, some (.tuple ys) => if dep x ≤ 60 ∧ deps ys ≤ 60 then some (inn x ys) else none
    | _, _ => none
def subV (hp : List AO) : RV → RV → Option AV
  | .av (.ref j), .av (.dat (.int i)) => match hp[j]? with
    | some (.lst xs) => atD xs i
    | _ => none
  | a, .av (.dat (.int i)) => match a.d? with
    | some (.list xs) => (atD xs i).map .dat
    | some (.tuple xs) => (atD xs i).map .dat
    | _ => none
  | _, _ => none
def partV : Option RV → Option (Option Int)
  | none => some none
  | some (.av (.dat (.int i))) => some (some i)
  | _ => none
def sliceV : RV → Option Int → Option Int → Option RV
  | .av (.scr ns), lo, hi => some (.lst ((cutD ns lo hi).map .int))
  | .av (.dat (.str x)), lo, hi => if x.length ≤ LINE then some (.av (.dat (.str ⟨(cutD x.cps.toList lo hi).toArray⟩))) else none
  | .av (.dat (.tuple xs)), lo, hi => some (.av (.dat (.tuple (cutD xs lo hi))))
  | a, lo, hi => match a.d? with
    | some (.list xs) => some (.lst (cutD xs lo hi))
    | _ => none
def intsD : List PyData → Option (List Int)
  | [] => some []
  | .int i :: r => (intsD r).map (i :: ·)
  | _ :: _ => none
def boolsD : List PyData → Option (List Bool)
  | [] => some []
  | .bool i :: r => (boolsD r).map (i :: ·)
  | _ :: _ => none
def lenV (hp : List AO) : RV → Option RV
  | .av (.ref j) => match hp[j]? with
    | some (.lst xs) => some (intV xs.length)
    | _ => none
  | a => match a.d? with
    | some (.list xs) => some (intV xs.length)
    | some (.tuple xs) => some (intV xs.length)
    | _ => none
def toInt : RV → Option RV
  | .av (.dat (.int i)) => some (intV i)
  | .av (.dat (.bool b)) => some (intV (if b then 1 else 0))
  | _ => none
def absV : RV → Option RV
  | .av (.dat (.int i)) => some (intV (if i < 0 then -i else i))
  | _ => none
def b1V (hp : List AO) (f : B1) (x : RV) : Option RV := match f with
  | .len => lenV hp x
  | .int => toInt x
  | .abs => absV x
  | .sum => match x.d? with
    | some (.list xs) => (intsD xs).map fun ns => intV ns.sum
    | _ => none
  | .tuple => match x.d? with
    | some (.list xs) => some (.av (.dat (.tuple xs)))
    | some (.tuple xs) => some (.av (.dat (.tuple xs)))
    | _ => none
  | .list => match x.d? with
    | some (.list xs) => some (.lst xs)
    | some (.tuple xs) => some (.lst xs)
    | _ => none
  | .all => match x.d? with
    | some (.list xs) => (boolsD xs).map fun bs => blV (bs.all id)
    | _ => none
def tyD : PyData → Str
  | .none => ⟨#[78, 111, 110, 101, 84, 121, 112, 101]⟩
  | .bool _ => ⟨#[98, 111, 111, 108]⟩
  | .int _ => ⟨#[105, 110, 116]⟩
  | .str _ => ⟨#[115, 116, 114]⟩
  | .list _ => ⟨#[108, 105, 115, 116]⟩
  | .tuple _ => ⟨#[116, 117, 112, 108, 101]⟩
  | .dict _ => ⟨#[100, 105, 99, 116]⟩
def sInt : Str := ⟨#[105, 110, 116]⟩
def sBool : Str := ⟨#[98, 111, 111, 108]⟩
def sList : Str := ⟨#[108, 105, 115, 116]⟩
def sTuple : Str := ⟨#[116, 117, 112, 108, 101]⟩
def sStr : Str := ⟨#[115, 116, 114]⟩
/-- isinstance(x, t) for the built-in classes int, bool, list, tuple, str -/
def isiV (a : RV) (t : Str) : Option Bool := match a.d? with
  | some d => if t = sInt ∨ t = sBool ∨ t = sList ∨ t = sTuple ∨ t = sStr then some (decide (tyD d = t) || (decide (t = sInt) && decide (tyD d = sBool))) else none
  | none => none
mutual
def noL : PyData → Bool
  | .list _ => false
  | .tuple xs => noLs xs
  | _ => true
def noLs : List PyData → Bool
  | [] => true
  | x :: xs => noL x && noLs xs
end

/-! ### what a loop goes over: items that stand, or a list of the small heap as it is at each turn -/
inductive Src where
  | fix (xs : List PyData)
  | heap (r : Nat)
def Src.item : Src → List AO → Nat → Option (Option PyData)
  | .fix xs, _, i => some xs[i]?
  | .heap r, hp, i => match hp[r]? with
    | some (.lst vs) => (match vs[i]? with
      | none => some none
      | some (.dat d) => some (some d)
      | some _ => none)
    | _ => none
def FUEL : Nat := 1000000000
/-- an attribute is set -/
def putA (f : Str) (v : AV) : List (Str × AV) → List (Str × AV)
  | [] => [(f, v)]
  | (g, x) :: r => if g = f then (g, v) :: r else (g, x) :: putA f v r
/-- a dict's entry is set -/
def dputA (k : Str) (v : AV) (kvs : List (Str × AV)) : List (Str × AV) := if (kvs.any fun p => decide (p.1 = k)) = true then kvs.map (fun p => if p.1 = k then (p.1, v) else p) else kvs ++ [(k, v)]
def strsD : List PyData → Option (List Str)
  | [] => some []
  | .str i :: r => (strsD r).map (i :: ·)
  | _ :: _ => none
/-- an int's text -/
def strV : RV → Option RV
  | .av (.dat (.int i)) => if i.natAbs.log2 < 1920 then some (.av (.dat (.str (toString i)))) else none
  | _ => none
def joinV (x : Str) (a : RV) : Option RV := match a.d? with
  | some (.list ds) => (match strsD ds with
    | some ys => if (ys.map (·.length)).sum + ys.length * x.length ≤ LINE then some (.av (.dat (.str (Str.join x ys)))) else none
    | none => none)
  | _ => none

/-- sorted(..) of tuples of small ints, sorted(set(..)) -/
def tupsI : List PyData → Option (List (List Int))
  | [] => some []
  | .tuple xs :: r => match intsD xs, tupsI r with
    | some n, some m => some (n :: m)
    | _, _ => none
  | _ :: _ => none
def codeI : List Int → Int
  | [] => 0
  | d :: r => d * 1024 ^ r.length + codeI r
def insC (x : List Int) : List (List Int) → List (List Int)
  | [] => [x]
  | y :: r => if codeI x ≤ codeI y then x :: y :: r else y :: insC x r
def sortC : List (List Int) → List (List Int)
  | [] => []
  | x :: r => insC x (sortC r)
def dedC : List (List Int) → List (List Int)
  | [] => []
  | x :: r => if x ∈ r then dedC r else x :: dedC r
def okT (d : Nat) (n : List Int) : Bool := decide (n.length = d) && n.all fun x => decide (0 ≤ x ∧ x < 1024)
def srtV (set : Bool) (a : RV) : Option RV := match a.d? with
  | some (.list ds) => (match tupsI ds with
    | some ns => if ns.length < 64 ∧ ns.all (okT ((ns.headD [0]).length)) ∧ 1 ≤ (ns.headD [0]).length then some (.lst ((sortC (if set then dedC ns else ns)).map fun n => .tuple (n.map .int))) else none
    | none => none)
  | _ => none

/-! ### heap lists read as data; dicts -/
def RV.dh (hp : List AO) : RV → Option PyData
  | .av (.dat d) => some d
  | .lst xs => some (.list xs)
  | .av (.ref j) => match hp[j]? with
    | some (.lst vs) => (allD vs).map .list
    | _ => none
  | _ => none
def cmpHV (op : CmpO) (hp : List AO) (x y : RV) : Option Bool := match x.dh hp, y.dh hp with
  | some d, some e => if dep d ≤ 64 ∧ dep e ≤ 64 then (match op with
    | .eq => some (eqq d e)
    | .ne => some (!eqq d e)
    | _ => none) else none
  | _, _ => none
def b1HV (f : B1) (hp : List AO) (x : RV) : Option RV := match f, x.dh hp with
  | .tuple, some (.list xs) => some (.av (.dat (.tuple xs)))
  | .list, some (.list xs) => some (.lst xs)
  | .sum, some (.list xs) => (intsD xs).map fun ns => intV ns.sum
  | _, _ => none
def cmpI : CmpO → Int → Int → Bool
  | .eq, i, j => decide (i = j)
  | .ne, i, j => !decide (i = j)
  | .lt, i, j => decide (i < j)
  | .le, i, j => decide (i ≤ j)
  | .gt, i, j => decide (j < i)
  | .ge, i, j => decide (j ≤ i)
def mxI (mn : Bool) (i j : Int) : Int := if mn then (if j < i then j else i) else (if j > i then j else i)
def mxIs (mn : Bool) : List Int → Int
  | [] => 0
  | [i] => i
  | i :: j :: r => mxI mn i (mxIs mn (j :: r))
/-! what may be a key: a tuple of ints, texts, None and such tuples -/
mutual
def hk : PyData → Bool
  | .none => true
  | .int _ => true
  | .str _ => true
  | .tuple xs => hks xs
  | _ => false
def hks : List PyData → Bool
  | [] => true
  | x :: xs => hk x && hks xs
end
def kOk : PyData → Bool
  | .tuple xs => hks xs && decide (dep (.tuple xs) ≤ 8)
  | _ => false
def kfind (kvs : List (PyData × AV)) (k : PyData) : Option AV := (kvs.find? fun p => eqq p.1 k).map (·.2)
def kput (kvs : List (PyData × AV)) (k : PyData) (v : AV) : List (PyData × AV) := if (kvs.any fun p => eqq p.1 k) = true then kvs.map (fun p => if eqq p.1 k = true then (p.1, v) else p) else kvs ++ [(k, v)]
def dgetV (hp : List AO) : RV → RV → Option AV
  | .av (.fd kvs), .av (.dat (.str k)) => (kvs.lookup k).map .dat
  | .av (.ref j), .av (.dat (.str k)) => match hp[j]? with
    | some (.dct kvs) => kvs.lookup k
    | _ => none
  | _, _ => none
/-- repr(..) of data -/
def isSeq : PyData → Bool
  | .list _ => true
  | .tuple _ => true
  | _ => false
def reprV (x : RV) : Option RV := match x.d? with
  | some d => if isSeq d = true ∧ d.showable ∧ d.shown.length ≤ 1000000 ∧ d.hasDict = false ∧ dep d ≤ 64 then some (.av (.dat (.str d.shown))) else none
  | none => none
def zipD : List Str → List AV → Option (List (Str × PyData))
  | [], [] => some []
  | k :: ks, .dat d :: vs => (zipD ks vs).map ((k, d) :: ·)
  | _, _ => none

/-! ### evaluation -/
/-- the target of a for or a comprehension: one name, or several for a tuple -/
def bindT : List Nat → PyData → List Slot → Option (List Slot)
  | [i], d, rho => if i < rho.length then some (rho.set i (.av (.dat d))) else none
  | is, .tuple ds, rho => if is.length = ds.length then bindN is ds rho else none
  | is, .list ds, rho => if is.length = ds.length then bindN is ds rho else none
  | _, _, _ => none
where bindN : List Nat → List PyData → List Slot → Option (List Slot)
  | i :: is, d :: ds, rho => if i < rho.length then bindN is ds (rho.set i (.av (.dat d))) else none
  | [], [], rho => some rho
  | _, _, _ => none
/-- values that may be objects are bound to names -/
def bindA : List Nat → List A0 → List Slot → Option (List Slot)
  | i :: is, d :: ds, rho => if i < rho.length then bindA is ds (rho.set i (.av d.av)) else none
  | [], [], rho => some rho
  | _, _, _ => none
/-- several values are bound to names -/
def bindV : List Nat → List AV → List Slot → Option (List Slot)
  | i :: is, v :: vs, rho => if i < rho.length then bindV is vs (rho.set i (.av v)) else none
  | [], [], rho => some rho
  | _, _, _ => none
/-- the names of a comprehension are its own: forgotten at each turn -/
def wipeR : List Nat → List Slot → List Slot
  | [], rho => rho
  | i :: is, rho => (wipeR is rho).set i .emp
def plainAt (tg : List Nat) (rho : List Slot) : Bool := tg.all fun i => match rho[i]? with
  | some (.own _) => false
  | none => false
  | some _ => true
def back : List Nat → List Slot → List Slot → List Slot
  | [], _, new => new
  | i :: is, old, new => match old[i]? with
    | some o => (back is old new).set i o
    | none => back is old new
/-- a walk over items: the names are bound, kept items gather what elt gives -/
def compL (tg : List Nat) (test : MS → Option (Bool × MS)) (elt : MS → Option (RV × MS)) : List PyData → List PyData → MS → Option (List PyData × MS)
  | [], acc, ms => some (acc, ms)
  | x :: r, acc, ms => match bindT tg x ms.rho with
    | some rho => (match test { ms with rho := rho } with
      | some (true, ms1) => (match elt ms1 with
        | some (v, ms2) => (match v.d? with
          | some d => if acc.length < LINE then (if plainAt tg ms2.rho then compL tg test elt r (acc ++ [d]) { ms2 with rho := wipeR tg ms2.rho } else none) else none
          | none => none)
        | none => none)
      | some (false, ms1) => if plainAt tg ms1.rho then compL tg test elt r acc { ms1 with rho := wipeR tg ms1.rho } else none
      | none => none)
    | none => none
/-- .. over a source, by places -/
def compS (tg : List Nat) (test : MS → Option (Bool × MS)) (elt : MS → Option (RV × MS)) (s : Src) : Nat → Nat → List PyData → MS → Option (List PyData × MS)
  | 0, _, _, _ => none
  | n + 1, i, acc, ms => match s.item ms.hp i with
    | none => none
    | some none => some (acc, ms)
    | some (some x) => match bindT tg x ms.rho with
      | some rho => (match test { ms with rho := rho } with
        | some (true, ms1) => (match elt ms1 with
          | some (v, ms2) => (match v.d? with
            | some d => if acc.length < LINE then (if plainAt tg ms2.rho then compS tg test elt s n (i + 1) (acc ++ [d]) { ms2 with rho := wipeR tg ms2.rho } else none) else none
            | none => none)
          | none => none)
        | some (false, ms1) => if plainAt tg ms1.rho then compS tg test elt s n (i + 1) acc { ms1 with rho := wipeR tg ms1.rho } else none
        | none => none)
      | none => none
def compX (tg : List Nat) (test : MS → Option (Bool × MS)) (elt : MS → Option (RV × MS)) : Src → MS → Option (List PyData × MS)
  | .fix xs, ms => compL tg test elt xs [] ms
  | .heap r, ms => compS tg test elt (.heap r) FUEL 0 [] ms
mutual
def ev : Bool → E → MS → Option (RV × MS)
  | _, .lit d, ms => some (.av (.dat d), ms)
  | _, .glob _ d, ms => some (.av (.dat d), ms)
  | b, .var i, ms => match ms.rho[i]? with
    | some (.av v) => some (.av v, ms)
    | some (.own xs) => if b then some (.lst xs, ms) else some (.av (.dat (.list xs)), { ms with rho := ms.rho.set i (.av (.dat (.list xs))) })
    | _ => none
  | _, .tup es, ms => match evs es ms with
    | some (vs, ms1) => (match allD vs with
      | some ds => if ds.length ≤ LINE then some (.av (.dat (.tuple ds)), ms1) else none
      | none => none)
    | none => none
  | _, .lst es, ms => match evs es ms with
    | some (vs, ms1) => (match allD vs with
      | some ds => if ds.length ≤ LINE then some (.lst ds, ms1) else none
      | none => none)
    | none => none
  | _, .bin op a b, ms => match ev true a ms with
    | some (x, ms1) => (match ev true b ms1 with
      | some (y, ms2) => (binV op x y).map fun z => (z, ms2)
      | none => none)
    | none => none
  | _, .cmp op a b, ms => match ev true a ms with
    | some (x, ms1) => (match ev true b ms1 with
      | some (y, ms2) => (cmpV op x y).map fun z => (blV z, ms2)
      | none => none)
    | none => none
  | _, .isin neg a b, ms => match ev true a ms with
    | some (x, ms1) => (match ev true b ms1 with
      | some (y, ms2) => (inV x y).map fun z => (blV (if neg then !z else z), ms2)
      | none => none)
    | none => none
  | _, .inrange neg a n, ms => match ev true a ms with
    | some (.av (.dat (.int i)), ms1) => (match ev true n ms1 with
      | some (.av (.dat (.int k)), ms2) => if 0 ≤ k ∧ smB 4611686018427387903 k = true then some (blV (if neg then !decide (0 ≤ i ∧ i < k) else decide (0 ≤ i ∧ i < k)), ms2) else none
      | _ => none)
    | _ => none
  | _, .isnone neg a, ms => match ev true a ms with
    | some (.av (.dat .none), ms1) => some (blV (!neg), ms1)
    | some (.av (.dat _), ms1) => some (blV neg, ms1)
    | some (.lst _, ms1) => some (blV neg, ms1)
    | _ => none
  | _, .and a b, ms => match ev true a ms with
    | some (.av (.dat (.bool c)), ms1) => if c then (match ev true b ms1 with
      | some (.av (.dat (.bool d)), ms2) => some (blV d, ms2)
      | _ => none) else some (blV false, ms1)
    | _ => none
  | _, .or a b, ms => match ev true a ms with
    | some (.av (.dat (.bool c)), ms1) => if c then some (blV true, ms1) else (match ev true b ms1 with
      | some (.av (.dat (.bool d)), ms2) => some (blV d, ms2)
      | _ => none)
    | _ => none
  | _, .not a, ms => match ev true a ms with
    | some (.av (.dat (.bool c)), ms1) => some (blV (!c), ms1)
    | _ => none
  | b, .ife c x y, ms => match ev true c ms with
    | some (.av (.dat (.bool k)), ms1) => if k then ev b x ms1 else ev b y ms1
    | _ => none
  | _, .sub a i, ms => match ev true a ms with
    | some (x, ms1) => (match ev true i ms1 with
      | some (y, ms2) => (subV ms2.hp x y).map fun z => (.av z, ms2)
      | none => none)
    | none => none
  | _, .slice a lo hi, ms => match ev true a ms with
    | some (x, ms1) => (match evP lo ms1 with
      | some (l, ms2) => (match evP hi ms2 with
        | some (h, ms3) => (sliceV x l h).map fun z => (z, ms3)
        | none => none)
      | none => none)
    | none => none
  | _, .b1 f a, ms => match ev true a ms with
    | some (x, ms1) => (b1V ms1.hp f x).map fun z => (z, ms1)
    | none => none
  | _, .isi a t, ms => match ev true a ms with
    | some (x, ms1) => (isiV x t).map fun z => (blV z, ms1)
    | none => none
  | _, .call f es, ms => match evs es ms with
    | some (vs, ms1) => (match f.run vs ms1.hp with
      | some (v, hp) => some (v, { ms1 with hp := hp })
      | none => none)
    | none => none
  | _, .callP f es, ms => match evs es ms with
    | some (vs, ms1) => (match allD vs with
      | some _ => (match f.run vs [] with
        | some (.av (.dat d), _) => some (.av (.dat d), ms1)
        | some (.lst xs, _) => some (.lst xs, ms1)
        | _ => none)
      | none => none)
    | none => none
  | _, .callB f es, ms => match evB es ms with
    | some (vs, ms1) => (match allD vs with
      | some _ => (match f.run vs [] with
        | some (.av (.dat d), _) => if noL d then some (.av (.dat d), ms1) else none
        | some (.lst xs, _) => if noLs xs then some (.lst xs, ms1) else none
        | _ => none)
      | none => none)
    | none => none
  | _, .alloc e, ms => match ev false e ms with
    | some (.lst xs, ms1) => some (.av (.ref ms1.hp.length), { ms1 with hp := ms1.hp ++ [.lst (xs.map .dat)] })
    | _ => none
  | _, .allocL es, ms => match evs es ms with
    | some (vs, ms1) => if vs.length ≤ LINE then some (.av (.ref ms1.hp.length), { ms1 with hp := ms1.hp ++ [.lst vs] }) else none
    | none => none
  | _, .comp elt tg it cond, ms => match evI it ms with
    | some (xs, ms1) => if plainAt tg ms1.rho then
        (match compX tg (evC cond) (ev false elt) xs { ms1 with rho := wipeR tg ms1.rho } with
        | some (acc, ms2) => some (.lst acc, { ms2 with rho := back tg ms1.rho ms2.rho })
        | none => none)
      else none
    | none => none
  | _, .attr c a f, ms => match ev true a ms with
    | some (.av (.ref r), ms1) => (match ms1.hp[r]? with
      | some (.ins c' fs) => if c' = c then (match fs.lookup f with
        | some v => some (.av v, ms1)
        | none => none) else none
      | _ => none)
    | _ => none
  | _, .meth c f a es, ms => match ev true a ms with
    | some (.av (.ref r), ms1) => (match ms1.hp[r]? with
      | some (.ins c' fs) => if c' = c ∧ fs.lookup f.name = none then (match evs es ms1 with
        | some (vs, ms2) => (match f.run (.ref r :: vs) ms2.hp with
          | some (v, hp) => some (v, { ms2 with hp := hp })
          | none => none)
        | none => none) else none
      | _ => none)
    | _ => none
  | _, .new c f es, ms => match evs es ms with
    | some (vs, ms1) => (match f.run (.ref ms1.hp.length :: vs) (ms1.hp ++ [.ins c []]) with
      | some (.av (.dat .none), hp) => some (.av (.ref ms1.hp.length), { ms1 with hp := hp })
      | _ => none)
    | none => none
  | _, .str1 a, ms => match ev true a ms with
    | some (x, ms1) => (strV x).map fun z => (z, ms1)
    | none => none
  | _, .srt st a, ms => match ev true a ms with
    | some (x, ms1) => (srtV st x).map fun z => (z, ms1)
    | none => none
  | _, .join s a, ms => match ev true a ms with
    | some (x, ms1) => (joinV s x).map fun z => (z, ms1)
    | none => none
  | _, .cmpH op a b, ms => match ev true a ms with
    | some (x, ms1) => (match ev true b ms1 with
      | some (y, ms2) => (cmpHV op ms2.hp x y).map fun z => (blV z, ms2)
      | none => none)
    | none => none
  | _, .b1H f a, ms => match ev true a ms with
    | some (x, ms1) => (b1HV f ms1.hp x).map fun z => (z, ms1)
    | none => none
  | _, .chain o1 o2 a b c, ms => match ev true a ms with
    | some (.av (.dat (.int i)), ms1) => (match ev true b ms1 with
      | some (.av (.dat (.int j)), ms2) => if cmpI o1 i j then (match ev true c ms2 with
        | some (.av (.dat (.int k)), ms3) => some (blV (cmpI o2 j k), ms3)
        | _ => none) else some (blV false, ms2)
      | _ => none)
    | _ => none
  | _, .mx mn a b, ms => match ev true a ms with
    | some (.av (.dat (.int i)), ms1) => (match ev true b ms1 with
      | some (.av (.dat (.int j)), ms2) => some (intV (mxI mn i j), ms2)
      | _ => none)
    | _ => none
  | _, .mxL mn a, ms => match ev true a ms with
    | some (x, ms1) => (match x.d? with
      | some (.list xs) => (match intsD xs with
        | some (n :: ns) => some (intV (mxIs mn (n :: ns)), ms1)
        | _ => none)
      | _ => none)
    | none => none
  | _, .mxD a d, ms => match ev true a ms with
    | some (x, ms1) => (match x.d? with
      | some (.list xs) => (match intsD xs with
        | some ns => (match ev true d ms1 with
          | some (.av (.dat (.int i)), ms2) => some (intV (if ns.isEmpty then i else mxIs false ns), ms2)
          | _ => none)
        | none => none)
      | _ => none)
    | none => none
  | _, .isb neg v a, ms => match ev true a ms with
    | some (.av (.dat (.bool b)), ms1) => some (blV (if neg then !(b == v) else (b == v)), ms1)
    | _ => none
  | _, .dget a k, ms => match ev true a ms with
    | some (x, ms1) => (match ev true k ms1 with
      | some (y, ms2) => (dgetV ms2.hp x y).map fun z => (.av z, ms2)
      | none => none)
    | none => none
  | _, .fdict ks es, ms => match evs es ms with
    | some (vs, ms1) => (match zipD ks vs with
      | some kvs => if kvs.length ≤ 15 ∧ ks.Nodup then some (.av (.fd kvs), ms1) else none
      | none => none)
    | none => none
  | _, .fdcopy a, ms => match ev true a ms with
    | some (.av (.fd kvs), ms1) => some (.av (.fd kvs), ms1)
    | _ => none
  | _, .adict ks es, ms => match evs es ms with
    | some (vs, ms1) => if ks.length = vs.length ∧ ks.length ≤ 15 ∧ ks.Nodup then some (.av (.ref ms1.hp.length), { ms1 with hp := ms1.hp ++ [.dct (ks.zip vs)] }) else none
    | none => none
  | _, .tupR es, ms => match evs es ms with
    | some (vs, ms1) => (match allA0 vs with
      | some xs => if xs.length ≤ LINE then some (.av (.tup xs), ms1) else none
      | none => none)
    | none => none
  | _, .subT a i, ms => match ev true a ms with
    | some (.av (.tup xs), ms1) => (match ev true i ms1 with
      | some (.av (.dat (.int k)), ms2) => (atD xs k).map fun z => (.av z.av, ms2)
      | _ => none)
    | _ => none
  | _, .kd0, ms => some (.av (.ref ms.hp.length), { ms with hp := ms.hp ++ [.kd []] })
  | _, .kd1 k v, ms => match ev true k ms with
    | some (.av (.dat x), ms1) => (match ev true v ms1 with
      | some (.av (.dat y), ms2) => if kOk x then some (.av (.ref ms2.hp.length), { ms2 with hp := ms2.hp ++ [.kd [(x, .dat y)]] }) else none
      | _ => none)
    | _ => none
  | _, .kin neg k d, ms => match ev true k ms with
    | some (.av (.dat x), ms1) => (match ev true d ms1 with
      | some (.av (.ref j), ms2) => (match ms2.hp[j]? with
        | some (.kd kvs) => if kOk x then some (blV (if neg then !(kfind kvs x).isSome else (kfind kvs x).isSome), ms2) else none
        | _ => none)
      | _ => none)
    | _ => none
  | _, .kget d k, ms => match ev true d ms with
    | some (.av (.ref j), ms1) => (match ms1.hp[j]? with
      | some (.kd _) => (match ev true k ms1 with
        | some (.av (.dat x), ms2) => (match ms2.hp[j]? with
          | some (.kd kvs) => if kOk x then (match kfind kvs x with
            | some v => some (.av v, ms2)
            | none => some (.lst [], ms2)) else none
          | _ => none)
        | _ => none)
      | _ => none)
    | _ => none
  | _, .ksetd d k, ms => match ev true d ms with
    | some (.av (.ref j), ms1) => (match ms1.hp[j]? with
      | some (.kd _) => (match ev true k ms1 with
        | some (.av (.dat x), ms2) => (match ms2.hp[j]? with
          | some (.kd kvs) => if kOk x ∧ kvs.length < LINE then (match kfind kvs x with
            | some v => some (.av v, ms2)
            | none => some (.av (.ref ms2.hp.length), { ms2 with hp := (ms2.hp ++ [AO.lst []]).set j (AO.kd (kput kvs x (AV.ref ms2.hp.length))) })) else none
          | _ => none)
        | _ => none)
      | _ => none)
    | _ => none
  | _, .repr a, ms => match ev true a ms with
    | some (x, ms1) => (reprV x).map fun z => (z, ms1)
    | none => none
def evs : Es → MS → Option (List AV × MS)
  | .nil, ms => some ([], ms)
  | .cons e es, ms => match ev false e ms with
    | some (v, ms1) => (match evs es ms1 with
      | some (vs, ms2) => some (v.val :: vs, ms2)
      | none => none)
    | none => none
/-- arguments that are only looked at -/
def evB : Es → MS → Option (List AV × MS)
  | .nil, ms => some ([], ms)
  | .cons e es, ms => match ev true e ms with
    | some (v, ms1) => (match evB es ms1 with
      | some (vs, ms2) => some (v.val :: vs, ms2)
      | none => none)
    | none => none
/-- a part of a slice: nothing, or an int -/
def evP : Es → MS → Option (Option Int × MS)
  | .nil, ms => some (none, ms)
  | .cons e .nil, ms => match ev true e ms with
    | some (.av (.dat (.int i)), ms1) => some (some i, ms1)
    | _ => none
  | .cons _ (.cons _ _), _ => none
/-- the tests of a comprehension: none, or one -/
def evC : Es → MS → Option (Bool × MS)
  | .nil, ms => some (true, ms)
  | .cons e .nil, ms => match ev true e ms with
    | some (.av (.dat (.bool c)), ms1) => some (c, ms1)
    | _ => none
  | .cons _ (.cons _ _), _ => none
def evI : I → MS → Option (Src × MS)
  | .seq e, ms => match ev false e ms with
    | some (.av (.scr ns), ms1) => some (.fix (ns.map .int), ms1)
    | some (.av (.ref r), ms1) => (match ms1.hp[r]? with
      | some (.lst _) => some (.heap r, ms1)
      | _ => none)
    | some (v, ms1) => (match v.d? with
      | some (.list xs) => some (.fix xs, ms1)
      | some (.tuple xs) => some (.fix xs, ms1)
      | _ => none)
    | none => none
  | .range1 e, ms => match ev true e ms with
    | some (.av (.dat (.int k)), ms1) => if smB 4611686018427387903 k = true then some (.fix ((List.range k.toNat).map fun (j : Nat) => PyData.int j), ms1) else none
    | _ => none
  | .range2 a b, ms => match ev true a ms with
    | some (.av (.dat (.int i)), ms1) => (match ev true b ms1 with
      | some (.av (.dat (.int j)), ms2) => if (smB 4611686018427387903 i && smB 4611686018427387903 j) = true then some (.fix ((List.range (j - i).toNat).map fun (k : Nat) => PyData.int (i + k)), ms2) else none
      | _ => none)
    | _ => none
  | .rev e, ms => match ev false e ms with
    | some (v, ms1) => (match v.d? with
      | some (.list xs) => some (.fix xs.reverse, ms1)
      | _ => none)
    | none => none
end

/-! ### statements -/
inductive Out where
  | nx
  | rt (v : RV)
  | bk
  | ct
  | xc (e : Exc)
mutual
inductive S where
  | set (i : Nat) (e : E)
  | setC (i : Nat) (elt : E) (tg : List Nat) (it : I) (cond : Es)
  | setT (tg : List Nat) (e : E)
  | setIx (i : Nat) (ix e : E)
  | pop0 (i : Nat)
  | append (i : Nat) (e : E)
  | setAttr (c : Str) (o : E) (f : Str) (e : E)
  | setIxE (o ix e : E)
  | appendE (o e : E)
  | never
  | expr (e : E)
  | ite (c : E) (a b : Ss)
  | for_ (tg : List Nat) (it : I) (body : Ss)
  | whil (c : E) (body : Ss)
  | ret (e : E)
  | pass
  | brk
  | cont
  | setTR (tg : List Nat) (e : E)
  | dset (o : E) (k : Str) (e : E)
  | kset (o k e : E)
  | par (tg : List Nat) (es : Es)
  | setCA (i : Nat) (elt : E) (tg : List Nat) (it : I) (cond : Es)
inductive Ss where
  | nil
  | cons (s : S) (ss : Ss)
end
def forL (tg : List Nat) (body : MS → Option (Out × MS)) : List PyData → MS → Option (Out × MS)
  | [], ms => some (.nx, ms)
  | x :: r, ms => match bindT tg x ms.rho with
    | some rho => (match body { ms with rho := rho } with
      | some (.nx, ms1) => forL tg body r ms1
      | some (.ct, ms1) => forL tg body r ms1
      | some (.bk, ms1) => some (.nx, ms1)
      | some (.rt v, ms1) => some (.rt v, ms1)
      | some (.xc e, ms1) => some (.xc e, ms1)
      | none => none)
    | none => none
def forS (tg : List Nat) (body : MS → Option (Out × MS)) (s : Src) : Nat → Nat → MS → Option (Out × MS)
  | 0, _, _ => none
  | n + 1, i, ms => match s.item ms.hp i with
    | none => none
    | some none => some (.nx, ms)
    | some (some x) => match bindT tg x ms.rho with
      | some rho => (match body { ms with rho := rho } with
        | some (.nx, ms1) => forS tg body s n (i + 1) ms1
        | some (.ct, ms1) => forS tg body s n (i + 1) ms1
        | some (.bk, ms1) => some (.nx, ms1)
        | some (.rt v, ms1) => some (.rt v, ms1)
        | some (.xc e, ms1) => some (.xc e, ms1)
        | none => none)
      | none => none
def forX (tg : List Nat) (body : MS → Option (Out × MS)) : Src → MS → Option (Out × MS)
  | .fix xs, ms => forL tg body xs ms
  | .heap r, ms => forS tg body (.heap r) FUEL 0 ms
def whileL (test : MS → Option (RV × MS)) (body : MS → Option (Out × MS)) : Nat → MS → Option (Out × MS)
  | 0, _ => none
  | n + 1, ms => match test ms with
    | some (.av (.dat (.bool true)), ms1) => (match body ms1 with
      | some (.nx, ms2) => whileL test body n ms2
      | some (.ct, ms2) => whileL test body n ms2
      | some (.bk, ms2) => some (.nx, ms2)
      | some (.rt v, ms2) => some (.rt v, ms2)
      | some (.xc e, ms2) => some (.xc e, ms2)
      | none => none)
    | some (.av (.dat (.bool false)), ms1) => some (.nx, ms1)
    | _ => none
def setSlot (i : Nat) : RV → MS → Option MS
  | .av v, ms => if i < ms.rho.length then some { ms with rho := ms.rho.set i (.av v) } else none
  | .lst xs, ms => if i < ms.rho.length then some { ms with rho := ms.rho.set i (.own xs) } else none
mutual
def ex : S → MS → Option (Out × MS)
  | .set i e, ms => match ev false e ms with
    | some (v, ms1) => (setSlot i v ms1).map fun m => (.nx, m)
    | none => none
  | .setC i elt tg it cond, ms => match ev false (.comp elt tg it cond) ms with
    | some (v, ms1) => (setSlot i v ms1).map fun m => (.nx, m)
    | none => none
  | .setT tg e, ms => match ev false e ms with
    | some (v, ms1) => (match v.val with
      | .dat d => (bindT tg d ms1.rho).map fun rho => (.nx, { ms1 with rho := rho })
      | _ => none)
    | none => none
  | .setIx i ix e, ms => match ev false e ms with
    | some (v, ms1) => (match ms1.rho[i]? with
      | some (.own _) => (match ev true ix ms1 with
        | some (.av (.dat (.int k)), ms2) => (match ms2.rho[i]?, v.val with
          | some (.own xs), .dat d => (ixD xs.length k).map fun j => (.nx, { ms2 with rho := ms2.rho.set i (.own (xs.set j d)) })
          | _, _ => none)
        | _ => none)
      | some (.av (.ref r)) => (match ev true ix ms1 with
        | some (.av (.dat (.int k)), ms2) => (match ms2.hp[r]? with
          | some (.lst xs) => (ixD xs.length k).map fun j => (.nx, { ms2 with hp := ms2.hp.set r (.lst (xs.set j v.val)) })
          | _ => none)
        | _ => none)
      | _ => none)
    | none => none
  | .pop0 i, ms => match ms.rho[i]? with
    | some (.own (_ :: xs)) => some (.nx, { ms with rho := ms.rho.set i (.own xs) })
    | some (.av (.ref r)) => (match ms.hp[r]? with
      | some (.lst (_ :: xs)) => some (.nx, { ms with hp := ms.hp.set r (.lst xs) })
      | _ => none)
    | _ => none
  | .append i e, ms => match ms.rho[i]? with
    | some (.own _) => (match ev false e ms with
      | some (v, ms1) => (match ms1.rho[i]?, v.d? with
        | some (.own xs), some d => if xs.length < LINE then some (.nx, { ms1 with rho := ms1.rho.set i (.own (xs ++ [d])) }) else none
        | _, _ => none)
      | none => none)
    | some (.av (.ref r)) => (match ms.hp[r]? with
      | some (.lst _) => (match ev false e ms with
        | some (v, ms1) => (match ms1.hp[r]? with
          | some (.lst xs) => if xs.length < LINE then some (.nx, { ms1 with hp := ms1.hp.set r (.lst (xs ++ [v.val])) }) else none
          | _ => none)
        | none => none)
      | _ => none)
    | _ => none
  | .setAttr c o f e, ms => match ev false e ms with
    | some (v, ms1) => (match ev true o ms1 with
      | some (.av (.ref r), ms2) => (match ms2.hp[r]? with
        | some (.ins c' fs) => if c' = c ∧ fs.length < 1000 then some (.nx, { ms2 with hp := ms2.hp.set r (.ins c' (putA f v.val fs)) }) else none
        | _ => none)
      | _ => none)
    | none => none
  | .setIxE o ix e, ms => match ev false e ms with
    | some (v, ms1) => (match ev true o ms1 with
      | some (.av (.ref r), ms2) => (match ev true ix ms2 with
        | some (.av (.dat (.int k)), ms3) => (match ms3.hp[r]? with
          | some (.lst xs) => (ixD xs.length k).map fun j => (.nx, { ms3 with hp := ms3.hp.set r (.lst (xs.set j v.val)) })
          | _ => none)
        | _ => none)
      | _ => none)
    | none => none
  | .appendE o e, ms => match ev true o ms with
    | some (.av (.ref r), ms1) => (match ms1.hp[r]? with
      | some (.lst _) => (match ev false e ms1 with
        | some (v, ms2) => (match ms2.hp[r]? with
          | some (.lst xs) => if xs.length < LINE then some (.nx, { ms2 with hp := ms2.hp.set r (.lst (xs ++ [v.val])) }) else none
          | _ => none)
        | none => none)
      | _ => none)
    | _ => none
  | .never, _ => none
  | .expr e, ms => match ev false e ms with
    | some (_, ms1) => some (.nx, ms1)
    | none => none
  | .ite c a b, ms => match ev true c ms with
    | some (.av (.dat (.bool k)), ms1) => if k then exs a ms1 else exs b ms1
    | _ => none
  | .for_ tg it body, ms => match evI it ms with
    | some (xs, ms1) => forX tg (exs body) xs ms1
    | none => none
  | .whil c body, ms => whileL (ev true c) (exs body) FUEL ms
  | .ret e, ms => match ev true e ms with
    | some (v, ms1) => some (.rt v, ms1)
    | none => none
  | .pass, ms => some (.nx, ms)
  | .brk, ms => some (.bk, ms)
  | .cont, ms => some (.ct, ms)
  | .setTR tg e, ms => match ev true e ms with
    | some (.av (.tup xs), ms1) => (bindA tg xs ms1.rho).map fun rho => (.nx, { ms1 with rho := rho })
    | _ => none
  | .dset o k e, ms => match ev false e ms with
    | some (v, ms1) => (match ev true o ms1 with
      | some (.av (.ref r), ms2) => (match ms2.hp[r]? with
        | some (.dct kvs) => if kvs.length < 1000 then some (.nx, { ms2 with hp := ms2.hp.set r (.dct (dputA k v.val kvs)) }) else none
        | _ => none)
      | _ => none)
    | none => none
  | .kset o k e, ms => match ev true e ms with
    | some (.av (.dat y), ms1) => (match ev true o ms1 with
      | some (.av (.ref r), ms2) => (match ev true k ms2 with
        | some (.av (.dat x), ms3) => (match ms3.hp[r]? with
          | some (.kd kvs) => if kOk x ∧ kvs.length < LINE then some (.nx, { ms3 with hp := ms3.hp.set r (.kd (kput kvs x (.dat y))) }) else none
          | _ => none)
        | _ => none)
      | _ => none)
    | _ => none
  | .par tg es, ms => match evs es ms with
    | some (vs, ms1) => (bindV tg vs ms1.rho).map fun rho => (.nx, { ms1 with rho := rho })
    | none => none
  | .setCA i elt tg it cond, ms => match ev false (.alloc (.comp elt tg it cond)) ms with
    | some (v, ms1) => (setSlot i v ms1).map fun m => (.nx, m)
    | none => none
def exs : Ss → MS → Option (Out × MS)
  | .nil, ms => some (.nx, ms)
  | .cons s ss, ms => match ex s ms with
    | some (.nx, ms1) => exs ss ms1
    | some (o, ms1) => some (o, ms1)
    | none => none
end
/-- a def: its names, how many of them are parameters, its body -/
def runB (n k : Nat) (body : Ss) (vs : List AV) (hp : List AO) : Option (RV × List AO) :=
  if vs.length = k then
    match exs body ⟨vs.map .av ++ List.replicate (n - k) .emp, hp⟩ with
    | some (.nx, ms) => some (.av (.dat .none), ms.hp)
    | some (.rt v, ms) => some (v, ms.hp)
    | _ => none
  else none
def exnB (n k : Nat) (body : Ss) (vs : List AV) (hp : List AO) : Option (Exc × List AO) :=
  if vs.length = k then
    match exs body ⟨vs.map .av ++ List.replicate (n - k) .emp, hp⟩ with
    | some (.xc e, ms) => some (e, ms.hp)
    | _ => none
  else none
end Sv

/-! Sv: how the small interpreter's states lie in the layer's heap. -/
namespace Sv
open PySem L2

/-! ### data in the heap; Z tells the lists that no longer change -/
mutual
inductive Dz (K : PySem.W.Frag) (Z : Addr → Prop) (H : Hp) : V → PyData → Prop
  | non : Dz K Z H .non .none
  | bl (b : Bool) : Dz K Z H (.bl b) (.bool b)
  | int (i : Int) : Dz K Z H (.int i) (.int i)
  | str (x : Str) : Dz K Z H (.str x) (.str x)
  | lst {a : Addr} {xs : List V} {ds : List PyData} : H a = some (.lst xs) → Z a → Dzs K Z H xs ds → Dz K Z H (.ref a) (.list ds)
  | tup {a : Addr} {xs : List V} {ds : List PyData} : SqT K H a xs → Dzs K Z H xs ds → Dz K Z H (.ref a) (.tuple ds)
inductive Dzs (K : PySem.W.Frag) (Z : Addr → Prop) (H : Hp) : List V → List PyData → Prop
  | nil : Dzs K Z H [] []
  | cons {v : V} {vs : List V} {d : PyData} {ds : List PyData} : Dz K Z H v d → Dzs K Z H vs ds → Dzs K Z H (v :: vs) (d :: ds)
end
section
variable {K : PySem.W.Frag} {Z Z' : Addr → Prop} {H H' : Hp}
mutual
theorem Dz.mono (hl : ∀ a xs, Z a → H a = some (.lst xs) → Z' a ∧ H' a = some (.lst xs)) (ht : ∀ a xs, SqT K H a xs → SqT K H' a xs) : ∀ {v : V} (d : PyData), Dz K Z H v d → Dz K Z' H' v d
  | _, .none, h => by cases h; exact .non
  | _, .bool _, h => by cases h; exact .bl _
  | _, .int _, h => by cases h; exact .int _
  | _, .str _, h => by cases h; exact .str _
  | _, .list ds, h => by
    cases h with
    | lst e z q =>
      obtain ⟨z', e'⟩ := hl _ _ z e
      exact .lst e' z' (Dzs.mono hl ht ds q)
  | _, .tuple ds, h => by
    cases h with
    | tup e q => exact .tup (ht _ _ e) (Dzs.mono hl ht ds q)
  | _, .dict _, h => by cases h
theorem Dzs.mono (hl : ∀ a xs, Z a → H a = some (.lst xs) → Z' a ∧ H' a = some (.lst xs)) (ht : ∀ a xs, SqT K H a xs → SqT K H' a xs) : ∀ {vs : List V} (ds : List PyData), Dzs K Z H vs ds → Dzs K Z' H' vs ds
  | _, [], h => by cases h; exact .nil
  | _, d :: ds, h => by
    cases h with
    | cons p q => exact .cons (Dz.mono hl ht d p) (Dzs.mono hl ht ds q)
end
mutual
theorem Dz.dp : ∀ {v : V} (d : PyData), Dz K Z H v d → Dp K H v d
  | _, .none, h => by cases h; exact .non
  | _, .bool _, h => by cases h; exact .bl _
  | _, .int _, h => by cases h; exact .int _
  | _, .str _, h => by cases h; exact .str _
  | _, .list ds, h => by
    cases h with
    | lst e z q => exact .lst (SqL.of e) (Dzs.dp ds q)
  | _, .tuple ds, h => by
    cases h with
    | tup e q => exact .tup e (Dzs.dp ds q)
  | _, .dict _, h => by cases h
theorem Dzs.dp : ∀ {vs : List V} (ds : List PyData), Dzs K Z H vs ds → DpAll K H vs ds
  | _, [], h => by cases h; exact .nil
  | _, d :: ds, h => by
    cases h with
    | cons p q => exact .cons (Dz.dp d p) (Dzs.dp ds q)
end
mutual
/-- data without lists leans on no Z -/
theorem Dz.noL : ∀ {v : V} (d : PyData), noL d = true → Dz K Z H v d → Dz K Z' H v d
  | _, .none, _, h => by cases h; exact .non
  | _, .bool _, _, h => by cases h; exact .bl _
  | _, .int _, _, h => by cases h; exact .int _
  | _, .str _, _, h => by cases h; exact .str _
  | _, .list ds, e, h => by simp [Sv.noL] at e
  | _, .tuple ds, e, h => by
    cases h with
    | tup p q => exact .tup p (Dzs.noL ds (by simpa [Sv.noL] using e) q)
  | _, .dict _, _, h => by cases h
theorem Dzs.noL : ∀ {vs : List V} (ds : List PyData), noLs ds = true → Dzs K Z H vs ds → Dzs K Z' H vs ds
  | _, [], _, h => by cases h; exact .nil
  | _, d :: ds, e, h => by
    cases h with
    | cons p q =>
      have e' : Sv.noL d = true ∧ Sv.noLs ds = true := by simpa [Sv.noLs] using e
      exact .cons (Dz.noL d e'.1 p) (Dzs.noL ds e'.2 q)
end
theorem Dzs.length : ∀ {vs : List V} {ds : List PyData}, Dzs K Z H vs ds → vs.length = ds.length
  | _, _, .nil => rfl
  | _, _, .cons _ q => by simp [Dzs.length q]
theorem Dzs.append : ∀ {vs ws : List V} {ds es : List PyData}, Dzs K Z H vs ds → Dzs K Z H ws es → Dzs K Z H (vs ++ ws) (ds ++ es)
  | _, _, _, _, .nil, q => q
  | _, _, _, _, .cons p r, q => .cons p (Dzs.append r q)
theorem Dzs.get : ∀ {vs : List V} {ds : List PyData} {i : Nat} {d : PyData}, Dzs K Z H vs ds → ds[i]? = some d → ∃ v, vs[i]? = some v ∧ Dz K Z H v d
  | _, _, 0, _, .cons p r, e => by simp at e; subst e; exact ⟨_, by simp, p⟩
  | _, _, i + 1, _, .cons p r, e => by
    obtain ⟨v, h1, h2⟩ := Dzs.get (i := i) r (by simpa using e)
    exact ⟨v, by simpa using h1, h2⟩
  | _, _, _, _, .nil, e => by simp at e
theorem Dzs.get' {vs : List V} {ds : List PyData} {i : Nat} {v : V} (h : Dzs K Z H vs ds) (e : vs[i]? = some v) : ∃ d, ds[i]? = some d ∧ Dz K Z H v d := by
  have hl := h.length
  have hi : i < ds.length := by rw [← hl]; exact (List.getElem?_eq_some_iff.mp e).1
  obtain ⟨w, h1, h2⟩ := h.get (List.getElem?_eq_getElem hi)
  rw [e] at h1
  cases h1
  exact ⟨_, List.getElem?_eq_getElem hi, h2⟩
theorem Dzs.take : ∀ {vs : List V} {ds : List PyData} (n : Nat), Dzs K Z H vs ds → Dzs K Z H (vs.take n) (ds.take n)
  | _, _, 0, _ => by simpa using Dzs.nil
  | _, _, _ + 1, .nil => by simpa using Dzs.nil
  | _, _, n + 1, .cons p r => by simpa using Dzs.cons p (Dzs.take n r)
theorem Dzs.drop : ∀ {vs : List V} {ds : List PyData} (n : Nat), Dzs K Z H vs ds → Dzs K Z H (vs.drop n) (ds.drop n)
  | _, _, 0, h => by simpa using h
  | _, _, _ + 1, .nil => by simpa using Dzs.nil
  | _, _, n + 1, .cons p r => by simpa using Dzs.drop n r
theorem Dzs.rep {vs : List V} {ds : List PyData} (h : Dzs K Z H vs ds) : ∀ k : Nat, Dzs K Z H (List.replicate k vs).flatten (List.replicate k ds).flatten
  | 0 => by simpa using Dzs.nil
  | k + 1 => by simpa [List.replicate_succ] using Dzs.append h (Dzs.rep h k)
theorem Dzs.set {v : V} {d : PyData} (p : Dz K Z H v d) : ∀ {vs : List V} {ds : List PyData} (i : Nat), Dzs K Z H vs ds → Dzs K Z H (vs.set i v) (ds.set i d)
  | _, _, _, .nil => by simpa using Dzs.nil
  | _, _, 0, .cons _ r => by simpa using Dzs.cons p r
  | _, _, i + 1, .cons q r => by simpa using Dzs.cons q (Dzs.set p i r)
theorem dzs_ints : ∀ ns : List Int, Dzs K Z H (ns.map V.int) (ns.map PyData.int)
  | [] => .nil
  | n :: ns => .cons (.int n) (dzs_ints ns)
theorem Dzs.int_of : ∀ {vs : List V} {ds : List PyData} {ns : List Int}, Dzs K Z H vs ds → intsD ds = some ns → vs = ns.map V.int
  | _, _, _, .nil, e => by simp [intsD] at e; subst e; rfl
  | _, _, _, .cons (d := d) p r, e => by
    cases p with
    | int i =>
      simp only [intsD, Option.map_eq_some_iff] at e
      obtain ⟨ms, e1, rfl⟩ := e
      simp [Dzs.int_of r e1]
    | _ => simp [intsD] at e
theorem Dzs.bl_of : ∀ {vs : List V} {ds : List PyData} {ns : List Bool}, Dzs K Z H vs ds → boolsD ds = some ns → vs = ns.map V.bl
  | _, _, _, .nil, e => by simp [boolsD] at e; subst e; rfl
  | _, _, _, .cons (d := d) p r, e => by
    cases p with
    | bl i =>
      simp only [boolsD, Option.map_eq_some_iff] at e
      obtain ⟨ms, e1, rfl⟩ := e
      simp [Dzs.bl_of r e1]
    | _ => simp [boolsD] at e
end

/-! ### ghosts: the small heap's addresses, the lists that no longer change, the lists that slots own -/
structure G where
  io : List Addr
  Z : Addr → Prop
  oa : Nat → Option Addr
/-- the script's list: read, never written -/
def ScrAt (K : PySem.W.Frag) (H : Hp) (a : Addr) (ns : List Int) : Prop := (∃ o, H a = some (.frz o (.lst (ns.map V.int)))) ∨ ∀ H', SqL K H' a (ns.map V.int)
theorem ScrAt.sql {K : PySem.W.Frag} {H : Hp} {a : Addr} {ns : List Int} (h : ScrAt K H a ns) : SqL K H a (ns.map V.int) := by
  rcases h with ⟨o, h⟩ | h
  · exact .inl (.inr ⟨o, h⟩)
  · exact h H
theorem ScrAt.keep {K : PySem.W.Frag} {H H' : Hp} {a : Addr} {ns : List Int} (h : ScrAt K H a ns) (k : ∀ o, H a = some (.frz o (.lst (ns.map V.int))) → H' a = some (.frz o (.lst (ns.map V.int)))) : ScrAt K H' a ns := by
  rcases h with ⟨o, h⟩ | h
  · exact .inl ⟨o, k o h⟩
  · exact .inr h
inductive A0R (K : PySem.W.Frag) (g : G) (H : Hp) : V → A0 → Prop
  | d {v : V} {d : PyData} : Dz K g.Z H v d → A0R K g H v (.d d)
  | r {j : Nat} {a : Addr} : g.io[j]? = some a → A0R K g H (.ref a) (.r j)
inductive A0Rs (K : PySem.W.Frag) (g : G) (H : Hp) : List V → List A0 → Prop
  | nil : A0Rs K g H [] []
  | cons {v : V} {vs : List V} {x : A0} {xs : List A0} : A0R K g H v x → A0Rs K g H vs xs → A0Rs K g H (v :: vs) (x :: xs)
inductive AVR (K : PySem.W.Frag) (g : G) (H : Hp) : V → AV → Prop
  | dat {v : V} {d : PyData} : Dz K g.Z H v d → AVR K g H v (.dat d)
  | ref {j : Nat} {a : Addr} : g.io[j]? = some a → AVR K g H (.ref a) (.ref j)
  | fd {a : Addr} {kv : List (Key × V)} {kvs : List (Str × PyData)} : g.Z a → H a = some (.dK kv) → kv.map (·.1) = kvs.map (fun p => Sum.inr p.1) → Dzs K g.Z H (kv.map (·.2)) (kvs.map (·.2)) → AVR K g H (.ref a) (.fd kvs)
  | scr {a : Addr} {ns : List Int} : ScrAt K H a ns → AVR K g H (.ref a) (.scr ns)
  | tup {a : Addr} {vs : List V} {xs : List A0} : SqT K H a vs → A0Rs K g H vs xs → AVR K g H (.ref a) (.tup xs)
inductive AVRs (K : PySem.W.Frag) (g : G) (H : Hp) : List V → List AV → Prop
  | nil : AVRs K g H [] []
  | cons {v : V} {vs : List V} {x : AV} {xs : List AV} : AVR K g H v x → AVRs K g H vs xs → AVRs K g H (v :: vs) (x :: xs)
/-! dicts whose keys are nested tuples -/
mutual
def nkD : PyData → NestedKey
  | .none => .none
  | .int i => .num i
  | .str x => .text x
  | .tuple xs => .tup (nkDs xs)
  | _ => .none
def nkDs : List PyData → List NestedKey
  | [] => []
  | x :: xs => nkD x :: nkDs xs
end
def entN (w : World) (x : NestedKey × Addr × Value) : DictEntry := ⟨x.1.hash w, .ref x.2.1, x.2.2⟩
abbrev KdR : List (NestedKey × Addr × V) → List (NestedKey × Addr × Value) → Prop := Paired fun p q => p.1 = q.1 ∧ p.2.1 = q.2.1 ∧ RelV p.2.2 q.2.2
def KdO (w : World) (a : Addr) (xs : List (NestedKey × Addr × V)) : HO := .ext fun h => xs.length ≤ sizeLine ∧ (a == sysModules) = false ∧ (xs.map (·.1)).Nodup ∧
  ∃ ys, KdR xs ys ∧ ∃ o es ep, h.get? a = some o ∧ o.ExactDict ∧ o.data = .dict es ep ∧ es.toList = ys.map (entN w)
inductive KdP (K : PySem.W.Frag) (g : G) (H : Hp) : List (NestedKey × Addr × V) → List (PyData × AV) → Prop
  | nil : KdP K g H [] []
  | cons {k : NestedKey} {a : Addr} {v : V} {d : PyData} {x : AV} {xs : List (NestedKey × Addr × V)} {ys : List (PyData × AV)} : k = nkD d → kOk d = true → Dz K g.Z H (.ref a) d → AVR K g H v x → KdP K g H xs ys → KdP K g H ((k, a, v) :: xs) ((d, x) :: ys)
inductive ORel (K : PySem.W.Frag) (mg : Str → Option Value) (w : World) (g : G) (H : Hp) (a : Addr) : AO → Prop
  | kd {xs : List (NestedKey × Addr × V)} {kvs : List (PyData × AV)} : H a = some (KdO w a xs) → KdP K g H xs kvs → ORel K mg w g H a (.kd kvs)
  | lst {vs : List V} {xs : List AV} : H a = some (.lst vs) → AVRs K g H vs xs → ORel K mg w g H a (.lst xs)
  | dct {kv : List (Key × V)} {kvs : List (Str × AV)} : H a = some (.dK kv) → kv.map (·.1) = kvs.map (fun p => Sum.inr p.1) → AVRs K g H (kv.map (·.2)) (kvs.map (·.2)) → ORel K mg w g H a (.dct kvs)
  | ins {c : Str} {C dx : Addr} {fs : List (Str × V)} {gs : List (Str × AV)} : H a = some (.ins C dx fs) → mg c = some (.ref C) → fs.map (·.1) = gs.map (·.1) → AVRs K g H (fs.map (·.2)) (gs.map (·.2)) → ORel K mg w g H a (.ins c gs)
/-- the small heap lies in H -/
structure HRel (K : PySem.W.Frag) (mg : Str → Option Value) (w : World) (g : G) (hp : List AO) (H : Hp) : Prop where
  hl : g.io.length = hp.length
  nd : g.io.Nodup
  ho : ∀ (j : Nat) a o, g.io[j]? = some a → hp[j]? = some o → ORel K mg w g H a o
  nz : ∀ a ∈ g.io, ¬ g.Z a
  zt : ∀ a, g.Z a → ∃ o, H a = some o
/-- what a def's frame was entered with -/
structure Fr where
  io : List Addr
  Z : Addr → Prop
  H : Hp
structure Fra (F : Fr) (g : G) (H : Hp) : Prop where
  io : ∃ new, g.io = F.io ++ new ∧ ∀ a ∈ new, F.H a = none
  z : ∀ a, g.Z a → F.Z a ∨ F.H a = none
  zz : ∀ a, F.Z a → g.Z a
  keep : ∀ a o, a ∉ F.io → F.H a = some o → H a = some o
  th : ∀ a o, F.H a = some o → ∃ o', H a = some o'
structure Rel (K : PySem.W.Frag) (mg : Str → Option Value) (w : World) (F : Fr) (g : G) (ms : MS) (σ : St) (H : Hp) : Prop where
  hr : HRel K mg w g ms.hp H
  len : σ.length = ms.rho.length
  av : ∀ (i : Nat) v, ms.rho[i]? = some (.av v) → ∃ x, σ[i]? = some (some x) ∧ AVR K g H x v
  own : ∀ (i : Nat) xs, ms.rho[i]? = some (.own xs) → ∃ a vs, g.oa i = some a ∧ σ[i]? = some (some (.ref a)) ∧ H a = some (.lst vs) ∧ Dzs K g.Z H vs xs
  oaf : ∀ (i : Nat) a, g.oa i = some a → ¬ g.Z a ∧ a ∉ g.io ∧ F.H a = none ∧ ∃ vs, H a = some (.lst vs)
  inj : ∀ (i j : Nat) a, g.oa i = some a → g.oa j = some a → i = j
  fr : Fra F g H
/-- from here on: what is not the small heap's stays -/
structure Ext0 (g : G) (H : Hp) (g' : G) (H' : Hp) : Prop where
  keep : ∀ a o, a ∉ g.io → H a = some o → H' a = some o
  zz : ∀ a, g.Z a → g'.Z a
  io : ∃ new, g'.io = g.io ++ new ∧ ∀ a ∈ new, H a = none
  th : ∀ a o, H a = some o → ∃ o', H' a = some o'
/-- .. and Z takes up nothing but what is new or was a slot's own -/
structure Ext (g : G) (H : Hp) (g' : G) (H' : Hp) : Prop extends Ext0 g H g' H' where
  zn : ∀ a, g'.Z a → g.Z a ∨ H a = none ∨ ∃ i, g.oa i = some a
  on : ∀ i a, g'.oa i = some a → (∃ j, g.oa j = some a) ∨ H a = none
/-- behind statements: the slots' own lists may have changed, too -/
structure ExtS (g : G) (H : Hp) (g' : G) (H' : Hp) : Prop where
  keep : ∀ a o, a ∉ g.io → (∀ i, g.oa i ≠ some a) → H a = some o → H' a = some o
  zz : ∀ a, g.Z a → g'.Z a
  io : ∃ new, g'.io = g.io ++ new ∧ ∀ a ∈ new, H a = none
  th : ∀ a o, H a = some o → ∃ o', H' a = some o'
  on : ∀ i a, g'.oa i = some a → (∃ j, g.oa j = some a) ∨ H a = none
/-- a result: a value, or a list that nobody holds (b = false: it is new, it did not stand in S) -/
inductive RVR (K : PySem.W.Frag) (F : Fr) (g : G) (S H : Hp) : Bool → V → RV → Prop
  | av {b : Bool} {v : V} {x : AV} : AVR K g H v x → RVR K F g S H b v (.av x)
  | lst {b : Bool} {a : Addr} {vs : List V} {xs : List PyData} : H a = some (.lst vs) → Dzs K g.Z H vs xs → a ∉ g.io → ¬ g.Z a → F.H a = none → (b = false → S a = none ∧ ∀ i, g.oa i ≠ some a) → RVR K F g S H b (.ref a) (.lst xs)

section
variable {K : PySem.W.Frag} {mg : Str → Option Value} {w : World} {F : Fr} {g g' g2 : G} {ms : MS} {σ : St} {H H' H2 : Hp}
theorem A0Rs.map {g g' : G} {H H' : Hp} (dz : ∀ v d, Dz K g.Z H v d → Dz K g'.Z H' v d) (hi : ∀ (j : Nat) (a : Addr), g.io[j]? = some a → g'.io[j]? = some a) : ∀ {vs : List V} {xs : List A0}, A0Rs K g H vs xs → A0Rs K g' H' vs xs
  | _, _, .nil => .nil
  | _, _, .cons (.d p) q => .cons (.d (dz _ _ p)) (A0Rs.map dz hi q)
  | _, _, .cons (.r p) q => .cons (.r (hi _ _ p)) (A0Rs.map dz hi q)
theorem AVR.map {g g' : G} {H H' : Hp} (hl : ∀ a xs, g.Z a → H a = some (.lst xs) → g'.Z a ∧ H' a = some (.lst xs)) (hd : ∀ a kv, g.Z a → H a = some (.dK kv) → g'.Z a ∧ H' a = some (.dK kv)) (ht : ∀ a xs, SqT K H a xs → SqT K H' a xs)
    (hi : ∀ (j : Nat) (a : Addr), g.io[j]? = some a → g'.io[j]? = some a) (hs : ∀ a ns, ScrAt K H a ns → ScrAt K H' a ns) {v : V} {x : AV} (h : AVR K g H v x) : AVR K g' H' v x := by
  cases h with
  | dat h => exact .dat (Dz.mono hl ht _ h)
  | ref h => exact .ref (hi _ _ h)
  | fd z h k q => exact .fd (hd _ _ z h).1 (hd _ _ z h).2 k (Dzs.mono hl ht _ q)
  | scr h => exact .scr (hs _ _ h)
  | tup h q => exact .tup (ht _ _ h) (q.map (fun v d h => Dz.mono hl ht d h) hi)
theorem AVRs.map {g g' : G} {H H' : Hp} (av : ∀ v x, AVR K g H v x → AVR K g' H' v x) : ∀ {vs : List V} {xs : List AV}, AVRs K g H vs xs → AVRs K g' H' vs xs
  | _, _, .nil => .nil
  | _, _, .cons p q => .cons (av _ _ p) (AVRs.map av q)
theorem KdP.map {g g' : G} {H H' : Hp} (dz : ∀ v d, Dz K g.Z H v d → Dz K g'.Z H' v d) (av : ∀ v x, AVR K g H v x → AVR K g' H' v x) : ∀ {xs : List (NestedKey × Addr × V)} {ys : List (PyData × AV)}, KdP K g H xs ys → KdP K g' H' xs ys
  | _, _, .nil => .nil
  | _, _, .cons a b p q r => .cons a b (dz _ _ p) (av _ _ q) (KdP.map dz av r)
theorem ORel.map {g g' : G} {H H' : Hp} {a : Addr} {o : AO} (k : ∀ u, H a = some u → H' a = some u) (dz : ∀ v d, Dz K g.Z H v d → Dz K g'.Z H' v d) (av : ∀ v x, AVR K g H v x → AVR K g' H' v x) (h : ORel K mg w g H a o) : ORel K mg w g' H' a o := by
  cases h with
  | lst h q => exact .lst (k _ h) (q.map av)
  | dct h k' q => exact .dct (k _ h) k' (q.map av)
  | ins h m k' q => exact .ins (k _ h) m k' (q.map av)
  | kd h q => exact .kd (k _ h) (q.map dz av)
theorem AVRs.length : ∀ {vs : List V} {xs : List AV}, AVRs K g H vs xs → vs.length = xs.length
  | _, _, .nil => rfl
  | _, _, .cons _ q => by simp [AVRs.length q]
theorem AVRs.get : ∀ {vs : List V} {ds : List AV} {i : Nat} {d : AV}, AVRs K g H vs ds → ds[i]? = some d → ∃ v, vs[i]? = some v ∧ AVR K g H v d
  | _, _, 0, _, .cons p r, e => by simp at e; subst e; exact ⟨_, by simp, p⟩
  | _, _, i + 1, _, .cons p r, e => by
    obtain ⟨v, h1, h2⟩ := AVRs.get (i := i) r (by simpa using e)
    exact ⟨v, by simpa using h1, h2⟩
  | _, _, _, _, .nil, e => by simp at e
theorem AVRs.set {v : V} {d : AV} (p : AVR K g H v d) : ∀ {vs : List V} {ds : List AV} (i : Nat), AVRs K g H vs ds → AVRs K g H (vs.set i v) (ds.set i d)
  | _, _, _, .nil => by simpa using AVRs.nil
  | _, _, 0, .cons _ r => by simpa using AVRs.cons p r
  | _, _, i + 1, .cons q r => by simpa using AVRs.cons q (AVRs.set p i r)
theorem AVRs.append : ∀ {vs ws : List V} {ds es : List AV}, AVRs K g H vs ds → AVRs K g H ws es → AVRs K g H (vs ++ ws) (ds ++ es)
  | _, _, _, _, .nil, q => q
  | _, _, _, _, .cons p r, q => .cons p (AVRs.append r q)
theorem AVRs.of_dzs : ∀ {vs : List V} {ds : List PyData}, Dzs K g.Z H vs ds → AVRs K g H vs (ds.map .dat)
  | _, _, .nil => .nil
  | _, _, .cons p q => .cons (.dat p) (AVRs.of_dzs q)
theorem AVRs.dzs : ∀ {vs : List V} {xs : List AV} {ds : List PyData}, AVRs K g H vs xs → allD xs = some ds → Dzs K g.Z H vs ds
  | _, _, _, .nil, e => by simp [allD] at e; subst e; exact .nil
  | _, _, _, .cons p q, e => by
    cases p with
    | dat p =>
      simp only [allD, Option.map_eq_some_iff] at e
      obtain ⟨ds, e1, rfl⟩ := e
      exact .cons p (AVRs.dzs q e1)
    | _ => simp [allD] at e
theorem Ext.refl : Ext g H g H := ⟨⟨fun _ _ _ h => h, fun _ h => h, ⟨[], by simp, by simp⟩, fun _ o h => ⟨o, h⟩⟩, fun _ h => .inl h, fun i _ h => .inl ⟨i, h⟩⟩
theorem Ext0.trans (a : Ext0 g H g2 H2) (b : Ext0 g2 H2 g' H') : Ext0 g H g' H' := by
  obtain ⟨n1, e1, h1⟩ := a.io
  obtain ⟨n2, e2, h2⟩ := b.io
  refine ⟨fun c o hc h => ?_, fun c h => b.zz c (a.zz c h), ⟨n1 ++ n2, by rw [e2, e1, List.append_assoc], fun c hc => ?_⟩, fun c o h => ?_⟩
  · refine b.keep c o ?_ (a.keep c o hc h)
    rw [e1]
    intro hm
    rcases List.mem_append.mp hm with hm | hm
    · exact hc hm
    · rw [h1 c hm] at h; cases h
  · rcases List.mem_append.mp hc with hc | hc
    · exact h1 c hc
    · cases q : H c with
      | none => rfl
      | some o =>
        obtain ⟨o', h'⟩ := a.th c o q
        rw [h2 c hc] at h'; cases h'
  · obtain ⟨o', h'⟩ := a.th c o h
    exact b.th c o' h'
theorem Ext0.back (a : Ext0 g H g2 H2) {c : Addr} (h : H2 c = none) : H c = none := by
  cases q : H c with
  | none => rfl
  | some o =>
    obtain ⟨o', h'⟩ := a.th c o q
    rw [h] at h'; cases h'
theorem Ext.trans (a : Ext g H g2 H2) (b : Ext g2 H2 g' H') : Ext g H g' H' := by
  refine ⟨a.toExt0.trans b.toExt0, fun c h => ?_, fun i c h => ?_⟩
  · rcases b.zn c h with h | h | ⟨i, h⟩
    · exact a.zn c h
    · exact .inr (.inl (a.toExt0.back h))
    · rcases a.on i c h with h | h
      · exact .inr (.inr h)
      · exact .inr (.inl h)
  · rcases b.on i c h with ⟨j, h⟩ | h
    · exact a.on j c h
    · exact .inr (a.toExt0.back h)
theorem Ext.s (x : Ext g H g' H') : ExtS g H g' H' := ⟨fun a o h _ q => x.keep a o h q, x.zz, x.io, x.th, x.on⟩
theorem ExtS.refl : ExtS g H g H := Ext.refl.s
theorem ExtS.trans (a : ExtS g H g2 H2) (b : ExtS g2 H2 g' H') : ExtS g H g' H' := by
  obtain ⟨n1, e1, h1⟩ := a.io
  obtain ⟨n2, e2, h2⟩ := b.io
  have bk : ∀ c, H2 c = none → H c = none := fun c h => by
    cases q : H c with
    | none => rfl
    | some o =>
      obtain ⟨o', h'⟩ := a.th c o q
      rw [h] at h'; cases h'
  refine ⟨fun c o hc ho h => ?_, fun c h => b.zz c (a.zz c h), ⟨n1 ++ n2, by rw [e2, e1, List.append_assoc], fun c hc => ?_⟩, fun c o h => ?_, fun i c h => ?_⟩
  · refine b.keep c o ?_ (fun i z => ?_) (a.keep c o hc ho h)
    · rw [e1]
      intro hm
      rcases List.mem_append.mp hm with hm | hm
      · exact hc hm
      · rw [h1 c hm] at h; cases h
    · rcases a.on i c z with ⟨j, z⟩ | z
      · exact ho j z
      · rw [z] at h; cases h
  · rcases List.mem_append.mp hc with hc | hc
    · exact h1 c hc
    · exact bk c (h2 c hc)
  · obtain ⟨o', h'⟩ := a.th c o h
    exact b.th c o' h'
  · rcases b.on i c h with ⟨j, h⟩ | h
    · exact a.on j c h
    · exact .inr (bk c h)
/-- objects of the small heap are lists, dicts, instances -/
theorem HRel.at {hp : List AO} (R : HRel K mg w g hp H) {a : Addr} (ha : a ∈ g.io) : (∃ vs, H a = some (.lst vs)) ∨ (∃ kv, H a = some (.dK kv)) ∨ (∃ C dx fs, H a = some (.ins C dx fs)) ∨ ∃ φ, H a = some (.ext φ) := by
  obtain ⟨j, hj, e⟩ := List.mem_iff_getElem.mp ha
  have hj' : j < hp.length := by rw [← R.hl]; exact hj
  have h := R.ho j a hp[j] (by rw [List.getElem?_eq_getElem hj, e]) (List.getElem?_eq_getElem hj')
  generalize hp[j] = o at h
  cases h with
  | lst e _ => exact .inl ⟨_, e⟩
  | dct e _ _ => exact .inr (.inl ⟨_, e⟩)
  | ins e _ _ _ => exact .inr (.inr (.inl ⟨_, _, _, e⟩))
  | kd e _ => exact .inr (.inr (.inr ⟨_, e⟩))
theorem HRel.no_tup {hp : List AO} (R : HRel K mg w g hp H) {a : Addr} {xs : List V} (h : H a = some (.tup xs)) : a ∉ g.io := fun ha => by
  rcases R.at ha with ⟨_, e⟩ | ⟨_, e⟩ | ⟨_, _, _, e⟩ | ⟨_, e⟩ <;> (rw [h] at e; cases e)
theorem HRel.no_frz {hp : List AO} (R : HRel K mg w g hp H) {a : Addr} {o : Obj} {u : HO} (h : H a = some (.frz o u)) : a ∉ g.io := fun ha => by
  rcases R.at ha with ⟨_, e⟩ | ⟨_, e⟩ | ⟨_, _, _, e⟩ | ⟨_, e⟩ <;> (rw [h] at e; cases e)
theorem HRel.there {hp : List AO} (R : HRel K mg w g hp H) {a : Addr} (ha : a ∈ g.io) : ∃ o, H a = some o := by
  rcases R.at ha with ⟨_, e⟩ | ⟨_, e⟩ | ⟨_, _, _, e⟩ | ⟨_, e⟩ <;> exact ⟨_, e⟩
theorem HRel.fresh {hp : List AO} (R : HRel K mg w g hp H) {p : Addr} (hp' : H p = none) : p ∉ g.io ∧ ¬ g.Z p := by
  refine ⟨fun h => ?_, fun h => ?_⟩
  · obtain ⟨o, e⟩ := R.there h; rw [hp'] at e; cases e
  · obtain ⟨o, e⟩ := R.zt p h; rw [hp'] at e; cases e
theorem sqT_keep (k : ∀ a xs, H a = some (.tup xs) → H' a = some (.tup xs)) (kf : ∀ a o xs, H a = some (.frz o (.tup xs)) → H' a = some (.frz o (.tup xs))) {a : Addr} {xs : List V} (h : SqT K H a xs) : SqT K H' a xs := by
  rcases h with (h | ⟨o, h⟩) | h
  · exact .inl (.inl (k _ _ h))
  · exact .inl (.inr ⟨o, kf _ _ _ h⟩)
  · exact .inr h
theorem HRel.sqT {hp : List AO} (R : HRel K mg w g hp H) (e : Ext0 g H g' H') {a : Addr} {xs : List V} (h : SqT K H a xs) : SqT K H' a xs :=
  sqT_keep (fun a xs q => e.keep a _ (R.no_tup q) q) (fun a o xs q => e.keep a _ (R.no_frz q) q) h
theorem HRel.dz {hp : List AO} (R : HRel K mg w g hp H) (e : Ext0 g H g' H') {v : V} {d : PyData} (h : Dz K g.Z H v d) : Dz K g'.Z H' v d :=
  Dz.mono (fun a xs z q => ⟨e.zz a z, e.keep a _ (fun hm => R.nz a hm z) q⟩) (fun a xs q => R.sqT e q) d h
theorem HRel.dzs {hp : List AO} (R : HRel K mg w g hp H) (e : Ext0 g H g' H') {v : List V} {d : List PyData} (h : Dzs K g.Z H v d) : Dzs K g'.Z H' v d :=
  Dzs.mono (fun a xs z q => ⟨e.zz a z, e.keep a _ (fun hm => R.nz a hm z) q⟩) (fun a xs q => R.sqT e q) d h
theorem HRel.avr {hp : List AO} (R : HRel K mg w g hp H) (e : Ext0 g H g' H') {v : V} {x : AV} (h : AVR K g H v x) : AVR K g' H' v x :=
  h.map (fun a xs z q => ⟨e.zz a z, e.keep a _ (fun hm => R.nz a hm z) q⟩) (fun a kv z q => ⟨e.zz a z, e.keep a _ (fun hm => R.nz a hm z) q⟩) (fun a xs q => R.sqT e q) (fun j a h => by
    obtain ⟨n, e1, _⟩ := e.io
    rw [e1, List.getElem?_append_left (List.getElem?_eq_some_iff.mp h).1]
    exact h) fun a ns h => h.keep fun o h => e.keep _ _ (R.no_frz h) h
theorem HRel.avrs {hp : List AO} (R : HRel K mg w g hp H) (e : Ext0 g H g' H') {vs : List V} {xs : List AV} (h : AVRs K g H vs xs) : AVRs K g' H' vs xs := h.map fun _ _ h => R.avr e h
/-- a change that leaves all that is tracked, and Z -/
theorem Ext0.same (k : ∀ a o, H a = some o → H' a = some o) : Ext0 g H g H' := ⟨fun a o _ h => k a o h, fun _ h => h, ⟨[], by simp, by simp⟩, fun a o h => ⟨o, k a o h⟩⟩
theorem Ext.same (k : ∀ a o, H a = some o → H' a = some o) : Ext g H g H' := ⟨.same k, fun _ h => .inl h, fun i _ h => .inl ⟨i, h⟩⟩
theorem ORel.ext {hp : List AO} (R : HRel K mg w g hp H) (e : Ext0 g H g' H') {a : Addr} {o : AO} (k : ∀ u, H a = some u → H' a = some u) (h : ORel K mg w g H a o) : ORel K mg w g' H' a o :=
  h.map k (fun _ _ h => R.dz e h) fun _ _ h => R.avr e h
theorem HRel.same {hp : List AO} (R : HRel K mg w g hp H) (k : ∀ a o, H a = some o → H' a = some o) : HRel K mg w g hp H' :=
  ⟨R.hl, R.nd, fun j a o h1 h2 => (R.ho j a o h1 h2).ext R (.same k) (k a), R.nz, fun a z => let ⟨o, h⟩ := R.zt a z; ⟨o, k a o h⟩⟩
theorem Fra.same (R : Fra F g H) (k : ∀ a o, H a = some o → H' a = some o) : Fra F g H' :=
  ⟨R.io, R.z, R.zz, fun a o h1 h2 => k a o (R.keep a o h1 h2), fun a o h => let ⟨o', h'⟩ := R.th a o h; ⟨o', k a o' h'⟩⟩
theorem Rel.same (R : Rel K mg w F g ms σ H) (k : ∀ a o, H a = some o → H' a = some o) : Rel K mg w F g ms σ H' :=
  ⟨R.hr.same k, R.len, fun i v h => let ⟨x, h1, h2⟩ := R.av i v h; ⟨x, h1, R.hr.avr (.same k) h2⟩,
    fun i xs h => let ⟨a, vs, h1, h2, h3, h4⟩ := R.own i xs h; ⟨a, vs, h1, h2, k _ _ h3, R.hr.dzs (.same k) h4⟩,
    fun i a h => let ⟨h1, h2, h3, o, h4⟩ := R.oaf i a h; ⟨h1, h2, h3, o, k a _ h4⟩, R.inj, R.fr.same k⟩
theorem up_same {p : Addr} {o : HO} (hp : H p = none) : ∀ a u, H a = some u → upd H p o a = some u := fun a u h => by rw [upd_ne (ne_of_none h hp)]; exact h
/-- a new object that nobody holds -/
theorem Rel.new (R : Rel K mg w F g ms σ H) {p : Addr} {o : HO} (hp : H p = none) : Rel K mg w F g ms σ (upd H p o) := R.same (up_same hp)
theorem Rel.f0 (R : Rel K mg w F g ms σ H) {p : Addr} (hp : H p = none) : F.H p = none := by
  cases q : F.H p with
  | none => rfl
  | some o =>
    obtain ⟨o', h⟩ := R.fr.th p o q
    rw [hp] at h; cases h
theorem Rel.oa0 (R : Rel K mg w F g ms σ H) {p : Addr} (hp : H p = none) : ∀ i, g.oa i ≠ some p := fun i h => by
  obtain ⟨_, _, _, o, e⟩ := R.oaf i p h
  rw [hp] at e; cases e
theorem Rel.newlst (R : Rel K mg w F g ms σ H) {b : Bool} {p : Addr} {vs : List V} {xs : List PyData} (hp : H p = none) (q : Dzs K g.Z H vs xs) : RVR K F g H (upd H p (.lst vs)) b (.ref p) (.lst xs) :=
  .lst upd_same (R.hr.dzs (.same (up_same hp)) q) (R.hr.fresh hp).1 (R.hr.fresh hp).2 (R.f0 hp) fun _ => ⟨hp, R.oa0 hp⟩
theorem Rel.newtup (R : Rel K mg w F g ms σ H) {b : Bool} {p : Addr} {vs : List V} {xs : List PyData} (hp : H p = none) (q : Dzs K g.Z H vs xs) : RVR K F g H (upd H p (.tup vs)) b (.ref p) (.av (.dat (.tuple xs))) :=
  .av (.dat (.tup (SqT.of upd_same) (R.hr.dzs (.same (up_same hp)) q)))
/-- a list that nobody holds is taken as one that no longer changes -/
theorem Rel.freeze (R : Rel K mg w F g ms σ H) {a : Addr} {vs : List V} (ha : H a = some (.lst vs)) (hi : a ∉ g.io) (hF : F.H a = none) (ho : ∀ i, g.oa i ≠ some a) : Rel K mg w F { g with Z := fun b => g.Z b ∨ b = a } ms σ H ∧ Ext0 g H { g with Z := fun b => g.Z b ∨ b = a } H := by
  have e : Ext0 g H { g with Z := fun b => g.Z b ∨ b = a } H := ⟨fun _ _ _ h => h, fun _ h => .inl h, ⟨[], by simp, by simp⟩, fun _ o h => ⟨o, h⟩⟩
  refine ⟨⟨⟨R.hr.hl, R.hr.nd, fun j b o h1 h2 => (R.hr.ho j b o h1 h2).ext R.hr e fun _ h => h, fun b hb => ?_, fun b z => ?_⟩, R.len, fun i v h => let ⟨x, h1, h2⟩ := R.av i v h; ⟨x, h1, R.hr.avr e h2⟩,
    fun i xs h => let ⟨b, ws, h1, h2, h3, h4⟩ := R.own i xs h; ⟨b, ws, h1, h2, h3, R.hr.dzs e h4⟩, fun i b h => ?_, R.inj, ⟨R.fr.io, fun b z => ?_, fun b z => .inl (R.fr.zz b z), R.fr.keep, R.fr.th⟩⟩, e⟩
  · rintro (z | rfl)
    · exact R.hr.nz b hb z
    · exact hi hb
  · rcases z with z | rfl
    · exact R.hr.zt b z
    · exact ⟨_, ha⟩
  · obtain ⟨h1, h2, h3, h4⟩ := R.oaf i b h
    refine ⟨?_, h2, h3, h4⟩
    rintro (z | rfl)
    · exact h1 z
    · exact ho i h
  · rcases z with z | rfl
    · exact R.fr.z b z
    · exact .inr hF
theorem Ext.frz {g0 : G} {S : Hp} {a : Addr} (x : Ext g0 S g H) (h : S a = none ∨ ∃ i, g0.oa i = some a) : Ext g0 S { g with Z := fun b => g.Z b ∨ b = a } H :=
  ⟨⟨x.keep, fun b z => .inl (x.zz b z), x.io, x.th⟩, fun b z => by
    rcases z with z | rfl
    · exact x.zn b z
    · exact .inr h, x.on⟩
theorem Rel.not_own (R : Rel K mg w F g ms σ H) {a : Addr} {o : HO} (h : H a = some o) (hn : ∀ vs, o ≠ .lst vs) : ∀ i, g.oa i ≠ some a := fun i z => by
  obtain ⟨_, _, _, vs, e⟩ := R.oaf i a z
  rw [h] at e
  cases e
  exact hn vs rfl
theorem Rel.sqTS (R : Rel K mg w F g ms σ H) (e : ExtS g H g' H') {a : Addr} {xs : List V} (h : SqT K H a xs) : SqT K H' a xs :=
  sqT_keep (fun a xs q => e.keep a _ (R.hr.no_tup q) (R.not_own q fun _ z => by cases z) q) (fun a o xs q => e.keep a _ (R.hr.no_frz q) (R.not_own q fun _ z => by cases z) q) h
theorem Rel.keepZ (R : Rel K mg w F g ms σ H) (e : ExtS g H g' H') {a : Addr} {o : HO} (z : g.Z a) (q : H a = some o) : H' a = some o :=
  e.keep a _ (fun hm => R.hr.nz a hm z) (fun i hi => (R.oaf i a hi).1 z) q
theorem Rel.dzsS (R : Rel K mg w F g ms σ H) (e : ExtS g H g' H') {v : List V} {d : List PyData} (h : Dzs K g.Z H v d) : Dzs K g'.Z H' v d :=
  Dzs.mono (fun a xs z q => ⟨e.zz a z, R.keepZ e z q⟩) (fun a xs q => R.sqTS e q) d h
/-- what a result is worth to one that only looks -/
inductive LR (K : PySem.W.Frag) (g : G) (H : Hp) : V → RV → Prop
  | av {v : V} {x : AV} : AVR K g H v x → LR K g H v (.av x)
  | lst {a : Addr} {vs : List V} {xs : List PyData} : H a = some (.lst vs) → Dzs K g.Z H vs xs → a ∉ g.io → LR K g H (.ref a) (.lst xs)
theorem RVR.since {S : Hp} {b : Bool} {v : V} {x : RV} (e : Ext0 g2 S g' H) (h : RVR K F g H H2 b v x) : RVR K F g S H2 b v x := by
  cases h with
  | av h => exact .av h
  | @lst a vs xs h1 h2 h3 h4 h5 h6 =>
    refine .lst h1 h2 h3 h4 h5 fun hb => ⟨?_, (h6 hb).2⟩
    cases q : S a with
    | none => rfl
    | some o =>
      obtain ⟨o', h'⟩ := e.th a o q
      rw [(h6 hb).1] at h'; cases h'
theorem RVR.lr {S : Hp} {b : Bool} {v : V} {x : RV} (h : RVR K F g S H b v x) : LR K g H v x := by
  cases h with
  | av h => exact .av h
  | lst h q hi _ _ _ => exact .lst h q hi
theorem LR.ext {hp : List AO} (R : HRel K mg w g hp H) (e : Ext0 g H g' H') {v : V} {x : RV} (h : LR K g H v x) : LR K g' H' v x := by
  cases h with
  | av h => exact .av (R.avr e h)
  | @lst a vs xs h q hi =>
    obtain ⟨n, e1, e2⟩ := e.io
    refine .lst (e.keep _ _ hi h) (R.dzs e q) ?_
    rw [e1]
    intro hm
    rcases List.mem_append.mp hm with hm | hm
    · exact hi hm
    · rw [e2 _ hm] at h; cases h
theorem LR.dp {v : V} {x : RV} {d : PyData} (h : LR K g H v x) (e : x.d? = some d) : Dp K H v d := by
  cases h with
  | av h =>
    cases h with
    | dat h => simp [RV.d?] at e; subst e; exact h.dp
    | _ => simp [RV.d?] at e
  | lst h q hi => simp [RV.d?] at e; subst e; exact .lst (SqL.of h) q.dp
end
end Sv

/-! Sv: which text a piece of my syntax stands for. -/
namespace Sv
open PySem L2

def isGl (sc : Scope) (y : Str) : Bool := decide (sc.names.lookup y = some .globalImplicit)
def isVis (sc : Scope) (y : Str) : Bool := decide (sc.names.lookup y = some .local) || decide (sc.names.lookup y = some .cell) || decide (sc.names.lookup y = some .free)
def isLoc (sc : Scope) (y : Str) : Bool := decide (sc.names.lookup y = some .local) || decide (sc.names.lookup y = some .cell)
def odd (y : Str) : Bool := (y == ("__debug__" : Str)) || (y == ("__classdict__" : Str))
def isNm (N : List Str) (i : Nat) (y : Str) : Bool := decide (N[i]? = some y)
def mLit : PyData → Expr → Bool
  | .none, .Constant .none _ _ => true
  | .bool b, .Constant (.bool c) _ _ => b == c
  | .int i, .Constant (.int j) _ _ => decide (i = j)
  | .int i, .UnaryOp .USub (.Constant (.int j) _ _) _ => decide (i = -j)
  | .str x, .Constant (.str y) _ _ => decide (x = y)
  | _, _ => false
def mOp : BinO → Operator → Bool
  | .add, .Add => true
  | .sub, .Sub => true
  | .mul, .Mult => true
  | .fdiv, .FloorDiv => true
  | .mod, .Mod => true
  | _, _ => false
def mCmp : CmpO → CmpOp → Bool
  | .eq, .Eq => true
  | .ne, .NotEq => true
  | .lt, .Lt => true
  | .le, .LtE => true
  | .gt, .Gt => true
  | .ge, .GtE => true
  | _, _ => false
def mLt : CmpO → CmpOp → Bool
  | .lt, .Lt => true
  | .le, .LtE => true
  | _, _ => false
def mIn : Bool → CmpOp → Bool
  | false, .In => true
  | true, .NotIn => true
  | _, _ => false
def mIs : Bool → CmpOp → Bool
  | false, .Is => true
  | true, .IsNot => true
  | _, _ => false
def sLen : Str := ⟨#[108, 101, 110]⟩
def sAbs : Str := ⟨#[97, 98, 115]⟩
def sSum : Str := ⟨#[115, 117, 109]⟩
def sAll : Str := ⟨#[97, 108, 108]⟩
def sRange : Str := ⟨#[114, 97, 110, 103, 101]⟩
def sIsi : Str := ⟨#[105, 115, 105, 110, 115, 116, 97, 110, 99, 101]⟩
def b1n : B1 → Str
  | .len => sLen
  | .int => sInt
  | .abs => sAbs
  | .sum => sSum
  | .tuple => sTuple
  | .list => sList
  | .all => sAll
/-- the names of a target -/
def tgNames : Expr → List Str
  | .Name y _ => [y]
  | .Tuple es _ _ => es.filterMap fun e => match e with
    | .Name y _ => some y
    | _ => none
  | _ => []
def mTg (N : List Str) (sc : Scope) : List Nat → Expr → Bool
  | [i], .Name y _ => isNm N i y && isLoc sc y
  | is, .Tuple es _ _ => decide (is.length ≠ 1) && mTgs is es
  | _, _ => false
where mTgs : List Nat → List Expr → Bool
  | [], [] => true
  | i :: is, .Name y _ :: es => isNm N i y && isLoc sc y && mTgs is es
  | _, _ => false
def sStrN : Str := ⟨#[115, 116, 114]⟩
def sSorted : Str := ⟨#[115, 111, 114, 116, 101, 100]⟩
def sSet : Str := ⟨#[115, 101, 116]⟩
def sJoin : Str := ⟨#[106, 111, 105, 110]⟩
def sPop : Str := ⟨#[112, 111, 112]⟩
def sAppend : Str := ⟨#[97, 112, 112, 101, 110, 100]⟩
def sMax : Str := ⟨#[109, 97, 120]⟩
def sMin : Str := ⟨#[109, 105, 110]⟩
def sDict : Str := ⟨#[100, 105, 99, 116]⟩
def sRepr : Str := ⟨#[114, 101, 112, 114]⟩
def sReversed : Str := ⟨#[114, 101, 118, 101, 114, 115, 101, 100]⟩
def sDefault : Str := ⟨#[100, 101, 102, 97, 117, 108, 116]⟩
def sGet : Str := ⟨#[103, 101, 116]⟩
def sSetd : Str := ⟨#[115, 101, 116, 100, 101, 102, 97, 117, 108, 116]⟩
def mxN (mn : Bool) : Str := if mn then sMin else sMax
/-- the written keys of a display -/
def mKeys : List Str → List (Option Expr) → Bool
  | [], [] => true
  | k :: ks, some (.Constant (.str z) _ _) :: xs => decide (k = z) && mKeys ks xs
  | _, _ => false
/-- what stands ahead of a dot: a name, or an attribute -/
def isRcv : Expr → Bool
  | .Name _ _ => true
  | .Attribute _ _ _ => true
  | .Call (.Attribute _ _ _) _ _ _ => true
  | .Subscript _ _ _ => true
  | _ => false
def isIf : Expr → Bool
  | .IfExp _ _ _ _ => true
  | _ => false
mutual
def mE (N : List Str) (sc : Scope) : E → Expr → Bool
  | .lit d, x => mLit d x
  | .glob n _, .Name y _ => decide (n = y) && isGl sc y && !odd y
  | .var i, .Name y _ => isNm N i y && isVis sc y && !odd y
  | .tup es, .Tuple xs _ _ => mEs N sc es xs
  | .lst es, .List xs _ => mEs N sc es xs
  | .bin o a b, .BinOp x p y _ => mOp o p && mE N sc a x && mE N sc b y
  | .cmp o a b, .Compare x [p] [y] _ => mCmp o p && mE N sc a x && mE N sc b y
  | .isin neg a b, .Compare x [p] [y] _ => mIn neg p && mE N sc a x && mE N sc b y
  | .inrange neg a n, .Compare x [p] [.Call (.Name r _) [y] [] _] _ => mIn neg p && decide (r = sRange) && isGl sc r && mE N sc a x && mE N sc n y
  | .isnone neg a, .Compare x [p] [.Constant .none _ _] _ => mIs neg p && mE N sc a x
  | .and a b, .BoolOp .And (x :: y :: r) pos => mE N sc a x && !isIf x && (match r with
    | [] => mE N sc b y && !isIf y
    | _ :: _ => mE N sc b (.BoolOp .And (y :: r) pos))
  | .or a b, .BoolOp .Or (x :: y :: r) pos => mE N sc a x && !isIf x && (match r with
    | [] => mE N sc b y && !isIf y
    | _ :: _ => mE N sc b (.BoolOp .Or (y :: r) pos))
  | .not a, .UnaryOp .Not x _ => mE N sc a x && !isIf x
  | .ife c a b, .IfExp z x y _ => mE N sc c z && !isIf z && mE N sc a x && mE N sc b y
  | .sub a i, .Subscript x y _ => mE N sc a x && mE N sc i y
  | .slice a lo hi, .Subscript x (.Slice l h none _) _ => mE N sc a x && mP N sc lo l && mP N sc hi h
  | .b1 f a, .Call (.Name y _) [x] [] _ => decide (y = b1n f) && isGl sc y && mE N sc a x
  | .isi a t, .Call (.Name y _) [x, .Name z _] [] _ => decide (y = sIsi) && isGl sc y && decide (t = z) && isGl sc z && mE N sc a x
  | .call f es, .Call (.Name y _) xs [] _ => decide (y = f.name) && isGl sc y && !odd y && mEs N sc es xs
  | .callP f es, .Call (.Name y _) xs [] _ => decide (y = f.name) && isGl sc y && !odd y && mEs N sc es xs
  | .callB f es, .Call (.Name y _) xs [] _ => decide (y = f.name) && isGl sc y && !odd y && mEs N sc es xs
  | .alloc e, x => mE N sc e x
  | .allocL es, .List xs _ => mEs N sc es xs
  | .attr _ a f, .Attribute x g _ => decide (f = g) && isRcv x && mE N sc a x
  | .meth _ f a es, .Call (.Attribute x g ap) xs [] pos => decide (g = f.name) && isRcv x && (ap.endLine == pos.line) && decide (xs.length < 30) && mE N sc a x && mEs N sc es xs
  | .new c _ es, .Call (.Name y _) xs [] _ => decide (y = c) && isGl sc y && !odd y && mEs N sc es xs
  | .srt true a, .Call (.Name y _) [.Call (.Name z _) [x] [] _] [] _ => decide (y = sSorted) && isGl sc y && decide (z = sSet) && isGl sc z && mE N sc a x
  | .srt false a, .Call (.Name y _) [x] [] _ => decide (y = sSorted) && isGl sc y && mE N sc a x
  | .str1 a, .Call (.Name y _) [x] [] _ => decide (y = sStrN) && isGl sc y && mE N sc a x
  | .join s a, .Call (.Attribute (.Constant (.str z) _ _) m ap) [x] [] cp => decide (s = z) && decide (m = sJoin) && (ap.endLine == cp.line) && mE N sc a x
  | .cmpH o a b, .Compare x [p] [y] _ => mCmp o p && mE N sc a x && mE N sc b y
  | .b1H f a, .Call (.Name y _) [x] [] _ => decide (y = b1n f) && isGl sc y && mE N sc a x
  | .chain o1 o2 a b c, .Compare x [p, q] [y, z] _ => mLt o1 p && mLt o2 q && mE N sc a x && mE N sc b y && mE N sc c z
  | .mx mn a b, .Call (.Name y _) [x, z] [] _ => decide (y = mxN mn) && isGl sc y && mE N sc a x && mE N sc b z
  | .mxL mn a, .Call (.Name y _) [x] [] _ => decide (y = mxN mn) && isGl sc y && mE N sc a x
  | .mxD a d, .Call (.Name y _) [x] [⟨some k, z, _⟩] _ => decide (y = sMax) && isGl sc y && decide (k = sDefault) && mE N sc a x && mE N sc d z
  | .isb neg v a, .Compare x [p] [.Constant (.bool b) _ _] _ => mIs neg p && (b == v) && mE N sc a x
  | .dget a k, .Subscript x y _ => mE N sc a x && mE N sc k y
  | .fdict ks es, .Dict keys vals _ => mKeys ks keys && mEs N sc es vals && decide (ks.length ≤ 15) && decide (keys.length = vals.length)
  | .fdcopy a, .Call (.Name y _) [x] [] _ => decide (y = sDict) && isGl sc y && mE N sc a x
  | .adict ks es, .Dict keys vals _ => mKeys ks keys && mEs N sc es vals && decide (ks.length ≤ 15) && decide (keys.length = vals.length)
  | .tupR es, .Tuple xs _ _ => mEs N sc es xs
  | .subT a i, .Subscript x y _ => mE N sc a x && mE N sc i y
  | .kd0, .Dict [] [] _ => true
  | .kd1 k v, .Dict [some x] [y] _ => mE N sc k x && mE N sc v y
  | .kin neg k d, .Compare x [p] [y] _ => mIn neg p && mE N sc k x && mE N sc d y
  | .kget d k, .Call (.Attribute x m ap) [y, .List [] _] [] cp => decide (m = sGet) && isRcv x && (ap.endLine == cp.line) && mE N sc d x && mE N sc k y
  | .ksetd d k, .Call (.Attribute x m ap) [y, .List [] _] [] cp => decide (m = sSetd) && isRcv x && (ap.endLine == cp.line) && mE N sc d x && mE N sc k y
  | .repr a, .Call (.Name y _) [x] [] _ => decide (y = sRepr) && isGl sc y && mE N sc a x
  | .comp e tg it c, .ListComp x [⟨t, i, ifs, k⟩] s2 _ => decide (k = 0) && mE N (relS s2 sc) e x && mTg N s2 tg t && mI N sc it i && mC N (relS s2 sc) c ifs && blkC N sc s2 ((tgNames t).zip tg) && decide ((tgNames t).length = tg.length)
  | _, _ => false
def mEs (N : List Str) (sc : Scope) : Es → List Expr → Bool
  | .nil, [] => true
  | .cons e es, x :: xs => mE N sc e x && mEs N sc es xs
  | _, _ => false
def mP (N : List Str) (sc : Scope) : Es → Option Expr → Bool
  | .nil, none => true
  | .cons e .nil, some x => mE N sc e x
  | _, _ => false
def mC (N : List Str) (sc : Scope) : Es → List Expr → Bool
  | .nil, [] => true
  | .cons e .nil, [x] => mE N sc e x && !isIf x
  | _, _ => false
def mI (N : List Str) (sc : Scope) : I → Expr → Bool
  | .seq e, x => mE N sc e x
  | .range1 e, .Call (.Name r _) [y] [] _ => decide (r = sRange) && isGl sc r && mE N sc e y
  | .range2 a b, .Call (.Name r _) [x, y] [] _ => decide (r = sRange) && isGl sc r && mE N sc a x && mE N sc b y
  | .rev e, .Call (.Name r _) [x] [] _ => decide (r = sReversed) && isGl sc r && mE N sc e x
  | _, _ => false
end
def isComp : Expr → Bool
  | .ListComp _ _ _ _ => true
  | .SetComp _ _ _ _ => true
  | .DictComp _ _ _ _ _ => true
  | _ => false
def isTup : Expr → Bool
  | .Tuple _ _ _ => true
  | _ => false
def isStar : Expr → Bool
  | .Starred _ _ => true
  | _ => false
/-- a pair or a triple of names is stored from the right -/
def swOk (ls : List Pos) (xs : List Expr) : Bool := !(xs.any isStar) && !(xs.all (foldedForSure 8)) && !(xs.all (constantsAlone 8)) && ls.all fun p => p.line == (ls.head?.map (·.line)).getD 0
mutual
def mS (N : List Str) (sc : Scope) : S → Stmt → Bool
  | .set i e, .Assign [.Name y _] x _ => isNm N i y && isLoc sc y && !isComp x && mE N sc e x
  | .setC i e tg it c, .Assign [.Name y p] (.ListComp x [⟨t, i', ifs, k⟩] s2 p2) _ => isNm N i y && decide (sc.names.lookup y = some .local) && (p.line == p2.line) && !(s2.names.any fun nk => nk.1 == y && (nk.2 == .local || nk.2 == .cell)) &&
      (decide (k = 0) && mE N (relS s2 sc) e x && mTg N s2 tg t && mI N sc it i' && mC N (relS s2 sc) c ifs && blkC N sc s2 ((tgNames t).zip tg) && decide ((tgNames t).length = tg.length))
  | .setT tg e, .Assign [.Tuple es k p] x _ => mTg N sc tg (.Tuple es k p) && mE N sc e x && !isComp x && !isTup x
  | .setIx i ix e, .Assign [.Subscript (.Name y _) z _] x _ => isNm N i y && isVis sc y && !odd y && mE N sc ix z && mE N sc e x && !isComp x
  | .pop0 i, .Expr (.Call (.Attribute (.Name y _) m ap) [.Constant (.int j) _ _] [] cp) _ => decide (j = 0) && isNm N i y && isVis sc y && !odd y && decide (m = sPop) && (ap.endLine == cp.line)
  | .append i e, .Expr (.Call (.Attribute (.Name y _) m ap) [x] [] cp) _ => isNm N i y && isVis sc y && !odd y && decide (m = sAppend) && (ap.endLine == cp.line) && mE N sc e x
  | .setAttr _ o f e, .Assign [.Attribute x g _] y _ => decide (f = g) && isRcv x && mE N sc o x && mE N sc e y
  | .setIxE o ix e, .Assign [.Subscript x z _] y _ => mE N sc o x && mE N sc ix z && mE N sc e y && !isComp y
  | .appendE o e, .Expr (.Call (.Attribute x m ap) [y] [] cp) _ => isRcv x && decide (m = sAppend) && (ap.endLine == cp.line) && mE N sc o x && mE N sc e y
  | .never, _ => true
  | .expr e, .Expr x _ => mE N sc e x && !isComp x
  | .ite c a b, .If x p q _ => mE N sc c x && !isIf x && mSs N sc a p && mSs N sc b q
  | .for_ tg it b, .For t i p [] _ => mTg N sc tg t && mI N sc it i && mSs N sc b p
  | .whil c b, .While x p [] _ => mE N sc c x && !isIf x && mSs N sc b p
  | .ret e, .Return (some x) _ => mE N sc e x
  | .pass, .Pass _ => true
  | .brk, .Break _ => true
  | .cont, .Continue _ => true
  | .setTR tg e, .Assign [.Tuple es k p] x _ => mTg N sc tg (.Tuple es k p) && mE N sc e x && !isComp x && !isTup x
  | .dset o k e, .Assign [.Subscript x (.Constant (.str z) _ _) _] y _ => decide (k = z) && mE N sc o x && mE N sc e y && !isComp y
  | .par [i, j] es, .Assign [.Tuple [.Name x px, .Name y py] _ _] (.Tuple [a, b] _ _) _ => isNm N i x && isNm N j y && decide (i ≠ j) && decide (x ≠ y) && decide (sc.names.lookup x = some .local) && decide (sc.names.lookup y = some .local) && swOk [px, py] [a, b] && mEs N sc es [a, b]
  | .par [i, j, l] es, .Assign [.Tuple [.Name x px, .Name y py, .Name z pz] _ _] (.Tuple [a, b, c] _ _) _ => isNm N i x && isNm N j y && isNm N l z && decide (i ≠ j) && decide (i ≠ l) && decide (j ≠ l) && decide (x ≠ y) && decide (x ≠ z) && decide (y ≠ z) && decide (sc.names.lookup x = some .local) && decide (sc.names.lookup y = some .local) && decide (sc.names.lookup z = some .local) && swOk [px, py, pz] [a, b, c] && mEs N sc es [a, b, c]
  | .setCA i e tg it c, .Assign [.Name y p] (.ListComp x [⟨t, i', ifs, k⟩] s2 p2) _ => isNm N i y && decide (sc.names.lookup y = some .local) && (p.line == p2.line) && !(s2.names.any fun nk => nk.1 == y && (nk.2 == .local || nk.2 == .cell)) &&
      (decide (k = 0) && mE N (relS s2 sc) e x && mTg N s2 tg t && mI N sc it i' && mC N (relS s2 sc) c ifs && blkC N sc s2 ((tgNames t).zip tg) && decide ((tgNames t).length = tg.length))
  | .kset o k e, .Assign [.Subscript x z _] y _ => mE N sc o x && mE N sc k z && mE N sc e y && !isComp y
  | _, _ => false
def mSs (N : List Str) (sc : Scope) : Ss → List Stmt → Bool
  | .nil, [] => true
  | .cons s ss, x :: xs => mS N sc s x && mSs N sc ss xs
  | _, _ => false
end
end Sv

/-! Sv: readings by the small interpreter, and the steps that they share. -/
namespace Sv
open PySem L2

theorem PE.imp {X : Cx} {x : Expr} {t t' : TE} (h : PE X x t) (i : ∀ σ H Q, t' σ H Q → t σ H Q) : PE X x t' := ⟨fun pins s σ H Q I q => h.run pins s σ H Q I (i σ H Q q)⟩
theorem PT.imp {X : Cx} {x : Expr} {t t' : TT} (h : PT X x t) (i : ∀ σ H Q, t' σ H Q → t σ H Q) : PT X x t' := ⟨fun pins s σ H Q I q => h.run pins s σ H Q I (i σ H Q q)⟩
theorem PA.imp {X : Cx} {x : List Expr} {t t' : TA} (h : PA X x t) (i : ∀ σ H Q, t' σ H Q → t σ H Q) : PA X x t' := ⟨fun pos pins s σ H Q I q => h.run pos pins s σ H Q I (i σ H Q q)⟩
theorem PO.imp {X : Cx} {x : Option Expr} {t t' : TO} (h : PO X x t) (i : ∀ σ H Q, t' σ H Q → t σ H Q) : PO X x t' := ⟨fun pins s σ H Q I q => h.run pins s σ H Q I (i σ H Q q)⟩
theorem PI.imp {X : Cx} {tg x : Expr} {t t' : TI} (h : PI X tg x t) (i : ∀ σ H R, t' σ H R → t σ H R) : PI X tg x t' := ⟨fun pins s σ H R I q => h.run pins s σ H R I (i σ H R q)⟩
theorem PG.imp {X : Cx} {x : Expr} {t t' : TG} (h : PG X x t) (i : ∀ v σ H Q, t' v σ H Q → t v σ H Q) : PG X x t' := ⟨fun pins s σ H v u Q I r q => h.run pins s σ H v u Q I r (i v σ H Q q)⟩
theorem PS.imp {X : Cx} {x : Stmt} {t t' : TS} (h : PS X x t) (i : ∀ D σ H, t' D σ H → t D σ H) : PS X x t' := ⟨fun pins s σ H D I q => h.run pins s σ H D I (i D σ H q)⟩
theorem PSs.imp {X : Cx} {x : List Stmt} {t t' : TS} (h : PSs X x t) (i : ∀ D σ H, t' D σ H → t D σ H) : PSs X x t' := ⟨fun pins s σ H D I q => h.run pins s σ H D I (i D σ H q)⟩

section
variable (K : PySem.W.Frag) (mg : Str → Option Value) (w : World) (F : Fr)
/-- an expression: the state, the small interpreter's answer, what is wanted of it -/
def tE (b : Bool) (sem : MS → Option (RV × MS)) : TE := fun σ H Q => ∃ g ms rv ms', Rel K mg w F g ms σ H ∧ sem ms = some (rv, ms') ∧
  ∀ g' v H', Rel K mg w F g' ms' σ H' → Ext g H g' H' → RVR K F g' H H' b v rv → Q v H'
def tT (sem : MS → Option (RV × MS)) : TT := fun σ H Q => ∃ g ms c ms', Rel K mg w F g ms σ H ∧ sem ms = some (.av (.dat (.bool c)), ms') ∧
  ∀ g' H', Rel K mg w F g' ms' σ H' → Ext g H g' H' → Q c H'
def tA (sem : MS → Option (List AV × MS)) : TA := fun σ H Q => ∃ g ms vs ms', Rel K mg w F g ms σ H ∧ sem ms = some (vs, ms') ∧
  ∀ g' ws H', Rel K mg w F g' ms' σ H' → Ext g H g' H' → AVRs K g' H' ws vs → Q ws H'
/-- arguments that are only looked at: B the lists among them that somebody may change later -/
def tBA (sem : MS → Option (List AV × MS)) : TA := fun σ H Q => ∃ g ms vs ms', Rel K mg w F g ms σ H ∧ sem ms = some (vs, ms') ∧
  ∀ g' (B : Addr → Prop) ws H', Rel K mg w F g' ms' σ H' → Ext g H g' H' → (∀ a, B a → a ∉ g'.io ∧ ∃ vs, H' a = some (.lst vs)) → AVRs K { g' with Z := fun a => g'.Z a ∨ B a } H' ws vs → Q ws H'
def tP (sem : MS → Option (Option Int × MS)) : TO := fun σ H Q => ∃ g ms o ms', Rel K mg w F g ms σ H ∧ sem ms = some (o, ms') ∧
  ∀ g' H', Rel K mg w F g' ms' σ H' → Ext g H g' H' → Q o H'
def tC' (sem : MS → Option (Bool × MS)) : TT := fun σ H Q => ∃ g ms c ms', Rel K mg w F g ms σ H ∧ sem ms = some (c, ms') ∧
  ∀ g' H', Rel K mg w F g' ms' σ H' → Ext g H g' H' → Q c H'
/-- what is wanted behind a statement -/
def after (W : WX) (D : Ends) (g' : G) (H' : Hp) (σ' : St) : Out → Prop
  | .nx => D.nx σ' H'
  | .rt rv => ∀ v, RVR K F g' H' H' true v rv → D.rt v H'
  | .bk => D.bk σ' H'
  | .ct => D.ct σ' H'
  | .xc e => ∀ C d fs, mg e.1 = some (.ref C) → H' d = some (.xd fs) → fs.map (·.1) = e.2.map (·.1) → Dzs K g'.Z H' (fs.map (·.2)) (e.2.map (·.2)) → W (.ref C) (some d) σ' H'
def tX (W : WX) (sem : MS → Option (Out × MS)) : TS := fun D σ H => ∃ g ms o ms', Rel K mg w F g ms σ H ∧ sem ms = some (o, ms') ∧
  ∀ g' σ' H', Rel K mg w F g' ms' σ' H' → ExtS g H g' H' → after K mg F W D g' H' σ' o
end

/-- the built-in names that the walk leans on: nobody has bound them -/
def freeNames : List Str := [sLen, sInt, sAbs, sSum, sTuple, sList, sAll, sRange, sIsi, sBool, sStr, sSorted, sSet, sMax, sMin, sDict, sRepr, sReversed]
structure OkX (X : Cx) : Prop where
  calm : X.calm = true
  nd : X.N.Nodup
  room : Room 0 X.A
  free : ∀ n ∈ freeNames, X.mg n = none

section
variable {K : PySem.W.Frag} {mg : Str → Option Value} {w : World} {F : Fr} {g g' : G} {ms ms' : MS} {σ : St} {H H' : Hp}
theorem RVR.up {S : Hp} {b : Bool} {v : V} {x : RV} (h : RVR K F g S H false v x) : RVR K F g S H b v x := by
  cases h with
  | av h => exact .av h
  | lst h1 h2 h3 h4 h5 h6 => exact .lst h1 h2 h3 h4 h5 fun _ => h6 rfl
/-- a result taken as a value: a new list is from now on one that no longer changes -/
theorem RVR.val {g0 : G} {S : Hp} {v : V} {x : RV} (R : Rel K mg w F g ms σ H) (e : Ext g0 S g H) (h : RVR K F g S H false v x) : ∃ g', Rel K mg w F g' ms σ H ∧ Ext g0 S g' H ∧ Ext0 g H g' H ∧ AVR K g' H v x.val := by
  cases h with
  | av h => exact ⟨g, R, e, Ext.refl.toExt0, h⟩
  | lst h1 h2 h3 h4 h5 h6 =>
    obtain ⟨R', x⟩ := R.freeze h1 h3 h5 (h6 rfl).2
    exact ⟨_, R', e.frz (.inl (h6 rfl).1), x, .dat (.lst h1 (.inr rfl) (R.hr.dzs x h2))⟩
theorem AVR.d?_dz {v : V} {x : RV} {d : PyData} (h' : AVR K g H v x.val) (e : x.d? = some d) : Dz K g.Z H v d := by
  cases x with
  | av x =>
    cases h' with
    | dat h' => simp [RV.d?] at e; subst e; exact h'
    | _ => simp [RV.d?] at e
  | lst xs =>
    simp [RV.d?] at e; subst e
    cases h' with
    | dat h' => exact h'

/-! ### slots -/
theorem Rel.setAv (R : Rel K mg w F g ms σ H) {i : Nat} (hi : i < ms.rho.length) {x : V} {v : AV} (h : AVR K g H x v) :
    Rel K mg w F { g with oa := fun j => if j = i then none else g.oa j } { ms with rho := ms.rho.set i (.av v) } (σ.set i (some x)) H := by
  have e : Ext0 g H { g with oa := fun j => if j = i then none else g.oa j } H := ⟨fun _ _ _ h => h, fun _ h => h, ⟨[], by simp, by simp⟩, fun _ o h => ⟨o, h⟩⟩
  refine ⟨⟨R.hr.hl, R.hr.nd, fun j a o h1 h2 => (R.hr.ho j a o h1 h2).ext R.hr e fun _ h => h, R.hr.nz, R.hr.zt⟩, by simp [R.len], fun j w hj => ?_, fun j xs hj => ?_, fun j a hj => ?_, fun j k a hj hk => ?_, ⟨R.fr.io, R.fr.z, R.fr.zz, R.fr.keep, R.fr.th⟩⟩
  · by_cases hji : j = i
    · subst hji
      rw [List.getElem?_set_self hi] at hj
      cases hj
      exact ⟨x, List.getElem?_set_self (by rw [R.len]; exact hi), R.hr.avr e h⟩
    · rw [List.getElem?_set_ne (Ne.symm hji)] at hj
      obtain ⟨y, h1, h2⟩ := R.av j w hj
      exact ⟨y, by rw [List.getElem?_set_ne (Ne.symm hji)]; exact h1, R.hr.avr e h2⟩
  · by_cases hji : j = i
    · subst hji
      rw [List.getElem?_set_self hi] at hj
      cases hj
    · rw [List.getElem?_set_ne (Ne.symm hji)] at hj
      obtain ⟨a, vs, h1, h2, h3, h4⟩ := R.own j xs hj
      exact ⟨a, vs, by simp [hji, h1], by rw [List.getElem?_set_ne (Ne.symm hji)]; exact h2, h3, R.hr.dzs e h4⟩
  · by_cases hji : j = i
    · simp [hji] at hj
    · simp [hji] at hj
      exact R.oaf j a hj
  · by_cases hji : j = i
    · simp [hji] at hj
    · by_cases hki : k = i
      · simp [hki] at hk
      · simp [hji] at hj
        simp [hki] at hk
        exact R.inj j k a hj hk
theorem Rel.setOwn (R : Rel K mg w F g ms σ H) {i : Nat} (hi : i < ms.rho.length) {a : Addr} {vs : List V} {xs : List PyData} (h1 : H a = some (.lst vs)) (h2 : Dzs K g.Z H vs xs) (h3 : a ∉ g.io) (h4 : ¬ g.Z a) (h5 : F.H a = none) (h6 : ∀ j, j ≠ i → g.oa j ≠ some a) :
    Rel K mg w F { g with oa := fun j => if j = i then some a else g.oa j } { ms with rho := ms.rho.set i (.own xs) } (σ.set i (some (.ref a))) H := by
  have e : Ext0 g H { g with oa := fun j => if j = i then some a else g.oa j } H := ⟨fun _ _ _ h => h, fun _ h => h, ⟨[], by simp, by simp⟩, fun _ o h => ⟨o, h⟩⟩
  refine ⟨⟨R.hr.hl, R.hr.nd, fun j a o h1 h2 => (R.hr.ho j a o h1 h2).ext R.hr e fun _ h => h, R.hr.nz, R.hr.zt⟩, by simp [R.len], fun j w hj => ?_, fun j xs hj => ?_, fun j b hj => ?_, fun j k b hj hk => ?_, ⟨R.fr.io, R.fr.z, R.fr.zz, R.fr.keep, R.fr.th⟩⟩
  · by_cases hji : j = i
    · subst hji
      rw [List.getElem?_set_self hi] at hj
      cases hj
    · rw [List.getElem?_set_ne (Ne.symm hji)] at hj
      obtain ⟨y, h1, h2⟩ := R.av j w hj
      exact ⟨y, by rw [List.getElem?_set_ne (Ne.symm hji)]; exact h1, R.hr.avr e h2⟩
  · by_cases hji : j = i
    · subst hji
      rw [List.getElem?_set_self hi] at hj
      cases hj
      exact ⟨a, vs, by simp, List.getElem?_set_self (by rw [R.len]; exact hi), h1, R.hr.dzs e h2⟩
    · rw [List.getElem?_set_ne (Ne.symm hji)] at hj
      obtain ⟨b, ws, q1, q2, q3, q4⟩ := R.own j xs hj
      exact ⟨b, ws, by simp [hji, q1], by rw [List.getElem?_set_ne (Ne.symm hji)]; exact q2, q3, R.hr.dzs e q4⟩
  · by_cases hji : j = i
    · simp [hji] at hj
      subst hj
      exact ⟨h4, h3, h5, _, h1⟩
    · simp [hji] at hj
      exact R.oaf j b hj
  · by_cases hji : j = i
    · simp [hji] at hj
      subst hj
      by_cases hki : k = i
      · rw [hji, hki]
      · simp [hki] at hk
        exact absurd hk (h6 k hki)
    · simp [hji] at hj
      by_cases hki : k = i
      · simp [hki] at hk
        subst hk
        exact absurd hj (h6 j hji)
      · simp [hki] at hk
        exact R.inj j k b hj hk
/-- an own list of a slot no longer changes -/
theorem Rel.freezeOwn (R : Rel K mg w F g ms σ H) {i : Nat} {xs : List PyData} (h : ms.rho[i]? = some (.own xs)) :
    ∃ g' a, Rel K mg w F g' { ms with rho := ms.rho.set i (.av (.dat (.list xs))) } σ H ∧ Ext g H g' H ∧ σ[i]? = some (some (.ref a)) ∧ Dz K g'.Z H (.ref a) (.list xs) := by
  obtain ⟨a, vs, h1, h2, h3, h4⟩ := R.own i xs h
  obtain ⟨q1, q2, q3, q4⟩ := R.oaf i a h1
  have hi : i < ms.rho.length := (List.getElem?_eq_some_iff.mp h).1
  -- the slot forgets its own list, then the list is one that no longer changes
  have R1 : Rel K mg w F { g with oa := fun j => if j = i then none else g.oa j } { ms with rho := ms.rho.set i .emp } σ H := by
    have e : Ext0 g H { g with oa := fun j => if j = i then none else g.oa j } H := ⟨fun _ _ _ h => h, fun _ h => h, ⟨[], by simp, by simp⟩, fun _ o h => ⟨o, h⟩⟩
    refine ⟨⟨R.hr.hl, R.hr.nd, fun j a o h1 h2 => (R.hr.ho j a o h1 h2).ext R.hr e fun _ h => h, R.hr.nz, R.hr.zt⟩, by simp [R.len], fun j w hj => ?_, fun j ys hj => ?_, fun j b hj => ?_, fun j k b hj hk => ?_, ⟨R.fr.io, R.fr.z, R.fr.zz, R.fr.keep, R.fr.th⟩⟩
    · by_cases hji : j = i
      · subst hji
        rw [List.getElem?_set_self hi] at hj
        cases hj
      · rw [List.getElem?_set_ne (Ne.symm hji)] at hj
        obtain ⟨y, h1, h2⟩ := R.av j w hj
        exact ⟨y, h1, R.hr.avr e h2⟩
    · by_cases hji : j = i
      · subst hji
        rw [List.getElem?_set_self hi] at hj
        cases hj
      · rw [List.getElem?_set_ne (Ne.symm hji)] at hj
        obtain ⟨b, ws, p1, p2, p3, p4⟩ := R.own j ys hj
        exact ⟨b, ws, by simp [hji, p1], p2, p3, R.hr.dzs e p4⟩
    · by_cases hji : j = i
      · simp [hji] at hj
      · simp [hji] at hj
        exact R.oaf j b hj
    · by_cases hji : j = i
      · simp [hji] at hj
      · by_cases hki : k = i
        · simp [hki] at hk
        · simp [hji] at hj
          simp [hki] at hk
          exact R.inj j k b hj hk
  have ho : ∀ j, (if j = i then none else g.oa j) ≠ some a := fun j z => by
    by_cases hji : j = i
    · simp [hji] at z
    · simp [hji] at z
      exact hji (R.inj j i a z h1)
  obtain ⟨R2, e2⟩ := R1.freeze h3 q2 q3 ho
  have e : Ext0 g H { io := g.io, Z := fun b => g.Z b ∨ b = a, oa := fun j => if j = i then none else g.oa j } H := ⟨fun _ _ _ h => h, fun _ h => .inl h, ⟨[], by simp, by simp⟩, fun _ o h => ⟨o, h⟩⟩
  have D : Dz K (fun b => g.Z b ∨ b = a) H (.ref a) (.list xs) := .lst h3 (.inr rfl) (R.hr.dzs e h4)
  have R3 := R2.setAv (i := i) (by simpa using hi) (.dat D)
  refine ⟨⟨g.io, fun b => g.Z b ∨ b = a, fun j => if j = i then none else (if j = i then none else g.oa j)⟩, a, ?_, ?_, h2, D⟩
  · have z1 : ((ms.rho.set i Slot.emp).set i (.av (.dat (.list xs)))) = ms.rho.set i (.av (.dat (.list xs))) := by simp
    have z2 : σ.set i (some (.ref a)) = σ := by
      apply List.ext_getElem?
      intro j
      by_cases hji : j = i
      · subst hji
        rw [List.getElem?_set_self (by rw [R.len]; exact hi), h2]
      · rw [List.getElem?_set_ne (Ne.symm hji)]
    have R4 := R3
    simp only [z1, z2] at R4
    exact R4
  · refine ⟨⟨fun _ _ _ h => h, fun _ h => .inl h, ⟨[], by simp, by simp⟩, fun _ o h => ⟨o, h⟩⟩, fun b z => ?_, fun j b z => ?_⟩
    · rcases z with z | rfl
      · exact .inl z
      · exact .inr (.inr ⟨i, h1⟩)
    · by_cases hji : j = i
      · simp [hji] at z
      · simp [hji] at z
        exact .inl ⟨j, z⟩
end
end Sv

/-! Sv: what the operators do, by values. -/
namespace Sv
open PySem PySem.Spec PyProof.Rows L2

/-! ### tuple * int, once or not at all -/
theorem tup_mul1 (l : Addr) (items : Array Value) (n : Nat) (dd : Option Addr) (sl : Array (Option Value)) (u : Tok) :
    Meets (Builtin.«tuple.__mul__» ⟨[.ref l, .int 1 u], []⟩) (fun _ R s => s.heap.get? l = some { cls := .type "tuple", dict := dd, data := .seq items n, slots := sl } ∧ R (.ok (.ret (Value.ref l))) s) :=
  .of_wp fun prog w A R s h => by
    obtain ⟨hp, g, d, tk, os⟩ := s
    obtain ⟨hl, h⟩ := h
    have f1 := AutoSeq1.idx_int
    have c1 : (items.isEmpty || (1 : Int) == 1) = true := by simp
    have c0 : (decide ((1 : Int) < -(2 ^ 63)) || decide ((1 : Int) ≥ 2 ^ 63)) = false := by decide
    wp_walk using AutoSeq1.wpAny_loadPart' hl
    repeat (first
      | (refine wpAny_ite_false (decide_eq_false (by rw [c0]; exact Bool.false_ne_true)) ?_; wp_walk using AutoSeq1.wpAny_loadPart' hl)
      | (refine wpAny_ite_true (decide_eq_true (by rw [c1])) ?_; wp_walk using AutoSeq1.wpAny_loadPart' hl))
    exact ⟨_, rfl, h⟩
theorem tup_mul0 (l : Addr) (items : Array Value) (n : Nat) (dd : Option Addr) (sl : Array (Option Value)) (x : Int) (u : Tok) (c0 : (decide (x < -(2 ^ 63)) || decide (x ≥ 2 ^ 63)) = false) (c1 : (items.isEmpty || x == 1) = false) (c2 : (decide (x ≤ 0) || items.isEmpty) = true) :
    Meets (Builtin.«tuple.__mul__» ⟨[.ref l, .int x u], []⟩) (fun _ R s => s.heap.get? l = some { cls := .type "tuple", dict := dd, data := .seq items n, slots := sl } ∧ R (.ok (.ret (Value.ref s.heap.objs.size))) { s with heap := s.heap.push { cls := Value.type "tuple", data := Data.seq #[] }, toks := s.toks }) :=
  .of_wp fun prog w A R s h => by
    obtain ⟨hp, g, d, tk, os⟩ := s
    obtain ⟨hl, h⟩ := h
    have f1 := AutoSeq1.idx_int
    wp_walk using AutoSeq1.wpAny_loadPart' hl
    repeat (first
      | (refine wpAny_ite_false (decide_eq_false (by rw [c0]; exact Bool.false_ne_true)) ?_; wp_walk using AutoSeq1.wpAny_loadPart' hl)
      | (refine wpAny_ite_false (decide_eq_false (by rw [c1]; exact Bool.false_ne_true)) ?_; wp_walk using AutoSeq1.wpAny_loadPart' hl)
      | (refine wpAny_ite_true (decide_eq_true (by rw [c2])) ?_; wp_walk using AutoSeq1.wpAny_loadPart' hl))
    exact ⟨_, rfl, h⟩
end Sv
namespace Sv
open PySem PySem.Spec PyProof.Rows L2
section
variable {X : Cx}
def rMulT (K : PySem.W.Frag) : R2 := fun x y H Q => ∃ l k xs, x = .ref l ∧ y = .int k ∧ SqT K H l xs ∧ xs ≠ [] ∧ -1000 ≤ k ∧ k ≤ 1000 ∧ xs.length ≤ 1000 ∧
  (k = 1 → Q (.ref l) H) ∧ (k ≠ 1 → ∀ p, H p = none → Q (.ref p) (upd H p (.tup (List.replicate k.toNat xs).flatten)))
theorem op_mulT : OpR X (binaryOp .Mult) (rMulT X.K) := by
  intro pins s σ H x y v u Q I rx ry h
  obtain ⟨l, k, xs, rfl, rfl, hT, hne, h1, h2, hz, q1, q2⟩ := h
  by_cases hk : 2 ≤ k
  · exact op_repT pins s σ H _ _ v u Q I rx ry ⟨l, k, xs, rfl, rfl, hT, hne, hk, h2, hz, q2 (by omega)⟩
  cases rx
  obtain ⟨t, rfl⟩ := ry
  obtain ⟨its, r, ⟨⟨cls, dd, data, sl⟩, ho, hc, n, hd⟩, hs⟩ := I.tuple hT
  simp only at hc hd
  subst hc hd
  have hle : its.length = xs.length := r.length.symm
  have hi : its.toArray.isEmpty = false := by
    cases its with
    | nil => exact absurd (List.eq_nil_of_length_eq_zero (by simpa using hle.symm)) hne
    | cons a b => rfl
  have c0 : (decide (k < -(2 ^ 63)) || decide (k ≥ 2 ^ 63)) = false := by
    rw [decide_eq_false (by omega), decide_eq_false (by omega)] <;> rfl
  by_cases hk1 : k = 1
  · subst hk1
    refine wpAny_binaryOp_repeat_ref (T := "tuple") (U := "int") (by decide) ⟨_, ho, rfl⟩ (fun s' => typeIs_int s' 1 t) noFill_tuple_mul F.fills_int_mul F.slot_int_rmul repeat_tuple F.slot_int_index.lookup
      (call_meets F.slot_int_rmul (typeIs_int s 1 t) F.entry_int_rmul (F.args_int_rmul_2 _ _) (int_rmul_tuple 1 t l its.toArray n dd sl)
        ⟨ho, rfl, ⟨_, ho, rfl⟩, call_meets F.slot_tuple_mul ⟨_, ho, rfl⟩ F.entry_tuple_mul (F.args_tuple_mul_2 _ _) (tup_mul1 l its.toArray n dd sl t) ⟨ho, ?_⟩⟩)
    exact ⟨.ref l, H, I, rfl, q1 rfl⟩
  · have c1 : (its.toArray.isEmpty || k == 1) = false := by
      rw [hi, Bool.false_or]
      exact beq_eq_false_iff_ne.mpr hk1
    have c2 : (decide (k ≤ 0) || its.toArray.isEmpty) = true := by
      rw [decide_eq_true (by omega)] <;> rfl
    refine wpAny_binaryOp_repeat_ref (T := "tuple") (U := "int") (by decide) ⟨_, ho, rfl⟩ (fun s' => typeIs_int s' k t) noFill_tuple_mul F.fills_int_mul F.slot_int_rmul repeat_tuple F.slot_int_index.lookup
      (call_meets F.slot_int_rmul (typeIs_int s k t) F.entry_int_rmul (F.args_int_rmul_2 _ _) (int_rmul_tuple k t l its.toArray n dd sl)
        ⟨ho, rfl, ⟨_, ho, rfl⟩, call_meets F.slot_tuple_mul ⟨_, ho, rfl⟩ F.entry_tuple_mul (F.args_tuple_mul_2 _ _) (tup_mul0 l its.toArray n dd sl k t c0 c1 c2) ⟨ho, ?_⟩⟩)
    have e0 : k.toNat = 0 := by omega
    refine ⟨.ref s.heap.objs.size, _, I.laid (t' := s.toks) (o := .tup (List.replicate k.toNat xs).flatten) (fun b ob q => Heap.get?_push_of_some _ q) (Nat.le_refl _) ?_, rfl, q2 hk1 _ (I.hok.fresh (Nat.le_refl _))⟩
    rw [e0]
    exact ⟨by simp, [], by simp; exact .nil, IsTup.new _ _⟩
end
end Sv

namespace Sv
open PySem PySem.Spec PyProof.Rows L2
theorem line_eq : sizeLine = LINE := sizeLine_eq
/-! ### the operators on the small interpreter's values -/
def bop : BinO → Operator
  | .add => .Add
  | .sub => .Sub
  | .mul => .Mult
  | .fdiv => .FloorDiv
  | .mod => .Mod
def cop : CmpO → CmpOp
  | .eq => .Eq
  | .ne => .NotEq
  | .lt => .Lt
  | .le => .LtE
  | .gt => .Gt
  | .ge => .GtE
section
variable {K : PySem.W.Frag} {mg : Str → Option Value} {w : World} {F : Fr} {g : G} {ms : MS} {σ : L2.St} {H : Hp}
theorem LR.int {v : V} {i : Int} (h : LR K g H v (.av (.dat (.int i)))) : v = .int i := by
  cases h with
  | av h => cases h with
    | dat h => cases h; rfl
theorem LR.bl {v : V} {i : Bool} (h : LR K g H v (.av (.dat (.bool i)))) : v = .bl i := by
  cases h with
  | av h => cases h with
    | dat h => cases h; rfl
theorem LR.str {v : V} {i : Str} (h : LR K g H v (.av (.dat (.str i)))) : v = .str i := by
  cases h with
  | av h => cases h with
    | dat h => cases h; rfl
theorem LR.tup {v : V} {xs : List PyData} (h : LR K g H v (.av (.dat (.tuple xs)))) : ∃ a vs, v = .ref a ∧ SqT K H a vs ∧ Dzs K g.Z H vs xs := by
  cases h with
  | av h => cases h with
    | dat h => cases h with
      | tup h q => exact ⟨_, _, rfl, h, q⟩
theorem LR.list {v : V} {x : RV} {xs : List PyData} (h : LR K g H v x) (e : x.d? = some (.list xs)) : ∃ a vs, v = .ref a ∧ H a = some (.lst vs) ∧ Dzs K g.Z H vs xs := by
  cases h with
  | av h =>
    cases h with
    | dat h =>
      simp [RV.d?] at e
      subst e
      cases h with
      | lst h z q => exact ⟨_, _, rfl, h, q⟩
    | _ => simp [RV.d?] at e
  | lst h q hi =>
    simp [RV.d?] at e
    subst e
    exact ⟨_, _, rfl, h, q⟩
theorem LR.tuple {v : V} {x : RV} {xs : List PyData} (h : LR K g H v x) (e : x.d? = some (.tuple xs)) : ∃ a vs, v = .ref a ∧ SqT K H a vs ∧ Dzs K g.Z H vs xs := by
  cases x with
  | av x =>
    cases x with
    | dat d => simp [RV.d?] at e; subst e; exact h.tup
    | _ => simp [RV.d?] at e
  | lst xs => simp [RV.d?] at e
end
/-- what an operation on values asks: its answer z, laid behind -/
def rV (K : PySem.W.Frag) (mg : Str → Option Value) (wd : World) (F : Fr) (op : List AO → RV → RV → Option RV) : R2 := fun v u H Q => ∃ g ms σ x y z, Rel K mg wd F g ms σ H ∧ LR K g H v x ∧ LR K g H u y ∧ op ms.hp x y = some z ∧
  ∀ v' H', (∀ a o, H a = some o → H' a = some o) → RVR K F g H H' false v' z → Q v' H'
section
variable {X : Cx} {mg : Str → Option Value} {w : World} {F : Fr}
theorem rvr_int {g : G} {S H : Hp} {K : PySem.W.Frag} {b : Bool} (i : Int) : RVR K F g S H b (.int i) (intV i) := .av (.dat (.int i))
theorem rvr_bl {g : G} {S H : Hp} {K : PySem.W.Frag} {b : Bool} (i : Bool) : RVR K F g S H b (.bl i) (blV i) := .av (.dat (.bl i))
theorem bin_int {o : BinO} {a b : Int} {z : RV} (h : binV o (.av (.dat (.int a))) (.av (.dat (.int b))) = some z) :
    (o = .add ∧ z = intV (a + b)) ∨ (o = .sub ∧ z = intV (a - b)) ∨ (o = .mul ∧ ((-B64 < a ∧ a < B64) ∨ (-B64 < b ∧ b < B64)) ∧ z = intV (a * b)) ∨ (o = .fdiv ∧ (0 < b ∧ b < B30) ∧ z = intV (a / b)) ∨ (o = .mod ∧ 0 < b ∧ z = intV (a % b)) := by
  cases o with
  | add => simp [binV] at h; exact .inl ⟨rfl, h.symm⟩
  | sub => simp [binV] at h; exact .inr (.inl ⟨rfl, h.symm⟩)
  | mul =>
    simp only [binV] at h
    split at h
    · rename_i c; cases h; exact .inr (.inr (.inl ⟨rfl, by
        simp only [Bool.or_eq_true, smB_iff] at c
        show (-18446744073709551616 < a ∧ a < 18446744073709551616) ∨ (-18446744073709551616 < b ∧ b < 18446744073709551616)
        omega, rfl⟩))
    · cases h
  | fdiv =>
    simp only [binV] at h
    split at h
    · rename_i c; cases h; exact .inr (.inr (.inr (.inl ⟨rfl, by
        rw [smB_iff] at c
        show 0 < b ∧ b < 1073741824
        omega, rfl⟩)))
    · cases h
  | mod =>
    simp only [binV] at h
    split at h
    · rename_i c; cases h; exact .inr (.inr (.inr (.inr ⟨rfl, c, rfl⟩)))
    · cases h
/-- what a binary operator's answer is made of -/
inductive BinC : BinO → RV → RV → RV → Prop
  | int {o : BinO} {a b : Int} {z : RV} : binV o (.av (.dat (.int a))) (.av (.dat (.int b))) = some z → BinC o (.av (.dat (.int a))) (.av (.dat (.int b))) z
  | str {x y : Str} : x.length + y.length ≤ LINE → BinC .add (.av (.dat (.str x))) (.av (.dat (.str y))) (.av (.dat (.str (x ++ y))))
  | tup {xs ys : List PyData} : xs.length + ys.length ≤ LINE → BinC .add (.av (.dat (.tuple xs))) (.av (.dat (.tuple ys))) (.av (.dat (.tuple (xs ++ ys))))
  | tupm {xs : List PyData} {k : Int} : xs ≠ [] → -1000 ≤ k → k ≤ 1000 → xs.length ≤ 1000 → BinC .mul (.av (.dat (.tuple xs))) (.av (.dat (.int k))) (.av (.dat (.tuple (List.replicate k.toNat xs).flatten)))
  | lst {a b : RV} {xs ys : List PyData} : a.d? = some (.list xs) → b.d? = some (.list ys) → xs.length + ys.length ≤ LINE → BinC .add a b (.lst (xs ++ ys))
  | lstm {a : RV} {xs : List PyData} {k : Int} : a.d? = some (.list xs) → -B63 ≤ k → k < B63 → xs.length * k.toNat ≤ LINE → BinC .mul a (.av (.dat (.int k))) (.lst (List.replicate k.toNat xs).flatten)
theorem bin_cases {o : BinO} {x y z : RV} (h : binV o x y = some z) : BinC o x y z := by
  unfold binV at h
  split at h
  case h_1 => exact .int (by simpa [binV] using h)
  case h_2 => exact .int (by simpa [binV] using h)
  case h_3 => exact .int (by simpa [binV] using h)
  case h_4 => exact .int (by simpa [binV] using h)
  case h_5 => exact .int (by simpa [binV] using h)
  case h_6 =>
    split at h
    · rename_i c; cases h; exact .str c
    · cases h
  case h_7 =>
    split at h
    · rename_i c; cases h; exact .tup c
    · cases h
  case h_8 =>
    split at h
    · rename_i c; cases h; exact .tupm c.1 (by have := smB_iff.mp c.2.1; omega) (by have := smB_iff.mp c.2.1; omega) c.2.2
    · cases h
  case h_9 =>
    split at h
    · rename_i xs ys e1 e2
      split at h
      · rename_i c; cases h; exact .lst e1 e2 c
      · cases h
    · cases h
  case h_10 =>
    split at h
    · rename_i xs e1
      split at h
      · rename_i c; cases h; exact .lstm e1 (by have := smB_iff.mp c.1; show -9223372036854775808 ≤ _; omega) (by have := smB_iff.mp c.1; show _ < (9223372036854775808 : Int); omega) c.2
      · cases h
    · cases h
  case h_11 => cases h
theorem op_bin (o : BinO) : OpR X (binaryOp (bop o)) (rV X.K mg w F fun _ x y => binV o x y) := by
  intro pins s σ H v w v' w' Q I rv rw' h
  obtain ⟨g, ms, σ', x, y, z, R, lv, lw, e, k⟩ := h
  have C := bin_cases e
  cases C with
  | @int _ a b z e2 =>
    have ev := lv.int
    have ew := lw.int
    subst ev ew
    rcases bin_int e2 with ⟨rfl, rfl⟩ | ⟨rfl, rfl⟩ | ⟨rfl, c, rfl⟩ | ⟨rfl, c, rfl⟩ | ⟨rfl, c, rfl⟩
    · exact op_add pins s σ H _ _ v' w' Q I rv rw' ⟨a, b, rfl, rfl, k _ H (fun _ _ q => q) (rvr_int _)⟩
    · exact op_sub pins s σ H _ _ v' w' Q I rv rw' ⟨a, b, rfl, rfl, k _ H (fun _ _ q => q) (rvr_int _)⟩
    · exact op_mul pins s σ H _ _ v' w' Q I rv rw' ⟨a, b, rfl, rfl, c, k _ H (fun _ _ q => q) (rvr_int _)⟩
    · exact op_fdiv pins s σ H _ _ v' w' Q I rv rw' ⟨a, b, rfl, rfl, c, k _ H (fun _ _ q => q) (rvr_int _)⟩
    · exact op_mod pins s σ H _ _ v' w' Q I rv rw' ⟨a, b, rfl, rfl, c, k _ H (fun _ _ q => q) (rvr_int _)⟩
  | @str a b c =>
    have ev := lv.str
    have ew := lw.str
    subst ev ew
    exact op_add_str pins s σ H _ _ v' w' Q I rv rw' ⟨a, b, rfl, rfl, by rw [line_eq]; exact c, k _ H (fun _ _ q => q) (.av (.dat (.str _)))⟩
  | tup c =>
    obtain ⟨a, vs, rfl, ha, qa⟩ := lv.tup
    obtain ⟨b, ws, rfl, hb, qb⟩ := lw.tup
    refine op_catA pins s σ H _ _ v' w' Q I rv rw' ⟨a, b, vs, ws, rfl, rfl, ha, hb, by rw [line_eq, qa.length, qb.length]; exact c, fun e0 => ?_, fun _ e0 => ?_, fun _ _ p hp => ?_⟩
    · subst e0
      cases qa
      exact k _ H (fun _ _ q => q) (.av (.dat (.tup hb qb)))
    · subst e0
      cases qb
      exact k _ H (fun _ _ q => q) (.av (.dat (.tup ha (by simpa using qa))))
    · exact k _ _ (up_same hp) (R.newtup hp (qa.append qb))
  | @tupm xs n c1 c2 c3 c4 =>
    obtain ⟨a, vs, rfl, ha, qa⟩ := lv.tup
    have ew := lw.int
    subst ew
    refine op_mulT pins s σ H _ _ v' w' Q I rv rw' ⟨a, n, vs, rfl, rfl, ha, ?_, c2, c3, by rw [qa.length]; exact c4, fun e1 => ?_, fun _ p hp => ?_⟩
    · rintro rfl
      cases qa
      exact c1 rfl
    · subst e1
      exact k _ H (fun _ _ q => q) (.av (.dat (.tup ha (by simpa using qa))))
    · exact k _ _ (up_same hp) (R.newtup hp (qa.rep _))
  | lst e1 e2 c =>
    obtain ⟨a, vs, rfl, ha, qa⟩ := lv.list e1
    obtain ⟨b, ws, rfl, hb, qb⟩ := lw.list e2
    exact op_cat pins s σ H _ _ v' w' Q I rv rw' ⟨a, b, vs, ws, rfl, rfl, ha, hb, by rw [line_eq, qa.length, qb.length]; exact c, fun p hp => k _ _ (up_same hp) (R.newlst hp (qa.append qb))⟩
  | @lstm _ xs n e1 c1 c2 c3 =>
    obtain ⟨a, vs, rfl, ha, qa⟩ := lv.list e1
    have ew := lw.int
    subst ew
    exact op_rep pins s σ H _ _ v' w' Q I rv rw' ⟨a, n, vs, rfl, rfl, ha, c1, c2, by rw [line_eq, qa.length]; exact c3, fun p hp => k _ _ (up_same hp) (R.newlst hp (qa.rep _))⟩
end
end Sv

/-! Sv: comparisons, places, the built-in functions, by values. -/
namespace Sv
open PySem PySem.Spec PyProof.Rows L2

mutual
theorem eqq_eqv : ∀ d e : PyData, eqq d e = PyData.eqv d e
  | .none, e => by cases e <;> simp [eqq, PyData.eqv]
  | .bool a, e => by cases e <;> simp [eqq, PyData.eqv]
  | .int a, e => by cases e <;> simp [eqq, PyData.eqv]
  | .str a, e => by
    cases e <;> simp [eqq, PyData.eqv]
    rename_i b
    by_cases h : a = b
    · subst h; simp
    · simp [h]
  | .list xs, e => by
    cases e <;> simp [eqq, PyData.eqv]
    exact eqqs_eqv _ _
  | .tuple xs, e => by
    cases e <;> simp [eqq, PyData.eqv]
    exact eqqs_eqv _ _
  | .dict _, e => by cases e <;> simp [eqq, PyData.eqv]
theorem eqqs_eqv : ∀ d e : List PyData, eqqs d e = PyData.eqvAll d e
  | [], e => by cases e <;> simp [eqqs, PyData.eqvAll]
  | x :: xs, e => by
    cases e with
    | nil => simp [eqqs, PyData.eqvAll]
    | cons y ys => simp [eqqs, PyData.eqvAll, eqq_eqv x y, eqqs_eqv xs ys]
end
theorem inn_any (x : PyData) (xs : List PyData) : inn x xs = xs.any fun y => PyData.eqv y x := by
  unfold inn
  simp [eqq_eqv]
section
variable {K : PySem.W.Frag} {H : Hp}
mutual
theorem dp_depth : ∀ {v : V} (d : PyData), Dp K H v d → dep d ≤ 900 → d.depth = dep d ∧ d.canLay0 = true
  | _, .none, h, _ => by simp [PyData.depth, dep, PyData.canLay0]
  | _, .bool _, h, _ => by simp [PyData.depth, dep, PyData.canLay0]
  | _, .int _, h, _ => by simp [PyData.depth, dep, PyData.canLay0]
  | _, .str x, h, l => by
    have e : (x.cps.all fun c => decide (c < 1114112)) = true := by
      cases q : (x.cps.all fun c => decide (c < 1114112)) with
      | true => rfl
      | false => unfold dep at l; rw [q] at l; simp at l
    refine ⟨?_, ?_⟩
    · unfold PyData.depth dep
      rw [e]
      rfl
    · unfold PyData.canLay0 PyData.strOk
      exact e
  | _, .list ds, h, l => by
    cases h with
    | lst e q =>
      unfold dep at l ⊢
      obtain ⟨h1, h2⟩ := dps_depth ds q (by omega)
      unfold PyData.depth PyData.canLay0
      rw [h1, h2]
      exact ⟨rfl, rfl⟩
  | _, .tuple ds, h, l => by
    cases h with
    | tup e q =>
      unfold dep at l ⊢
      obtain ⟨h1, h2⟩ := dps_depth ds q (by omega)
      unfold PyData.depth PyData.canLay0
      rw [h1, h2]
      exact ⟨rfl, rfl⟩
  | _, .dict _, h, _ => by cases h
theorem dps_depth : ∀ {v : List V} (d : List PyData), DpAll K H v d → deps d ≤ 900 → PyData.depthAll d = deps d ∧ PyData.canLayAll0 d = true
  | _, [], h, _ => by simp [PyData.depthAll, deps, PyData.canLayAll0]
  | _, d :: ds, h, l => by
    cases h with
    | cons p q =>
      unfold deps at l ⊢
      obtain ⟨h1, h2⟩ := dp_depth d p (by omega)
      obtain ⟨h3, h4⟩ := dps_depth ds q (by omega)
      simp [PyData.depthAll, PyData.canLayAll0, h1, h2, h3, h4]
end
end
theorem dp_shaped {K : PySem.W.Frag} {H : Hp} {v : V} {d : PyData} (h : Dp K H v d) (l : dep d ≤ 64) : SeqAt.shaped d = true := by
  obtain ⟨h1, h2⟩ := dp_depth d h (by omega)
  unfold SeqAt.shaped
  rw [h2, h1]
  simpa using l
section
variable {X : Cx} {mg : Str → Option Value} {w : World} {F : Fr}
def cmpR (c : CmpO) : List AO → RV → RV → Option RV := fun _ x y => (cmpV c x y).map blV
inductive CmpC : CmpO → RV → RV → Bool → Prop
  | eq {x y : RV} {d e : PyData} : x.d? = some d → y.d? = some e → dep d ≤ 64 → dep e ≤ 64 → CmpC .eq x y (eqq d e)
  | ne {x y : RV} {d e : PyData} : x.d? = some d → y.d? = some e → dep d ≤ 64 → dep e ≤ 64 → CmpC .ne x y (!eqq d e)
  | lt {i j : Int} : CmpC .lt (.av (.dat (.int i))) (.av (.dat (.int j))) (decide (i < j))
  | le {i j : Int} : CmpC .le (.av (.dat (.int i))) (.av (.dat (.int j))) (decide (i ≤ j))
  | gt {i j : Int} : CmpC .gt (.av (.dat (.int i))) (.av (.dat (.int j))) (decide (j < i))
  | ge {i j : Int} : CmpC .ge (.av (.dat (.int i))) (.av (.dat (.int j))) (decide (j ≤ i))
theorem cmp_cases {o : CmpO} {x y : RV} {z : Bool} (h : cmpV o x y = some z) : CmpC o x y z := by
  unfold cmpV at h
  split at h
  case h_1 =>
    split at h
    · rename_i d e e1 e2
      split at h
      · rename_i c; cases h; exact .eq e1 e2 c.1 c.2
      · cases h
    · cases h
  case h_2 =>
    split at h
    · rename_i d e e1 e2
      split at h
      · rename_i c; cases h; exact .ne e1 e2 c.1 c.2
      · cases h
    · cases h
  case h_3 => cases h; exact .lt
  case h_4 => cases h; exact .le
  case h_5 => cases h; exact .gt
  case h_6 => cases h; exact .ge
  case h_7 => cases h
theorem op_cmp (hr : Room 0 X.A) (o : CmpO) : OpR X (compareOp (cop o)) (rV X.K mg w F (cmpR o)) := by
  intro pins s σ H v w v' w' Q I rv rw' h
  obtain ⟨g, ms, σ', x, y, z, R, lv, lw, e, k⟩ := h
  unfold cmpR at e
  obtain ⟨b, e1, rfl⟩ := Option.map_eq_some_iff.mp e
  have C := cmp_cases e1
  have fin := k (.bl b) H (fun _ _ q => q) (rvr_bl b)
  cases C with
  | eq a1 a2 a3 a4 =>
    have d1 := lv.dp a1
    have d2 := lw.dp a2
    exact op_eqD hr.units pins s σ H _ _ v' w' Q I rv rw' ⟨_, _, d1, d2, dp_shaped d1 a3, dp_shaped d2 a4, by rw [← eqq_eqv]; exact fin⟩
  | ne a1 a2 a3 a4 =>
    have d1 := lv.dp a1
    have d2 := lw.dp a2
    exact op_neD hr.units pins s σ H _ _ v' w' Q I rv rw' ⟨_, _, d1, d2, dp_shaped d1 a3, dp_shaped d2 a4, by rw [← eqq_eqv]; exact fin⟩
  | lt =>
    have ev := lv.int
    have ew := lw.int
    subst ev ew
    exact op_lt pins s σ H _ _ v' w' Q I rv rw' ⟨_, _, rfl, rfl, fin⟩
  | le =>
    have ev := lv.int
    have ew := lw.int
    subst ev ew
    exact op_le pins s σ H _ _ v' w' Q I rv rw' ⟨_, _, rfl, rfl, fin⟩
  | gt =>
    have ev := lv.int
    have ew := lw.int
    subst ev ew
    exact op_gt pins s σ H _ _ v' w' Q I rv rw' ⟨_, _, rfl, rfl, fin⟩
  | ge =>
    have ev := lv.int
    have ew := lw.int
    subst ev ew
    exact op_ge pins s σ H _ _ v' w' Q I rv rw' ⟨_, _, rfl, rfl, fin⟩

/-! ### x in xs -/
def inop : Bool → CmpOp
  | false => .In
  | true => .NotIn
def inR (neg : Bool) : List AO → RV → RV → Option RV := fun _ x y => (inV x y).map fun z => blV (if neg then !z else z)
theorem in_cases {x y : RV} {z : Bool} (h : inV x y = some z) : ∃ d ds, x.d? = some d ∧ (y.d? = some (.list ds) ∨ y.d? = some (.tuple ds)) ∧ dep d ≤ 60 ∧ deps ds ≤ 60 ∧ z = inn d ds := by
  unfold inV at h
  dsimp only at h
  split at h
  · rename_i d ds e1 e2
    by_cases c : dep d ≤ 60 ∧ deps ds ≤ 60
    · rw [if_pos c] at h
      cases h
      exact ⟨d, ds, e1, .inl e2, c.1, c.2, rfl⟩
    · rw [if_neg c] at h
      cases h
  · rename_i d ds e1 e2
    by_cases c : dep d ≤ 60 ∧ deps ds ≤ 60
    · rw [if_pos c] at h
      cases h
      exact ⟨d, ds, e1, .inr e2, c.1, c.2, rfl⟩
    · rw [if_neg c] at h
      cases h
  · cases h
theorem op_in (hr : Room 0 X.A) (neg : Bool) : OpR X (compareOp (inop neg)) (rV X.K mg w F (inR neg)) := by
  intro pins s σ H v w v' w' Q I rv rw' h
  obtain ⟨g, ms, σ', x, y, z, R, lv, lw, e, k⟩ := h
  unfold inR at e
  obtain ⟨b, e1, rfl⟩ := Option.map_eq_some_iff.mp e
  obtain ⟨d, ds, h1, h2, h3, h4, rfl⟩ := in_cases e1
  have d1 := lv.dp h1
  have l1 := (dp_depth d d1 (by omega)).1
  have hd : d.canLay0 = true := (dp_depth d d1 (by omega)).2
  have hu : X.A.units + 200 < cLine := by have := hr.un; omega
  obtain ⟨as, r1⟩ := Dp.reads I d v v' d1 rv
  rcases h2 with h2 | h2
  · have d2 := lw.dp h2
    obtain ⟨bs, r2⟩ := Dp.reads I (.list ds) w w' d2 rw'
    have hc : PyData.canLayAll0 ds = true := by
      cases d2 with
      | lst _ q => exact (dps_depth ds q (by omega)).2
    have ho : X.A.units + 1 + min (PyData.depthAll ds) d.depth < cLine := by
      have : min (PyData.depthAll ds) d.depth ≤ d.depth := Nat.min_le_right _ _
      omega
    cases neg with
    | false => exact SeqAt.in_list_reads r2 r1 hc hd ho ⟨.bl _, H, I, rfl, by have q := k (.bl (inn d ds)) H (fun _ _ q => q) (rvr_bl _); rw [inn_any] at q; exact q⟩
    | true => exact SeqAt.notIn_list_reads r2 r1 hc hd ho ⟨.bl _, H, I, rfl, by have q := k (.bl (!inn d ds)) H (fun _ _ q => q) (rvr_bl _); rw [inn_any] at q; exact q⟩
  · have d2 := lw.dp h2
    obtain ⟨bs, r2⟩ := Dp.reads I (.tuple ds) w w' d2 rw'
    have hc : PyData.canLayAll0 ds = true := by
      cases d2 with
      | tup _ q => exact (dps_depth ds q (by omega)).2
    have ho : X.A.units + 1 + min (PyData.depthAll ds) d.depth < cLine := by
      have : min (PyData.depthAll ds) d.depth ≤ d.depth := Nat.min_le_right _ _
      omega
    cases neg with
    | false => exact SeqAt.in_tuple_reads r2 r1 hc hd ho ⟨.bl _, H, I, rfl, by have q := k (.bl (inn d ds)) H (fun _ _ q => q) (rvr_bl _); rw [inn_any] at q; exact q⟩
    | true => exact SeqAt.notIn_tuple_reads r2 r1 hc hd ho ⟨.bl _, H, I, rfl, by have q := k (.bl (!inn d ds)) H (fun _ _ q => q) (rvr_bl _); rw [inn_any] at q; exact q⟩
theorem op_notin_rng : OpR X (compareOp .NotIn) (fun x y H Q => ∃ i a lo hi, x = V.int i ∧ y = V.ref a ∧ H a = some (.rng lo hi) ∧ Q (.bl (!decide (lo ≤ i ∧ i < hi))) H) := by
  intro pins s σ H x y v u Q I rx ry h
  obtain ⟨i, a, lo, hi, rfl, rfl, ha, q⟩ := h
  obtain ⟨k, rfl⟩ := rx
  obtain rfl : u = Value.ref a := ry
  obtain ⟨t1, t2, t3, ho⟩ := I.hok a _ ha
  show wpAny _ _ (do return Value.bool (!(← contains (Value.ref a) (Value.int i k)))) _ _ s
  refine wpAny_bind (wpAny_contains_slot (T := "range") ⟨_, ho, rfl⟩ F.slot_range_contains (call_meets F.slot_range_contains ⟨_, ho, rfl⟩ F.entry_range_contains (F.args_range_contains_2 _ _) (q_contains a lo hi i t1 t2 t3 k)
    ⟨ho, wpAny_truthy_bool (wpAny_pure ⟨.bl _, H, I, rfl, ?_⟩)⟩))
  rw [place1]
  exact q
theorem cr_range1 : CallR X (.type "range") (fun vs H Q => ∃ i, vs = [V.int i] ∧ ∀ p, H p = none → Q (.ref p) (upd H p (.rng 0 i))) := by
  intro pins s σ H vs us Q I r h
  obtain ⟨i, rfl, q⟩ := h
  obtain ⟨u1, rfl, ri⟩ := vals1 r
  obtain ⟨t, rfl⟩ := ri
  refine call_range_1 ?_
  exact ⟨.ref s.heap.objs.size, upd H s.heap.objs.size (.rng 0 i), I.laid (fun b o e => Heap.get?_push_of_some _ e) (Nat.le_refl _) ⟨_, _, _, Heap.get?_push_size _ rfl⟩, rfl, q _ (I.hok.fresh (Nat.le_refl _))⟩

/-! ### places -/
theorem ixD_ixN (n : Nat) (i : Int) : ixN n i = ixD n i := by
  unfold ixN ixD
  by_cases h : i < 0
  · rw [if_neg (by omega), if_pos h]
    by_cases h2 : i + n < 0
    · rw [if_neg (by omega), if_pos h2]
    · rw [if_pos (by omega), if_neg h2]
  · rw [if_pos (by omega), if_neg h]
theorem atD_atI {α : Type} (xs : List α) (i : Int) : atI xs i = atD xs i := by
  unfold atI atD
  rw [ixD_ixN]
  cases ixD xs.length i <;> rfl
theorem clipD_sIx (n d : Nat) (hd : d ≤ n) (o : Option Int) : HT.sIx n d o = clipD n d o := by
  cases o with
  | none => rfl
  | some i =>
    have h := HT.clip_eq i n d
    unfold clipD
    by_cases hi : i < 0
    · rw [if_pos hi] at h
      simp only [if_pos hi]
      omega
    · rw [if_neg hi] at h
      simp only [if_neg hi]
      omega
theorem cutD_cutV (xs : List V) (lo hi : Option Int) : cutV xs lo hi = cutD xs lo hi := by
  unfold cutV cutD
  rw [clipD_sIx _ _ (Nat.zero_le _), clipD_sIx _ _ (Nat.le_refl _)]
theorem Dzs.cut {K : PySem.W.Frag} {Z : Addr → Prop} {H : Hp} {vs : List V} {ds : List PyData} (h : Dzs K Z H vs ds) (lo hi : Option Int) : Dzs K Z H (cutD vs lo hi) (cutD ds lo hi) := by
  unfold cutD
  rw [h.length]
  exact (h.drop _).take _
end
end Sv

/-! Sv: expressions: what the small interpreter answers is what the program's text gives. -/
namespace Sv
open PySem PySem.Spec PyProof.Rows L2

/-! ### what a def promises -/
inductive RVF (K : PySem.W.Frag) (g : G) (H0 H : Hp) : V → RV → Prop
  | av {v : V} {x : AV} : AVR K g H v x → RVF K g H0 H v (.av x)
  | lst {a : Addr} {vs : List V} {xs : List PyData} : H0 a = none → H a = some (.lst vs) → Dzs K g.Z H vs xs → a ∉ g.io → ¬ g.Z a → RVF K g H0 H (.ref a) (.lst xs)
def spF (K : PySem.W.Frag) (mg : Str → Option Value) (w : World) (run : List AV → List AO → Option (RV × List AO)) : Sp := fun vs H Q _ => ∃ g hp args rv hp', HRel K mg w g hp H ∧ AVRs K g H vs args ∧ run args hp = some (rv, hp') ∧
  ∀ g' v H', HRel K mg w g' hp' H' → Ext0 g H g' H' → (∀ a, g'.Z a → g.Z a ∨ H a = none) → RVF K g' H H' v rv → Q v H'
def OkFn (X : Cx) (f : Fn) : Prop := ∃ (k : Nat) (fa : Addr) (fd : FuncData) (ps : List Str), X.mg f.name = some (.ref fa) ∧ PySem.W.keepIn X.K (.ref fa) = true ∧ Binds X.K fd ps [] ∧
  FnOk X.prog X.w X.K X.mg X.base (L2.CX X.prog X.w) k fa fd ps (spF X.K X.mg X.w f.run) ∧ Room k X.A
/-- a constant of the module -/
def OkGl (X : Cx) (x : Str) (d : PyData) : Prop := ∃ v u, X.mg x = some u ∧ RelV v u ∧ ∀ Z H, Dz X.K Z H v d
/-- an attribute that the class itself does not have -/
def OkAt (X : Cx) (c x : Str) : Prop := ∃ C, X.mg c = some (.ref C) ∧ Cls X.K C ∧ NoAttr X.K C x
def OkMe (X : Cx) (c : Str) (f : Fn) : Prop := ∃ (C : Addr) (k : Nat) (fa : Addr) (fd : FuncData) (ps : List Str), X.mg c = some (.ref C) ∧ Cls X.K C ∧ Meth X.K C f.name fa ∧ Binds X.K fd ps [] ∧
  FnOk X.prog X.w X.K X.mg X.base (L2.CX X.prog X.w) k fa fd ps (spF X.K X.mg X.w f.run) ∧ Room k X.A
def OkMk (X : Cx) (c : Str) (f : Fn) : Prop := ∃ (C : Addr) (k : Nat) (fa : Addr) (fd : FuncData) (ps : List Str), X.mg c = some (.ref C) ∧ Mk X.K C fa ∧ Binds X.K fd ps [] ∧
  FnOk X.prog X.w X.K X.mg X.base (L2.CX X.prog X.w) k fa fd ps (spF X.K X.mg X.w f.run) ∧ Room (k + 1) X.A
/-- what a text leans on -/
structure Pr where
  fn : Fn → Prop
  gl : Str → PyData → Prop
  at_ : Str → Str → Prop
  me : Str → Fn → Prop
  mke : Str → Fn → Prop
  gd : Prop
@[reducible] def prX (X : Cx) : Pr := ⟨OkFn X, OkGl X, OkAt X, OkMe X, OkMk X, X.A.guards = some []⟩
mutual
def okE (p : Pr) : E → Prop
  | .lit _ => True
  | .glob x d => p.gl x d
  | .var _ => True
  | .tup es => okEs p es
  | .lst es => okEs p es
  | .bin _ a b => okE p a ∧ okE p b
  | .cmp _ a b => okE p a ∧ okE p b
  | .isin _ a b => okE p a ∧ okE p b
  | .inrange _ a b => okE p a ∧ okE p b
  | .isnone _ a => okE p a
  | .and a b => okE p a ∧ okE p b
  | .or a b => okE p a ∧ okE p b
  | .not a => okE p a
  | .ife c a b => okE p c ∧ okE p a ∧ okE p b
  | .sub a b => okE p a ∧ okE p b
  | .slice a l h => okE p a ∧ okEs p l ∧ okEs p h
  | .b1 _ a => okE p a
  | .isi a _ => okE p a
  | .call f es => p.fn f ∧ okEs p es
  | .callP f es => p.fn f ∧ okEs p es
  | .callB f es => p.fn f ∧ okEs p es
  | .alloc e => okE p e
  | .allocL es => okEs p es
  | .attr c a f => p.at_ c f ∧ okE p a
  | .meth c f a es => p.me c f ∧ okE p a ∧ okEs p es
  | .new c f es => p.mke c f ∧ okEs p es
  | .str1 a => okE p a
  | .srt _ a => okE p a
  | .join _ a => okE p a
  | .comp e _ it c => okE p e ∧ okI p it ∧ okEs p c
  | .cmpH _ a b => okE p a ∧ okE p b
  | .b1H _ a => okE p a
  | .chain _ _ a b c => okE p a ∧ okE p b ∧ okE p c
  | .mx _ a b => okE p a ∧ okE p b
  | .mxL _ a => okE p a
  | .mxD a b => okE p a ∧ okE p b
  | .isb _ _ a => okE p a
  | .dget a b => okE p a ∧ okE p b
  | .fdict _ es => okEs p es
  | .fdcopy a => okE p a
  | .adict _ es => okEs p es
  | .tupR es => okEs p es
  | .subT a b => okE p a ∧ okE p b
  | .kd0 => True
  | .kd1 a b => okE p a ∧ okE p b
  | .kin _ a b => okE p a ∧ okE p b
  | .kget a b => okE p a ∧ okE p b
  | .ksetd a b => okE p a ∧ okE p b
  | .repr a => p.gd ∧ okE p a
def okEs (p : Pr) : Es → Prop
  | .nil => True
  | .cons e es => okE p e ∧ okEs p es
def okI (p : Pr) : I → Prop
  | .seq e => okE p e
  | .range1 e => okE p e
  | .range2 a b => okE p a ∧ okE p b
  | .rev e => okE p e
end

/-! ### the side conditions of the text -/
def isPl : Expr → Bool
  | .Starred _ _ => false
  | .Slice _ _ _ _ => false
  | .Set _ _ _ => false
  | .SetComp _ _ _ _ => false
  | .DictComp _ _ _ _ _ => false
  | _ => true
section
variable {N : List Str} {sc : Scope} {env : Env}
theorem mE_pl : ∀ (e : E) {x : Expr}, mE N sc e x = true → isPl x = true
  | .alloc e, x, h => mE_pl e (x := x) (show mE N sc e x = true from h)
  | .lit d, x, h => by cases x <;> first | rfl | (cases d <;> exact absurd (show false = true from h) Bool.false_ne_true)
  | .glob _ _, x, h => by cases x <;> first | rfl | exact absurd (show false = true from h) Bool.false_ne_true
  | .var _, x, h => by cases x <;> first | rfl | exact absurd (show false = true from h) Bool.false_ne_true
  | .tup _, x, h => by cases x <;> first | rfl | exact absurd (show false = true from h) Bool.false_ne_true
  | .lst _, x, h => by cases x <;> first | rfl | exact absurd (show false = true from h) Bool.false_ne_true
  | .bin _ _ _, x, h => by cases x <;> first | rfl | exact absurd (show false = true from h) Bool.false_ne_true
  | .cmp _ _ _, x, h => by cases x <;> first | rfl | exact absurd (show false = true from h) Bool.false_ne_true
  | .isin _ _ _, x, h => by cases x <;> first | rfl | exact absurd (show false = true from h) Bool.false_ne_true
  | .inrange _ _ _, x, h => by cases x <;> first | rfl | exact absurd (show false = true from h) Bool.false_ne_true
  | .isnone _ _, x, h => by cases x <;> first | rfl | exact absurd (show false = true from h) Bool.false_ne_true
  | .and _ _, x, h => by cases x <;> first | rfl | exact absurd (show false = true from h) Bool.false_ne_true
  | .or _ _, x, h => by cases x <;> first | rfl | exact absurd (show false = true from h) Bool.false_ne_true
  | .not _, x, h => by cases x <;> first | rfl | exact absurd (show false = true from h) Bool.false_ne_true
  | .ife _ _ _, x, h => by cases x <;> first | rfl | exact absurd (show false = true from h) Bool.false_ne_true
  | .sub _ _, x, h => by cases x <;> first | rfl | exact absurd (show false = true from h) Bool.false_ne_true
  | .slice _ _ _, x, h => by cases x <;> first | rfl | exact absurd (show false = true from h) Bool.false_ne_true
  | .b1 _ _, x, h => by cases x <;> first | rfl | exact absurd (show false = true from h) Bool.false_ne_true
  | .isi _ _, x, h => by cases x <;> first | rfl | exact absurd (show false = true from h) Bool.false_ne_true
  | .call _ _, x, h => by cases x <;> first | rfl | exact absurd (show false = true from h) Bool.false_ne_true
  | .callP _ _, x, h => by cases x <;> first | rfl | exact absurd (show false = true from h) Bool.false_ne_true
  | .callB _ _, x, h => by cases x <;> first | rfl | exact absurd (show false = true from h) Bool.false_ne_true
  | .allocL _, x, h => by cases x <;> first | rfl | exact absurd (show false = true from h) Bool.false_ne_true
  | .comp _ _ _ _, x, h => by cases x <;> first | rfl | exact absurd (show false = true from h) Bool.false_ne_true
  | .attr _ _ _, x, h => by cases x <;> first | rfl | exact absurd (show false = true from h) Bool.false_ne_true
  | .meth _ _ _ _, x, h => by cases x <;> first | rfl | exact absurd (show false = true from h) Bool.false_ne_true
  | .new _ _ _, x, h => by cases x <;> first | rfl | exact absurd (show false = true from h) Bool.false_ne_true
  | .srt b _, x, h => by cases b <;> cases x <;> first | rfl | exact absurd (show false = true from h) Bool.false_ne_true
  | .str1 _, x, h => by cases x <;> first | rfl | exact absurd (show false = true from h) Bool.false_ne_true
  | .join _ _, x, h => by cases x <;> first | rfl | exact absurd (show false = true from h) Bool.false_ne_true
  | .cmpH _ _ _, x, h => by cases x <;> first | rfl | exact absurd (show false = true from h) Bool.false_ne_true
  | .b1H _ _, x, h => by cases x <;> first | rfl | exact absurd (show false = true from h) Bool.false_ne_true
  | .chain _ _ _ _ _, x, h => by cases x <;> first | rfl | exact absurd (show false = true from h) Bool.false_ne_true
  | .mx _ _ _, x, h => by cases x <;> first | rfl | exact absurd (show false = true from h) Bool.false_ne_true
  | .mxL _ _, x, h => by cases x <;> first | rfl | exact absurd (show false = true from h) Bool.false_ne_true
  | .mxD _ _, x, h => by cases x <;> first | rfl | exact absurd (show false = true from h) Bool.false_ne_true
  | .isb _ _ _, x, h => by cases x <;> first | rfl | exact absurd (show false = true from h) Bool.false_ne_true
  | .dget _ _, x, h => by cases x <;> first | rfl | exact absurd (show false = true from h) Bool.false_ne_true
  | .fdict _ _, x, h => by cases x <;> first | rfl | exact absurd (show false = true from h) Bool.false_ne_true
  | .fdcopy _, x, h => by cases x <;> first | rfl | exact absurd (show false = true from h) Bool.false_ne_true
  | .adict _ _, x, h => by cases x <;> first | rfl | exact absurd (show false = true from h) Bool.false_ne_true
  | .tupR _, x, h => by cases x <;> first | rfl | exact absurd (show false = true from h) Bool.false_ne_true
  | .subT _ _, x, h => by cases x <;> first | rfl | exact absurd (show false = true from h) Bool.false_ne_true
  | .kd0, x, h => by cases x <;> first | rfl | exact absurd (show false = true from h) Bool.false_ne_true
  | .kd1 _ _, x, h => by cases x <;> first | rfl | exact absurd (show false = true from h) Bool.false_ne_true
  | .kin _ _ _, x, h => by cases x <;> first | rfl | exact absurd (show false = true from h) Bool.false_ne_true
  | .kget _ _, x, h => by cases x <;> first | rfl | exact absurd (show false = true from h) Bool.false_ne_true
  | .ksetd _ _, x, h => by cases x <;> first | rfl | exact absurd (show false = true from h) Bool.false_ne_true
  | .repr _, x, h => by cases x <;> first | rfl | exact absurd (show false = true from h) Bool.false_ne_true
theorem pl_star {x : Expr} (h : isPl x = true) (xs : List Expr) : starEach (x :: xs) env = (false, eval x env) :: starEach xs env := by
  cases x <;> first | rfl | simp [isPl] at h
theorem pl_ix {x : Expr} (h : isPl x = true) : PlainIx x := by
  intro o i
  cases x <;> first | rfl | simp [isPl] at h
theorem pl_set {x : Expr} (h : isPl x = true) (v : Value) : foldedSetIterable x env v = pure v := by
  cases x <;> first | rfl | simp [isPl] at h
theorem pl_mark {x : Expr} (h : isPl x = true) (o : CmpOp) : behindInMarks o x = false := by
  cases x <;> first | rfl | simp [isPl] at h
theorem mEs_pl : ∀ (es : Es) {xs : List Expr}, mEs N sc es xs = true → ∀ x ∈ xs, isPl x = true
  | .nil, [], _, x, hx => by simp at hx
  | .nil, _ :: _, h, _, _ => by simp [mEs] at h
  | .cons _ _, [], h, _, _ => by simp [mEs] at h
  | .cons e es, y :: ys, h, x, hx => by
    simp only [mEs, Bool.and_eq_true] at h
    rcases List.mem_cons.mp hx with rfl | hx
    · exact mE_pl e h.1
    · exact mEs_pl es h.2 x hx
theorem pl_stars : ∀ {xs : List Expr}, (∀ x ∈ xs, isPl x = true) → ∀ pos : Pos, (backTo pos (starEach xs env)).any (·.1) = false
  | [], _, _ => rfl
  | x :: xs, h, pos => by
    rw [pl_star (h x List.mem_cons_self) xs]
    show (false || (backTo pos (starEach xs env)).any (·.1)) = false
    rw [pl_stars (fun y hy => h y (List.mem_cons_of_mem _ hy)) pos]
    rfl
end

section
variable {X : Cx} {F : Fr} {g g' : G} {ms ms' : MS} {σ : L2.St} {H H' : Hp}
/-- a test from an expression -/
theorem tT_of {b : Bool} {sem : MS → Option (RV × MS)} {Q : Bool → Hp → Prop} (h : tT X.K X.mg X.w F sem σ H Q) : tE X.K X.mg X.w F b sem σ H fun x H' => ∃ k, x = .bl k ∧ Q k H' := by
  obtain ⟨g, ms, c, ms', R, e, k⟩ := h
  refine ⟨g, ms, _, ms', R, e, fun g' v H' R' e' r => ?_⟩
  have r' := r.lr.bl
  exact ⟨c, r', k g' H' R' e'⟩
/-- the readings of a piece of syntax: as a value, as a test -/
structure Sd (X : Cx) (F : Fr) (e : E) (x : Expr) : Prop where
  pe : ∀ b, PE X x (tE X.K X.mg X.w F b (ev b e))
  pt : isIf x = false → PT X x (tT X.K X.mg X.w F (ev true e))
  pw : ∀ o vs p, x = .BoolOp o vs p → PW X x (tT X.K X.mg X.w F (ev true e))
theorem Sd.val {e : E} {x : Expr} (h : ∀ b, PE X x (tE X.K X.mg X.w F b (ev b e))) (hb : ∀ o vs p, x ≠ .BoolOp o vs p) (he : ∀ whole, isTrue x X.env whole = (do let v ← whole; standAt x.pos; holding [v] (truthy v)) := by intro _; rfl) : Sd X F e x :=
  ⟨h, fun _ => PT.imp (pt_val (h true) he) fun σ H Q q => tT_of q, fun o vs p z => absurd z (hb o vs p)⟩
theorem PW.imp {x : Expr} {t t' : TT} (h : PW X x t) (i : ∀ σ H Q, t' σ H Q → t σ H Q) : PW X x t' := ⟨fun wh pins s σ H Q I q => h.run wh pins s σ H Q I (i σ H Q q)⟩
/-- two operands, an operation on values -/
theorem bin_read {b : Bool} {sa sb sem : MS → Option (RV × MS)} {op : List AO → RV → RV → Option RV} {Q : VK}
    (hs : ∀ ms r, sem ms = some r → ∃ x ms1 y ms2 z, sa ms = some (x, ms1) ∧ sb ms1 = some (y, ms2) ∧ op ms2.hp x y = some z ∧ r = (z, ms2))
    (h : tE X.K X.mg X.w F b sem σ H Q) : tOp (rV X.K X.mg X.w F op) (tE X.K X.mg X.w F true sa) (tE X.K X.mg X.w F true sb) σ H Q := by
  obtain ⟨g, ms, rv, ms', R, e, k⟩ := h
  obtain ⟨x, ms1, y, ms2, z, e1, e2, e3, e4⟩ := hs ms _ e
  cases e4
  refine ⟨g, ms, x, ms1, R, e1, fun g1 v H1 R1 x1 r1 => ⟨g1, ms1, y, ms', R1, e2, fun g2 w H2 R2 x2 r2 => ?_⟩⟩
  refine ⟨g2, ms', σ, x, y, rv, R2, r1.lr.ext R1.hr x2.toExt0, r2.lr, e3, fun v' H' hs' rr => ?_⟩
  exact k g2 v' H' (R2.same hs') ((x1.trans x2).trans (.same hs')) (rr.up.since (x1.trans x2).toExt0)
theorem un_read {b : Bool} {sa sem : MS → Option (RV × MS)} {op : List AO → RV → Option RV} {Q : VK}
    (hs : ∀ ms r, sem ms = some r → ∃ x ms1 z, sa ms = some (x, ms1) ∧ op ms1.hp x = some z ∧ r = (z, ms1))
    (h : tE X.K X.mg X.w F b sem σ H Q) : tE X.K X.mg X.w F true sa σ H fun v H1 => ∃ g ms x z, Rel X.K X.mg X.w F g ms σ H1 ∧ LR X.K g H1 v x ∧ op ms.hp x = some z ∧ ∀ v' H', (∀ a o, H1 a = some o → H' a = some o) → RVR X.K F g H1 H' false v' z → Q v' H' := by
  obtain ⟨g, ms, rv, ms', R, e, k⟩ := h
  obtain ⟨x, ms1, z, e1, e3, e4⟩ := hs ms _ e
  cases e4
  exact ⟨g, ms, x, ms', R, e1, fun g1 v H1 R1 x1 r1 => ⟨g1, ms', x, rv, R1, r1.lr, e3, fun v' H' hs' rr => k g1 v' H' (R1.same hs') (x1.trans (.same hs')) (rr.up.since x1.toExt0)⟩⟩

theorem gl_of {y : Str} (h : isGl X.env.scope y = true) : Gl X y := by
  have h' : X.env.scope.names.lookup y = some .globalImplicit := by simpa [isGl] using h
  exact h'
/-! ### names and written values -/
theorem s_lit {d : PyData} {x : Expr} (h : mLit d x = true) (b : Bool) : PE X x (tE X.K X.mg X.w F b (ev b (.lit d))) := by
  have go : ∀ {t : TE} {v : V}, PE X x t → (∀ H Z, Dz X.K Z H v d) → (∀ σ H (Q : VK), Q v H → t σ H Q) → PE X x (tE X.K X.mg X.w F b (ev b (.lit d))) := fun {t v} p hd hq => PE.imp p fun σ H Q ⟨g, ms, rv, ms', R, e, k⟩ => by
    unfold ev at e
    cases e
    exact hq _ _ _ (k g v H R .refl (.av (.dat (hd _ _))))
  cases d with
  | none =>
    cases x <;> try (cases h; done)
    rename_i c _ _
    cases c <;> try (cases h; done)
    exact go pe_non (fun _ _ => Dz.non) fun _ _ _ q => q
  | bool p =>
    cases x <;> try (cases h; done)
    rename_i c _ _
    cases c <;> try (cases h; done)
    rename_i p'
    have e : p = p' := eq_of_beq h
    subst e
    exact go pe_bl (fun _ _ => .bl _) fun _ _ _ q => q
  | int i =>
    cases x <;> try (cases h; done)
    · rename_i op e _
      cases op <;> try (cases h; done)
      cases e <;> try (cases h; done)
      rename_i c _ _
      cases c <;> try (cases h; done)
      rename_i j
      have e : i = -j := of_decide_eq_true h
      subst e
      exact go (pe_un un_neg pe_int) (fun _ _ => .int _) fun _ _ _ q => ⟨j, rfl, q⟩
    · rename_i c _ _
      cases c <;> try (cases h; done)
      have e := of_decide_eq_true h
      subst e
      exact go pe_int (fun _ _ => .int _) fun _ _ _ q => q
  | str p =>
    cases x <;> try (cases h; done)
    rename_i c _ _
    cases c <;> try (cases h; done)
    have e := of_decide_eq_true h
    subst e
    exact go pe_str (fun _ _ => .str _) fun _ _ _ q => q
  | list _ => cases x <;> cases h
  | tuple _ => cases x <;> cases h
  | dict _ => cases x <;> cases h
theorem s_glob {n y : Str} {d : PyData} {p : Pos} (ok : OkGl X n d) (h : (decide (n = y) && isGl X.env.scope y && !odd y) = true) (b : Bool) : PE X (.Name y p) (tE X.K X.mg X.w F b (ev b (.glob n d))) := by
  simp only [Bool.and_eq_true, decide_eq_true_eq, Bool.not_eq_true'] at h
  obtain ⟨⟨rfl, h2⟩, h3⟩ := h
  obtain ⟨v, u, m, r, hd⟩ := ok
  unfold odd at h3
  simp only [Bool.or_eq_false_iff] at h3
  refine PE.imp (pe_glob (gl_of h2) m r h3.1) fun σ H Q ⟨g, ms, rv, ms', R, e, k⟩ => ?_
  unfold ev at e
  cases e
  exact k g v H R .refl (.av (.dat (hd _ _)))
theorem s_var {i : Nat} {y : Str} {p : Pos} (h : (isNm X.N i y && isVis X.env.scope y && !odd y) = true) (b : Bool) : PE X (.Name y p) (tE X.K X.mg X.w F b (ev b (.var i))) := by
  simp only [Bool.and_eq_true, Bool.not_eq_true', isNm, isVis, decide_eq_true_eq, Bool.or_eq_true] at h
  obtain ⟨⟨h1, h2⟩, h3⟩ := h
  unfold odd at h3
  simp only [Bool.or_eq_false_iff] at h3
  have hv : Vis X.env.scope y := by
    rcases h2 with (h2 | h2) | h2
    · exact .inl h2
    · exact .inr (.inl h2)
    · exact .inr (.inr h2)
  refine PE.imp (pe_var h1 hv h3.1 h3.2) fun σ H Q ⟨g, ms, rv, ms', R, e, k⟩ => ?_
  unfold ev at e
  cases q : ms.rho[i]? with
  | none => rw [q] at e; cases e
  | some s =>
    rw [q] at e
    cases s with
    | emp => cases e
    | av v =>
      cases e
      obtain ⟨x, e1, r⟩ := R.av i v q
      exact ⟨x, e1, k g x H R .refl (.av r)⟩
    | own xs =>
      cases b with
      | true =>
        have e' : some (RV.lst xs, ms) = some (rv, ms') := e
        cases e'
        obtain ⟨a, vs, h1, h2, h3, h4⟩ := R.own i xs q
        obtain ⟨q1, q2, q3, _⟩ := R.oaf i a h1
        exact ⟨.ref a, h2, k g _ H R .refl (.lst h3 h4 q2 q1 q3 (by simp))⟩
      | false =>
        have e' : some (RV.av (.dat (.list xs)), { ms with rho := ms.rho.set i (.av (.dat (.list xs))) }) = some (rv, ms') := e
        cases e'
        obtain ⟨g', a, R', x, h2, h4⟩ := R.freezeOwn q
        exact ⟨.ref a, h2, k g' _ H R' x (.av (.dat h4))⟩
end
end Sv

/-! Sv: the single constructs. -/
namespace Sv
open PySem PySem.Spec PyProof.Rows L2
section
variable {X : Cx} {F : Fr} {g g' : G} {ms ms' : MS} {σ : L2.St} {H H' : Hp}

/-! ### displays -/
theorem s_tup {es : Es} {xs : List Expr} {k : Nat} {p : Pos} (h : PA X xs (tA X.K X.mg X.w F (evs es))) (b : Bool) : PE X (.Tuple xs k p) (tE X.K X.mg X.w F b (ev b (.tup es))) := by
  refine PE.imp (pe_tup h) fun σ H Q ⟨g, ms, rv, ms', R, e, k⟩ => ?_
  unfold ev at e
  cases q : evs es ms with
  | none => rw [q] at e; cases e
  | some r =>
    obtain ⟨vs, ms1⟩ := r
    rw [q] at e
    dsimp only at e
    cases q2 : allD vs with
    | none => rw [q2] at e; cases e
    | some ds =>
      rw [q2] at e
      dsimp only at e
      by_cases c : ds.length ≤ LINE
      · rw [if_pos c] at e
        cases e
        refine ⟨g, ms, vs, ms', R, q, fun g1 ws H1 R1 x1 r1 => ?_⟩
        have dz := r1.dzs q2
        refine ⟨by rw [line_eq, dz.length]; exact c, fun p hp => ?_⟩
        exact k g1 _ _ (R1.new hp) (x1.trans (.same (up_same hp))) ((R1.newtup hp dz).since x1.toExt0)
      · rw [if_neg c] at e
        cases e
theorem s_lst {es : Es} {xs : List Expr} {p : Pos} (h : PA X xs (tA X.K X.mg X.w F (evs es))) (b : Bool) : PE X (.List xs p) (tE X.K X.mg X.w F b (ev b (.lst es))) := by
  refine PE.imp (pe_lst h) fun σ H Q ⟨g, ms, rv, ms', R, e, k⟩ => ?_
  unfold ev at e
  cases q : evs es ms with
  | none => rw [q] at e; cases e
  | some r =>
    obtain ⟨vs, ms1⟩ := r
    rw [q] at e
    dsimp only at e
    cases q2 : allD vs with
    | none => rw [q2] at e; cases e
    | some ds =>
      rw [q2] at e
      dsimp only at e
      by_cases c : ds.length ≤ LINE
      · rw [if_pos c] at e
        cases e
        refine ⟨g, ms, vs, ms', R, q, fun g1 ws H1 R1 x1 r1 => ?_⟩
        have dz := r1.dzs q2
        refine ⟨by rw [line_eq, dz.length]; exact c, fun p hp => ?_⟩
        exact k g1 _ _ (R1.new hp) (x1.trans (.same (up_same hp))) ((R1.newlst hp dz).since x1.toExt0)
      · rw [if_neg c] at e
        cases e

/-! ### the small heap grows -/
theorem Rel.alloc (R : Rel X.K X.mg X.w F g ms σ H) {a : Addr} {o : AO} (h0 : ORel X.K X.mg X.w g H a o) (h2 : a ∉ g.io) (h3 : ¬ g.Z a) (h4 : F.H a = none) (h5 : ∀ i, g.oa i ≠ some a) :
    Rel X.K X.mg X.w F { g with io := g.io ++ [a] } { ms with hp := ms.hp ++ [o] } σ H ∧ True := by
  have hi : ∀ (j : Nat) (b : Addr), g.io[j]? = some b → ({ g with io := g.io ++ [a] } : G).io[j]? = some b := fun j b h => by
    show (g.io ++ [a])[_]? = _
    rw [List.getElem?_append_left (List.getElem?_eq_some_iff.mp h).1]
    exact h
  have av : ∀ {v : V} {x : AV}, AVR X.K g H v x → AVR X.K { g with io := g.io ++ [a] } H v x := fun {v x} h => h.map (g := g) (g' := { g with io := g.io ++ [a] }) (fun _ _ z q => ⟨z, q⟩) (fun _ _ z q => ⟨z, q⟩) (fun _ _ q => q) hi fun _ _ q => q
  have ob : ∀ {b : Addr} {o : AO}, ORel X.K X.mg X.w g H b o → ORel X.K X.mg X.w { g with io := g.io ++ [a] } H b o := fun {b o} h => ORel.map (g := g) (g' := { g with io := g.io ++ [a] }) (fun _ q => q) (fun _ _ q => q) (fun _ _ q => av q) h
  have th : ∃ u, H a = some u := by
    cases h0 with
    | lst h _ => exact ⟨_, h⟩
    | dct h _ _ => exact ⟨_, h⟩
    | ins h _ _ _ => exact ⟨_, h⟩
    | kd h _ => exact ⟨_, h⟩
  refine ⟨⟨⟨by simp [R.hr.hl], ?_, fun j b u hj hu => ?_, fun b hb => ?_, R.hr.zt⟩, R.len, fun i v hi => let ⟨x, q1, q2⟩ := R.av i v hi; ⟨x, q1, av q2⟩, R.own, fun i b hb => ?_, R.inj, ⟨?_, R.fr.z, R.fr.zz, R.fr.keep, R.fr.th⟩⟩, trivial⟩
  · show (g.io ++ [a]).Nodup
    rw [List.nodup_append]
    exact ⟨R.hr.nd, by simp, fun x hx y hy => by simp at hy; subst hy; intro e; subst e; exact h2 hx⟩
  · have hj : (g.io ++ [a])[j]? = some b := hj
    have hu : (ms.hp ++ [o])[j]? = some u := hu
    by_cases c : j < g.io.length
    · rw [List.getElem?_append_left c] at hj
      rw [List.getElem?_append_left (by rw [← R.hr.hl]; exact c)] at hu
      exact ob (R.hr.ho j b u hj hu)
    · rw [List.getElem?_append_right (by omega)] at hj
      rw [List.getElem?_append_right (by rw [← R.hr.hl]; omega)] at hu
      have e : j - g.io.length = 0 := by
        have := (List.getElem?_eq_some_iff.mp hj).1
        simp at this
        omega
      rw [e] at hj
      rw [← R.hr.hl, e] at hu
      simp at hj hu
      subst hj hu
      exact ob h0
  · have hb : b ∈ g.io ++ [a] := hb
    rcases List.mem_append.mp hb with hb | hb
    · exact R.hr.nz b hb
    · simp at hb; subst hb; exact h3
  · obtain ⟨q1, q2, q3, q4⟩ := R.oaf i b hb
    refine ⟨q1, ?_, q3, q4⟩
    show b ∉ g.io ++ [a]
    intro hm
    rcases List.mem_append.mp hm with hm | hm
    · exact q2 hm
    · simp at hm; subst hm; exact h5 i hb
  · obtain ⟨new, e, hn⟩ := R.fr.io
    refine ⟨new ++ [a], ?_, fun b hb => ?_⟩
    · show g.io ++ [a] = _
      rw [e, List.append_assoc]
    · rcases List.mem_append.mp hb with hb | hb
      · exact hn b hb
      · simp at hb; subst hb; exact h4
theorem Ext.grow {H0 : Hp} {a : Addr} (x : Ext g' H0 g H) (h : H0 a = none) : Ext g' H0 { g with io := g.io ++ [a] } H := by
  obtain ⟨n, e, hn⟩ := x.io
  refine ⟨⟨x.keep, x.zz, ⟨n ++ [a], ?_, fun b hb => ?_⟩, x.th⟩, x.zn, x.on⟩
  · show g.io ++ [a] = _
    rw [e, List.append_assoc]
  · rcases List.mem_append.mp hb with hb | hb
    · exact hn b hb
    · simp at hb; subst hb; exact h
theorem s_alloc {e : E} {x : Expr} (h : ∀ b, PE X x (tE X.K X.mg X.w F b (ev b e))) (b : Bool) : PE X x (tE X.K X.mg X.w F b (ev b (.alloc e))) := by
  refine PE.imp (h false) fun σ H Q ⟨g, ms, rv, ms', R, q, k⟩ => ?_
  unfold ev at q
  cases q1 : ev false e ms with
  | none => rw [q1] at q; cases q
  | some r =>
    obtain ⟨v, ms1⟩ := r
    rw [q1] at q
    cases v with
    | av _ => cases q
    | lst xs =>
      cases q
      refine ⟨g, ms, .lst xs, ms1, R, q1, fun g1 v H1 R1 x1 r1 => ?_⟩
      cases r1 with
      | lst p1 p2 p3 p4 p5 p6 =>
        obtain ⟨R2, _⟩ := R1.alloc (.lst p1 (AVRs.of_dzs p2)) p3 p4 p5 (p6 rfl).2
        refine k _ _ H1 R2 (x1.grow (p6 rfl).1) (.av (.ref ?_))
        show (g1.io ++ [_])[ms1.hp.length]? = _
        rw [← R1.hr.hl]
        simp

theorem s_allocL {es : Es} {xs : List Expr} {p : Pos} (h : PA X xs (tA X.K X.mg X.w F (evs es))) (b : Bool) : PE X (.List xs p) (tE X.K X.mg X.w F b (ev b (.allocL es))) := by
  refine PE.imp (pe_lst h) fun σ H Q ⟨g, ms, rv, ms', R, e, k⟩ => ?_
  unfold ev at e
  cases q : evs es ms with
  | none => rw [q] at e; cases e
  | some r =>
    obtain ⟨vs, ms1⟩ := r
    rw [q] at e
    dsimp only at e
    by_cases c : vs.length ≤ LINE
    · rw [if_pos c] at e
      cases e
      refine ⟨g, ms, vs, ms1, R, q, fun g1 ws H1 R1 x1 r1 => ?_⟩
      refine ⟨by rw [line_eq, r1.length]; exact c, fun p hp => ?_⟩
      have f := R1.hr.fresh hp
      obtain ⟨R2, _⟩ := (R1.new (o := .lst ws) hp).alloc (a := p) (o := .lst vs) (.lst upd_same (R1.hr.avrs (.same (up_same hp)) r1)) f.1 f.2 (R1.f0 hp) (R1.oa0 hp)
      have hn : H p = none := by
        cases z : H p with
        | none => rfl
        | some u =>
          obtain ⟨u', z'⟩ := x1.th p u z
          rw [hp] at z'; cases z'
      refine k _ _ _ R2 ((x1.trans (.same (up_same hp))).grow hn) (.av (.ref ?_))
      show (g1.io ++ [_])[ms1.hp.length]? = _
      rw [← R1.hr.hl]
      simp
    · rw [if_neg c] at e
      cases e

/-! ### arguments -/
theorem s_nil : PA X [] (tA X.K X.mg X.w F (evs .nil)) := PA.imp pa_nil fun σ H Q ⟨g, ms, vs, ms', R, e, k⟩ => by
  unfold evs at e
  cases e
  exact k g [] H R .refl .nil
theorem s_cons {e : E} {es : Es} {x : Expr} {xs : List Expr} (hx : isPl x = true) (h1 : ∀ b, PE X x (tE X.K X.mg X.w F b (ev b e))) (h2 : PA X xs (tA X.K X.mg X.w F (evs es))) : PA X (x :: xs) (tA X.K X.mg X.w F (evs (.cons e es))) := by
  refine PA.imp (pa_cons (h1 false) h2 (pl_star hx xs)) fun σ H Q ⟨g, ms, vs, ms', R, q, k⟩ => ?_
  unfold evs at q
  cases q1 : ev false e ms with
  | none => rw [q1] at q; cases q
  | some r =>
    obtain ⟨v, ms1⟩ := r
    rw [q1] at q
    dsimp only at q
    cases q2 : evs es ms1 with
    | none => rw [q2] at q; cases q
    | some r2 =>
      obtain ⟨ws, ms2⟩ := r2
      rw [q2] at q
      cases q
      refine ⟨g, ms, v, ms1, R, q1, fun g1 y H1 R1 x1 r1 => ?_⟩
      obtain ⟨g2, R2, x2, _, r2⟩ := r1.val R1 x1
      refine ⟨g2, ms1, ws, ms', R2, q2, fun g3 ys H3 R3 x3 r3 => ?_⟩
      exact k g3 _ H3 R3 (x2.trans x3) (.cons (R2.hr.avr x3.toExt0 r2) r3)
theorem s_bnil : PA X [] (tBA X.K X.mg X.w F (evB .nil)) := PA.imp pa_nil fun σ H Q ⟨g, ms, vs, ms', R, e, k⟩ => by
  unfold evB at e
  cases e
  exact k g (fun _ => False) [] H R .refl (fun _ z => z.elim) .nil
theorem AVR.zmono {Z' : Addr → Prop} (hz : ∀ a, g.Z a → Z' a) {v : V} {x : AV} (h : AVR X.K g H v x) : AVR X.K { g with Z := Z' } H v x :=
  h.map (g' := { g with Z := Z' }) (fun a _ z q => ⟨hz a z, q⟩) (fun a _ z q => ⟨hz a z, q⟩) (fun _ _ q => q) (fun _ _ q => q) fun _ _ q => q
theorem AVRs.zmono {Z' : Addr → Prop} (hz : ∀ a, g.Z a → Z' a) : ∀ {v : List V} {x : List AV}, AVRs X.K g H v x → AVRs X.K { g with Z := Z' } H v x
  | _, _, .nil => .nil
  | _, _, .cons p q => .cons (p.zmono hz) (AVRs.zmono hz q)
theorem s_bcons {e : E} {es : Es} {x : Expr} {xs : List Expr} (hx : isPl x = true) (h1 : ∀ b, PE X x (tE X.K X.mg X.w F b (ev b e))) (h2 : PA X xs (tBA X.K X.mg X.w F (evB es))) : PA X (x :: xs) (tBA X.K X.mg X.w F (evB (.cons e es))) := by
  refine PA.imp (pa_cons (h1 true) h2 (pl_star hx xs)) fun σ H Q ⟨g, ms, vs, ms', R, q, k⟩ => ?_
  unfold evB at q
  cases q1 : ev true e ms with
  | none => rw [q1] at q; cases q
  | some r =>
    obtain ⟨v, ms1⟩ := r
    rw [q1] at q
    dsimp only at q
    cases q2 : evB es ms1 with
    | none => rw [q2] at q; cases q
    | some r2 =>
      obtain ⟨ws, ms2⟩ := r2
      rw [q2] at q
      cases q
      refine ⟨g, ms, v, ms1, R, q1, fun g1 y H1 R1 x1 r1 => ?_⟩
      refine ⟨g1, ms1, ws, ms', R1, q2, fun g3 B ys H3 R3 x3 hB r3 => ?_⟩
      have r4 := r1.lr.ext R1.hr x3.toExt0
      cases r4 with
      | av r4 => exact k g3 B _ H3 R3 (x1.trans x3) hB (.cons (r4.zmono fun _ z => .inl z) r3)
      | @lst a us zs p1 p2 p3 =>
        refine k g3 (fun b => B b ∨ b = a) _ H3 R3 (x1.trans x3) (fun b z => ?_) (.cons ?_ (r3.zmono fun b z => ?_))
        · rcases z with z | rfl
          · exact hB b z
          · exact ⟨p3, _, p1⟩
        · exact .dat (.lst p1 (.inr (.inr rfl)) (Dzs.mono (fun a xs z e => ⟨.inl z, e⟩) (fun _ _ e => e) _ p2))
        · rcases z with z | z
          · exact .inl z
          · exact .inr (.inl z)

/-! ### calls -/
theorem Rel.back (R : Rel X.K X.mg X.w F g ms σ H) {hp' : List AO} {g2 : G} (h : HRel X.K X.mg X.w g2 hp' H') (e : Ext0 g H g2 H') (z : ∀ a, g2.Z a → g.Z a ∨ H a = none) : Rel X.K X.mg X.w F { g2 with oa := g.oa } { ms with hp := hp' } σ H' := by
  have e' : Ext0 g H { g2 with oa := g.oa } H' := ⟨e.keep, e.zz, e.io, e.th⟩
  have avc : ∀ {v : V} {x : AV}, AVR X.K g2 H' v x → AVR X.K { g2 with oa := g.oa } H' v x := fun {v x} h => h.map (g := g2) (g' := { g2 with oa := g.oa }) (fun _ _ z q => ⟨z, q⟩) (fun _ _ z q => ⟨z, q⟩) (fun _ _ q => q) (fun _ _ q => q) fun _ _ q => q
  obtain ⟨n, en, hn⟩ := e.io
  have nio : ∀ a o, H a = some o → a ∉ g.io → a ∉ g2.io := fun a o ha hi hm => by
    rw [en] at hm
    rcases List.mem_append.mp hm with hm | hm
    · exact hi hm
    · rw [hn a hm] at ha; cases ha
  refine ⟨⟨h.hl, h.nd, fun j a o h1 h2 => ?_, h.nz, h.zt⟩, R.len, fun i v hi => let ⟨x, q1, q2⟩ := R.av i v hi; ⟨x, q1, R.hr.avr e' q2⟩, fun i xs hi => ?_, fun i a hi => ?_, R.inj, ⟨?_, fun a q => ?_, fun a q => e.zz a (R.fr.zz a q), fun a o hi q => ?_, fun a o q => ?_⟩⟩
  · exact ORel.map (g := g2) (g' := { g2 with oa := g.oa }) (fun _ q => q) (fun _ _ q => q) (fun _ _ q => avc q) (h.ho j a o h1 h2)
  · obtain ⟨a, vs, h1, h2, h3, h4⟩ := R.own i xs hi
    exact ⟨a, vs, h1, h2, e.keep a _ (R.oaf i a h1).2.1 h3, R.hr.dzs e' h4⟩
  · obtain ⟨q1, q2, q3, o, q4⟩ := R.oaf i a hi
    refine ⟨fun hz => ?_, nio a _ q4 q2, q3, _, e.keep a _ q2 q4⟩
    rcases z a hz with z | z
    · exact q1 z
    · rw [q4] at z; cases z
  · obtain ⟨m, em, hm⟩ := R.fr.io
    refine ⟨m ++ n, ?_, fun a ha => ?_⟩
    · show g2.io = _
      rw [en, em, List.append_assoc]
    · rcases List.mem_append.mp ha with ha | ha
      · exact hm a ha
      · exact R.f0 (hn a ha)
  · rcases z a q with q | q
    · exact R.fr.z a q
    · exact .inr (R.f0 q)
  · have hH := R.fr.keep a o hi q
    refine e.keep a o (fun hm => ?_) hH
    obtain ⟨m, em, hm'⟩ := R.fr.io
    rw [em] at hm
    rcases List.mem_append.mp hm with hm | hm
    · exact hi hm
    · rw [hm' a hm] at q; cases q
  · obtain ⟨o', q'⟩ := R.fr.th a o q
    exact e.th a o' q'
theorem RVF.rvr {g2 : G} {v : V} {x : RV} (R : Rel X.K X.mg X.w F g ms σ H) (h : RVF X.K g2 H H' v x) : RVR X.K F { g2 with oa := g.oa } H H' false v x := by
  cases h with
  | av h =>
    refine .av ?_
    exact h.map (g := g2) (g' := { g2 with oa := g.oa }) (fun _ _ z q => ⟨z, q⟩) (fun _ _ z q => ⟨z, q⟩) (fun _ _ q => q) (fun _ _ q => q) fun _ _ q => q
  | lst h0 h1 h2 h3 h4 => exact .lst h1 h2 h3 h4 (R.f0 h0) fun _ => ⟨h0, R.oa0 h0⟩
/-- a call's text, its arguments read in whatever way -/
theorem call_text {f : Fn} {y : Str} {xs : List Expr} {p pos : Pos} {t : TA} (ok : OkFn X f) (hy : y = f.name) (hg : isGl X.env.scope y = true) (ho : odd y = false) (hx : ∀ x ∈ xs, isPl x = true) (h : PA X xs t) (h0 : xs = [] → ∀ σ H Q, t σ H Q → Q [] H) :
    PE X (.Call (.Name y p) xs [] pos) (tCall (spF X.K X.mg X.w f.run) [] E0 t) := by
  obtain ⟨k, fa, fd, ps, m, kp, bd, G, hr⟩ := ok
  subst hy
  unfold odd at ho
  simp only [Bool.or_eq_false_iff] at ho
  cases xs with
  | nil =>
    exact PE.imp (pe_call0 (p := p) (pos := pos) G hr (gl_of hg) m kp bd .nil passL ho.1) fun σ H Q q => h0 rfl σ H _ q
  | cons x xs => exact pe_call (p := p) (pos := pos) G hr (gl_of hg) m kp bd .nil passL h ho.1 (pl_star (hx x List.mem_cons_self) xs) (pl_stars (fun y hy => hx y (List.mem_cons_of_mem _ hy)) pos)
theorem nil_args {es : Es} (hm : es = .nil) : ∀ σ H Q, tA X.K X.mg X.w F (evs es) σ H Q → Q [] H := fun σ H Q ⟨g, ms, vs, ms', R, e, k⟩ => by
  subst hm
  unfold evs at e
  cases e
  exact k g [] H R .refl .nil
theorem nil_argsB {es : Es} (hm : es = .nil) : ∀ σ H Q, tBA X.K X.mg X.w F (evB es) σ H Q → Q [] H := fun σ H Q ⟨g, ms, vs, ms', R, e, k⟩ => by
  subst hm
  unfold evB at e
  cases e
  exact k g (fun _ => False) [] H R .refl (fun _ z => z.elim) .nil
theorem s_call {f : Fn} {es : Es} {y : Str} {xs : List Expr} {p pos : Pos} (ok : OkFn X f) (hy : y = f.name) (hg : isGl X.env.scope y = true) (ho : odd y = false) (hx : ∀ x ∈ xs, isPl x = true) (hn : xs = [] → es = .nil) (h : PA X xs (tA X.K X.mg X.w F (evs es))) (b : Bool) :
    PE X (.Call (.Name y p) xs [] pos) (tE X.K X.mg X.w F b (ev b (.call f es))) := by
  refine PE.imp (call_text ok hy hg ho hx h fun z => nil_args (hn z)) fun σ H Q ⟨g, ms, rv, ms', R, q, k⟩ => ?_
  unfold ev at q
  cases q1 : evs es ms with
  | none => rw [q1] at q; cases q
  | some r =>
    obtain ⟨vs, ms1⟩ := r
    rw [q1] at q
    dsimp only at q
    cases q2 : f.run vs ms1.hp with
    | none => rw [q2] at q; cases q
    | some r2 =>
      obtain ⟨v, hp⟩ := r2
      rw [q2] at q
      cases q
      refine ⟨g, ms, vs, ms1, R, q1, fun g1 ws H1 R1 x1 r1 => ?_⟩
      refine ⟨g1, ms1.hp, vs, rv, hp, R1.hr, by simpa using r1, q2, fun g2 v2 H2 h2 x2 z2 r2 => ?_⟩
      have R2 := R1.back h2 x2 z2
      refine k _ v2 H2 R2 (x1.trans ⟨⟨x2.keep, x2.zz, x2.io, x2.th⟩, fun a q => ?_, fun i a q => .inl ⟨i, q⟩⟩) ((r2.rvr R1).up.since x1.toExt0)
      rcases z2 a q with q | q
      · exact .inl q
      · exact .inr (.inl q)

/-- a def run with nothing of the small heap -/
theorem HRel.none (R : HRel X.K X.mg X.w g ms.hp H) (Z : Addr → Prop) (hz : ∀ a, Z a → ∃ o, H a = some o) : HRel X.K X.mg X.w ⟨[], Z, fun _ => .none⟩ [] H := ⟨rfl, List.nodup_nil, fun j a o h _ => by simp at h, fun a h => by simp at h, hz⟩
theorem AVRs.pure {Z : Addr → Prop} : ∀ {ws : List V} {vs : List AV} {ds : List PyData}, AVRs X.K { g with Z := Z } H ws vs → allD vs = some ds → AVRs X.K ⟨[], Z, fun _ => .none⟩ H ws vs
  | _, _, _, .nil, _ => .nil
  | _, _, _, .cons p q, e => by
    cases p with
    | dat p =>
      simp only [allD, Option.map_eq_some_iff] at e
      obtain ⟨ds, e1, rfl⟩ := e
      exact .cons (.dat p) (AVRs.pure q e1)
    | _ => simp [allD] at e
theorem s_callP {f : Fn} {es : Es} {y : Str} {xs : List Expr} {p pos : Pos} (ok : OkFn X f) (hy : y = f.name) (hg : isGl X.env.scope y = true) (ho : odd y = false) (hx : ∀ x ∈ xs, isPl x = true) (hn : xs = [] → es = .nil) (h : PA X xs (tA X.K X.mg X.w F (evs es))) (b : Bool) :
    PE X (.Call (.Name y p) xs [] pos) (tE X.K X.mg X.w F b (ev b (.callP f es))) := by
  refine PE.imp (call_text ok hy hg ho hx h fun z => nil_args (hn z)) fun σ H Q ⟨g, ms, rv, ms', R, q, k⟩ => ?_
  unfold ev at q
  cases q1 : evs es ms with
  | none => rw [q1] at q; cases q
  | some r =>
    obtain ⟨vs, ms1⟩ := r
    rw [q1] at q
    dsimp only at q
    cases q2 : allD vs with
    | none => rw [q2] at q; cases q
    | some ds =>
      rw [q2] at q
      dsimp only at q
      cases q3 : f.run vs [] with
      | none => rw [q3] at q; cases q
      | some r3 =>
        obtain ⟨v, hp⟩ := r3
        rw [q3] at q
        refine ⟨g, ms, vs, ms1, R, q1, fun g1 ws H1 R1 x1 r1 => ?_⟩
        refine ⟨⟨[], g1.Z, fun _ => .none⟩, [], vs, v, hp, R1.hr.none _ R1.hr.zt, by simpa using AVRs.pure r1 q2, q3, fun g2 v2 H2 h2 x2 z2 r2 => ?_⟩
        have keep : ∀ a o, H1 a = some o → H2 a = some o := fun a o q => x2.keep a o (by simp) q
        have e3 : Ext0 g1 H1 ⟨g1.io, g2.Z, g1.oa⟩ H2 := ⟨fun a o _ q => keep a o q, x2.zz, ⟨[], by simp, by simp⟩, fun a o q => ⟨o, keep a o q⟩⟩
        have e4 : Ext g1 H1 ⟨g1.io, g2.Z, g1.oa⟩ H2 := ⟨e3, fun a q => by
          rcases z2 a q with q | q
          · exact .inl q
          · exact .inr (.inl q), fun i a q => .inl ⟨i, q⟩⟩
        have R2 : Rel X.K X.mg X.w F ⟨g1.io, g2.Z, g1.oa⟩ ms1 σ H2 := by
          refine ⟨⟨R1.hr.hl, R1.hr.nd, fun j a o q1 q2 => (R1.hr.ho j a o q1 q2).ext R1.hr e3 (keep a), fun a ha hz => ?_, h2.zt⟩, R1.len, fun i v hi => let ⟨x, p1, p2⟩ := R1.av i v hi; ⟨x, p1, R1.hr.avr e3 p2⟩,
            fun i ys hi => let ⟨a, us, p1, p2, p3, p4⟩ := R1.own i ys hi; ⟨a, us, p1, p2, keep _ _ p3, R1.hr.dzs e3 p4⟩, fun i a hi => ?_, R1.inj, ⟨R1.fr.io, fun a z => ?_, fun a z => x2.zz a (R1.fr.zz a z), fun a o p1 p2 => keep a o (R1.fr.keep a o p1 p2), fun a o p1 => let ⟨o', p2⟩ := R1.fr.th a o p1; ⟨o', keep a o' p2⟩⟩⟩
          · rcases z2 a hz with z | z
            · exact R1.hr.nz a ha z
            · obtain ⟨o, e⟩ := R1.hr.there ha
              rw [e] at z; cases z
          · obtain ⟨p1, p2, p3, o, p4⟩ := R1.oaf i a hi
            refine ⟨fun hz => ?_, p2, p3, o, keep a _ p4⟩
            rcases z2 a hz with z | z
            · exact p1 z
            · rw [p4] at z; cases z
          · rcases z2 a z with z | z
            · exact R1.fr.z a z
            · exact .inr (R1.f0 z)
        cases v with
        | av x =>
          cases x with
          | dat d =>
            cases q
            cases r2 with
            | av r2 =>
              cases r2 with
              | dat r2 => exact k _ v2 H2 R2 (x1.trans e4) (.av (.dat r2))
          | _ => cases q
        | lst ys =>
          cases q
          cases r2 with
          | lst p0 p1 p2 p3 p4 =>
            refine k _ _ H2 R2 (x1.trans e4) (RVR.since x1.toExt0 (.lst p1 p2 ?_ p4 (R1.f0 p0) fun _ => ⟨p0, R1.oa0 p0⟩))
            exact (R1.hr.fresh p0).1
theorem s_callB {f : Fn} {es : Es} {y : Str} {xs : List Expr} {p pos : Pos} (ok : OkFn X f) (hy : y = f.name) (hg : isGl X.env.scope y = true) (ho : odd y = false) (hx : ∀ x ∈ xs, isPl x = true) (hn : xs = [] → es = .nil) (h : PA X xs (tBA X.K X.mg X.w F (evB es))) (b : Bool) :
    PE X (.Call (.Name y p) xs [] pos) (tE X.K X.mg X.w F b (ev b (.callB f es))) := by
  refine PE.imp (call_text ok hy hg ho hx h fun z => nil_argsB (hn z)) fun σ H Q ⟨g, ms, rv, ms', R, q, k⟩ => ?_
  unfold ev at q
  cases q1 : evB es ms with
  | none => rw [q1] at q; cases q
  | some r =>
    obtain ⟨vs, ms1⟩ := r
    rw [q1] at q
    dsimp only at q
    cases q2 : allD vs with
    | none => rw [q2] at q; cases q
    | some ds =>
      rw [q2] at q
      dsimp only at q
      cases q3 : f.run vs [] with
      | none => rw [q3] at q; cases q
      | some r3 =>
        obtain ⟨v, hp⟩ := r3
        rw [q3] at q
        refine ⟨g, ms, vs, ms1, R, q1, fun g1 B ws H1 R1 x1 hB r1 => ?_⟩
        refine ⟨⟨[], fun a => g1.Z a ∨ B a, fun _ => .none⟩, [], vs, v, hp, R1.hr.none _ (fun a z => ?_), by simpa using AVRs.pure r1 q2, q3, fun g2 v2 H2 h2 x2 z2 r2 => ?_⟩
        · rcases z with z | z
          · exact R1.hr.zt a z
          · obtain ⟨_, vs, e⟩ := hB a z; exact ⟨_, e⟩
        have keep : ∀ a o, H1 a = some o → H2 a = some o := fun a o q => x2.keep a o (by simp) q
        have R2 : Rel X.K X.mg X.w F g1 ms1 σ H2 := R1.same keep
        have e3 : Ext g1 H1 g1 H2 := .same keep
        cases v with
        | av x =>
          cases x with
          | dat d =>
            dsimp only at q
            by_cases c : noL d = true
            · rw [if_pos c] at q
              cases q
              cases r2 with
              | av r2 =>
                cases r2 with
                | dat r2 => exact k _ v2 H2 R2 (x1.trans e3) (.av (.dat (r2.noL d c)))
            · rw [if_neg c] at q
              cases q
          | _ => cases q
        | lst ys =>
          dsimp only at q
          by_cases c : noLs ys = true
          · rw [if_pos c] at q
            cases q
            cases r2 with
            | lst p0 p1 p2 p3 p4 =>
              refine k _ _ H2 R2 (x1.trans e3) (RVR.since x1.toExt0 (.lst p1 (p2.noL _ c) (R1.hr.fresh p0).1 (R1.hr.fresh p0).2 (R1.f0 p0) fun _ => ⟨p0, R1.oa0 p0⟩))
          · rw [if_neg c] at q
            cases q
end
end Sv

/-! Sv: places, built-in functions, tests. -/
namespace Sv
open PySem PySem.Spec PyProof.Rows L2
section
variable {X : Cx} {F : Fr} {g g' : G} {ms ms' : MS} {σ : L2.St} {H H' : Hp}
/-! ### a[i] -/
theorem HRel.lst {hp : List AO} (R : HRel X.K X.mg X.w g hp H) {v : V} {j : Nat} {xs : List AV} (h : AVR X.K g H v (.ref j)) (e : hp[j]? = some (.lst xs)) : ∃ a vs, g.io[j]? = some a ∧ v = .ref a ∧ H a = some (.lst vs) ∧ AVRs X.K g H vs xs := by
  cases h with
  | @ref _ a h =>
    have o := R.ho j a _ h e
    cases o with
    | lst p q => exact ⟨a, _, h, rfl, p, q⟩
def subR : List AO → RV → RV → Option RV := fun hp x y => (subV hp x y).map .av
theorem atD_get {α : Type} {xs : List α} {i : Int} {v : α} (h : atD xs i = some v) : ∃ j, ixD xs.length i = some j ∧ xs[j]? = some v := by
  unfold atD at h
  cases e : ixD xs.length i with
  | none => rw [e] at h; cases h
  | some j => rw [e] at h; exact ⟨j, rfl, h⟩
theorem atD_of {α β : Type} {xs : List α} {ys : List β} (hl : xs.length = ys.length) {i : Int} {j : Nat} (h : ixD xs.length i = some j) : atD ys i = ys[j]? := by
  unfold atD
  rw [← hl, h]
theorem ix_sub : IxR X (rV X.K X.mg X.w F subR) := by
  intro value slice pins s σ H v w v' w' Q I rv rw' h hs
  obtain ⟨g, ms, σ', x, y, z, R, lv, lw, e, k⟩ := h
  unfold subR at e
  obtain ⟨a, e1, rfl⟩ := Option.map_eq_some_iff.mp e
  unfold subV at e1
  split at e1
  · rename_i j i
    have ew := lw.int
    subst ew
    split at e1
    · rename_i xs e2
      cases lv with
      | av lv =>
        obtain ⟨b, vs, p1, rfl, p3, p4⟩ := R.hr.lst lv e2
        obtain ⟨n, q1, q2⟩ := atD_get e1
        obtain ⟨u, q3, q4⟩ := p4.get q2
        refine ix_list value slice pins s σ H _ _ v' w' Q I rv rw' ⟨b, vs, i, u, rfl, rfl, SqL.of p3, ?_, k u H (fun _ _ q => q) (.av q4)⟩ hs
        rw [atD_atI, atD_of p4.length.symm q1]
        exact q3
    · cases e1
  · rename_i i _
    have ew := lw.int
    subst ew
    split at e1
    · rename_i xs e2
      obtain ⟨b, vs, rfl, p3, p4⟩ := lv.list e2
      obtain ⟨d, e3, rfl⟩ := Option.map_eq_some_iff.mp e1
      obtain ⟨n, q1, q2⟩ := atD_get e3
      obtain ⟨u, q3, q4⟩ := p4.get q2
      refine ix_list value slice pins s σ H _ _ v' w' Q I rv rw' ⟨b, vs, i, u, rfl, rfl, SqL.of p3, ?_, k u H (fun _ _ q => q) (.av (.dat q4))⟩ hs
      rw [atD_atI, atD_of p4.length.symm q1]
      exact q3
    · rename_i xs e2
      obtain ⟨b, vs, rfl, p3, p4⟩ := lv.tuple e2
      obtain ⟨d, e3, rfl⟩ := Option.map_eq_some_iff.mp e1
      obtain ⟨n, q1, q2⟩ := atD_get e3
      obtain ⟨u, q3, q4⟩ := p4.get q2
      refine ix_tup value slice pins s σ H _ _ v' w' Q I rv rw' ⟨b, vs, i, u, rfl, rfl, p3, ?_, k u H (fun _ _ q => q) (.av (.dat q4))⟩ hs
      rw [atD_atI, atD_of p4.length.symm q1]
      exact q3
    · cases e1
  · cases e1

/-! ### a[lo:hi] -/
def rSlV (K : PySem.W.Frag) (mg : Str → Option Value) (wd : World) (F : Fr) : V → Option Int → Option Int → Hp → VK → Prop := fun v lo hi H Q => ∃ g ms σ x z, Rel K mg wd F g ms σ H ∧ LR K g H v x ∧ sliceV x lo hi = some z ∧
  ∀ v' H', (∀ a o, H a = some o → H' a = some o) → RVR K F g H H' false v' z → Q v' H'
inductive SlC : RV → Option Int → Option Int → RV → Prop
  | scr {ns : List Int} {lo hi : Option Int} : SlC (.av (.scr ns)) lo hi (.lst ((cutD ns lo hi).map .int))
  | str {x : Str} {lo hi : Option Int} : x.length ≤ LINE → SlC (.av (.dat (.str x))) lo hi (.av (.dat (.str ⟨(cutD x.cps.toList lo hi).toArray⟩)))
  | tup {xs : List PyData} {lo hi : Option Int} : SlC (.av (.dat (.tuple xs))) lo hi (.av (.dat (.tuple (cutD xs lo hi))))
  | lst {a : RV} {xs : List PyData} {lo hi : Option Int} : a.d? = some (.list xs) → SlC a lo hi (.lst (cutD xs lo hi))
theorem sl_cases {x z : RV} {lo hi : Option Int} (h : sliceV x lo hi = some z) : SlC x lo hi z := by
  unfold sliceV at h
  split at h
  · cases h; exact .scr
  · split at h
    · rename_i c; cases h; exact .str c
    · cases h
  · cases h; exact .tup
  · split at h
    · rename_i e; cases h; exact .lst e
    · cases h
theorem cutD_map {α β : Type} (f : α → β) (xs : List α) (lo hi : Option Int) : cutD (xs.map f) lo hi = (cutD xs lo hi).map f := by
  unfold cutD
  simp [List.map_take, List.map_drop]
theorem cutD_whole {α : Type} (xs : List α) (lo hi : Option Int) (h1 : clipD xs.length 0 lo = 0) (h2 : clipD xs.length xs.length hi = xs.length) : cutD xs lo hi = xs := by
  unfold cutD
  rw [h1, h2]
  simp
theorem sl_V : SlR X (rSlV X.K X.mg X.w F) := by
  intro pins s σ H v v' vl vu lo hi sl Q I rx hs pl pu h
  obtain ⟨g, ms, σ', x, z, R, lv, e, k⟩ := h
  have C := sl_cases e
  cases C with
  | @scr ns =>
    cases lv with
    | av lv =>
      cases lv with
      | @scr a _ q =>
        refine sl_list pins s σ H _ v' vl vu lo hi sl Q I rx hs pl pu ⟨a, ns.map V.int, rfl, q.sql, fun p hp => ?_⟩
        refine k _ _ (up_same hp) ?_
        rw [cutD_cutV, cutD_map]
        exact R.newlst hp (dzs_ints _)
  | @str y _ _ c =>
    have ev := lv.str
    subst ev
    refine sl_str pins s σ H _ v' vl vu lo hi sl Q I rx hs pl pu ⟨y, rfl, by rw [line_eq]; exact c, ?_⟩
    refine k _ H (fun _ _ q => q) ?_
    have e : cutS y lo hi = ⟨(cutD y.cps.toList lo hi).toArray⟩ := by
      unfold cutS cutD
      have hl : y.length = y.cps.toList.length := by simp [Str.length]
      rw [hl, clipD_sIx _ _ (Nat.zero_le _), clipD_sIx _ _ (Nat.le_refl _)]
    rw [e]
    exact .av (.dat (.str _))
  | @tup xs =>
    obtain ⟨a, vs, rfl, p3, p4⟩ := lv.tup
    refine sl_tupA pins s σ H _ v' vl vu lo hi sl Q I rx hs pl pu ⟨a, vs, rfl, p3, fun w => ?_, fun w p hp => ?_⟩
    · refine k _ H (fun _ _ q => q) ?_
      rw [clipD_sIx _ _ (Nat.zero_le _), clipD_sIx _ _ (Nat.le_refl _), p4.length] at w
      rw [cutD_whole xs lo hi w.1 w.2]
      exact .av (.dat (.tup p3 p4))
    · refine k _ _ (up_same hp) ?_
      rw [cutD_cutV]
      exact R.newtup hp (p4.cut lo hi)
  | lst c =>
    obtain ⟨a, vs, rfl, p3, p4⟩ := lv.list c
    refine sl_list pins s σ H _ v' vl vu lo hi sl Q I rx hs pl pu ⟨a, vs, rfl, SqL.of p3, fun p hp => ?_⟩
    refine k _ _ (up_same hp) ?_
    rw [cutD_cutV]
    exact R.newlst hp (p4.cut lo hi)
theorem s_pnil : PO X none (tP X.K X.mg X.w F (evP .nil)) := PO.imp po_none fun σ H Q ⟨g, ms, o, ms', R, e, k⟩ => by
  unfold evP at e
  cases e
  exact k g H R .refl
theorem s_pone {e : E} {x : Expr} (h : ∀ b, PE X x (tE X.K X.mg X.w F b (ev b e))) : PO X (some x) (tP X.K X.mg X.w F (evP (.cons e .nil))) := PO.imp (po_some (h true)) fun σ H Q ⟨g, ms, o, ms', R, q, k⟩ => by
  unfold evP at q
  split at q
  · rename_i i ms1 q1
    cases q
    exact ⟨g, ms, _, ms', R, q1, fun g1 v H1 R1 x1 r1 => ⟨i, r1.lr.int, k g1 H1 R1 x1⟩⟩
  · cases q
theorem s_slice {a : E} {lo hi : Es} {x : Expr} {l h : Option Expr} {p2 pos : Pos} (h1 : ∀ b, PE X x (tE X.K X.mg X.w F b (ev b a))) (h2 : PO X l (tP X.K X.mg X.w F (evP lo))) (h3 : PO X h (tP X.K X.mg X.w F (evP hi))) (b : Bool) :
    PE X (.Subscript x (.Slice l h none p2) pos) (tE X.K X.mg X.w F b (ev b (.slice a lo hi))) := by
  refine PE.imp (pe_slice (sl_V (F := F)) (h1 true) h2 h3) fun σ H Q ⟨g, ms, rv, ms', R, q, k⟩ => ?_
  unfold ev at q
  cases q1 : ev true a ms with
  | none => rw [q1] at q; cases q
  | some r1 =>
    obtain ⟨u, ms1⟩ := r1
    rw [q1] at q
    dsimp only at q
    cases q2 : evP lo ms1 with
    | none => rw [q2] at q; cases q
    | some r2 =>
      obtain ⟨l, ms2⟩ := r2
      rw [q2] at q
      dsimp only at q
      cases q3 : evP hi ms2 with
      | none => rw [q3] at q; cases q
      | some r3 =>
        obtain ⟨h, ms3⟩ := r3
        rw [q3] at q
        dsimp only at q
        obtain ⟨z, q4, q5⟩ := Option.map_eq_some_iff.mp q
        cases q5
        refine ⟨g, ms, u, ms1, R, q1, fun g1 v H1 R1 x1 t1 => ⟨g1, ms1, l, ms2, R1, q2, fun g2 H2 R2 x2 => ⟨g2, ms2, h, ms', R2, q3, fun g3 H3 R3 x3 => ?_⟩⟩⟩
        refine ⟨g3, ms', σ, u, rv, R3, (t1.lr.ext R1.hr x2.toExt0).ext R2.hr x3.toExt0, q4, fun v' H' hs rr => ?_⟩
        have xx := (x1.trans x2).trans x3
        exact k g3 v' H' (R3.same hs) (xx.trans (.same hs)) (rr.up.since xx.toExt0)

/-! ### the built-in functions -/
def rB1 (K : PySem.W.Frag) (mg : Str → Option Value) (wd : World) (F : Fr) (f : B1) : List V → Hp → VK → Prop := fun vs H Q => ∃ v g ms σ x z, vs = [v] ∧ Rel K mg wd F g ms σ H ∧ LR K g H v x ∧ b1V ms.hp f x = some z ∧
  ∀ v' H', (∀ a o, H a = some o → H' a = some o) → RVR K F g H H' false v' z → Q v' H'
def b1v : B1 → Value
  | .len => .builtin "len"
  | .int => .type "int"
  | .abs => .builtin "abs"
  | .sum => .builtin "sum"
  | .tuple => .type "tuple"
  | .list => .type "list"
  | .all => .builtin "all"
theorem call_b1 (hc : X.calm = true) (f : B1) : CallR X (b1v f) (rB1 X.K X.mg X.w F f) := by
  intro pins s σ H vs us Q I r h
  obtain ⟨v, g, ms, σ', x, z, rfl, R, lv, e, k⟩ := h
  unfold b1V at e
  cases f with
  | len =>
    have e : lenV ms.hp x = some z := e
    unfold lenV at e
    split at e
    · split at e
      · rename_i xs e2
        cases e
        cases lv with
        | av lv =>
          obtain ⟨b, ws, p1, rfl, p3, p4⟩ := R.hr.lst lv e2
          exact call_len_seq pins s σ H _ us Q I r ⟨b, ws, rfl, .inl (SqL.of p3), by rw [p4.length]; exact k _ H (fun _ _ q => q) (rvr_int _)⟩
      · cases e
    · split at e
      · rename_i xs e2
        cases e
        obtain ⟨b, ws, rfl, p3, p4⟩ := lv.list e2
        exact call_len_seq pins s σ H _ us Q I r ⟨b, ws, rfl, .inl (SqL.of p3), by rw [p4.length]; exact k _ H (fun _ _ q => q) (rvr_int _)⟩
      · rename_i xs e2
        cases e
        obtain ⟨b, ws, rfl, p3, p4⟩ := lv.tuple e2
        exact call_len_seq pins s σ H _ us Q I r ⟨b, ws, rfl, .inr p3, by rw [p4.length]; exact k _ H (fun _ _ q => q) (rvr_int _)⟩
      · cases e
  | int =>
    have e : toInt x = some z := e
    unfold toInt at e
    split at e
    · cases e
      have ev := lv.int
      subst ev
      exact call_int1 pins s σ H _ us Q I r (.inl ⟨_, rfl, k _ H (fun _ _ q => q) (rvr_int _)⟩)
    · cases e
      have ev := lv.bl
      subst ev
      exact call_int1 pins s σ H _ us Q I r (.inr ⟨_, rfl, k _ H (fun _ _ q => q) (rvr_int _)⟩)
    · cases e
  | abs =>
    have e : absV x = some z := e
    unfold absV at e
    split at e
    · cases e
      have ev := lv.int
      subst ev
      exact call_abs pins s σ H _ us Q I r ⟨_, rfl, k _ H (fun _ _ q => q) (rvr_int _)⟩
    · cases e
  | sum =>
    dsimp only at e
    split at e
    · rename_i xs e2
      obtain ⟨ns, e3, rfl⟩ := Option.map_eq_some_iff.mp e
      obtain ⟨b, ws, rfl, p3, p4⟩ := lv.list e2
      have e4 := p4.int_of e3
      subst e4
      exact cr_sum hc pins s σ H _ us Q I r ⟨b, ns, rfl, SqL.of p3, k _ H (fun _ _ q => q) (rvr_int _)⟩
    · cases e
  | tuple =>
    dsimp only at e
    split at e
    · rename_i xs e2
      cases e
      obtain ⟨b, ws, rfl, p3, p4⟩ := lv.list e2
      exact call_tuple_of pins s σ H _ us Q I r ⟨b, ws, rfl, .inl ⟨SqL.of p3, fun p hp => k _ _ (up_same hp) (R.newtup hp p4)⟩⟩
    · rename_i xs e2
      cases e
      obtain ⟨b, ws, rfl, p3, p4⟩ := lv.tuple e2
      exact call_tuple_of pins s σ H _ us Q I r ⟨b, ws, rfl, .inr ⟨p3, k _ H (fun _ _ q => q) (.av (.dat (.tup p3 p4)))⟩⟩
    · cases e
  | list =>
    dsimp only at e
    split at e
    · rename_i xs e2
      cases e
      obtain ⟨b, ws, rfl, p3, p4⟩ := lv.list e2
      exact call_list_of pins s σ H _ us Q I r ⟨b, ws, rfl, .inl (SqL.of p3), fun p hp => k _ _ (up_same hp) (R.newlst hp p4)⟩
    · rename_i xs e2
      cases e
      obtain ⟨b, ws, rfl, p3, p4⟩ := lv.tuple e2
      exact call_list_of pins s σ H _ us Q I r ⟨b, ws, rfl, .inr p3, fun p hp => k _ _ (up_same hp) (R.newlst hp p4)⟩
    · cases e
  | all =>
    dsimp only at e
    split at e
    · rename_i xs e2
      obtain ⟨ns, e3, rfl⟩ := Option.map_eq_some_iff.mp e
      obtain ⟨b, ws, rfl, p3, p4⟩ := lv.list e2
      have e4 := p4.bl_of e3
      subst e4
      exact cr_all hc pins s σ H _ us Q I r ⟨b, ns, rfl, SqL.of p3, k _ H (fun _ _ q => q) (rvr_bl _)⟩
    · cases e
end
end Sv

/-! Sv: isinstance, ranges, truth. -/
namespace Sv
open PySem PySem.Spec PyProof.Rows L2
section
variable {X : Cx} {F : Fr} {g g' : G} {ms ms' : MS} {σ : L2.St} {H H' : Hp}
def tyN : PyData → String
  | .none => "NoneType"
  | .bool _ => "bool"
  | .int _ => "int"
  | .str _ => "str"
  | .list _ => "list"
  | .tuple _ => "tuple"
  | .dict _ => "dict"
theorem LR.ty {v : V} {x : RV} {d : PyData} (h : LR X.K g H v x) (e : x.d? = some d) : TyX X.K H v (.type (tyN d)) := by
  have tup : ∀ {a : Addr} {vs : List V}, SqT X.K H a vs → TyX X.K H (.ref a) (.type "tuple") := fun {a vs} q => by
    rcases q with (q | ⟨o, q⟩) | ⟨o, its, n, q, c, _⟩
    · exact .base (.tup q)
    · exact .fTuple q
    · exact .kTuple q c
  cases h with
  | av h =>
    cases h with
    | dat h =>
      simp [RV.d?] at e
      subst e
      cases h with
      | non => exact .base .non
      | bl _ => exact .base (.bl _)
      | int _ => exact .base (.int _)
      | str _ => exact .base (.str _)
      | lst q _ _ => exact .base (.lst q)
      | tup q _ => exact tup q
    | _ => simp [RV.d?] at e
  | lst q _ _ =>
    simp [RV.d?] at e
    subst e
    exact .base (.lst q)
theorem isi_fin {b : Bool} {sem : MS → Option (RV × MS)} {a : E} {t : Str} {T : String} {x : Expr} {y z : Str} {p pz pos : Pos} (hsem : sem = ev b (.isi a t)) (hy : y = sIsi) (hg : isGl X.env.scope y = true) (hgz : isGl X.env.scope z = true) (ok : OkX X)
    (hx : isPl x = true) (h : ∀ b, PE X x (tE X.K X.mg X.w F b (ev b a))) (hz : X.mg z = none) (hv : bootBuiltins z = some (.type T)) (hn : z ≠ "__name__") (hd : (z == ("__debug__" : Str)) = false)
    (hk : ∀ d b, isiV (.av (.dat d)) t = some b → kitB (tyN d) T = some b) : PE X (.Call (.Name y p) [x, .Name z pz] [] pos) (tE X.K X.mg X.w F b sem) := by
  subst hsem hy
  refine PE.imp (pe_callB (X := X) (p := p) (pos := pos) call_isi (gl_of hg) (ok.free sIsi (by decide)) (by decide +kernel) (pa_cons (h true) (pa_cons (pe_bltn (X := X) (v := .ty T) (pos := pz) (gl_of hgz) hz hv rfl hn hd) pa_nil) (pl_star hx _)) (by decide +kernel) (by decide +kernel) (pl_star hx _) rfl) fun σ H Q q => ?_
  have q2 := un_read (sa := ev true a) (op := fun _ x => (isiV x t).map blV) (fun ms r q => by
    unfold ev at q
    cases q1 : ev true a ms with
    | none => rw [q1] at q; cases q
    | some r1 =>
      obtain ⟨u, ms1⟩ := r1
      rw [q1] at q
      dsimp only at q
      obtain ⟨c, q4, q5⟩ := Option.map_eq_some_iff.mp q
      exact ⟨u, ms1, blV c, rfl, by rw [q4]; rfl, q5.symm⟩) q
  obtain ⟨g, ms, rv, ms', R, e, k⟩ := q2
  refine ⟨g, ms, rv, ms', R, e, fun g1 v H1 R1 x1 r1 => ?_⟩
  obtain ⟨g2, ms2, u, z, R2, l2, e2, k2⟩ := k g1 v H1 R1 x1 r1
  obtain ⟨c, e3, rfl⟩ := Option.map_eq_some_iff.mp e2
  cases hd' : u.d? with
  | none => unfold isiV at e3; rw [hd'] at e3; cases e3
  | some d =>
    have e4 : isiV (.av (.dat d)) t = some c := by
      unfold isiV at e3 ⊢
      rw [hd'] at e3
      exact e3
    exact ⟨v, .ty T, _, _, c, rfl, .ty T, l2.ty hd', kit_ty (hk d c e4), k2 _ H1 (fun _ _ q => q) (rvr_bl _)⟩
theorem kit_tab : ∀ T ∈ ["int", "bool", "list", "tuple", "str"], ∀ S ∈ ["NoneType", "bool", "int", "str", "list", "tuple", "dict"], kitB S T = some ((S == T) || ((T == "int") && (S == "bool"))) := by decide +kernel
theorem tyD_mem (d : PyData) : tyN d ∈ ["NoneType", "bool", "int", "str", "list", "tuple", "dict"] := by cases d <;> simp [tyN]
theorem isi_ans {t : Str} {T : String} (hT : T ∈ ["int", "bool", "list", "tuple", "str"]) (h : ∀ d : PyData, (decide (tyD d = t) || (decide (t = sInt) && decide (tyD d = sBool))) = ((tyN d == T) || ((T == "int") && (tyN d == "bool")))) (d : PyData) (b : Bool) (e : isiV (.av (.dat d)) t = some b) : kitB (tyN d) T = some b := by
  rw [kit_tab T hT _ (tyD_mem d), ← h d]
  unfold isiV at e
  simp only [RV.d?] at e
  split at e
  · exact e
  · cases e
theorem s_isi {a : E} {t : Str} {x : Expr} {y z : Str} {p pz pos : Pos} (hy : y = sIsi) (hg : isGl X.env.scope y = true) (hgz : isGl X.env.scope z = true) (ok : OkX X) (htz : t = z)
    (hx : isPl x = true) (h : ∀ b, PE X x (tE X.K X.mg X.w F b (ev b a))) (b : Bool) : PE X (.Call (.Name y p) [x, .Name z pz] [] pos) (tE X.K X.mg X.w F b (ev b (.isi a t))) := by
  subst htz
  by_cases ht : t = sInt ∨ t = sBool ∨ t = sList ∨ t = sTuple ∨ t = sStr
  · rcases ht with rfl | rfl | rfl | rfl | rfl
    · exact isi_fin (T := "int") rfl hy hg hgz ok hx h (ok.free sInt (by decide)) (by decide +kernel) (by decide) (by decide) (isi_ans (by decide) fun d => by cases d <;> rfl)
    · exact isi_fin (T := "bool") rfl hy hg hgz ok hx h (ok.free sBool (by decide)) (by decide +kernel) (by decide) (by decide) (isi_ans (by decide) fun d => by cases d <;> rfl)
    · exact isi_fin (T := "list") rfl hy hg hgz ok hx h (ok.free sList (by decide)) (by decide +kernel) (by decide) (by decide) (isi_ans (by decide) fun d => by cases d <;> rfl)
    · exact isi_fin (T := "tuple") rfl hy hg hgz ok hx h (ok.free sTuple (by decide)) (by decide +kernel) (by decide) (by decide) (isi_ans (by decide) fun d => by cases d <;> rfl)
    · exact isi_fin (T := "str") rfl hy hg hgz ok hx h (ok.free sStr (by decide)) (by decide +kernel) (by decide) (by decide) (isi_ans (by decide) fun d => by cases d <;> rfl)
  · -- another class: the small interpreter says nothing
    have nv : ∀ x, isiV x t = none := fun x => by
      unfold isiV
      split
      · rw [if_neg ht]
      · rfl
    refine PE.imp (t := fun _ _ _ => False) ⟨fun _ _ _ _ _ _ q => q.elim⟩ fun σ H Q ⟨g, ms, rv, ms', R, q, k⟩ => ?_
    unfold ev at q
    split at q
    · rw [nv] at q; cases q
    · cases q
theorem s_b1 {f : B1} {a : E} {x : Expr} {y : Str} {p pos : Pos} (hy : y = b1n f) (hg : isGl X.env.scope y = true) (ok : OkX X) (hx : isPl x = true) (h : ∀ b, PE X x (tE X.K X.mg X.w F b (ev b a))) (b : Bool) :
    PE X (.Call (.Name y p) [x] [] pos) (tE X.K X.mg X.w F b (ev b (.b1 f a))) := by
  have red : ∀ σ H Q, tE X.K X.mg X.w F b (ev b (.b1 f a)) σ H Q → tCB (rB1 X.K X.mg X.w F f) (tCons (tE X.K X.mg X.w F true (ev true a)) tNil) σ H Q := fun σ H Q q => by
    have q2 := un_read (sa := ev true a) (op := fun hp x => b1V hp f x) (fun ms r q => by
      unfold ev at q
      cases q1 : ev true a ms with
      | none => rw [q1] at q; cases q
      | some r1 =>
        obtain ⟨u, ms1⟩ := r1
        rw [q1] at q
        dsimp only at q
        obtain ⟨c, q4, q5⟩ := Option.map_eq_some_iff.mp q
        exact ⟨u, ms1, c, rfl, q4, q5.symm⟩) q
    obtain ⟨g, ms, rv, ms', R, e, k⟩ := q2
    refine ⟨g, ms, rv, ms', R, e, fun g1 v H1 R1 x1 r1 => ?_⟩
    obtain ⟨g2, ms2, u, z, R2, l2, e2, k2⟩ := k g1 v H1 R1 x1 r1
    exact ⟨v, g2, ms2, σ, u, z, rfl, R2, l2, e2, k2⟩
  subst hy
  cases f with
  | len => exact PE.imp (pe_callB (X := X) (call_b1 ok.calm .len) (gl_of hg) (ok.free sLen (by decide)) (by decide +kernel) (pa_cons (h true) pa_nil (pl_star hx _)) (by decide +kernel) (by decide +kernel) (pl_star hx _) rfl) red
  | int => exact PE.imp (pe_callTy (X := X) (call_b1 ok.calm .int) (gl_of hg) (ok.free sInt (by decide)) (by decide +kernel) (pa_cons (h true) pa_nil (pl_star hx _)) (by decide +kernel) (by decide +kernel) (pl_star hx _) rfl) red
  | abs => exact PE.imp (pe_callB (X := X) (call_b1 ok.calm .abs) (gl_of hg) (ok.free sAbs (by decide)) (by decide +kernel) (pa_cons (h true) pa_nil (pl_star hx _)) (by decide +kernel) (by decide +kernel) (pl_star hx _) rfl) red
  | sum => exact PE.imp (pe_callB (X := X) (call_b1 ok.calm .sum) (gl_of hg) (ok.free sSum (by decide)) (by decide +kernel) (pa_cons (h true) pa_nil (pl_star hx _)) (by decide +kernel) (by decide +kernel) (pl_star hx _) rfl) red
  | tuple => exact PE.imp (pe_callTy (X := X) (call_b1 ok.calm .tuple) (gl_of hg) (ok.free sTuple (by decide)) (by decide +kernel) (pa_cons (h true) pa_nil (pl_star hx _)) (by decide +kernel) (by decide +kernel) (pl_star hx _) rfl) red
  | list => exact PE.imp (pe_callTy (X := X) (call_b1 ok.calm .list) (gl_of hg) (ok.free sList (by decide)) (by decide +kernel) (pa_cons (h true) pa_nil (pl_star hx _)) (by decide +kernel) (by decide +kernel) (pl_star hx _) rfl) red
  | all => exact PE.imp (pe_callB (X := X) (call_b1 ok.calm .all) (gl_of hg) (ok.free sAll (by decide)) (by decide +kernel) (pa_cons (h true) pa_nil (pl_star hx _)) (by decide +kernel) (by decide +kernel) (pl_star hx _) rfl) red

/-! ### x in range(n), x is None, truth -/
theorem s_inrange {neg : Bool} {a n : E} {x y : Expr} {o : CmpOp} {r : Str} {p pos cpos : Pos} (ho : mIn neg o = true) (hr : r = sRange) (hg : isGl X.env.scope r = true) (ok : OkX X) (hx : isPl x = true) (hy : isPl y = true)
    (h1 : ∀ b, PE X x (tE X.K X.mg X.w F b (ev b a))) (h2 : ∀ b, PE X y (tE X.K X.mg X.w F b (ev b n))) : Sd X F (.inrange neg a n) (.Compare x [o] [.Call (.Name r p) [y] [] cpos] pos) := by
  subst hr
  have pr := pe_callTy (X := X) (p := p) (pos := cpos) (cr_range1 (X := X)) (gl_of hg) (ok.free sRange (by decide)) (by decide +kernel) (pa_cons (h2 true) pa_nil (pl_star hy _)) (by decide +kernel) (by decide +kernel) (pl_star hy _) rfl
  have red : ∀ (rr : R2), (∀ i k a H (Q : VK), H a = some (.rng 0 k) → Q (.bl (if neg then !decide (0 ≤ i ∧ i < k) else decide (0 ≤ i ∧ i < k))) H → rr (.int i) (.ref a) H Q) → ∀ b σ H Q, tE X.K X.mg X.w F b (ev b (.inrange neg a n)) σ H Q →
      tOp rr (tE X.K X.mg X.w F true (ev true a)) (tCB (fun vs H Q => ∃ i, vs = [V.int i] ∧ ∀ p, H p = none → Q (.ref p) (upd H p (.rng 0 i))) (tCons (tE X.K X.mg X.w F true (ev true n)) tNil)) σ H Q := fun rr hr b σ H Q ⟨g, ms, rv, ms', R, q, k⟩ => by
    unfold ev at q
    split at q
    · rename_i i ms1 q1
      split at q
      · rename_i m ms2 q2
        split at q
        · rename_i c
          cases q
          refine ⟨g, ms, _, ms1, R, q1, fun g1 v H1 R1 x1 r1 => ⟨g1, ms1, _, ms', R1, q2, fun g2 w H2 R2 x2 r2 => ?_⟩⟩
          have e1 := r1.lr.int
          have e2 := r2.lr.int
          subst e1 e2
          refine ⟨m, rfl, fun p hp => hr _ _ _ _ _ upd_same ?_⟩
          exact k g2 _ _ (R2.new hp) ((x1.trans x2).trans (.same (up_same hp))) (rvr_bl _)
        · cases q
      · cases q
    · cases q
  cases neg with
  | false =>
    cases o <;> simp [mIn] at ho
    have rd := red (fun x y H Q => ∃ i a lo hi, x = V.int i ∧ y = V.ref a ∧ H a = some (.rng lo hi) ∧ Q (.bl (decide (lo ≤ i ∧ i < hi))) H) fun i k a H Q h q => ⟨i, a, 0, k, rfl, rfl, h, q⟩
    exact ⟨fun b => PE.imp (pe_cmpR op_in_rng (h1 true) pr rfl) (rd b), fun _ => PT.imp (pt_cmpR op_in_rng (h1 true) pr rfl) fun σ H Q q => rd true σ H _ (tT_of q), fun _ _ _ z => by cases z⟩
  | true =>
    cases o <;> simp [mIn] at ho
    have rd := red (fun x y H Q => ∃ i a lo hi, x = V.int i ∧ y = V.ref a ∧ H a = some (.rng lo hi) ∧ Q (.bl (!decide (lo ≤ i ∧ i < hi))) H) fun i k a H Q h q => ⟨i, a, 0, k, rfl, rfl, h, q⟩
    exact ⟨fun b => PE.imp (pe_cmpR op_notin_rng (h1 true) pr rfl) (rd b), fun _ => PT.imp (pt_cmpR op_notin_rng (h1 true) pr rfl) fun σ H Q q => rd true σ H _ (tT_of q), fun _ _ _ z => by cases z⟩
theorem s_isnone {neg : Bool} {a : E} {x : Expr} {o : CmpOp} {j : Nat} {p pos : Pos} (ho : mIs neg o = true) (h : ∀ b, PE X x (tE X.K X.mg X.w F b (ev b a))) : Sd X F (.isnone neg a) (.Compare x [o] [.Constant .none j p] pos) := by
  have red : ∀ b σ H Q, tE X.K X.mg X.w F b (ev b (.isnone neg a)) σ H Q → tE X.K X.mg X.w F true (ev true a) σ H fun v H1 => Q (.bl (if neg then !decide (v = .non) else decide (v = .non))) H1 := fun b σ H Q ⟨g, ms, rv, ms', R, q, k⟩ => by
    unfold ev at q
    split at q
    · rename_i ms1 q1
      cases q
      refine ⟨g, ms, _, ms', R, q1, fun g1 v H1 R1 x1 r1 => ?_⟩
      have r2 := r1.lr
      cases r2 with
      | av r2 => cases r2 with
        | dat r2 =>
          cases r2
          have q := k g1 (.bl (!neg)) H1 R1 x1 (rvr_bl _)
          cases neg <;> simpa using q
    · rename_i d ms1 hd q1
      cases q
      refine ⟨g, ms, _, ms', R, q1, fun g1 v H1 R1 x1 r1 => ?_⟩
      have hv : v ≠ .non := by
        rintro rfl
        have r2 := r1.lr
        cases r2 with
        | av r2 => cases r2 with
          | dat r2 => cases r2; exact hd rfl
      have q := k g1 (.bl neg) H1 R1 x1 (rvr_bl _)
      cases neg <;> simpa [hv] using q
    · rename_i xs ms1 q1
      cases q
      refine ⟨g, ms, _, ms', R, q1, fun g1 v H1 R1 x1 r1 => ?_⟩
      have hv : v ≠ .non := by
        rintro rfl
        have r2 := r1.lr
        cases r2
      have q := k g1 (.bl neg) H1 R1 x1 (rvr_bl _)
      cases neg <;> simpa [hv] using q
    · cases q
  cases neg with
  | false =>
    cases o <;> simp [mIs] at ho
    have rd : ∀ b σ H Q, tE X.K X.mg X.w F b (ev b (.isnone false a)) σ H Q → tOp (fun x y H Q => y = .non ∧ Q (.bl (decide (x = .non))) H) (tE X.K X.mg X.w F true (ev true a)) (tC .non) σ H Q := fun b σ H Q q => by
      obtain ⟨g, ms, rv, ms', R, e, k⟩ := red b σ H Q q
      exact ⟨g, ms, rv, ms', R, e, fun g1 v H1 R1 x1 r1 => ⟨rfl, k g1 v H1 R1 x1 r1⟩⟩
    exact ⟨fun b => PE.imp (pe_cmpR op_isN (h true) pe_non (nomark _)) (rd b), fun _ => PT.imp (pt_cmpR op_isN (h true) pe_non (nomark _)) fun σ H Q q => rd true σ H _ (tT_of q), fun _ _ _ z => by cases z⟩
  | true =>
    cases o <;> simp [mIs] at ho
    have rd : ∀ b σ H Q, tE X.K X.mg X.w F b (ev b (.isnone true a)) σ H Q → tOp (fun x y H Q => y = .non ∧ Q (.bl (!decide (x = .non))) H) (tE X.K X.mg X.w F true (ev true a)) (tC .non) σ H Q := fun b σ H Q q => by
      obtain ⟨g, ms, rv, ms', R, e, k⟩ := red b σ H Q q
      exact ⟨g, ms, rv, ms', R, e, fun g1 v H1 R1 x1 r1 => ⟨rfl, k g1 v H1 R1 x1 r1⟩⟩
    exact ⟨fun b => PE.imp (pe_cmpR op_notN (h true) pe_non (nomark _)) (rd b), fun _ => PT.imp (pt_cmpR op_notN (h true) pe_non (nomark _)) fun σ H Q q => rd true σ H _ (tT_of q), fun _ _ _ z => by cases z⟩
end
end Sv

/-! Sv: targets, walks, comprehensions. -/
namespace Sv
open PySem PySem.Spec PyProof.Rows L2
section
variable {X : Cx} {F : Fr} {g g' : G} {ms ms' : MS} {σ σ' : L2.St} {H H' : Hp}
/-! ### targets -/
def tgG (K : PySem.W.Frag) (mg : Str → Option Value) (w : World) (F : Fr) (tg : List Nat) : TG := fun v σ H Q => ∃ g ms d rho, Rel K mg w F g ms σ H ∧ Dz K g.Z H v d ∧ bindT tg d ms.rho = some rho ∧
  ∀ g' σ', Rel K mg w F g' { ms with rho := rho } σ' H → Ext g H g' H → (∀ vs : List Nat, (∀ i ∈ tg, i ∈ vs) → wipe σ' vs = wipe σ vs) → Q σ' H
theorem wipe_set {σ : L2.St} {i : Nat} {x : Option V} : ∀ {vs : List Nat}, i ∈ vs → wipe (σ.set i x) vs = wipe σ vs
  | [], h => by cases h
  | v :: vs, h => by
    unfold wipe
    by_cases hi : i ∈ vs
    · rw [wipe_set hi]
    · have e : i = v := by
        rcases List.mem_cons.mp h with e | e
        · exact e
        · exact absurd e hi
      subst e
      have comm : ∀ (ws : List Nat), i ∉ ws → wipe (σ.set i x) ws = (wipe σ ws).set i x := fun ws => by
        induction ws with
        | nil => intro _; rfl
        | cons w ws ih =>
          intro hw
          unfold wipe
          rw [ih (fun z => hw (List.mem_cons_of_mem _ z)), List.set_comm]
          exact fun z => hw (by rw [z]; exact List.mem_cons_self)
      rw [comm vs hi, List.set_set]
theorem Ext.av_slot {i : Nat} : Ext g H { g with oa := fun j => if j = i then none else g.oa j } H := ⟨⟨fun _ _ _ h => h, fun _ h => h, ⟨[], by simp, by simp⟩, fun _ o h => ⟨o, h⟩⟩, fun _ h => .inl h, fun j a h => by
  by_cases hji : j = i
  · simp [hji] at h
  · simp [hji] at h; exact .inl ⟨j, h⟩⟩
/-- the names that may be stored, by a scope sc -/
def Stores (X : Cx) (sc : Scope) : Prop := ∀ y, isLoc sc y = true → Loc X.env.scope y ∧ (X.fn y = true ∨ X.env.scope.names.lookup y = some .local)
theorem stores_blk {s : Shared} {s2 : Scope} {cl : List (Str × Addr)} {C : Addr} {fp : List Addr} : Stores (X.blk s H s2 (compEnvC s2 cl C X.env) fp) s2 := fun y h => by
  simp only [isLoc, Bool.or_eq_true, decide_eq_true_eq] at h
  rcases h with h | h
  · have q : (relS s2 X.env.scope).names.lookup y = some .local := lookup_relS_keep (by decide) h
    exact ⟨.inl q, .inr q⟩
  · have q : (relS s2 X.env.scope).names.lookup y = some .cell := lookup_relS_keep (by decide) h
    refine ⟨.inr q, .inl ?_⟩
    show (s2.names.lookup y == some .cell) = true
    rw [h]
    rfl
theorem s_tgName (ok : OkX X) {sc : Scope} (st : Stores X sc) {i : Nat} {y : Str} {p : Pos} (hn : isNm X.N i y = true) (hl : isLoc sc y = true) : PG X (.Name y p) (gName i) :=
  pg_name ok.nd (of_decide_eq_true hn) (st y hl).1 (st y hl).2
def gsN : List Nat → TGs
  | [] => gNil
  | i :: is => gCons (gName i) (gsN is)
theorem s_tgNames (ok : OkX X) {sc : Scope} (st : Stores X sc) : ∀ {is : List Nat} {es : List Expr}, mTg.mTgs X.N sc is es = true → PGs X es (gsN is) ∧ (assignEach es X.env).length = is.length ∧ (assignEach es X.env).findIdx? (·.1) = none
  | [], [], _ => ⟨pgs_nil, rfl, rfl⟩
  | [], _ :: _, h => by simp [mTg.mTgs] at h
  | i :: is, [], h => by simp [mTg.mTgs] at h
  | i :: is, e :: es, h => by
    cases e <;> try (simp [mTg.mTgs] at h; done)
    rename_i y p
    simp only [mTg.mTgs, Bool.and_eq_true] at h
    obtain ⟨h1, h2, h3⟩ := s_tgNames ok st h.2
    refine ⟨pgs_cons (s_tgName ok st h.1.1 h.1.2) h1, ?_, ?_⟩
    · show (assignEach es X.env).length + 1 = is.length + 1
      rw [h2]
    · show List.findIdx? (·.1) ((false, assign (.Name y p) X.env) :: assignEach es X.env) = none
      rw [List.findIdx?_cons, h3]
      rfl
theorem gsN_read : ∀ {is : List Nat} {vs : List V} {ds : List PyData} {rho : List Slot} {g : G} {ms : MS} {σ : L2.St} {Q : L2.St → Hp → Prop}, Rel X.K X.mg X.w F g ms σ H → Dzs X.K g.Z H vs ds → bindT.bindN is ds ms.rho = some rho →
    (∀ g' σ', Rel X.K X.mg X.w F g' { ms with rho := rho } σ' H → Ext g H g' H → (∀ vs : List Nat, (∀ i ∈ is, i ∈ vs) → wipe σ' vs = wipe σ vs) → Q σ' H) → gsN is vs σ H Q
  | [], vs, ds, rho, g, ms, σ, Q, R, d, e, k => by
    cases ds with
    | cons _ _ => simp [bindT.bindN] at e
    | nil =>
      cases d
      simp [bindT.bindN] at e
      subst e
      exact ⟨rfl, k g σ R .refl fun _ _ => rfl⟩
  | i :: is, vs, ds, rho, g, ms, σ, Q, R, d, e, k => by
    cases ds with
    | nil => simp [bindT.bindN] at e
    | cons d0 ds =>
      cases d with
      | cons p q =>
        unfold bindT.bindN at e
        by_cases c : i < ms.rho.length
        · rw [if_pos c] at e
          have R1 := R.setAv c (.dat p)
          refine ⟨_, _, rfl, ?_⟩
          show gsN is _ (σ.set i (some _)) H Q
          refine gsN_read R1 (ds := ds) q (by exact e) fun g2 σ2 R2 x2 w2 => ?_
          refine k g2 σ2 R2 (Ext.av_slot.trans x2) fun us hus => ?_
          rw [w2 us fun j hj => hus j (List.mem_cons_of_mem _ hj), wipe_set (hus i List.mem_cons_self)]
        · rw [if_neg c] at e
          cases e
theorem PG.or {X : Cx} {x : Expr} {t u : TG} (h1 : PG X x t) (h2 : PG X x u) : PG X x (fun v σ H Q => t v σ H Q ∨ u v σ H Q) := ⟨fun pins s σ H v w Q I r q => by
  rcases q with q | q
  · exact h1.run pins s σ H v w Q I r q
  · exact h2.run pins s σ H v w Q I r q⟩
theorem s_tg (ok : OkX X) {sc : Scope} (st : Stores X sc) {tg : List Nat} {t : Expr} (h : mTg X.N sc tg t = true) : PG X t (tgG X.K X.mg X.w F tg) := by
  unfold mTg at h
  split at h
  · rename_i i y p
    simp only [Bool.and_eq_true] at h
    refine PG.imp (s_tgName ok st h.1 h.2) fun v σ H Q ⟨g, ms, d, rho, R, dz, e, k⟩ => ?_
    have e : (if i < ms.rho.length then some (ms.rho.set i (.av (.dat d))) else none) = some rho := e
    by_cases c : i < ms.rho.length
    · rw [if_pos c] at e
      cases e
      exact k _ _ (R.setAv c (.dat dz)) .av_slot fun vs hvs => wipe_set (hvs i List.mem_cons_self)
    · rw [if_neg c] at e
      cases e
  · rename_i is es kk pp
    simp only [Bool.and_eq_true, decide_eq_true_eq] at h
    obtain ⟨h1, h2, h3⟩ := s_tgNames ok st h.2
    refine PG.imp (PG.or (pg_tup ok.calm h1 h2 h3) (pg_unl ok.calm h1 h2 h3)) fun v σ H Q ⟨g, ms, d, rho, R, dz, e, k⟩ => ?_
    unfold bindT at e
    split at e
    · exact absurd rfl h.1
    · split at e
      · rename_i c
        cases dz with
        | tup q1 q2 => exact .inl ⟨_, _, rfl, q1, by rw [q2.length, c], gsN_read R q2 e k⟩
      · cases e
    · split at e
      · rename_i c
        cases dz with
        | lst q1 q0 q2 => exact .inr ⟨_, _, rfl, .inl (.inl q1), by rw [q2.length, c], gsN_read R q2 e k⟩
      · cases e
    · cases e
  · cases h

/-! ### walks -/
structure Wk (K : PySem.W.Frag) (mg : Str → Option Value) (w : World) (J : It) (g : G) (H : Hp) (s : Src) : Prop where
  go : ∀ i g' H' hp d, HRel K mg w g' hp H' → ExtS g H g' H' → s.item hp i = some (some d) → J.go i H' ∧ ∀ x H'', J.yld i H' x H'' → H'' = H' ∧ Dz K g'.Z H' x d
  stop : ∀ i g' H' hp, HRel K mg w g' hp H' → ExtS g H g' H' → s.item hp i = some none → J.stop i H'
def tI (K : PySem.W.Frag) (mg : Str → Option Value) (w : World) (F : Fr) (sem : MS → Option (Src × MS)) : TI := fun σ H R => ∃ g ms xs ms', Rel K mg w F g ms σ H ∧ sem ms = some (xs, ms') ∧
  ∀ g' J H', Rel K mg w F g' ms' σ H' → Ext g H g' H' → Wk K mg w J g' H' xs → R J H'
theorem item_fix {xs : List PyData} {hp : List AO} {i : Nat} {o : Option PyData} (h : (Src.fix xs).item hp i = some o) : xs[i]? = o := by
  unfold Src.item at h
  exact Option.some.inj h
theorem none_len {α : Type} {xs : List α} {i : Nat} (h : xs[i]? = none) : xs.length ≤ i := by
  rw [List.getElem?_eq_none_iff] at h
  exact h
theorem wk_heap (R : Rel X.K X.mg X.w F g ms σ H) {r : Nat} {a : Addr} (h : g.io[r]? = some a) : Wk X.K X.mg X.w (Itl X.K a) g H (.heap r) := by
  have hi : ∀ g' H', ExtS g H g' H' → g'.io[r]? = some a := fun g' H' x => by
    obtain ⟨n, e, _⟩ := x.io
    rw [e, List.getElem?_append_left (List.getElem?_eq_some_iff.mp h).1]
    exact h
  refine ⟨fun i g' H' hp d R' x e => ?_, fun i g' H' hp R' x e => ?_⟩
  · unfold Src.item at e
    dsimp only at e
    split at e
    · rename_i vs e1
      split at e
      · cases e
      · rename_i d' e2
        cases e
        have q := R'.ho r a _ (hi g' H' x) e1
        cases q with
        | @lst ws _ q1 q2 =>
          obtain ⟨u, h1, h2⟩ := q2.get e2
          refine ⟨⟨ws, u, SqL.of q1, h1⟩, fun y H'' hy => ?_⟩
          obtain ⟨e3, hy⟩ := hy
          have := hy ws (SqL.of q1)
          rw [h1] at this
          cases this
          cases h2 with
          | dat h2 => exact ⟨e3, h2⟩
      · cases e
    · cases e
  · unfold Src.item at e
    dsimp only at e
    split at e
    · rename_i vs e1
      split at e
      · rename_i e2
        have q := R'.ho r a _ (hi g' H' x) e1
        cases q with
        | @lst ws _ q1 q2 => exact ⟨ws, SqL.of q1, by rw [q2.length]; exact none_len e2⟩
      · cases e
      · cases e
    · cases e
theorem wk_listZ (R : Rel X.K X.mg X.w F g ms σ H) {a : Addr} {vs : List V} {xs : List PyData} (ha : H a = some (.lst vs)) (hz : g.Z a) (d : Dzs X.K g.Z H vs xs) : Wk X.K X.mg X.w (Itl X.K a) g H (.fix xs) := by
  have hk : ∀ g' H', ExtS g H g' H' → SqL X.K H' a vs := fun g' H' x => SqL.of (R.keepZ x hz ha)
  refine ⟨fun i g' H' hp dd R' x e => ?_, fun i g' H' hp R' x e => ⟨vs, hk g' H' x, by rw [d.length]; exact none_len (item_fix e)⟩⟩
  obtain ⟨u, h1, _⟩ := d.get (item_fix e)
  refine ⟨⟨vs, u, hk g' H' x, h1⟩, fun y H'' ⟨e2, hy⟩ => ?_⟩
  obtain ⟨w, h3, h4⟩ := (R.dzsS x d).get' (hy vs (hk g' H' x))
  rw [item_fix e] at h3
  cases h3
  exact ⟨e2, h4⟩
theorem wk_scr (R : Rel X.K X.mg X.w F g ms σ H) {a : Addr} {ns : List Int} (h : ScrAt X.K H a ns) : Wk X.K X.mg X.w (Itl X.K a) g H (.fix (ns.map .int)) := by
  have hk : ∀ g' H', ExtS g H g' H' → SqL X.K H' a (ns.map V.int) := fun g' H' x => (h.keep fun o h => x.keep a _ (R.hr.no_frz h) (R.not_own h fun _ z => by cases z) h).sql
  refine ⟨fun i g' H' hp dd R' x e => ?_, fun i g' H' hp R' x e => ⟨_, hk g' H' x, by have := none_len (item_fix e); simpa using this⟩⟩
  have e1 := item_fix e
  rw [List.getElem?_map] at e1
  cases q : ns[i]? with
  | none => rw [q] at e1; cases e1
  | some n =>
    rw [q] at e1
    cases e1
    refine ⟨⟨_, V.int n, hk g' H' x, by rw [List.getElem?_map, q]; rfl⟩, fun y H'' ⟨e2, hy⟩ => ?_⟩
    have h2 := hy _ (hk g' H' x)
    rw [List.getElem?_map, q] at h2
    cases h2
    exact ⟨e2, .int n⟩
theorem wk_tup (R : Rel X.K X.mg X.w F g ms σ H) {a : Addr} {vs : List V} {xs : List PyData} (ha : SqT X.K H a vs) (d : Dzs X.K g.Z H vs xs) : Wk X.K X.mg X.w (Itt X.K a) g H (.fix xs) := by
  have hk : ∀ g' H', ExtS g H g' H' → SqT X.K H' a vs := fun g' H' x => R.sqTS x ha
  refine ⟨fun i g' H' hp dd R' x e => ?_, fun i g' H' hp R' x e => ⟨vs, hk g' H' x, by rw [d.length]; exact none_len (item_fix e)⟩⟩
  obtain ⟨u, h1, _⟩ := d.get (item_fix e)
  refine ⟨⟨vs, u, hk g' H' x, h1⟩, fun y H'' ⟨e2, hy⟩ => ?_⟩
  obtain ⟨w, h3, h4⟩ := (R.dzsS x d).get' (hy vs (hk g' H' x))
  rw [item_fix e] at h3
  cases h3
  exact ⟨e2, h4⟩
theorem wk_rng (lo : Int) (n : Nat) : Wk X.K X.mg X.w (Itr lo n) g H (.fix ((List.range n).map fun (j : Nat) => PyData.int (lo + j))) := by
  refine ⟨fun i g' H' hp dd R' x e => ?_, fun i g' H' hp R' x e => (show n ≤ i from by have := none_len (item_fix e); simpa using this)⟩
  have e1 := item_fix e
  have hi : i < n := by
    have := (List.getElem?_eq_some_iff.mp e1).1
    simpa using this
  refine ⟨hi, fun y H'' ⟨e2, hy⟩ => ?_⟩
  subst hy
  simp [hi] at e1
  subst e1
  exact ⟨e2, .int (lo + i)⟩
theorem PI.or {tg x : Expr} {t t' : TI} (h : PI X tg x t) (h' : PI X tg x t') : PI X tg x (fun σ H R => t σ H R ∨ t' σ H R) := ⟨fun pins s σ H R I q => by
  rcases q with q | q
  · exact h.run pins s σ H R I q
  · exact h'.run pins s σ H R I q⟩
theorem s_seq {e : E} {x tg : Expr} (h : ∀ b, PE X x (tE X.K X.mg X.w F b (ev b e))) : PI X tg x (tI X.K X.mg X.w F (evI (.seq e))) := by
  refine PI.imp (PI.or (pi_list (h false)) (pi_tup (h false))) fun σ H RR ⟨g, ms, xs, ms', R, q, k⟩ => ?_
  unfold evI at q
  split at q
  · rename_i ns ms1 q1
    cases q
    refine .inl ⟨g, ms, _, ms', R, q1, fun g1 v H1 R1 x1 r1 => ?_⟩
    cases r1 with
    | av r1 => cases r1 with
      | @scr a _ r1 =>
        exact ⟨a, rfl, ⟨_, r1.sql⟩, k g1 _ H1 R1 x1 (wk_scr R1 r1)⟩
  · rename_i r ms1 q1
    split at q
    · rename_i vs0 e0
      cases q
      refine .inl ⟨g, ms, _, ms', R, q1, fun g1 v H1 R1 x1 r1 => ?_⟩
      cases r1 with
      | av r1 =>
        obtain ⟨a, vs, p1, rfl, p3, p4⟩ := R1.hr.lst r1 e0
        exact ⟨a, rfl, ⟨_, SqL.of p3⟩, k g1 _ H1 R1 x1 (wk_heap R1 p1)⟩
    · cases q
  · rename_i v ms1 _ _ q1
    split at q
    · rename_i ys hd
      cases q
      refine .inl ⟨g, ms, v, ms', R, q1, fun g1 w H1 R1 x1 r1 => ?_⟩
      obtain ⟨g2, R2, x2, _, r2⟩ := r1.val R1 x1
      have dz := r2.d?_dz hd
      cases dz with
      | lst p1 p2 p3 => exact ⟨_, rfl, ⟨_, SqL.of p1⟩, k g2 _ H1 R2 x2 (wk_listZ R2 p1 p2 p3)⟩
    · rename_i ys hd
      cases q
      refine .inr ⟨g, ms, v, ms', R, q1, fun g1 w H1 R1 x1 r1 => ?_⟩
      obtain ⟨g2, R2, x2, _, r2⟩ := r1.val R1 x1
      have dz := r2.d?_dz hd
      cases dz with
      | tup p1 p2 => exact ⟨_, rfl, ⟨_, p1⟩, k g2 _ H1 R2 x2 (wk_tup R2 p1 p2)⟩
    · cases q
  · cases q
theorem s_range1 {e : E} {y tg : Expr} {r : Str} {p pos : Pos} (hr : r = sRange) (hg : isGl X.env.scope r = true) (ok : OkX X) (hy : isPl y = true) (h : ∀ b, PE X y (tE X.K X.mg X.w F b (ev b e))) : PI X tg (.Call (.Name r p) [y] [] pos) (tI X.K X.mg X.w F (evI (.range1 e))) := by
  subst hr
  have pr := pi_range1 (X := X) (tg := tg) (p := p) (pos := pos) (gl_of hg) (ok.free sRange (by decide)) (pa_cons (h true) pa_nil (pl_star hy _)) (pl_star hy _)
  refine PI.imp pr fun σ H RR ⟨g, ms, xs, ms', R, q, k⟩ => ?_
  unfold evI at q
  split at q
  · rename_i n ms1 q1
    split at q
    · rename_i c
      cases q
      refine ⟨g, ms, _, ms', R, q1, fun g1 v H1 R1 x1 r1 => ?_⟩
      have e1 := r1.lr.int
      subst e1
      have cc := smB_iff.mp c
      refine ⟨n, rfl, by show -4611686018427387904 ≤ n; omega, by show n < 4611686018427387904; omega, k g1 _ H1 R1 x1 ?_⟩
      have w := wk_rng (X := X) (g := g1) (H := H1) 0 n.toNat
      simpa using w
    · cases q
  · cases q
theorem s_range2 {a e : E} {x y tg : Expr} {r : Str} {p pos : Pos} (hr : r = sRange) (hg : isGl X.env.scope r = true) (ok : OkX X) (hx : isPl x = true) (hy : isPl y = true) (h1 : ∀ b, PE X x (tE X.K X.mg X.w F b (ev b a))) (h2 : ∀ b, PE X y (tE X.K X.mg X.w F b (ev b e))) :
    PI X tg (.Call (.Name r p) [x, y] [] pos) (tI X.K X.mg X.w F (evI (.range2 a e))) := by
  subst hr
  have pr := pi_range2 (X := X) (tg := tg) (p := p) (pos := pos) (gl_of hg) (ok.free sRange (by decide)) (pa_cons (h1 true) (pa_cons (h2 true) pa_nil (pl_star hy _)) (pl_star hx _)) (by rw [pl_star hx, pl_star hy]; rfl) (by rw [pl_star hy]; rfl)
  refine PI.imp pr fun σ H RR ⟨g, ms, xs, ms', R, q, k⟩ => ?_
  unfold evI at q
  split at q
  · rename_i i ms1 q1
    split at q
    · rename_i j ms2 q2
      split at q
      · rename_i c
        cases q
        refine ⟨g, ms, _, ms1, R, q1, fun g1 v H1 R1 x1 r1 => ⟨g1, ms1, _, ms', R1, q2, fun g2 w H2 R2 x2 r2 => ?_⟩⟩
        have e1 := r1.lr.int
        have e2 := r2.lr.int
        subst e1 e2
        simp only [Bool.and_eq_true, smB_iff] at c
        exact ⟨i, j, rfl, ⟨by show -4611686018427387904 ≤ i; omega, by show i < 4611686018427387904; omega, by show -4611686018427387904 ≤ j; omega, by show j < 4611686018427387904; omega⟩, k g2 _ H2 R2 (x1.trans x2) (wk_rng i (j - i).toNat)⟩
      · cases q
    · cases q
  · cases q

/-! ### comprehensions -/
theorem wipe_idem (σ : L2.St) : ∀ {vs ws : List Nat}, (∀ i ∈ vs, i ∈ ws) → wipe (wipe σ vs) ws = wipe σ ws
  | [], ws, _ => rfl
  | v :: vs, ws, h => by
    show wipe ((wipe σ vs).set v none) ws = _
    rw [wipe_set (h v List.mem_cons_self), wipe_idem σ fun i hi => h i (List.mem_cons_of_mem _ hi)]
theorem wipeR_length : ∀ (vs : List Nat) (rho : List Slot), (wipeR vs rho).length = rho.length
  | [], _ => rfl
  | v :: vs, rho => by unfold wipeR; rw [List.length_set, wipeR_length vs rho]
theorem wipeR_get : ∀ (vs : List Nat) (rho : List Slot) (i : Nat), (wipeR vs rho)[i]? = if i ∈ vs ∧ i < rho.length then some .emp else rho[i]?
  | [], _, _ => by simp [wipeR]
  | v :: vs, rho, i => by
    unfold wipeR
    by_cases hv : i = v
    · subst hv
      by_cases hl : i < rho.length
      · rw [List.getElem?_set_self (by rw [wipeR_length]; exact hl), if_pos ⟨List.mem_cons_self, hl⟩]
      · rw [if_neg (fun z => hl z.2), List.getElem?_eq_none (by simp [wipeR_length]; omega), List.getElem?_eq_none (by omega)]
    · rw [List.getElem?_set_ne (Ne.symm hv), wipeR_get vs rho i]
      simp [hv]
theorem wipe_get : ∀ (vs : List Nat) (σ : L2.St) (i : Nat), i ∉ vs → (wipe σ vs)[i]? = σ[i]?
  | [], _, _, _ => rfl
  | v :: vs, σ, i, h => by
    unfold wipe
    rw [List.getElem?_set_ne (fun z => h (by rw [z]; exact List.mem_cons_self)), wipe_get vs σ i fun z => h (List.mem_cons_of_mem _ z)]
theorem plainAt_get {tg : List Nat} {rho : List Slot} (h : plainAt tg rho = true) {i : Nat} (hi : i ∈ tg) : i < rho.length ∧ ∀ xs, rho[i]? ≠ some (.own xs) := by
  unfold plainAt at h
  have q := List.all_eq_true.mp h i hi
  cases e : rho[i]? with
  | none => rw [e] at q; cases q
  | some s =>
    refine ⟨(List.getElem?_eq_some_iff.mp e).1, fun xs z => ?_⟩
    cases z
    rw [e] at q
    cases q
theorem Rel.wipe (R : Rel X.K X.mg X.w F g ms σ H) {tg : List Nat} (hp : plainAt tg ms.rho = true) : Rel X.K X.mg X.w F g { ms with rho := wipeR tg ms.rho } (wipe σ tg) H := by
  refine ⟨R.hr, by rw [wipe_length, R.len]; exact (wipeR_length _ _).symm, fun i v hi => ?_, fun i xs hi => ?_, R.oaf, R.inj, R.fr⟩
  · have hi : (wipeR tg ms.rho)[i]? = some (.av v) := hi
    rw [wipeR_get] at hi
    by_cases c : i ∈ tg ∧ i < ms.rho.length
    · rw [if_pos c] at hi; cases hi
    · rw [if_neg c] at hi
      have hn : i ∉ tg := fun z => c ⟨z, (List.getElem?_eq_some_iff.mp hi).1⟩
      obtain ⟨x, h1, h2⟩ := R.av i v hi
      exact ⟨x, by rw [wipe_get _ _ _ hn]; exact h1, h2⟩
  · have hi : (wipeR tg ms.rho)[i]? = some (.own xs) := hi
    rw [wipeR_get] at hi
    by_cases c : i ∈ tg ∧ i < ms.rho.length
    · rw [if_pos c] at hi; cases hi
    · rw [if_neg c] at hi
      have hn : i ∉ tg := fun z => c ⟨z, (List.getElem?_eq_some_iff.mp hi).1⟩
      obtain ⟨a, vs, h1, h2, h3, h4⟩ := R.own i xs hi
      exact ⟨a, vs, h1, by rw [wipe_get _ _ _ hn]; exact h2, h3, h4⟩
theorem back_length : ∀ (tg : List Nat) (old new : List Slot), (Sv.back tg old new).length = new.length
  | [], _, _ => rfl
  | i :: is, old, new => by
    unfold Sv.back
    split
    · rw [List.length_set, back_length is old new]
    · exact back_length is old new
theorem back_get : ∀ (tg : List Nat) (old new : List Slot), old.length = new.length → ∀ i, (Sv.back tg old new)[i]? = if i ∈ tg then old[i]? else new[i]?
  | [], _, _, _, _ => by simp [Sv.back]
  | j :: is, old, new, hl, i => by
    unfold Sv.back
    by_cases hij : i = j
    · subst hij
      rw [if_pos List.mem_cons_self]
      cases e : old[i]? with
      | some o =>
        have : i < old.length := (List.getElem?_eq_some_iff.mp e).1
        simp only
        rw [List.getElem?_set_self (by rw [back_length]; omega)]
      | none =>
        simp only
        have h0 : old.length ≤ i := List.getElem?_eq_none_iff.mp e
        rw [List.getElem?_eq_none (by rw [back_length]; omega)]
    · have ih := back_get is old new hl i
      have hm : (i ∈ j :: is) ↔ i ∈ is := by simp [hij]
      simp only [hm]
      cases e : old[j]? with
      | some o =>
        simp only
        rw [List.getElem?_set_ne (Ne.symm hij), ih]
      | none =>
        simp only
        exact ih
theorem Rel.unwipe {g1 : G} {ms1 : MS} {H1 : Hp} (R1 : Rel X.K X.mg X.w F g1 ms1 σ H1) (x : Ext0 g1 H1 g H) {tg : List Nat} (R : Rel X.K X.mg X.w F g ms (L2.wipe σ tg) H) (hp : plainAt tg ms1.rho = true) :
    Rel X.K X.mg X.w F g { ms with rho := Sv.back tg ms1.rho ms.rho } σ H := by
  have hl : ms1.rho.length = ms.rho.length := by rw [← R1.len, ← R.len, wipe_length]
  refine ⟨R.hr, by rw [R1.len, hl]; exact (back_length _ _ _).symm, fun i v hi => ?_, fun i xs hi => ?_, R.oaf, R.inj, R.fr⟩
  · have hi : (Sv.back tg ms1.rho ms.rho)[i]? = some (.av v) := hi
    rw [back_get _ _ _ hl] at hi
    by_cases c : i ∈ tg
    · rw [if_pos c] at hi
      obtain ⟨y, h1, h2⟩ := R1.av i v hi
      exact ⟨y, h1, R1.hr.avr x h2⟩
    · rw [if_neg c] at hi
      obtain ⟨y, h1, h2⟩ := R.av i v hi
      exact ⟨y, by rw [wipe_get _ _ _ c] at h1; exact h1, h2⟩
  · have hi : (Sv.back tg ms1.rho ms.rho)[i]? = some (.own xs) := hi
    rw [back_get _ _ _ hl] at hi
    by_cases c : i ∈ tg
    · rw [if_pos c] at hi
      exact absurd hi ((plainAt_get hp c).2 xs)
    · rw [if_neg c] at hi
      obtain ⟨a, vs, h1, h2, h3, h4⟩ := R.own i xs hi
      exact ⟨a, vs, h1, by rw [wipe_get _ _ _ c] at h2; exact h2, h3, h4⟩
/-- a list that the walk itself is filling: nobody else has it -/
structure Mine (g : G) (H : Hp) (D : Addr) (ws : List V) : Prop where
  at_ : H D = some (.lst ws)
  io : D ∉ g.io
  z : ¬ g.Z D
  oa : ∀ i, g.oa i ≠ some D
theorem Mine.ext {D : Addr} {ws : List V} (m : Mine g H D ws) (x : Ext g H g' H') : Mine g' H' D ws := by
  refine ⟨x.keep D _ m.io m.at_, fun h => ?_, fun h => ?_, fun i h => ?_⟩
  · obtain ⟨n, e, hn⟩ := x.io
    rw [e] at h
    rcases List.mem_append.mp h with h | h
    · exact m.io h
    · have := hn D h
      rw [m.at_] at this; cases this
  · rcases x.zn D h with h | h | ⟨i, h⟩
    · exact m.z h
    · rw [m.at_] at h; cases h
    · exact m.oa i h
  · rcases x.on i D h with ⟨j, h⟩ | h
    · exact m.oa j h
    · rw [m.at_] at h; cases h
theorem Mine.poke {D : Addr} {ws us : List V} (m : Mine g H D ws) (R : Rel X.K X.mg X.w F g ms σ H) (hF : F.H D = none) : Rel X.K X.mg X.w F g ms σ (upd H D (.lst us)) ∧ Mine g (upd H D (.lst us)) D us ∧ (∀ {vs : List V} {ds : List PyData}, Dzs X.K g.Z H vs ds → Dzs X.K g.Z (upd H D (.lst us)) vs ds) ∧
    (∀ {v : V} {d : PyData}, Dz X.K g.Z H v d → Dz X.K g.Z (upd H D (.lst us)) v d) := by
  have ht : ∀ a xs, SqT X.K H a xs → SqT X.K (upd H D (.lst us)) a xs := fun a xs h => sqT_keep (fun b ys q => by
    rw [upd_ne (fun e => by rw [e, m.at_] at q; cases q)]; exact q) (fun b o ys q => by
    rw [upd_ne (fun e => by rw [e, m.at_] at q; cases q)]; exact q) h
  have hl : ∀ a xs, g.Z a → H a = some (.lst xs) → g.Z a ∧ upd H D (.lst us) a = some (.lst xs) := fun a xs z q => ⟨z, by rw [upd_ne (fun e => m.z (by rw [← e]; exact z))]; exact q⟩
  have dz : ∀ {v : V} {d : PyData}, Dz X.K g.Z H v d → Dz X.K g.Z (upd H D (.lst us)) v d := fun {v d} h => Dz.mono hl ht d h
  have dzs : ∀ {v : List V} {d : List PyData}, Dzs X.K g.Z H v d → Dzs X.K g.Z (upd H D (.lst us)) v d := fun {v d} h => Dzs.mono hl ht d h
  have av : ∀ {v : V} {x : AV}, AVR X.K g H v x → AVR X.K g (upd H D (.lst us)) v x := fun {v x} h => by
    cases h with
    | dat h => exact .dat (dz h)
    | ref h => exact .ref h
    | fd z h k q => exact .fd z (by rw [upd_ne (fun e => m.z (by rw [← e]; exact z))]; exact h) k (dzs q)
    | scr h => exact .scr (h.keep fun o h => by rw [upd_ne (fun e => by rw [e, m.at_] at h; cases h)]; exact h)
    | tup h q => exact .tup (ht _ _ h) (A0Rs.map (g := g) (g' := g) (fun _ _ h => dz h) (fun _ _ h => h) q)
  have avs : ∀ {v : List V} {x : List AV}, AVRs X.K g H v x → AVRs X.K g (upd H D (.lst us)) v x := fun {v x} h => by
    induction h with
    | nil => exact .nil
    | cons p _ ih => exact .cons (av p) ih
  have ne : ∀ a, a ∈ g.io → a ≠ D := fun a h e => m.io (by rw [← e]; exact h)
  have th : ∀ a o, H a = some o → ∃ o', upd H D (.lst us) a = some o' := fun a o q => by
    by_cases e : a = D
    · subst e; exact ⟨_, upd_same⟩
    · exact ⟨o, by rw [upd_ne e]; exact q⟩
  refine ⟨⟨⟨R.hr.hl, R.hr.nd, fun j a o h1 h2 => ?_, R.hr.nz, fun a z => let ⟨o, q⟩ := R.hr.zt a z; th a o q⟩, R.len, fun i v hi => let ⟨x, h1, h2⟩ := R.av i v hi; ⟨x, h1, av h2⟩, fun i xs hi => ?_, fun i a hi => let ⟨h1, h2, h3, o, h4⟩ := R.oaf i a hi; ⟨h1, h2, h3, o, by rw [upd_ne (fun e => m.oa i (by rw [← e]; exact hi))]; exact h4⟩, R.inj,
    ⟨R.fr.io, R.fr.z, R.fr.zz, fun a o h1 h2 => ?_, fun a o h => let ⟨o', q⟩ := R.fr.th a o h; th a o' q⟩⟩, ⟨upd_same, m.io, m.z, m.oa⟩, dzs, dz⟩
  · have ha : a ∈ g.io := List.mem_of_getElem? h1
    have q := R.hr.ho j a o h1 h2
    cases q with
    | lst h q => exact .lst (by rw [upd_ne (ne a ha)]; exact h) (avs q)
    | dct h k q => exact .dct (by rw [upd_ne (ne a ha)]; exact h) k (avs q)
    | ins h mm k q => exact .ins (by rw [upd_ne (ne a ha)]; exact h) mm k (avs q)
    | kd h q => exact .kd (by rw [upd_ne (ne a ha)]; exact h) (KdP.map (g := g) (g' := g) (fun _ _ h => dz h) (fun _ _ h => av h) q)
  · obtain ⟨a, vs, h1, h2, h3, h4⟩ := R.own i xs hi
    exact ⟨a, vs, h1, h2, by rw [upd_ne (fun e => m.oa i (by rw [← e]; exact h1))]; exact h3, dzs h4⟩
  · rw [upd_ne (fun e => by rw [e, hF] at h2; cases h2)]
    exact R.fr.keep a o h1 h2
theorem fix_item {xs : List PyData} {hp : List AO} {i : Nat} : (Src.fix xs).item hp i = some xs[i]? := rfl
theorem compL_compS {tg : List Nat} {test : MS → Option (Bool × MS)} {elt : MS → Option (RV × MS)} {all : List PyData} : ∀ (xs acc : List PyData) (ms : MS) (i : Nat) {r : List PyData × MS}, all.drop i = xs → i ≤ all.length → compL tg test elt xs acc ms = some r → compS tg test elt (.fix all) (xs.length + 1) i acc ms = some r
  | [], acc, ms, i, r, hd, hi, h => by
    have e : all[i]? = none := by
      rw [List.getElem?_eq_none_iff]
      have := congrArg List.length hd
      simp at this
      omega
    unfold compL at h
    unfold compS
    rw [fix_item, e]
    exact h
  | x :: xs, acc, ms, i, r, hd, hi, h => by
    have hlt : i < all.length := by
      have := congrArg List.length hd
      simp at this
      omega
    rw [List.drop_eq_getElem_cons hlt] at hd
    have e1 : all[i]? = some x := by
      rw [List.getElem?_eq_getElem hlt]
      exact congrArg some (List.cons.inj hd).1
    have ih := fun acc ms {r} => compL_compS (tg := tg) (test := test) (elt := elt) (all := all) xs acc ms (i + 1) (r := r) (List.cons.inj hd).2 hlt
    unfold compL at h
    show compS tg test elt (.fix all) ((xs.length + 1) + 1) i acc ms = some r
    rw [compS.eq_2, fix_item, e1]
    dsimp only
    split at h
    · rename_i rho e2
      try rw [e2]
      try dsimp only
      split at h
      · rename_i ms1 e3
        try rw [e3]
        try dsimp only
        split at h
        · rename_i v ms2 e4
          try rw [e4]
          try dsimp only
          split at h
          · rename_i d e5
            try rw [e5]
            try dsimp only
            split at h
            · rename_i c1
              try rw [if_pos c1]
              split at h
              · rename_i c2
                try rw [if_pos c2]
                exact ih _ _ h
              · cases h
            · cases h
          · cases h
        · cases h
      · rename_i ms1 e3
        try rw [e3]
        try dsimp only
        split at h
        · rename_i c2
          try rw [if_pos c2]
          exact ih _ _ h
        · cases h
      · cases h
    · cases h
theorem compX_S {tg : List Nat} {test : MS → Option (Bool × MS)} {elt : MS → Option (RV × MS)} {s : Src} {ms : MS} {r : List PyData × MS} (h : compX tg test elt s ms = some r) : ∃ n, compS tg test elt s n 0 [] ms = some r := by
  cases s with
  | fix xs => exact ⟨_, compL_compS xs [] ms 0 (by simp) (Nat.zero_le _) h⟩
  | heap r => exact ⟨FUEL, h⟩
theorem s_comp {e : E} {tg : List Nat} {it : I} {c : Es} {x t i : Expr} {ifs : List Expr} {s2 : Scope} {pos : Pos} (ok : OkX X) (hb : blkC X.N X.env.scope s2 ((tgNames t).zip tg) = true) (hl : (tgNames t).length = tg.length) (hi : PI X t i (tI X.K X.mg X.w F (evI it))) (hset : ∀ v, foldedSetIterable i X.env v = pure v)
    (hg : ∀ (s : Shared) (H : Hp) (C : Addr) (cl : List (Str × Addr)) (fp : List Addr), PG (X.blk s H s2 (compEnvC s2 cl C X.env) fp) t (tgG X.K X.mg X.w F tg)) (ht : ∀ (s : Shared) (H : Hp) (C : Addr) (cl : List (Str × Addr)) (fp : List Addr), PTs (X.blk s H s2 (compEnvC s2 cl C X.env) fp) ifs (tC' X.K X.mg X.w F (evC c)))
    (he : ∀ (s : Shared) (H : Hp) (C : Addr) (cl : List (Str × Addr)) (fp : List Addr), PE (X.blk s H s2 (compEnvC s2 cl C X.env) fp) x (tE X.K X.mg X.w F false (ev false e))) (b : Bool) :
    (∀ σ H Q, tE X.K X.mg X.w F b (ev b (.comp e tg it c)) σ H Q → tLc (tI X.K X.mg X.w F (evI it)) (tgG X.K X.mg X.w F tg) (tC' X.K X.mg X.w F (evC c)) (tE X.K X.mg X.w F false (ev false e)) tg σ H Q) := by
  intro σ H Q ⟨g, ms, rv, ms', R, q, k⟩
  unfold ev at q
  cases q1 : evI it ms with
  | none => rw [q1] at q; cases q
  | some r1 =>
  obtain ⟨xs, ms1⟩ := r1
  rw [q1] at q
  dsimp only at q
  by_cases hp : plainAt tg ms1.rho = true
  case neg => rw [if_neg hp] at q; cases q
  rw [if_pos hp] at q
  cases q2 : compX tg (evC c) (ev false e) xs { ms1 with rho := wipeR tg ms1.rho } with
  | none => rw [q2] at q; cases q
  | some r2 =>
  obtain ⟨accF, ms2⟩ := r2
  rw [q2] at q
  cases q
  refine ⟨g, ms, xs, ms1, R, q1, fun g1 J H1 R1 x1 wk D hD => ?_⟩
  have hFD : F.H D = none := R1.f0 hD
  have hSD : H D = none := x1.toExt0.back hD
  obtain ⟨nf, q2⟩ := compX_S q2
  refine ⟨fun i m H' => ∃ g' mst acc ws, Rel X.K X.mg X.w F g' mst (L2.wipe σ tg) H' ∧ Ext g1 H1 g' H' ∧ Mine g' H' D ws ∧ Dzs X.K g'.Z H' ws acc ∧ compS tg (evC c) (ev false e) xs m i acc mst = some (accF, ms2), ⟨nf, ?_⟩, ?_⟩
  · exact ⟨g1, _, [], [], (R1.wipe hp).new hD, .same (up_same hD), ⟨upd_same, (R1.hr.fresh hD).1, (R1.hr.fresh hD).2, R1.oa0 hD⟩, .nil, q2⟩
  rintro i m H' ⟨g', mst, acc, ws, R', x', mine, dz, ecl⟩
  cases m with
  | zero => unfold compS at ecl; cases ecl
  | succ m =>
  rw [compS.eq_2] at ecl
  split at ecl
  · cases ecl
  · rename_i c1
    have st := wk.stop i g' H' mst.hp R'.hr x'.s c1
    cases ecl
    refine .inl ⟨st, ?_⟩
    refine k g' _ H' (R1.unwipe x'.toExt0 R' hp) (x1.trans x') (.lst mine.at_ dz mine.io mine.z hFD fun _ => ⟨hSD, mine.oa⟩)
  · rename_i d c1
    obtain ⟨go, yl⟩ := wk.go i g' H' mst.hp d R'.hr x'.s c1
    refine .inr ⟨go, fun H'' => ∃ g' mst acc ws, Rel X.K X.mg X.w F g' mst (L2.wipe σ tg) H'' ∧ Ext g1 H1 g' H'' ∧ Mine g' H'' D ws ∧ Dzs X.K g'.Z H'' ws acc ∧ compS tg (evC c) (ev false e) xs m (i + 1) acc mst = some (accF, ms2), fun H'' h => ⟨m, Nat.lt_succ_self _, h⟩, fun y H'' hy => ?_⟩
    obtain ⟨rfl, hdz⟩ := yl y H'' hy
    cases e1 : bindT tg d mst.rho with
    | none => rw [e1] at ecl; cases ecl
    | some rho =>
    rw [e1] at ecl
    dsimp only at ecl
    refine ⟨g', mst, d, rho, R', hdz, e1, fun g2 σ2 R2 x2 w2 => ⟨by rw [w2 tg fun i hi => hi, wipe_idem σ fun i hi => hi], ?_⟩⟩
    have hw2 : L2.wipe σ2 tg = L2.wipe σ tg := by rw [w2 tg fun i hi => hi, wipe_idem σ fun i hi => hi]
    cases e2 : evC c { mst with rho := rho } with
    | none => rw [e2] at ecl; cases ecl
    | some r3 =>
    obtain ⟨cb, msA⟩ := r3
    rw [e2] at ecl
    refine ⟨g2, _, cb, msA, R2, e2, fun g3 H3 R3 x3 => ?_⟩
    have mine3 := mine.ext (x2.trans x3)
    have xx3 := x'.trans (x2.trans x3)
    cases cb with
    | true =>
      dsimp only at ecl
      cases e3 : ev false e msA with
      | none => rw [e3] at ecl; cases ecl
      | some r4 =>
      obtain ⟨v, msB⟩ := r4
      rw [e3] at ecl
      dsimp only at ecl
      cases e4 : v.d? with
      | none => rw [e4] at ecl; cases ecl
      | some dv =>
      rw [e4] at ecl
      dsimp only at ecl
      by_cases c2 : acc.length < LINE
      case neg => rw [if_neg c2] at ecl; cases ecl
      rw [if_pos c2] at ecl
      by_cases c3 : plainAt tg msB.rho = true
      case neg => rw [if_neg c3] at ecl; cases ecl
      rw [if_pos c3] at ecl
      refine iteT ?_
      refine ⟨g3, msA, v, msB, R3, e3, fun g4 z H4 R4 x4 r4 => ?_⟩
      obtain ⟨g5, R5, x5, _, r5⟩ := r4.val R4 x4
      have dzz := r5.d?_dz e4
      have mine5 := mine3.ext x5
      have dz5 := R3.hr.dzs x5.toExt0 (R'.hr.dzs (x2.trans x3).toExt0 dz)
      refine ⟨ws, mine5.at_, by rw [line_eq, dz.length]; exact c2, ?_⟩
      obtain ⟨R6, mine6, p1, p2⟩ := mine5.poke (us := ws ++ [z]) R5 hFD
      refine ⟨g5, _, _, ws ++ [z], ?_, ?_, mine6, (p1 dz5).append (.cons (p2 dzz) .nil), ecl⟩
      · have := R6.wipe c3
        rw [hw2] at this
        exact this
      · have xx5 := xx3.trans x5
        refine ⟨⟨fun a o h1 h2 => ?_, xx5.zz, xx5.io, fun a o h => ?_⟩, xx5.zn, xx5.on⟩
        · rw [upd_ne (fun e => by rw [e, hD] at h2; cases h2)]
          exact xx5.keep a o h1 h2
        · rw [upd_ne (fun e => by rw [e, hD] at h; cases h)]
          exact xx5.th a o h
    | false =>
      dsimp only at ecl
      by_cases c3 : plainAt tg msA.rho = true
      case neg => rw [if_neg c3] at ecl; cases ecl
      rw [if_pos c3] at ecl
      refine iteF ?_
      refine ⟨g3, _, _, ws, ?_, xx3, mine3, R'.hr.dzs (x2.trans x3).toExt0 dz, ecl⟩
      have := R3.wipe c3
      rw [hw2] at this
      exact this
end
end Sv

/-! Sv: objects of the program's classes; texts of ints, joined texts. -/
namespace Sv
open PySem PySem.Spec PyProof.Rows L2
section
variable {X : Cx} {F : Fr} {g g' : G} {ms ms' : MS} {σ : L2.St} {H H' : Hp}
/-! ### attributes side by side -/
theorem flook : ∀ {fs : List (Str × V)} {gs : List (Str × AV)} {f : Str} {v : AV}, fs.map (·.1) = gs.map (·.1) → AVRs X.K g H (fs.map (·.2)) (gs.map (·.2)) → gs.lookup f = some v → ∃ u, fs.lookup f = some u ∧ AVR X.K g H u v
  | [], [], _, _, _, _, h => by simp at h
  | [], _ :: _, _, _, e, _, _ => by simp at e
  | _ :: _, [], _, _, e, _, _ => by simp at e
  | (k, u) :: fs, (k', w) :: gs, f, v, e, r, h => by
    simp only [List.map_cons, List.cons.injEq] at e
    obtain ⟨e1, e2⟩ := e
    have e1 : k = k' := e1
    subst e1
    cases r with
    | cons p q =>
      rw [List.lookup_cons] at h
      rw [List.lookup_cons]
      cases c : f == k with
      | true => rw [c] at h; cases h; exact ⟨u, rfl, p⟩
      | false => rw [c] at h; exact flook e2 q h
theorem fnone : ∀ {fs : List (Str × V)} {gs : List (Str × AV)} {f : Str}, fs.map (·.1) = gs.map (·.1) → gs.lookup f = none → fs.lookup f = none
  | [], _, _, _, _ => rfl
  | _ :: _, [], _, e, _ => by simp at e
  | (k, u) :: fs, (k', w) :: gs, f, e, h => by
    simp only [List.map_cons, List.cons.injEq] at e
    obtain ⟨e1, e2⟩ := e
    have e1 : k = k' := e1
    subst e1
    rw [List.lookup_cons] at h
    rw [List.lookup_cons]
    cases c : f == k with
    | true => rw [c] at h; cases h
    | false => rw [c] at h; exact fnone e2 h
theorem fput : ∀ {fs : List (Str × V)} {gs : List (Str × AV)} {f : Str} {u : V} {v : AV}, fs.map (·.1) = gs.map (·.1) → AVRs X.K g H (fs.map (·.2)) (gs.map (·.2)) → AVR X.K g H u v →
    (putF f u fs).map (·.1) = (putA f v gs).map (·.1) ∧ AVRs X.K g H ((putF f u fs).map (·.2)) ((putA f v gs).map (·.2))
  | [], [], f, u, v, _, _, p => ⟨rfl, .cons p .nil⟩
  | [], _ :: _, _, _, _, e, _, _ => by simp at e
  | _ :: _, [], _, _, _, e, _, _ => by simp at e
  | (k, a) :: fs, (k', w) :: gs, f, u, v, e, r, p => by
    simp only [List.map_cons, List.cons.injEq] at e
    obtain ⟨e1, e2⟩ := e
    have e1 : k = k' := e1
    subst e1
    cases r with
    | cons q r =>
      unfold putF putA
      by_cases c : k = f
      · rw [if_pos c, if_pos c]
        exact ⟨by simp [e2], .cons p r⟩
      · rw [if_neg c, if_neg c]
        obtain ⟨h1, h2⟩ := fput e2 r p (f := f)
        exact ⟨by simp [h1], .cons q h2⟩
theorem HRel.ins {hp : List AO} (R : HRel X.K X.mg X.w g hp H) {v : V} {j : Nat} {c : Str} {gs : List (Str × AV)} (h : AVR X.K g H v (.ref j)) (e : hp[j]? = some (.ins c gs)) : ∃ a C dx fs, g.io[j]? = some a ∧ v = .ref a ∧ H a = some (.ins C dx fs) ∧ X.mg c = some (.ref C) ∧ fs.map (·.1) = gs.map (·.1) ∧ AVRs X.K g H (fs.map (·.2)) (gs.map (·.2)) := by
  cases h with
  | ref h =>
    have q := R.ho j _ _ h e
    cases q with
    | ins h1 h2 h3 h4 => exact ⟨_, _, _, _, h, rfl, h1, h2, h3, h4⟩
theorem rcv_base {x : Expr} (h : isRcv x = true) (f : Str) : attributeBase x f X.env (eval x X.env) = eval x X.env := by
  cases x <;> first | rfl | (rename_i fn _ _ _; cases fn <;> first | rfl | cases h) | cases h
theorem s_attr {c f : Str} {a : E} {x : Expr} {p : Pos} (ok : OkAt X c f) (hx : isRcv x = true) (h : ∀ b, PE X x (tE X.K X.mg X.w F b (ev b a))) (b : Bool) : PE X (.Attribute x f p) (tE X.K X.mg X.w F b (ev b (.attr c a f))) := by
  obtain ⟨C, m, cl, no⟩ := ok
  refine PE.imp (pe_fld (h true) (rcv_base hx f)) fun σ H Q ⟨g, ms, rv, ms', R, q, k⟩ => ?_
  unfold ev at q
  split at q
  · rename_i r ms1 q1
    split at q
    · rename_i c' gs e1
      split at q
      · rename_i c1
        split at q
        · rename_i v e2
          cases q
          refine ⟨g, ms, _, ms', R, q1, fun g1 w H1 R1 x1 r1 => ?_⟩
          cases r1 with
          | av r1 =>
            obtain ⟨a0, C', dx, fs, p1, rfl, p3, p4, p5, p6⟩ := R1.hr.ins r1 e1
            rw [c1, m] at p4
            cases p4
            obtain ⟨u, u1, u2⟩ := flook p5 p6 e2
            exact ⟨a0, _, dx, fs, u, rfl, p3, cl, no, u1, k g1 u H1 R1 x1 (.av u2)⟩
        · cases q
      · cases q
    · cases q
  · cases q
theorem call_tail {g : G} {S : Hp} {b : Bool} {rv : RV} {hp : List AO} {ms1 : MS} {g1 g2 : G} {v2 : V} {H1 H2 : Hp} {Q : VK} (R1 : Rel X.K X.mg X.w F g1 ms1 σ H1) (x1 : Ext g S g1 H1)
    (k : ∀ g' v H', Rel X.K X.mg X.w F g' { ms1 with hp := hp } σ H' → Ext g S g' H' → RVR X.K F g' S H' b v rv → Q v H')
    (h2 : HRel X.K X.mg X.w g2 hp H2) (x2 : Ext0 g1 H1 g2 H2) (z2 : ∀ a, g2.Z a → g1.Z a ∨ H1 a = none) (r2 : RVF X.K g2 H1 H2 v2 rv) : Q v2 H2 := by
  have R2 := R1.back h2 x2 z2
  refine k _ v2 H2 R2 (x1.trans ⟨⟨x2.keep, x2.zz, x2.io, x2.th⟩, fun a q => ?_, fun i a q => .inl ⟨i, q⟩⟩) ((r2.rvr R1).up.since x1.toExt0)
  rcases z2 a q with q | q
  · exact .inl q
  · exact .inr (.inl q)
theorem pl_form {xs : List Expr} (h : ∀ x ∈ xs, isPl x = true) (pos : Pos) : (backTo pos (starEach xs X.env)).all (fun x => !x.1) = true := by
  have q := pl_stars (env := X.env) h pos
  rw [List.any_eq_false] at q
  rw [List.all_eq_true]
  intro y hy
  have := q y hy
  simpa using this
theorem meth_ev {x : Expr} (h : isRcv x = true) (m : Str) (ap pos : Pos) (xs : List Expr) (hx : ∀ x ∈ xs, isPl x = true) (hl : (ap.endLine == pos.line) = true) (h30 : xs.length < 30) : ∃ pl : Sem Bool, eval (.Call (.Attribute x m ap) xs [] pos) X.env = (do
      let ov ← eval x X.env
      standAt ap.atName
      let (f, first) ← holding [ov] (getMethod ov m pl)
      callWith pos f first (backTo pos (starEach xs X.env)) (backToKw pos (keywordEach [] X.env))) := by
  refine ⟨do return (← importBound x X.env).getD true, ?_⟩
  have e0 : eval (.Call (.Attribute x m ap) xs [] pos) X.env = (do
      let ov ← attributeBase x m X.env (eval x X.env)
      standAt ap.atName
      methodCall x m ap pos X.env ov (xs.length + 0) (backTo pos (starEach xs X.env)) (backToKw pos (keywordEach [] X.env))) := by
    cases x <;> first | rfl | cases h
  have hf : methodCallForm (xs.length + 0) (backTo pos (starEach xs X.env)) (backToKw pos (keywordEach [] X.env)) = true := by
    unfold methodCallForm
    rw [pl_form hx]
    have e : backToKw pos (keywordEach [] X.env) = [] := rfl
    rw [e]
    simp [h30]
  rw [e0, rcv_base h]
  unfold methodCall calleeOf methodCallPos
  rw [hf]
  simp [hl]
theorem s_meth {c : Str} {f : Fn} {a : E} {es : Es} {x : Expr} {xs : List Expr} {y : Str} {ap pos : Pos} (hl : (ap.endLine == pos.line) = true) (h30 : xs.length < 30) (ok : OkMe X c f) (hy : y = f.name) (hx : isRcv x = true) (hxs : ∀ x ∈ xs, isPl x = true) (hn : xs = [] → es = .nil) (h1 : ∀ b, PE X x (tE X.K X.mg X.w F b (ev b a))) (h : PA X xs (tA X.K X.mg X.w F (evs es))) (b : Bool) :
    PE X (.Call (.Attribute x y ap) xs [] pos) (tE X.K X.mg X.w F b (ev b (.meth c f a es))) := by
  obtain ⟨C, kk, fa, fd, ps, m, cl, me, bd, G, hr⟩ := ok
  subst hy
  obtain ⟨pl, hev⟩ := meth_ev (X := X) hx f.name ap pos xs hxs hl h30
  have text : PE X (.Call (.Attribute x f.name ap) xs [] pos) (tMeth C f.name (spF X.K X.mg X.w f.run) [] E0 (tE X.K X.mg X.w F true (ev true a)) (tA X.K X.mg X.w F (evs es))) := by
    cases xs with
    | nil =>
      refine PE.imp (pe_meth0 (h1 true) cl me G hr bd .nil passL hev) fun σ H Q q => ?_
      obtain ⟨g, ms, rv, ms', R, q1, k⟩ := q
      refine ⟨g, ms, rv, ms', R, q1, fun g1 v H1 R1 x1 r1 => ?_⟩
      obtain ⟨a0, dx, fs, e1, e2, e3, e4⟩ := k g1 v H1 R1 x1 r1
      exact ⟨a0, dx, fs, e1, e2, e3, nil_args (hn rfl) σ H1 _ e4⟩
    | cons y ys => exact pe_meth (h1 true) cl me G hr bd .nil passL h (pl_star (hxs y List.mem_cons_self) ys) (pl_stars (fun z hz => hxs z (List.mem_cons_of_mem _ hz)) pos) hev
  refine PE.imp text fun σ H Q ⟨g, ms, rv, ms', R, q, k⟩ => ?_
  unfold ev at q
  split at q
  · rename_i r ms1 q1
    split at q
    · rename_i c' gs e1
      split at q
      · rename_i c1
        cases q2 : evs es ms1 with
        | none => rw [q2] at q; cases q
        | some r2 =>
          obtain ⟨vs, ms2⟩ := r2
          rw [q2] at q
          dsimp only at q
          cases q3 : f.run (.ref r :: vs) ms2.hp with
          | none => rw [q3] at q; cases q
          | some r3 =>
            obtain ⟨v, hp⟩ := r3
            rw [q3] at q
            cases q
            refine ⟨g, ms, _, ms1, R, q1, fun g1 w H1 R1 x1 r1 => ?_⟩
            cases r1 with
            | av r1 =>
              obtain ⟨a0, C', dx, fs, p1, rfl, p3, p4, p5, p6⟩ := R1.hr.ins r1 e1
              rw [c1.1, m] at p4
              cases p4
              refine ⟨a0, dx, fs, rfl, p3, fnone p5 c1.2, g1, ms1, vs, ms2, R1, q2, fun g2 ws H2 R2 x2 r2 => ?_⟩
              refine ⟨g2, ms2.hp, .ref r :: vs, rv, hp, R2.hr, .cons (R1.hr.avr x2.toExt0 r1) (by simpa using r2), q3, fun g3 v3 H3 h3 x3 z3 r3 => ?_⟩
              exact call_tail R2 (x1.trans x2) k h3 x3 z3 r3
      · cases q
    · cases q
  · cases q
theorem s_new {c : Str} {f : Fn} {es : Es} {y : Str} {xs : List Expr} {p pos : Pos} (ok : OkMk X c f) (hy : y = c) (hg : isGl X.env.scope y = true) (ho : odd y = false) (hxs : ∀ x ∈ xs, isPl x = true) (hn : xs = [] → es = .nil) (h : PA X xs (tA X.K X.mg X.w F (evs es))) (b : Bool) :
    PE X (.Call (.Name y p) xs [] pos) (tE X.K X.mg X.w F b (ev b (.new c f es))) := by
  obtain ⟨C, kk, fa, fd, ps, m, mk, bd, G, hr⟩ := ok
  subst hy
  unfold odd at ho
  simp only [Bool.or_eq_false_iff] at ho
  have text : PE X (.Call (.Name y p) xs [] pos) (tMake C (spF X.K X.mg X.w f.run) [] E0 (tA X.K X.mg X.w F (evs es))) := by
    cases xs with
    | nil => exact PE.imp (pe_make0 mk G hr (gl_of hg) m bd .nil passL ho.1) fun σ H Q q => nil_args (hn rfl) σ H _ q
    | cons z zs => exact pe_make mk G hr (gl_of hg) m bd .nil passL h ho.1 (pl_star (hxs z List.mem_cons_self) zs) (pl_stars (fun w hw => hxs w (List.mem_cons_of_mem _ hw)) pos)
  refine PE.imp text fun σ H Q ⟨g, ms, rv, ms', R, q, k⟩ => ?_
  unfold ev at q
  cases q2 : evs es ms with
  | none => rw [q2] at q; cases q
  | some r2 =>
    obtain ⟨vs, ms1⟩ := r2
    rw [q2] at q
    dsimp only at q
    split at q
    · rename_i hp q3
      cases q
      refine ⟨g, ms, vs, ms1, R, q2, fun g1 ws H1 R1 x1 r1 a dx ha hdx hne => ?_⟩
      have d1 := up_same (o := .own a) hdx
      have R2 := R1.new (o := .own a) hdx
      have ha2 : upd H1 dx (.own a) a = none := by rw [upd_ne (Ne.symm hne)]; exact ha
      have d2 := up_same (o := .ins C dx []) ha2
      have R3 := R2.new (o := .ins C dx []) ha2
      have fr := R2.hr.fresh ha2
      obtain ⟨R4, _⟩ := R3.alloc (a := a) (o := .ins y []) (.ins upd_same m rfl .nil) fr.1 fr.2 (R2.f0 ha2) (R2.oa0 ha2)
      have x4 : Ext g1 H1 { g1 with io := g1.io ++ [a] } (upd (upd H1 dx (.own a)) a (.ins C dx [])) := (Ext.trans (.same d1) (.same d2)).grow ha
      have hi : (g1.io ++ [a])[ms1.hp.length]? = some a := by
        rw [← R1.hr.hl]
        simp
      refine ⟨_, ms1.hp ++ [.ins y []], .ref ms1.hp.length :: vs, _, hp, R4.hr, .cons (.ref hi) (by simpa using R1.hr.avrs x4.toExt0 r1), q3, fun g3 v3 H3 h3 x3 z3 r3 => ?_⟩
      have hv : v3 = .non := by
        cases r3 with
        | av r3 => cases r3 with
          | dat r3 => cases r3; rfl
      refine ⟨hv, ?_⟩
      have R5 := R4.back h3 x3 z3
      have x5 : Ext { g1 with io := g1.io ++ [a] } (upd (upd H1 dx (.own a)) a (.ins C dx [])) { g3 with oa := g1.oa } H3 := ⟨⟨x3.keep, x3.zz, x3.io, x3.th⟩, fun b q => by
        rcases z3 b q with q | q
        · exact .inl q
        · exact .inr (.inl q), fun i b q => .inl ⟨i, q⟩⟩
      refine k _ (.ref a) H3 R5 (x1.trans (x4.trans x5)) (.av (.ref ?_))
      obtain ⟨n, en, _⟩ := x3.io
      show g3.io[_]? = _
      rw [en, List.getElem?_append_left (List.getElem?_eq_some_iff.mp hi).1]
      exact hi
    · cases q

/-! ### texts -/
theorem s_str1 {a : E} {x : Expr} {y : Str} {p pos : Pos} (hy : y = sStrN) (hg : isGl X.env.scope y = true) (ok : OkX X) (hx : isPl x = true) (h : ∀ b, PE X x (tE X.K X.mg X.w F b (ev b a))) (b : Bool) : PE X (.Call (.Name y p) [x] [] pos) (tE X.K X.mg X.w F b (ev b (.str1 a))) := by
  subst hy
  refine PE.imp (pe_callTy (X := X) call_str_int (gl_of hg) (ok.free sStr (by decide)) (by decide +kernel) (pa_cons (h true) pa_nil (pl_star hx _)) (by decide +kernel) (by decide +kernel) (pl_star hx _) rfl) fun σ H Q ⟨g, ms, rv, ms', R, q, k⟩ => ?_
  unfold ev at q
  cases q1 : ev true a ms with
  | none => rw [q1] at q; cases q
  | some r =>
    obtain ⟨u, ms1⟩ := r
    rw [q1] at q
    dsimp only at q
    obtain ⟨z, e1, e2⟩ := Option.map_eq_some_iff.mp q
    cases e2
    unfold strV at e1
    split at e1
    · rename_i i
      split at e1
      · rename_i c
        cases e1
        refine ⟨g, ms, _, ms', R, q1, fun g1 v H1 R1 x1 r1 => ?_⟩
        have e := r1.lr.int
        subst e
        exact ⟨i, rfl, c, k g1 _ H1 R1 x1 (.av (.dat (.str _)))⟩
      · cases e1
    · cases e1
theorem Dzs.str_of {K : PySem.W.Frag} {Z : Addr → Prop} {H : Hp} : ∀ {vs : List V} {ds : List PyData} {ns : List Str}, Dzs K Z H vs ds → strsD ds = some ns → vs = ns.map V.str
  | _, _, _, .nil, e => by simp [strsD] at e; subst e; rfl
  | _, _, _, .cons (d := d) p r, e => by
    cases p with
    | str i =>
      simp only [strsD, Option.map_eq_some_iff] at e
      obtain ⟨ms, e1, rfl⟩ := e
      simp [Dzs.str_of r e1]
    | _ => simp [strsD] at e
theorem s_join {s m : Str} {z : Str} {a : E} {x : Expr} {j : Nat} {kp ap cp : Pos} (hs : s = z) (hm : m = sJoin) (hl : (ap.endLine == cp.line) = true) (hx : isPl x = true) (h : ∀ b, PE X x (tE X.K X.mg X.w F b (ev b a))) (b : Bool) :
    PE X (.Call (.Attribute (.Constant (.str z) j kp) m ap) [x] [] cp) (tE X.K X.mg X.w F b (ev b (.join s a))) := by
  subst hs hm
  have pm := pe_bm (X := X) (name := sJoin) (apos := ap) (cpos := cp) PySem.F.plainAttrs_str PySem.F.slot_str_join PySem.F.type_str_join mt_join (pe_str (x := s) (j := j) (pos := kp)) (pa_cons (h true) pa_nil (pl_star hx [])) rfl (by rw [pl_star hx]; rfl) hl (pl_star hx []) rfl
  refine PE.imp pm fun σ H Q ⟨g, ms, rv, ms', R, q, k⟩ => ?_
  unfold ev at q
  cases q1 : ev true a ms with
  | none => rw [q1] at q; cases q
  | some r =>
    obtain ⟨u, ms1⟩ := r
    rw [q1] at q
    dsimp only at q
    obtain ⟨z, e1, e2⟩ := Option.map_eq_some_iff.mp q
    cases e2
    unfold joinV at e1
    split at e1
    · rename_i ds hd
      split at e1
      · rename_i ys hy
        split at e1
        · rename_i c
          cases e1
          refine ⟨rfl, g, ms, _, ms', R, q1, fun g1 v H1 R1 x1 r1 => ?_⟩
          obtain ⟨b0, vs, rfl, p3, p4⟩ := r1.lr.list hd
          have e := p4.str_of hy
          subst e
          refine ⟨s, b0, ys, rfl, rfl, .inl (SqL.of p3), c, ?_⟩
          have ej : Txt.join s ys = Str.join s ys := StrLaws.glued_eq_join ..
          rw [ej]
          exact k g1 _ H1 R1 x1 (.av (.dat (.str _)))
        · cases e1
      · cases e1
    · cases e1
end
end Sv

/-! Sv: sorted lists of tuples of small ints. -/
namespace Sv
open PySem PySem.Spec PyProof.Rows L2
theorem codeI_eq : ∀ ns : List Int, codeI ns = TS.code 1024 ns
  | [] => rfl
  | d :: r => by
    show d * 1024 ^ r.length + codeI r = d * 1024 ^ r.length + TS.code 1024 r
    rw [codeI_eq r]
theorem code_inj : ∀ {a b : List Int}, a.length = b.length → TS.Bd 1024 a → TS.Bd 1024 b → TS.code 1024 a = TS.code 1024 b → a = b
  | [], [], _, _, _, _ => rfl
  | [], _ :: _, h, _, _, _ => by simp at h
  | _ :: _, [], h, _, _, _ => by simp at h
  | x :: a, y :: b, h, ha, hb, e => by
    have hl : a.length = b.length := by simpa using h
    have hxy : x = y := by
      rcases Int.lt_trichotomy x y with c | c | c
      · have := TS.code_lt hl ha.tail hb.tail c; omega
      · exact c
      · have := TS.code_lt hl.symm hb.tail ha.tail c; omega
    subst hxy
    have e' : x * 1024 ^ a.length + TS.code 1024 a = x * 1024 ^ b.length + TS.code 1024 b := e
    rw [hl] at e'
    rw [code_inj hl ha.tail hb.tail (by omega)]
theorem insC_perm (x : List Int) : ∀ l : List (List Int), (insC x l).Perm (x :: l)
  | [] => .refl _
  | y :: r => by
    unfold insC
    split
    · exact .refl _
    · exact ((insC_perm x r).cons y).trans (.swap x y r)
theorem insC_sorted (x : List Int) : ∀ l : List (List Int), l.Pairwise (fun a b => codeI a ≤ codeI b) → (insC x l).Pairwise (fun a b => codeI a ≤ codeI b)
  | [], _ => by simp [insC]
  | y :: r, h => by
    unfold insC
    obtain ⟨h1, h2⟩ := List.pairwise_cons.mp h
    split
    · rename_i c
      refine List.pairwise_cons.mpr ⟨fun z hz => ?_, h⟩
      rcases List.mem_cons.mp hz with rfl | hz
      · exact c
      · exact Int.le_trans c (h1 z hz)
    · rename_i c
      refine List.pairwise_cons.mpr ⟨fun z hz => ?_, insC_sorted x r h2⟩
      rcases List.mem_cons.mp ((insC_perm x r).mem_iff.mp hz) with rfl | hz
      · omega
      · exact h1 z hz
theorem sortC_perm : ∀ l : List (List Int), (sortC l).Perm l
  | [] => .refl _
  | x :: r => (insC_perm x (sortC r)).trans ((sortC_perm r).cons x)
theorem sortC_sorted : ∀ l : List (List Int), (sortC l).Pairwise (fun a b => codeI a ≤ codeI b)
  | [] => .nil
  | x :: r => insC_sorted x _ (sortC_sorted r)
theorem dedC_mem : ∀ {l : List (List Int)} {x : List Int}, x ∈ dedC l ↔ x ∈ l
  | [], _ => .rfl
  | y :: r, x => by
    unfold dedC
    split
    · rename_i c
      rw [dedC_mem (l := r), List.mem_cons]
      constructor
      · exact .inr
      · rintro (rfl | h)
        · exact c
        · exact h
    · rw [List.mem_cons, List.mem_cons, dedC_mem (l := r)]
theorem dedC_nodup : ∀ l : List (List Int), (dedC l).Nodup
  | [] => .nil
  | y :: r => by
    unfold dedC
    split
    · exact dedC_nodup r
    · rename_i c
      exact List.nodup_cons.mpr ⟨fun h => c (dedC_mem.mp h), dedC_nodup r⟩
theorem okT_bd {d : Nat} {n : List Int} (h : okT d n = true) : n.length = d ∧ TS.Bd 1024 n := by
  unfold okT at h
  simp only [Bool.and_eq_true, decide_eq_true_eq, List.all_eq_true] at h
  exact ⟨h.1, fun m hm => h.2 m hm⟩
/-- the one ascending order -/
theorem sort_one {d : Nat} {l1 l2 : List (List Int)} (h : l1.Perm l2) (hd : ∀ n ∈ l2, n.length = d ∧ TS.Bd 1024 n) (h1 : l1.Pairwise (fun a b => TS.code 1024 a ≤ TS.code 1024 b)) (h2 : l2.Pairwise (fun a b => codeI a ≤ codeI b)) : l1 = l2 := by
  refine List.Perm.eq_of_pairwise (le := fun a b => TS.code 1024 a ≤ TS.code 1024 b) (fun a b ha hb q1 q2 => ?_) h1 (h2.imp fun {a b} q => by rw [codeI_eq, codeI_eq] at q; exact q) h
  obtain ⟨a1, a2⟩ := hd a (h.mem_iff.mp ha)
  obtain ⟨b1, b2⟩ := hd b hb
  exact code_inj (by rw [a1, b1]) a2 b2 (by omega)
section
variable {X : Cx} {F : Fr} {g g' : G} {ms ms' : MS} {σ : L2.St} {H H' : Hp}
theorem tups_of {K : PySem.W.Frag} {Z : Addr → Prop} {H : Hp} : ∀ {vs : List V} {ds : List PyData} {ns : List (List Int)}, Dzs K Z H vs ds → tupsI ds = some ns → ∃ ks : List (Addr × List Int), vs = ks.map (fun p => V.ref p.1) ∧ ks.map (·.2) = ns ∧ ∀ p ∈ ks, SqT K H p.1 (p.2.map V.int)
  | _, _, _, .nil, e => by
    simp [tupsI] at e
    subst e
    exact ⟨[], rfl, rfl, by simp⟩
  | _, _, _, .cons (d := d) p r, e => by
    cases p with
    | @tup a xs ds0 h1 h2 =>
      unfold tupsI at e
      split at e
      · rename_i n m e1 e2
        cases e
        obtain ⟨ks, q1, q2, q3⟩ := tups_of r e2
        have := h2.int_of e1
        subst this
        refine ⟨(a, n) :: ks, by rw [q1]; rfl, by rw [← q2]; rfl, fun p hp => ?_⟩
        rcases List.mem_cons.mp hp with rfl | hp
        · exact h1
        · exact q3 p hp
      · cases e
    | _ => simp [tupsI] at e
theorem dzs_tups {K : PySem.W.Frag} {Z : Addr → Prop} {H : Hp} : ∀ {ks : List (Addr × List Int)}, (∀ p ∈ ks, SqT K H p.1 (p.2.map V.int)) → Dzs K Z H (ks.map fun p => V.ref p.1) ((ks.map (·.2)).map fun n => PyData.tuple (n.map .int))
  | [], _ => .nil
  | p :: ks, h => .cons (.tup (h p (List.mem_cons_self ..)) (dzs_ints _)) (dzs_tups fun q hq => h q (List.mem_cons_of_mem _ hq))
theorem srt_cases {st : Bool} {x z : RV} (h : srtV st x = some z) : ∃ ds ns d, x.d? = some (.list ds) ∧ tupsI ds = some ns ∧ ns.length < 64 ∧ (∀ n ∈ ns, n.length = d ∧ TS.Bd 1024 n) ∧ 1 ≤ d ∧ z = .lst ((sortC (if st then dedC ns else ns)).map fun n => .tuple (n.map .int)) := by
  unfold srtV at h
  split at h
  · rename_i ds hd
    split at h
    · rename_i ns hn
      split at h
      · rename_i c
        cases h
        exact ⟨ds, ns, _, hd, hn, c.1, fun n hn => okT_bd (List.all_eq_true.mp c.2.1 n hn), c.2.2, rfl⟩
      · cases h
    · cases h
  · cases h
theorem s_sortSet {a : E} {x : Expr} {y z : Str} {p p2 p3 pos : Pos} (hy : y = sSorted) (hg : isGl X.env.scope y = true) (hz : z = sSet) (hgz : isGl X.env.scope z = true) (ok : OkX X) (hx : isPl x = true) (h : ∀ b, PE X x (tE X.K X.mg X.w F b (ev b a))) (b : Bool) :
    PE X (.Call (.Name y p) [.Call (.Name z p2) [x] [] p3] [] pos) (tE X.K X.mg X.w F b (ev b (.srt true a))) := by
  subst hy hz
  have ps := pe_callTy (X := X) (p := p2) (pos := p3) (cr_setOfT ok.calm ok.room.units) (gl_of hgz) (ok.free sSet (by decide)) (by decide +kernel) (pa_cons (h true) pa_nil (pl_star hx _)) (by decide +kernel) (by decide +kernel) (pl_star hx _) rfl
  refine PE.imp (pe_callB (X := X) (p := p) (pos := pos) (cr_sortedT ok.calm) (gl_of hg) (ok.free sSorted (by decide)) (by decide +kernel) (pa_cons ps pa_nil) (by decide +kernel) (by decide +kernel) rfl rfl) fun σ H Q ⟨g, ms, rv, ms', R, q, k⟩ => ?_
  unfold ev at q
  cases q1 : ev true a ms with
  | none => rw [q1] at q; cases q
  | some r =>
    obtain ⟨u, ms1⟩ := r
    rw [q1] at q
    dsimp only at q
    obtain ⟨zz, e1, e2⟩ := Option.map_eq_some_iff.mp q
    cases e2
    obtain ⟨ds, ns, d, c1, c2, c3, c4, c5, rfl⟩ := srt_cases e1
    refine ⟨g, ms, _, ms', R, q1, fun g1 v H1 R1 x1 r1 => ?_⟩
    obtain ⟨l, vs, rfl, p3, p4⟩ := r1.lr.list c1
    obtain ⟨ks, rfl, t2, t3⟩ := tups_of p4 c2
    refine ⟨l, ks, rfl, SqL.of p3, t3, by rw [← List.length_map (f := (·.2)) (as := ks), t2]; exact c3, fun A L hA hL1 hL2 => ?_⟩
    have up1 := up_same (o := SetTO X.prog X.w A L) hA
    have R2 := R1.new (o := SetTO X.prog X.w A L) hA
    have hLs : ∀ q ∈ L, SqT X.K (upd H1 A (SetTO X.prog X.w A L)) q.1 (q.2.map V.int) := fun q hq => sqT_keep (fun a xs h => up1 a _ h) (fun a o xs h => up1 a _ h) (t3 q (hL1 q hq))
    have hLn : ∀ q ∈ L, q.2.length = d ∧ TS.Bd 1024 q.2 := fun q hq => c4 q.2 (by rw [← t2]; exact List.mem_map_of_mem (hL1 q hq))
    refine ⟨A, L, d, 1024, rfl, upd_same, hLs, c5, hLn, fun L' pp hp1 hp2 hp3 hp4 hp5 => ?_⟩
    have up2 := up_same (o := .lst (L'.map fun q => V.ref q.1)) hp5
    have e : L'.map (·.2) = sortC (dedC ns) := by
      refine sort_one (d := d) ?_ (fun n hn => c4 n (dedC_mem.mp ((sortC_perm _).mem_iff.mp hn))) (List.pairwise_map.mpr hp4) (sortC_sorted _)
      refine (List.perm_ext_iff_of_nodup hp2 ((sortC_perm _).nodup_iff.mpr (dedC_nodup ns))).mpr fun n => ?_
      rw [(sortC_perm _).mem_iff, dedC_mem]
      constructor
      · intro hn
        obtain ⟨q, hq, rfl⟩ := List.mem_map.mp hn
        rw [← t2]
        exact List.mem_map_of_mem (hL1 q (hp1.mem_iff.mp hq))
      · intro hn
        rw [← t2] at hn
        obtain ⟨q, hq, rfl⟩ := List.mem_map.mp hn
        obtain ⟨q', hq', e'⟩ := List.mem_map.mp (hL2 q hq)
        exact List.mem_map.mpr ⟨q', hp1.mem_iff.mpr hq', e'⟩
    refine k g1 _ _ (R2.new hp5) ((x1.trans (.same up1)).trans (.same up2)) ?_
    have dz : Dzs X.K g1.Z (upd H1 A (SetTO X.prog X.w A L)) (L'.map fun q => V.ref q.1) ((sortC (dedC ns)).map fun n => PyData.tuple (n.map .int)) := by
      rw [← e]
      exact dzs_tups fun q hq => hLs q (hp1.mem_iff.mp hq)
    exact ((R2.newlst hp5 dz).since (x1.trans (.same up1)).toExt0)
theorem perm_map_inv {α β : Type} (f : α → β) {ys zs : List β} (h : ys.Perm zs) : ∀ l : List α, zs = l.map f → ∃ l' : List α, l'.Perm l ∧ ys = l'.map f := by
  induction h with
  | nil => intro l e; cases l with
    | nil => exact ⟨[], .refl _, rfl⟩
    | cons _ _ => simp at e
  | cons x _ ih => intro l e; cases l with
    | nil => simp at e
    | cons a l =>
      simp only [List.map_cons, List.cons.injEq] at e
      obtain ⟨rfl, e⟩ := e
      obtain ⟨l', h1, h2⟩ := ih l e
      exact ⟨a :: l', h1.cons a, by rw [h2]; rfl⟩
  | swap x y t => intro l e; match l, e with
    | [], e => simp at e
    | [_], e => simp at e
    | a :: b :: l, e =>
      simp only [List.map_cons, List.cons.injEq] at e
      obtain ⟨rfl, rfl, rfl⟩ := e
      exact ⟨b :: a :: l, .swap _ _ _, rfl⟩
  | trans _ _ ih1 ih2 => intro l e
                         obtain ⟨l2, h1, h2⟩ := ih2 l e
                         obtain ⟨l3, h3, h4⟩ := ih1 l2 h2
                         exact ⟨l3, h3.trans h1, h4⟩
theorem s_sortL {a : E} {x : Expr} {y : Str} {p pos : Pos} (hy : y = sSorted) (hg : isGl X.env.scope y = true) (ok : OkX X) (hx : isPl x = true) (h : ∀ b, PE X x (tE X.K X.mg X.w F b (ev b a))) (b : Bool) :
    PE X (.Call (.Name y p) [x] [] pos) (tE X.K X.mg X.w F b (ev b (.srt false a))) := by
  subst hy
  have pc := fun d (hd : 1 ≤ d) => pe_callB (X := X) (p := p) (pos := pos) (cr_sortT (d := d) (B := 1024) hd) (gl_of hg) (ok.free sSorted (by decide)) (by decide +kernel) (pa_cons (h true) pa_nil (pl_star hx _)) (by decide +kernel) (by decide +kernel) (pl_star hx _) rfl
  refine ⟨fun pins s σ H Q I hq => ?_⟩
  obtain ⟨g, ms, rv, ms', R, q, k⟩ := hq
  unfold ev at q
  cases q1 : ev true a ms with
  | none => rw [q1] at q; cases q
  | some r =>
    obtain ⟨u, ms1⟩ := r
    rw [q1] at q
    dsimp only at q
    obtain ⟨zz, e1, e2⟩ := Option.map_eq_some_iff.mp q
    cases e2
    obtain ⟨ds, ns, d, c1, c2, c3, c4, c5, rfl⟩ := srt_cases e1
    refine (pc d c5).run pins s σ H Q I ⟨g, ms, _, ms', R, q1, fun g1 v H1 R1 x1 r1 => ?_⟩
    obtain ⟨l, vs, rfl, p3, p4⟩ := r1.lr.list c1
    obtain ⟨ks, rfl, t2, t3⟩ := tups_of p4 c2
    refine ⟨l, _, rfl, SqL.of p3, by rw [List.length_map, ← List.length_map (f := (·.2)) (as := ks), t2]; exact c3, fun z hz => ?_, fun ys pp hp1 hp2 hp5 => ?_⟩
    · obtain ⟨q, hq, rfl⟩ := List.mem_map.mp hz
      obtain ⟨b1, b2⟩ := c4 q.2 (by rw [← t2]; exact List.mem_map_of_mem hq)
      exact ⟨q.2, ⟨q.1, rfl, t3 q hq⟩, b1, b2⟩
    · obtain ⟨L', l1, rfl⟩ := perm_map_inv _ hp1 ks rfl
      have t3' : ∀ q ∈ L', SqT X.K H1 q.1 (q.2.map V.int) := fun q hq => t3 q (l1.mem_iff.mp hq)
      have e : L'.map (·.2) = sortC ns := by
        refine sort_one (d := d) ?_ (fun n hn => c4 n ((sortC_perm _).mem_iff.mp hn)) ?_ (sortC_sorted _)
        · rw [← t2]
          exact (l1.map _).trans (by rw [t2]; exact (sortC_perm ns).symm)
        · rw [List.pairwise_map] at hp2 ⊢
          exact hp2.imp_of_mem fun {q r} hq hr z => z _ _ ⟨q.1, rfl, t3' q hq⟩ ⟨r.1, rfl, t3' r hr⟩
      have up2 := up_same (o := .lst (L'.map fun q => V.ref q.1)) hp5
      refine k g1 _ _ (R1.new hp5) (x1.trans (.same up2)) ?_
      have dz : Dzs X.K g1.Z H1 (L'.map fun q => V.ref q.1) ((sortC ns).map fun n => PyData.tuple (n.map .int)) := by
        rw [← e]
        exact dzs_tups t3'
      exact ((R1.newlst hp5 dz).since x1.toExt0)
end
end Sv

/-! Sv: further expressions. -/
namespace Sv
open PySem PySem.Spec PyProof.Rows L2
section
variable {X : Cx} {F : Fr} {g g' : G} {ms ms' : MS} {σ : L2.St} {H H' : Hp}
/-! ### lists of the small heap read as data -/
theorem LR.dhl {hp : List AO} (R : HRel X.K X.mg X.w g hp H) {v : V} {x : RV} {xs : List PyData} (h : LR X.K g H v x) (e : x.dh hp = some (.list xs)) : ∃ a vs, v = .ref a ∧ H a = some (.lst vs) ∧ Dzs X.K g.Z H vs xs := by
  unfold RV.dh at e
  split at e
  · exact h.list e
  · exact h.list e
  · rename_i j
    split at e
    · rename_i vs e1
      obtain ⟨ds, e2, e3⟩ := Option.map_eq_some_iff.mp e
      cases e3
      cases h with
      | av h =>
        obtain ⟨a, ws, _, rfl, p3, p4⟩ := R.lst h e1
        exact ⟨a, ws, rfl, p3, p4.dzs e2⟩
    · cases e
  · cases e
theorem LR.dhp {hp : List AO} (R : HRel X.K X.mg X.w g hp H) {v : V} {x : RV} {d : PyData} (h : LR X.K g H v x) (e : x.dh hp = some d) : Dp X.K H v d := by
  unfold RV.dh at e
  split at e
  · exact h.dp e
  · exact h.dp e
  · rename_i j
    split at e
    · rename_i vs e1
      obtain ⟨ds, e2, e3⟩ := Option.map_eq_some_iff.mp e
      cases e3
      cases h with
      | av h =>
        obtain ⟨a, ws, _, rfl, p3, p4⟩ := R.lst h e1
        exact .lst (SqL.of p3) (p4.dzs e2).dp
    · cases e
  · cases e
def cmpHR (c : CmpO) : List AO → RV → RV → Option RV := fun hp x y => (cmpHV c hp x y).map blV
theorem op_cmpH (hr : Room 0 X.A) (o : CmpO) : OpR X (compareOp (cop o)) (rV X.K X.mg X.w F (cmpHR o)) := by
  intro pins s σ H v w v' w' Q I rv rw' h
  obtain ⟨g, ms, σ', x, y, z, R, lv, lw, e, k⟩ := h
  unfold cmpHR at e
  obtain ⟨b, e1, rfl⟩ := Option.map_eq_some_iff.mp e
  have fin := k (.bl b) H (fun _ _ q => q) (rvr_bl b)
  unfold cmpHV at e1
  split at e1
  · rename_i d e a1 a2
    split at e1
    · rename_i c
      have d1 := lv.dhp R.hr a1
      have d2 := lw.dhp R.hr a2
      cases o with
      | eq =>
        cases e1
        exact op_eqD hr.units pins s σ H _ _ v' w' Q I rv rw' ⟨_, _, d1, d2, dp_shaped d1 c.1, dp_shaped d2 c.2, by rw [← eqq_eqv]; exact fin⟩
      | ne =>
        cases e1
        exact op_neD hr.units pins s σ H _ _ v' w' Q I rv rw' ⟨_, _, d1, d2, dp_shaped d1 c.1, dp_shaped d2 c.2, by rw [← eqq_eqv]; exact fin⟩
      | _ => cases e1
    · cases e1
  · cases e1
theorem ev_cmpH (o : CmpO) (a b : E) (k : Bool) (ms : MS) (r : RV × MS) (h : ev k (.cmpH o a b) ms = some r) : ∃ x ms1 y ms2 z, ev true a ms = some (x, ms1) ∧ ev true b ms1 = some (y, ms2) ∧ cmpHR o ms2.hp x y = some z ∧ r = (z, ms2) := by
  unfold ev at h
  cases q1 : ev true a ms with
  | none => rw [q1] at h; cases h
  | some r1 =>
    obtain ⟨x, ms1⟩ := r1
    rw [q1] at h
    dsimp only at h
    cases q2 : ev true b ms1 with
    | none => rw [q2] at h; cases h
    | some r2 =>
      obtain ⟨y, ms2⟩ := r2
      rw [q2] at h
      dsimp only at h
      obtain ⟨z, q3, q4⟩ := Option.map_eq_some_iff.mp h
      exact ⟨x, ms1, y, ms2, blV z, rfl, q2, by unfold cmpHR; rw [q3]; rfl, q4.symm⟩
def rB1H (K : PySem.W.Frag) (mg : Str → Option Value) (wd : World) (F : Fr) (f : B1) : List V → Hp → VK → Prop := fun vs H Q => ∃ v g ms σ x z, vs = [v] ∧ Rel K mg wd F g ms σ H ∧ LR K g H v x ∧ b1HV f ms.hp x = some z ∧
  ∀ v' H', (∀ a o, H a = some o → H' a = some o) → RVR K F g H H' false v' z → Q v' H'
theorem call_b1H (hc : X.calm = true) (f : B1) : CallR X (b1v f) (rB1H X.K X.mg X.w F f) := by
  intro pins s σ H vs us Q I r h
  obtain ⟨v, g, ms, σ', x, z, rfl, R, lv, e, k⟩ := h
  unfold b1HV at e
  split at e
  · rename_i xs e2
    cases e
    obtain ⟨b, ws, rfl, p3, p4⟩ := lv.dhl R.hr e2
    exact call_tuple_of pins s σ H _ us Q I r ⟨b, ws, rfl, .inl ⟨SqL.of p3, fun p hp => k _ _ (up_same hp) (R.newtup hp p4)⟩⟩
  · rename_i xs e2
    cases e
    obtain ⟨b, ws, rfl, p3, p4⟩ := lv.dhl R.hr e2
    exact call_list_of pins s σ H _ us Q I r ⟨b, ws, rfl, .inl (SqL.of p3), fun p hp => k _ _ (up_same hp) (R.newlst hp p4)⟩
  · rename_i xs e2
    obtain ⟨ns, e3, rfl⟩ := Option.map_eq_some_iff.mp e
    obtain ⟨b, ws, rfl, p3, p4⟩ := lv.dhl R.hr e2
    have e4 := p4.int_of e3
    subst e4
    exact cr_sum hc pins s σ H _ us Q I r ⟨b, ns, rfl, SqL.of p3, k _ H (fun _ _ q => q) (rvr_int _)⟩
  · cases e
/-- one operand, an operation on values -/
theorem un_call {b : Bool} {a e : E} {op : List AO → RV → Option RV} {Q : VK} (he : ∀ ms, ev b e ms = match ev true a ms with
    | some (x, ms1) => (op ms1.hp x).map fun z => (z, ms1)
    | none => none) (q : tE X.K X.mg X.w F b (ev b e) σ H Q) : tE X.K X.mg X.w F true (ev true a) σ H fun v H1 => ∃ g ms x z, Rel X.K X.mg X.w F g ms σ H1 ∧ LR X.K g H1 v x ∧ op ms.hp x = some z ∧ ∀ v' H', (∀ a o, H1 a = some o → H' a = some o) → RVR X.K F g H1 H' false v' z → Q v' H' :=
  un_read (fun ms r q => by
    rw [he] at q
    cases q1 : ev true a ms with
    | none => rw [q1] at q; cases q
    | some r1 =>
      obtain ⟨u, ms1⟩ := r1
      rw [q1] at q
      dsimp only at q
      obtain ⟨c, q4, q5⟩ := Option.map_eq_some_iff.mp q
      exact ⟨u, ms1, c, rfl, q4, q5.symm⟩) q
theorem s_b1H {f : B1} {a : E} {x : Expr} {y : Str} {p pos : Pos} (hy : y = b1n f) (hg : isGl X.env.scope y = true) (ok : OkX X) (hx : isPl x = true) (h : ∀ b, PE X x (tE X.K X.mg X.w F b (ev b a))) (b : Bool) :
    PE X (.Call (.Name y p) [x] [] pos) (tE X.K X.mg X.w F b (ev b (.b1H f a))) := by
  have red : ∀ σ H Q, tE X.K X.mg X.w F b (ev b (.b1H f a)) σ H Q → tCB (rB1H X.K X.mg X.w F f) (tCons (tE X.K X.mg X.w F true (ev true a)) tNil) σ H Q := fun σ H Q q => by
    obtain ⟨g, ms, rv, ms', R, e, k⟩ := un_call (a := a) (op := fun hp x => b1HV f hp x) (fun ms => by first | (rw [ev]; done) | (rw [ev]; cases ev true a ms <;> rfl)) q
    refine ⟨g, ms, rv, ms', R, e, fun g1 v H1 R1 x1 r1 => ?_⟩
    obtain ⟨g2, ms2, u, z, R2, l2, e2, k2⟩ := k g1 v H1 R1 x1 r1
    exact ⟨v, g2, ms2, σ, u, z, rfl, R2, l2, e2, k2⟩
  subst hy
  cases f with
  | sum => exact PE.imp (pe_callB (X := X) (call_b1H ok.calm .sum) (gl_of hg) (ok.free sSum (by decide)) (by decide +kernel) (pa_cons (h true) pa_nil (pl_star hx _)) (by decide +kernel) (by decide +kernel) (pl_star hx _) rfl) red
  | tuple => exact PE.imp (pe_callTy (X := X) (call_b1H ok.calm .tuple) (gl_of hg) (ok.free sTuple (by decide)) (by decide +kernel) (pa_cons (h true) pa_nil (pl_star hx _)) (by decide +kernel) (by decide +kernel) (pl_star hx _) rfl) red
  | list => exact PE.imp (pe_callTy (X := X) (call_b1H ok.calm .list) (gl_of hg) (ok.free sList (by decide)) (by decide +kernel) (pa_cons (h true) pa_nil (pl_star hx _)) (by decide +kernel) (by decide +kernel) (pl_star hx _) rfl) red
  | _ =>
    refine PE.imp (t := fun _ _ _ => False) ⟨fun _ _ _ _ _ _ q => q.elim⟩ fun σ H Q q => ?_
    obtain ⟨g, ms, rv, ms', R, e, k⟩ := q
    unfold ev at e
    split at e
    · simp [b1HV] at e
    · cases e
/-! ### chains of comparisons of ints -/
def rLt : R2 := fun x y H Q => ∃ i j, x = .int i ∧ y = .int j ∧ Q (.bl (decide (i < j))) H
theorem op_cmpI {o : CmpO} {p : CmpOp} (h : mLt o p = true) : OpR X (compareOp p) (fun x y H Q => ∃ i j, x = V.int i ∧ y = V.int j ∧ Q (.bl (cmpI o i j)) H) := by
  cases o <;> cases p <;> first | (exact absurd (show false = true from h) Bool.false_ne_true) | skip
  · intro pins s σ H x y v u Q I rx ry q
    obtain ⟨i, j, rfl, rfl, q⟩ := q
    exact op_lt pins s σ H _ _ v u Q I rx ry ⟨i, j, rfl, rfl, q⟩
  · intro pins s σ H x y v u Q I rx ry q
    obtain ⟨i, j, rfl, rfl, q⟩ := q
    exact op_le pins s σ H _ _ v u Q I rx ry ⟨i, j, rfl, rfl, q⟩
theorem rd_chain {o1 o2 : CmpO} {a b c : E} {k : Bool} {Q : VK} (h : tE X.K X.mg X.w F k (ev k (.chain o1 o2 a b c)) σ H Q) :
    tChain (fun x y H Q => ∃ i j, x = V.int i ∧ y = V.int j ∧ Q (.bl (cmpI o1 i j)) H) (fun x y H Q => ∃ i j, x = V.int i ∧ y = V.int j ∧ Q (.bl (cmpI o2 i j)) H) (tE X.K X.mg X.w F true (ev true a)) (tE X.K X.mg X.w F true (ev true b)) (tE X.K X.mg X.w F true (ev true c)) σ H Q := by
  obtain ⟨g, ms, rv, ms', R, q, k⟩ := h
  unfold ev at q
  split at q
  · rename_i i ms1 q1
    split at q
    · rename_i j ms2 q2
      refine ⟨g, ms, _, ms1, R, q1, fun g1 v H1 R1 x1 r1 => ⟨g1, ms1, _, ms2, R1, q2, fun g2 w H2 R2 x2 r2 => ⟨i, j, r1.lr.int, r2.lr.int, cmpI o1 i j, rfl, ?_⟩⟩⟩
      split at q
      · rename_i hc
        rw [if_pos hc]
        split at q
        · rename_i m ms3 q3
          cases q
          exact ⟨g2, ms2, _, ms', R2, q3, fun g3 u H3 R3 x3 r3 => ⟨j, m, r2.lr.int, r3.lr.int, k g3 _ H3 R3 ((x1.trans x2).trans x3) (rvr_bl _)⟩⟩
        · cases q
      · rename_i hc
        cases q
        rw [if_neg hc]
        exact k g2 _ H2 R2 (x1.trans x2) (rvr_bl _)
    · cases q
  · cases q
theorem s_chain {o1 o2 : CmpO} {p1 p2 : CmpOp} {a b c : E} {x y z : Expr} {pos : Pos} (h1 : mLt o1 p1 = true) (h2 : mLt o2 p2 = true) (hz : isPl z = true) (ha : ∀ b, PE X x (tE X.K X.mg X.w F b (ev b a))) (hb : ∀ k, PE X y (tE X.K X.mg X.w F k (ev k b))) (hc : ∀ b, PE X z (tE X.K X.mg X.w F b (ev b c))) :
    Sd X F (.chain o1 o2 a b c) (.Compare x [p1, p2] [y, z] pos) := by
  have hm : lastMarks [p1, p2] [y, z] = false := pl_mark hz p2
  exact ⟨fun k => PE.imp (pe_chain (op_cmpI h1) (op_cmpI h2) (ha true) (hb true) (hc true) hm) fun σ H Q q => rd_chain q,
    fun _ => PT.imp (pt_chain (op_cmpI h1) (op_cmpI h2) (ha true) (hb true) (hc true) hm) fun σ H Q q => by
      have q2 := rd_chain (tT_of (b := true) q)
      exact q2, fun _ _ _ z => nomatch z⟩
/-! ### max, min -/
theorem s_mx {mn : Bool} {a b : E} {x z : Expr} {y : Str} {p pos : Pos} (hy : y = mxN mn) (hg : isGl X.env.scope y = true) (ok : OkX X) (hx : isPl x = true) (hz : isPl z = true) (h1 : ∀ b, PE X x (tE X.K X.mg X.w F b (ev b a))) (h2 : ∀ k, PE X z (tE X.K X.mg X.w F k (ev k b))) (k : Bool) :
    PE X (.Call (.Name y p) [x, z] [] pos) (tE X.K X.mg X.w F k (ev k (.mx mn a b))) := by
  have red : ∀ σ H Q, tE X.K X.mg X.w F k (ev k (.mx mn a b)) σ H Q → tE X.K X.mg X.w F true (ev true a) σ H fun v H1 => tE X.K X.mg X.w F true (ev true b) σ H1 fun w H2 => ∃ i j, v = .int i ∧ w = .int j ∧ Q (.int (mxI mn i j)) H2 := fun σ H Q ⟨g, ms, rv, ms', R, q, kk⟩ => by
    unfold ev at q
    split at q
    · rename_i i ms1 q1
      split at q
      · rename_i j ms2 q2
        cases q
        exact ⟨g, ms, _, ms1, R, q1, fun g1 v H1 R1 x1 r1 => ⟨g1, ms1, _, ms', R1, q2, fun g2 w H2 R2 x2 r2 => ⟨i, j, r1.lr.int, r2.lr.int, kk g2 _ H2 R2 (x1.trans x2) (rvr_int _)⟩⟩⟩
      · cases q
    · cases q
  subst hy
  cases mn with
  | false =>
    refine PE.imp (pe_callB (X := X) (call_max2 ok.calm) (gl_of hg) (ok.free sMax (by decide)) (by decide +kernel) (pa_cons (h1 true) (pa_cons (h2 true) pa_nil (pl_star hz _)) (pl_star hx _)) (by decide +kernel) (by decide +kernel) (pl_star hx _) (by rw [pl_star hz] <;> rfl)) fun σ H Q q => ?_
    obtain ⟨g, ms, rv, ms', R, e, kk⟩ := red σ H Q q
    refine ⟨g, ms, rv, ms', R, e, fun g1 v H1 R1 x1 r1 => ?_⟩
    obtain ⟨g2, ms2, u, z, R2, l2, k2⟩ := kk g1 v H1 R1 x1 r1
    refine ⟨g2, ms2, u, z, R2, l2, fun g3 w H3 R3 x3 r3 => ?_⟩
    obtain ⟨i, j, rfl, rfl, q⟩ := k2 g3 w H3 R3 x3 r3
    exact ⟨i, j, rfl, q⟩
  | true =>
    refine PE.imp (pe_callB (X := X) (call_min2 ok.calm) (gl_of hg) (ok.free sMin (by decide)) (by decide +kernel) (pa_cons (h1 true) (pa_cons (h2 true) pa_nil (pl_star hz _)) (pl_star hx _)) (by decide +kernel) (by decide +kernel) (pl_star hx _) (by rw [pl_star hz] <;> rfl)) fun σ H Q q => ?_
    obtain ⟨g, ms, rv, ms', R, e, kk⟩ := red σ H Q q
    refine ⟨g, ms, rv, ms', R, e, fun g1 v H1 R1 x1 r1 => ?_⟩
    obtain ⟨g2, ms2, u, z, R2, l2, k2⟩ := kk g1 v H1 R1 x1 r1
    refine ⟨g2, ms2, u, z, R2, l2, fun g3 w H3 R3 x3 r3 => ?_⟩
    obtain ⟨i, j, rfl, rfl, q⟩ := k2 g3 w H3 R3 x3 r3
    exact ⟨i, j, rfl, q⟩
theorem mxIs_max : ∀ (n : Int) (ns : List Int), mxIs false (n :: ns) ∈ n :: ns ∧ ∀ y ∈ n :: ns, y ≤ mxIs false (n :: ns)
  | n, [] => by simp [mxIs]
  | n, m :: ns => by
    obtain ⟨h1, h2⟩ := mxIs_max m ns
    have e : mxIs false (n :: m :: ns) = mxI false n (mxIs false (m :: ns)) := rfl
    rw [e]
    have e2 : mxI false n (mxIs false (m :: ns)) = if mxIs false (m :: ns) > n then mxIs false (m :: ns) else n := rfl
    rw [e2]
    split
    · rename_i c
      refine ⟨List.mem_cons_of_mem _ h1, fun y hy => ?_⟩
      rcases List.mem_cons.mp hy with rfl | hy
      · omega
      · exact h2 y hy
    · rename_i c
      refine ⟨List.mem_cons_self, fun y hy => ?_⟩
      rcases List.mem_cons.mp hy with rfl | hy
      · omega
      · have := h2 y hy; omega
theorem mxIs_min : ∀ (n : Int) (ns : List Int), mxIs true (n :: ns) ∈ n :: ns ∧ ∀ y ∈ n :: ns, mxIs true (n :: ns) ≤ y
  | n, [] => by simp [mxIs]
  | n, m :: ns => by
    obtain ⟨h1, h2⟩ := mxIs_min m ns
    have e : mxIs true (n :: m :: ns) = mxI true n (mxIs true (m :: ns)) := rfl
    rw [e]
    have e2 : mxI true n (mxIs true (m :: ns)) = if mxIs true (m :: ns) < n then mxIs true (m :: ns) else n := rfl
    rw [e2]
    split
    · rename_i c
      refine ⟨List.mem_cons_of_mem _ h1, fun y hy => ?_⟩
      rcases List.mem_cons.mp hy with rfl | hy
      · omega
      · exact h2 y hy
    · rename_i c
      refine ⟨List.mem_cons_self, fun y hy => ?_⟩
      rcases List.mem_cons.mp hy with rfl | hy
      · omega
      · have := h2 y hy; omega
theorem s_mxL {mn : Bool} {a : E} {x : Expr} {y : Str} {p pos : Pos} (hy : y = mxN mn) (hg : isGl X.env.scope y = true) (ok : OkX X) (hx : isPl x = true) (h1 : ∀ b, PE X x (tE X.K X.mg X.w F b (ev b a))) (k : Bool) :
    PE X (.Call (.Name y p) [x] [] pos) (tE X.K X.mg X.w F k (ev k (.mxL mn a))) := by
  have red : ∀ σ H Q, tE X.K X.mg X.w F k (ev k (.mxL mn a)) σ H Q → tE X.K X.mg X.w F true (ev true a) σ H fun v H1 => ∃ aa n ns, v = .ref aa ∧ H1 aa = some (.lst ((n :: ns).map V.int)) ∧ Q (.int (mxIs mn (n :: ns))) H1 := fun σ H Q ⟨g, ms, rv, ms', R, q, kk⟩ => by
    unfold ev at q
    split at q
    · rename_i u ms1 q1
      split at q
      · rename_i xs e2
        split at q
        · rename_i n ns e3
          cases q
          refine ⟨g, ms, _, ms', R, q1, fun g1 v H1 R1 x1 r1 => ?_⟩
          obtain ⟨b, ws, rfl, p3, p4⟩ := r1.lr.list e2
          have e4 := p4.int_of e3
          subst e4
          exact ⟨b, n, ns, rfl, p3, kk g1 _ H1 R1 x1 (rvr_int _)⟩
        · cases q
      · cases q
    · cases q
  subst hy
  cases mn with
  | false =>
    refine PE.imp (pe_callB (X := X) (cr_max ok.calm) (gl_of hg) (ok.free sMax (by decide)) (by decide +kernel) (pa_cons (h1 true) pa_nil (pl_star hx _)) (by decide +kernel) (by decide +kernel) (pl_star hx _) rfl) fun σ H Q q => ?_
    obtain ⟨g, ms, rv, ms', R, e, kk⟩ := red σ H Q q
    refine ⟨g, ms, rv, ms', R, e, fun g1 v H1 R1 x1 r1 => ?_⟩
    obtain ⟨b, n, ns, rfl, p3, q⟩ := kk g1 v H1 R1 x1 r1
    refine ⟨b, n :: ns, rfl, SqL.of p3, by simp, fun m h1 h2 => ?_⟩
    obtain ⟨m1, m2⟩ := mxIs_max n ns
    have em : m = mxIs false (n :: ns) := Int.le_antisymm (m2 m h1) (h2 _ m1)
    rw [em]
    exact q
  | true =>
    refine PE.imp (pe_callB (X := X) (cr_min ok.calm) (gl_of hg) (ok.free sMin (by decide)) (by decide +kernel) (pa_cons (h1 true) pa_nil (pl_star hx _)) (by decide +kernel) (by decide +kernel) (pl_star hx _) rfl) fun σ H Q q => ?_
    obtain ⟨g, ms, rv, ms', R, e, kk⟩ := red σ H Q q
    refine ⟨g, ms, rv, ms', R, e, fun g1 v H1 R1 x1 r1 => ?_⟩
    obtain ⟨b, n, ns, rfl, p3, q⟩ := kk g1 v H1 R1 x1 r1
    refine ⟨b, n :: ns, rfl, SqL.of p3, by simp, fun m h1 h2 => ?_⟩
    obtain ⟨m1, m2⟩ := mxIs_min n ns
    have em : m = mxIs true (n :: ns) := Int.le_antisymm (h2 _ m1) (m2 m h1)
    rw [em]
    exact q
/-- max(xs, default=d) -/
def rMaxDf (K : PySem.W.Frag) : List V → List V → Hp → VK → Prop := fun vs zs H Q => ∃ (a : Addr) (ns : List Int) (i : Int), vs = [V.ref a] ∧ zs = [V.int i] ∧ H a = some (.lst (ns.map V.int)) ∧ Q (.int (if ns.isEmpty then i else mxIs false ns)) H
theorem foldl_max : ∀ (ns : List Int) (n : Int), ns.foldl max n = mxIs false (n :: ns)
  | [], n => rfl
  | m :: ns, n => by
    have e : mxIs false (n :: m :: ns) = mxI false n (mxIs false (m :: ns)) := rfl
    rw [e, List.foldl_cons, foldl_max ns (max n m)]
    cases ns with
    | nil => show max n m = if m > n then m else n; omega
    | cons k ns =>
      have e1 : mxIs false (max n m :: k :: ns) = mxI false (max n m) (mxIs false (k :: ns)) := rfl
      have e2 : mxIs false (m :: k :: ns) = mxI false m (mxIs false (k :: ns)) := rfl
      rw [e1, e2]
      generalize mxIs false (k :: ns) = z
      show (if z > max n m then z else max n m) = if (if z > m then z else m) > n then (if z > m then z else m) else n
      omega
theorem reads_ints {h : Heap} : ∀ {ns : List Int} {its : List Value}, Vals (ns.map V.int) its → ReadsAll h its (ns.map .int) (ns.flatMap fun _ => [])
  | [], _, r => by cases r; exact .nil
  | n :: ns, _, r => by
    rw [List.map_cons] at r
    cases r with
    | cons r t =>
      obtain ⟨k, rfl⟩ := r
      exact .cons (.int n k) (reads_ints t)
theorem depth_ints : ∀ ns : List Int, PyData.depthAll (ns.map .int) = 0
  | [] => by simp [PyData.depthAll]
  | n :: ns => by simp [PyData.depthAll, PyData.depth, depth_ints ns]
theorem cr_maxDf (hr : Room 0 X.A) (hc : X.calm = true) : CallRK X (.builtin "max") [Str.ofString "default"] (rMaxDf X.K) := by
  intro pins s σ H vs zs us ws Q I r rz h
  obtain ⟨a, ns, i, rfl, rfl, ha, q⟩ := h
  obtain ⟨u1, rfl, ri⟩ := vals1 rz
  rw [Vals.ref1 r]
  obtain ⟨its, rv, hl, _⟩ := I.list (SqL.of ha)
  have al : PySem.W.AlikeAll (ns.map PyData.int) := ⟨fun x hx y hy => by
    obtain ⟨i, _, rfl⟩ := List.mem_map.mp hx
    obtain ⟨j, _, rfl⟩ := List.mem_map.mp hy
    rfl, fun x hx => by
    obtain ⟨i, _, rfl⟩ := List.mem_map.mp hx
    simp⟩
  refine PySem.W.max_list_default (I.ok.hd hc) hl.isList (by simpa using reads_ints rv) al (by rw [depth_ints]; have := hr.un; omega) (fun e h' tk hk => ?_) fun y ys j v h' tk bs e hv rd hk => ?_
  · have e' : ns = [] := by simpa using e
    subst e'
    exact ⟨.int i, H, I.kept hk, ri, q⟩
  · cases ns with
    | nil => cases e
    | cons n ns =>
      rw [List.map_cons] at e
      obtain ⟨rfl, rfl⟩ := List.cons.inj e
      rw [PySem.W.maxD_ints, foldl_max] at rd
      cases rd with
      | int _ t => exact ⟨.int _, H, I.kept hk, ⟨t, rfl⟩, q⟩
theorem s_mxD {a d : E} {x z : Expr} {y k0 : Str} {p pos kp : Pos} (hy : y = sMax) (hg : isGl X.env.scope y = true) (hk0 : k0 = sDefault) (ok : OkX X) (hx : isPl x = true) (h1 : ∀ b, PE X x (tE X.K X.mg X.w F b (ev b a))) (h2 : ∀ b, PE X z (tE X.K X.mg X.w F b (ev b d))) (k : Bool) :
    PE X (.Call (.Name y p) [x] [⟨some k0, z, kp⟩] pos) (tE X.K X.mg X.w F k (ev k (.mxD a d))) := by
  subst hy hk0
  refine PE.imp (pe_callBK (X := X) (cr_maxDf ok.room ok.calm) (gl_of hg) (ok.free sMax (by decide)) (by decide +kernel) (pa_cons (h1 true) pa_nil (pl_star hx _)) (pk_cons (h2 true) pk_nil) (by decide +kernel) (by decide +kernel) (by rw [pl_star hx] <;> rfl) (by rw [pl_star hx] <;> rfl) rfl rfl (by rfl)) fun σ H Q ⟨g, ms, rv, ms', R, q, kk⟩ => ?_
  unfold ev at q
  split at q
  · rename_i u ms1 q1
    split at q
    · rename_i xs e2
      split at q
      · rename_i ns e3
        split at q
        · rename_i i ms2 q2
          cases q
          refine ⟨g, ms, u, ms1, R, q1, fun g1 v H1 R1 x1 r1 => ⟨g1, ms1, _, ms', R1, q2, fun g2 w H2 R2 x2 r2 => ?_⟩⟩
          have r3 := r1.lr.ext R1.hr x2.toExt0
          obtain ⟨b, ws, rfl, p3, p4⟩ := r3.list e2
          have e4 := p4.int_of e3
          subst e4
          exact ⟨b, ns, i, rfl, by rw [r2.lr.int], p3, kk g2 _ H2 R2 (x1.trans x2) (rvr_int _)⟩
        · cases q
      · cases q
    · cases q
  · cases q
/-! ### is of bools -/
theorem s_isb {neg v w : Bool} {a : E} {x : Expr} {o : CmpOp} {j : Nat} {p pos : Pos} (ho : mIs neg o = true) (hw : w = v) (h : ∀ b, PE X x (tE X.K X.mg X.w F b (ev b a))) : Sd X F (.isb neg v a) (.Compare x [o] [.Constant (.bool w) j p] pos) := by
  subst hw
  have red : ∀ b σ H Q, tE X.K X.mg X.w F b (ev b (.isb neg w a)) σ H Q → tE X.K X.mg X.w F true (ev true a) σ H fun u H1 => ∃ c, u = .bl c ∧ Q (.bl (if neg then !(c == w) else (c == w))) H1 := fun b σ H Q ⟨g, ms, rv, ms', R, q, k⟩ => by
    unfold ev at q
    split at q
    · rename_i c ms1 q1
      cases q
      exact ⟨g, ms, _, ms', R, q1, fun g1 u H1 R1 x1 r1 => ⟨c, r1.lr.bl, k g1 _ H1 R1 x1 (rvr_bl _)⟩⟩
    · cases q
  have bq : ∀ c : Bool, decide (c = w) = (c == w) := fun c => by cases c <;> cases w <;> rfl
  cases neg with
  | false =>
    cases o <;> simp [mIs] at ho
    have rd : ∀ b σ H Q, tE X.K X.mg X.w F b (ev b (.isb false w a)) σ H Q → tOp rIsB (tE X.K X.mg X.w F true (ev true a)) (tC (.bl w)) σ H Q := fun b σ H Q q => by
      obtain ⟨g, ms, rv, ms', R, e, k⟩ := red b σ H Q q
      refine ⟨g, ms, rv, ms', R, e, fun g1 v H1 R1 x1 r1 => ?_⟩
      obtain ⟨c, rfl, q⟩ := k g1 v H1 R1 x1 r1
      exact ⟨c, w, rfl, rfl, by rw [bq]; simpa using q⟩
    exact ⟨fun b => PE.imp (pe_cmpR op_isBl (h true) pe_bl (nomark _)) (rd b), fun _ => PT.imp (pt_cmpR op_isBl (h true) pe_bl (nomark _)) fun σ H Q q => rd true σ H _ (tT_of q), fun _ _ _ z => by cases z⟩
  | true =>
    cases o <;> simp [mIs] at ho
    have rd : ∀ b σ H Q, tE X.K X.mg X.w F b (ev b (.isb true w a)) σ H Q → tOp rNotB (tE X.K X.mg X.w F true (ev true a)) (tC (.bl w)) σ H Q := fun b σ H Q q => by
      obtain ⟨g, ms, rv, ms', R, e, k⟩ := red b σ H Q q
      refine ⟨g, ms, rv, ms', R, e, fun g1 v H1 R1 x1 r1 => ?_⟩
      obtain ⟨c, rfl, q⟩ := k g1 v H1 R1 x1 r1
      exact ⟨c, w, rfl, rfl, by rw [bq]; simpa using q⟩
    exact ⟨fun b => PE.imp (pe_cmpR op_notBl (h true) pe_bl (nomark _)) (rd b), fun _ => PT.imp (pt_cmpR op_notBl (h true) pe_bl (nomark _)) fun σ H Q q => rd true σ H _ (tT_of q), fun _ _ _ z => by cases z⟩
end
end Sv

/-! Sv: dicts, tuples of objects. -/
namespace Sv
open PySem PySem.Spec PyProof.Rows L2
section
variable {X : Cx} {F : Fr} {g g' : G} {ms ms' : MS} {σ σ' : L2.St} {H H' : Hp}
/-! ### an object is changed in its place -/
/-- what stands elsewhere does not lean on a list that is no longer held -/
theorem poke_dz {a : Addr} {u u' : HO} (ha : H a = some u) (hm : (∃ vs, u = .lst vs) ∨ (∃ kv, u = .dK kv) ∨ (∃ C dx fs, u = .ins C dx fs) ∨ ∃ φ, u = .ext φ) (hz : ¬ g.Z a) :
    (∀ {v : V} {d : PyData}, Dz X.K g.Z H v d → Dz X.K g.Z (upd H a u') v d) ∧ (∀ {v : List V} {d : List PyData}, Dzs X.K g.Z H v d → Dzs X.K g.Z (upd H a u') v d) ∧
    (∀ {v : V} {x : AV}, AVR X.K g H v x → AVR X.K g (upd H a u') v x) ∧ (∀ {v : List V} {x : List AV}, AVRs X.K g H v x → AVRs X.K g (upd H a u') v x) := by
  have nt : ∀ xs, u ≠ .tup xs := fun xs z => by rcases hm with ⟨_, e⟩ | ⟨_, e⟩ | ⟨_, _, _, e⟩ | ⟨_, e⟩ <;> (rw [e] at z; cases z)
  have nf : ∀ o x, u ≠ .frz o x := fun o x z => by rcases hm with ⟨_, e⟩ | ⟨_, e⟩ | ⟨_, _, _, e⟩ | ⟨_, e⟩ <;> (rw [e] at z; cases z)
  have ht : ∀ b xs, SqT X.K H b xs → SqT X.K (upd H a u') b xs := fun b xs h => sqT_keep (fun c ys q => by
    rw [upd_ne (fun e => by rw [e, ha] at q; cases q; exact nt _ rfl)]; exact q) (fun c o ys q => by
    rw [upd_ne (fun e => by rw [e, ha] at q; cases q; exact nf _ _ rfl)]; exact q) h
  have hl : ∀ b xs, g.Z b → H b = some (.lst xs) → g.Z b ∧ upd H a u' b = some (.lst xs) := fun b xs z q => ⟨z, by rw [upd_ne (fun e => hz (by rw [← e]; exact z))]; exact q⟩
  have dz : ∀ {v : V} {d : PyData}, Dz X.K g.Z H v d → Dz X.K g.Z (upd H a u') v d := fun {v d} h => Dz.mono hl ht d h
  have dzs : ∀ {v : List V} {d : List PyData}, Dzs X.K g.Z H v d → Dzs X.K g.Z (upd H a u') v d := fun {v d} h => Dzs.mono hl ht d h
  have av : ∀ {v : V} {x : AV}, AVR X.K g H v x → AVR X.K g (upd H a u') v x := fun {v x} h => by
    cases h with
    | dat h => exact .dat (dz h)
    | ref h => exact .ref h
    | fd z h k q => exact .fd z (by rw [upd_ne (fun e => hz (by rw [← e]; exact z))]; exact h) k (dzs q)
    | scr h => exact .scr (h.keep fun o h => by rw [upd_ne (fun e => by rw [e, ha] at h; cases h; exact nf _ _ rfl)]; exact h)
    | tup h q => exact .tup (ht _ _ h) (A0Rs.map (g := g) (g' := g) (fun _ _ h => dz h) (fun _ _ h => h) q)
  have avs : ∀ {v : List V} {x : List AV}, AVRs X.K g H v x → AVRs X.K g (upd H a u') v x := fun {v x} h => by
    induction h with
    | nil => exact .nil
    | cons p _ ih => exact .cons (av p) ih
  exact ⟨dz, dzs, av, avs⟩
theorem upd_th {a : Addr} {u : HO} : ∀ b o, H b = some o → ∃ o', upd H a u b = some o' := fun b o q => by
  by_cases e : b = a
  · subst e; exact ⟨_, upd_same⟩
  · exact ⟨o, by rw [upd_ne e]; exact q⟩
/-- an object that nobody tracks is changed -/
theorem Rel.pokeFree (R : Rel X.K X.mg X.w F g ms σ H) {p : Addr} {u u' : HO} (hp : H p = some u) (hm : (∃ vs, u = .lst vs) ∨ (∃ kv, u = .dK kv) ∨ (∃ C dx fs, u = .ins C dx fs) ∨ ∃ φ, u = .ext φ) (h1 : p ∉ g.io) (h2 : ¬ g.Z p) (h3 : F.H p = none) (h4 : ∀ i, g.oa i ≠ some p) :
    Rel X.K X.mg X.w F g ms σ (upd H p u') ∧ (∀ {v : List V} {x : List AV}, AVRs X.K g H v x → AVRs X.K g (upd H p u') v x) ∧ (∀ {v : List V} {d : List PyData}, Dzs X.K g.Z H v d → Dzs X.K g.Z (upd H p u') v d) := by
  obtain ⟨dz, dzs, av, avs⟩ := poke_dz (X := X) (g := g) (u' := u') hp hm h2
  refine ⟨⟨⟨R.hr.hl, R.hr.nd, fun j b o p1 p2 => ?_, R.hr.nz, fun b z => let ⟨o, q⟩ := R.hr.zt b z; upd_th b o q⟩, R.len, fun j v hj => let ⟨x, q1, q2⟩ := R.av j v hj; ⟨x, q1, av q2⟩, fun j ws hj => ?_, fun j b hj => ?_, R.inj, ⟨R.fr.io, R.fr.z, R.fr.zz, fun b o p1 p2 => ?_, fun b o q => let ⟨o', q⟩ := R.fr.th b o q; upd_th b o' q⟩⟩, avs, dzs⟩
  · have hb : b ≠ p := fun e => h1 (by rw [← e]; exact List.mem_of_getElem? p1)
    exact (show ORel X.K X.mg X.w g (upd H p u') b o from by
      have q := R.hr.ho j b o p1 p2
      cases q with
      | lst h q => exact .lst (by rw [upd_ne hb]; exact h) (avs q)
      | dct h k q => exact .dct (by rw [upd_ne hb]; exact h) k (avs q)
      | ins h mm k q => exact .ins (by rw [upd_ne hb]; exact h) mm k (avs q)
      | kd h q => exact .kd (by rw [upd_ne hb]; exact h) (KdP.map (g := g) (g' := g) (fun _ _ h => dz h) (fun _ _ h => av h) q))
  · obtain ⟨b, ts, q1, q2, q3, q4⟩ := R.own j ws hj
    exact ⟨b, ts, q1, q2, by rw [upd_ne (fun e => h4 j (by rw [← e]; exact q1))]; exact q3, dzs q4⟩
  · obtain ⟨q1, q2, q3, ts, q4⟩ := R.oaf j b hj
    exact ⟨q1, q2, q3, ts, by rw [upd_ne (fun e => h4 j (by rw [← e]; exact hj))]; exact q4⟩
  · rw [upd_ne (fun e => by rw [e, h3] at p2; cases p2)]
    exact R.fr.keep b o p1 p2
/-- an object that nobody holds is taken as one that no longer changes -/
theorem Rel.freezeAny (R : Rel X.K X.mg X.w F g ms σ H) {a : Addr} {o : HO} (ha : H a = some o) (hi : a ∉ g.io) (hF : F.H a = none) (ho : ∀ i, g.oa i ≠ some a) : Rel X.K X.mg X.w F { g with Z := fun b => g.Z b ∨ b = a } ms σ H ∧ Ext0 g H { g with Z := fun b => g.Z b ∨ b = a } H := by
  have e : Ext0 g H { g with Z := fun b => g.Z b ∨ b = a } H := ⟨fun _ _ _ h => h, fun _ h => .inl h, ⟨[], by simp, by simp⟩, fun _ o h => ⟨o, h⟩⟩
  refine ⟨⟨⟨R.hr.hl, R.hr.nd, fun j b o h1 h2 => (R.hr.ho j b o h1 h2).ext R.hr e fun _ h => h, fun b hb => ?_, fun b z => ?_⟩, R.len, fun i v h => let ⟨x, h1, h2⟩ := R.av i v h; ⟨x, h1, R.hr.avr e h2⟩,
    fun i xs h => let ⟨b, ws, h1, h2, h3, h4⟩ := R.own i xs h; ⟨b, ws, h1, h2, h3, R.hr.dzs e h4⟩, fun i b h => ?_, R.inj, ⟨R.fr.io, fun b z => ?_, fun b z => .inl (R.fr.zz b z), R.fr.keep, R.fr.th⟩⟩, e⟩
  · rintro (z | rfl)
    · exact R.hr.nz b hb z
    · exact hi hb
  · rcases z with z | rfl
    · exact R.hr.zt b z
    · exact ⟨_, ha⟩
  · obtain ⟨h1, h2, h3, h4⟩ := R.oaf i b h
    refine ⟨?_, h2, h3, h4⟩
    rintro (z | rfl)
    · exact h1 z
    · exact ho i h
  · rcases z with z | rfl
    · exact R.fr.z b z
    · exact .inr hF
/-! ### tuples that hold objects -/
theorem AVRs.a0 : ∀ {vs : List V} {xs : List AV} {ys : List A0}, AVRs X.K g H vs xs → allA0 xs = some ys → A0Rs X.K g H vs ys
  | _, _, _, .nil, e => by simp [allA0] at e; subst e; exact .nil
  | _, _, _, .cons p q, e => by
    cases p with
    | dat p =>
      simp only [allA0, Option.map_eq_some_iff] at e
      obtain ⟨ds, e1, rfl⟩ := e
      exact .cons (.d p) (AVRs.a0 q e1)
    | ref p =>
      simp only [allA0, Option.map_eq_some_iff] at e
      obtain ⟨ds, e1, rfl⟩ := e
      exact .cons (.r p) (AVRs.a0 q e1)
    | _ => simp [allA0] at e
theorem A0Rs.length : ∀ {vs : List V} {xs : List A0}, A0Rs X.K g H vs xs → vs.length = xs.length
  | _, _, .nil => rfl
  | _, _, .cons _ q => by simp [A0Rs.length q]
theorem A0R.av {v : V} {x : A0} (h : A0R X.K g H v x) : AVR X.K g H v x.av := by
  cases h with
  | d h => exact .dat h
  | r h => exact .ref h
theorem A0Rs.get : ∀ {vs : List V} {ds : List A0} {i : Nat} {d : A0}, A0Rs X.K g H vs ds → ds[i]? = some d → ∃ v, vs[i]? = some v ∧ A0R X.K g H v d
  | _, _, 0, _, .cons p r, e => by simp at e; subst e; exact ⟨_, by simp, p⟩
  | _, _, i + 1, _, .cons p r, e => by
    obtain ⟨v, h1, h2⟩ := A0Rs.get (i := i) r (by simpa using e)
    exact ⟨v, by simpa using h1, h2⟩
  | _, _, _, _, .nil, e => by simp at e
theorem s_tupR {es : Es} {xs : List Expr} {k : Nat} {p : Pos} (h : PA X xs (tA X.K X.mg X.w F (evs es))) (b : Bool) : PE X (.Tuple xs k p) (tE X.K X.mg X.w F b (ev b (.tupR es))) := by
  refine PE.imp (pe_tup h) fun σ H Q ⟨g, ms, rv, ms', R, e, k⟩ => ?_
  unfold ev at e
  split at e
  · rename_i vs ms1 q
    split at e
    · rename_i ds q2
      split at e
      · rename_i c
        cases e
        refine ⟨g, ms, vs, ms', R, q, fun g1 ws H1 R1 x1 r1 => ?_⟩
        have dz := r1.a0 q2
        refine ⟨by rw [line_eq, dz.length]; exact c, fun p hp => ?_⟩
        refine k g1 _ _ (R1.new hp) (x1.trans (.same (up_same hp))) (.av (.tup (SqT.of upd_same) (A0Rs.map (g := g1) (g' := g1) (fun _ _ h => R1.hr.dz (.same (up_same hp)) h) (fun _ _ h => h) dz)))
      · cases e
    · cases e
  · cases e
def subTR : List AO → RV → RV → Option RV := fun _ x y => match x, y with
  | .av (.tup xs), .av (.dat (.int k)) => (atD xs k).map fun z => .av z.av
  | _, _ => none
theorem ix_subT : IxR X (rV X.K X.mg X.w F subTR) := by
  intro value slice pins s σ H v w v' w' Q I rv rw' h hs
  obtain ⟨g, ms, σ', x, y, z, R, lv, lw, e, k⟩ := h
  unfold subTR at e
  split at e
  · rename_i xs i
    obtain ⟨a, e3, rfl⟩ := Option.map_eq_some_iff.mp e
    have ew := lw.int
    subst ew
    cases lv with
    | av lv =>
      cases lv with
      | @tup b vs _ p3 p4 =>
        obtain ⟨n, q1, q2⟩ := atD_get e3
        obtain ⟨u, q3, q4⟩ := p4.get q2
        refine ix_tup value slice pins s σ H _ _ v' w' Q I rv rw' ⟨b, vs, i, u, rfl, rfl, p3, ?_, k u H (fun _ _ q => q) (.av q4.av)⟩ hs
        rw [atD_atI, atD_of p4.length.symm q1]
        exact q3
  · cases e
theorem ev_subT (a b : E) (k : Bool) (ms : MS) (r : RV × MS) (h : ev k (.subT a b) ms = some r) : ∃ x ms1 y ms2 z, ev true a ms = some (x, ms1) ∧ ev true b ms1 = some (y, ms2) ∧ subTR ms2.hp x y = some z ∧ r = (z, ms2) := by
  unfold ev at h
  split at h
  · rename_i xs ms1 q1
    split at h
    · rename_i i ms2 q2
      obtain ⟨z, q3, q4⟩ := Option.map_eq_some_iff.mp h
      exact ⟨_, ms1, _, ms2, _, q1, q2, by unfold subTR; simp only [q3]; rfl, q4.symm⟩
    · cases h
  · cases h
/-! ### dicts with text keys -/
theorem kv_lookup {kv : List (Key × V)} : ∀ {kvs : List (Str × PyData)} {Z : Addr → Prop} {k : Str} {d : PyData}, kv.map (·.1) = kvs.map (fun p => Sum.inr p.1) → Dzs X.K Z H (kv.map (·.2)) (kvs.map (·.2)) → kvs.lookup k = some d → ∃ v, valV kv (.inr k) = some v ∧ Dz X.K Z H v d := by
  induction kv with
  | nil =>
    intro kvs Z k d e r l
    cases kvs with
    | nil => cases l
    | cons _ _ => simp at e
  | cons p kv ih =>
    intro kvs Z k d e r l
    cases kvs with
    | nil => simp at e
    | cons q kvs =>
      rw [List.map_cons, List.map_cons] at e r
      obtain ⟨e1, e2⟩ := List.cons.inj e
      cases r with
      | cons r1 r2 =>
        by_cases c : q.1 = k
        · have : (k == q.1) = true := by simp [c]
          rw [List.lookup_cons, this] at l
          cases l
          exact ⟨p.2, valV_pos (by rw [e1, c]), r1⟩
        · have : (k == q.1) = false := by simp; exact fun z => c z.symm
          rw [List.lookup_cons, this] at l
          obtain ⟨v, h1, h2⟩ := ih e2 r2 l
          exact ⟨v, by rw [valV_neg (by rw [e1]; intro z; exact c (Sum.inr.inj z))]; exact h1, h2⟩
theorem kv_lookupA {kv : List (Key × V)} : ∀ {kvs : List (Str × AV)} {k : Str} {d : AV}, kv.map (·.1) = kvs.map (fun p => Sum.inr p.1) → AVRs X.K g H (kv.map (·.2)) (kvs.map (·.2)) → kvs.lookup k = some d → ∃ v, valV kv (.inr k) = some v ∧ AVR X.K g H v d := by
  induction kv with
  | nil =>
    intro kvs k d e r l
    cases kvs with
    | nil => cases l
    | cons _ _ => simp at e
  | cons p kv ih =>
    intro kvs k d e r l
    cases kvs with
    | nil => simp at e
    | cons q kvs =>
      rw [List.map_cons, List.map_cons] at e r
      obtain ⟨e1, e2⟩ := List.cons.inj e
      cases r with
      | cons r1 r2 =>
        by_cases c : q.1 = k
        · have : (k == q.1) = true := by simp [c]
          rw [List.lookup_cons, this] at l
          cases l
          exact ⟨p.2, valV_pos (by rw [e1, c]), r1⟩
        · have : (k == q.1) = false := by simp; exact fun z => c z.symm
          rw [List.lookup_cons, this] at l
          obtain ⟨v, h1, h2⟩ := ih e2 r2 l
          exact ⟨v, by rw [valV_neg (by rw [e1]; intro z; exact c (Sum.inr.inj z))]; exact h1, h2⟩
theorem HRel.dct {hp : List AO} (R : HRel X.K X.mg X.w g hp H) {v : V} {j : Nat} {kvs : List (Str × AV)} (h : AVR X.K g H v (.ref j)) (e : hp[j]? = some (.dct kvs)) : ∃ a kv, g.io[j]? = some a ∧ v = .ref a ∧ H a = some (.dK kv) ∧ kv.map (·.1) = kvs.map (fun p => Sum.inr p.1) ∧ AVRs X.K g H (kv.map (·.2)) (kvs.map (·.2)) := by
  cases h with
  | @ref _ a h =>
    have o := R.ho j a _ h e
    cases o with
    | dct p k q => exact ⟨a, _, h, rfl, p, k, q⟩
theorem s_dget {a k : E} {x y : Expr} {pos : Pos} (ok : OkX X) (hy : isPl y = true) (h1 : ∀ b, PE X x (tE X.K X.mg X.w F b (ev b a))) (h2 : ∀ b, PE X y (tE X.K X.mg X.w F b (ev b k))) (b : Bool) :
    PE X (.Subscript x y pos) (tE X.K X.mg X.w F b (ev b (.dget a k))) := by
  have hu : X.A.units + 1 < cLine := by have := ok.room.un; omega
  refine PE.imp (pe_dget hu (h1 true) (h2 true) (by intro ov iv; cases y <;> first | rfl | cases hy)) fun σ H Q ⟨g, ms, rv, ms', R, e, kk⟩ => ?_
  unfold ev at e
  split at e
  · rename_i u ms1 q1
    split at e
    · rename_i w ms2 q2
      obtain ⟨z, q3, q4⟩ := Option.map_eq_some_iff.mp e
      cases q4
      refine ⟨g, ms, u, ms1, R, q1, fun g1 v1 H1 R1 x1 r1 => ⟨g1, ms1, w, ms', R1, q2, fun g2 v2 H2 R2 x2 r2 => ?_⟩⟩
      have r3 := r1.lr.ext R1.hr x2.toExt0
      unfold dgetV at q3
      split at q3
      · rename_i kvs key
        obtain ⟨d, l, rfl⟩ := Option.map_eq_some_iff.mp q3
        have e2 := r2.lr.str
        subst e2
        cases r3 with
        | av r3 =>
          cases r3 with
          | @fd aa kv _ z0 hd hk hv =>
            obtain ⟨v, h1, h2⟩ := kv_lookup hk hv l
            refine ⟨aa, v, rfl, ?_, kk g2 v H2 R2 (x1.trans x2) (.av (.dat h2))⟩
            rw [← h1]
            exact DGet.k (k := .inr key) hd
      · rename_i j key
        split at q3
        · rename_i kvs e3
          have e2 := r2.lr.str
          subst e2
          cases r3 with
          | av r3 =>
            obtain ⟨aa, kv, p1, rfl, hd, hk, hv⟩ := R2.hr.dct r3 e3
            obtain ⟨v, h1, h2⟩ := kv_lookupA hk hv q3
            refine ⟨aa, v, rfl, ?_, kk g2 v H2 R2 (x1.trans x2) (.av h2)⟩
            rw [← h1]
            exact DGet.k (k := .inr key) hd
        · cases q3
      · cases q3
    · cases e
  · cases e
end
end Sv

/-! Sv: displays of dicts, copies, reversed, repr. -/
namespace Sv
open PySem PySem.Spec PyProof.Rows L2
section
variable {X : Cx} {F : Fr} {g g' : G} {ms ms' : MS} {σ σ' : L2.St} {H H' : Hp}
def trsE (X : Cx) (F : Fr) : List Str → Es → List (TE × TE)
  | k :: ks, .cons e es => (tC (.str k), tE X.K X.mg X.w F false (ev false e)) :: trsE X F ks es
  | _, _ => []
theorem pairs_read : ∀ (ks : List Str) (es : Es) {g : G} {ms : MS} {vs : List AV} {ms' : MS} {H : Hp} {Q : List (V × V) → Hp → Prop}, Rel X.K X.mg X.w F g ms σ H → evs es ms = some (vs, ms') → ks.length = vs.length →
    (∀ g' ws H', Rel X.K X.mg X.w F g' ms' σ H' → Ext g H g' H' → AVRs X.K g' H' ws vs → Q ((ks.zip ws).map fun p => (V.str p.1, p.2)) H') → tPairs (trsE X F ks es) σ H Q
  | [], .nil, g, ms, vs, ms', H, Q, R, e, l, k => by
    unfold evs at e
    cases e
    exact k g [] H R .refl .nil
  | [], .cons e0 es, g, ms, vs, ms', H, Q, R, e, l, k => by
    unfold evs at e
    split at e
    · split at e
      · cases e; cases l
      · cases e
    · cases e
  | k0 :: ks, .nil, g, ms, vs, ms', H, Q, R, e, l, k => by
    unfold evs at e
    cases e
    cases l
  | k0 :: ks, .cons e0 es, g, ms, vs, ms', H, Q, R, e, l, k => by
    unfold evs at e
    split at e
    · rename_i v ms1 q1
      split at e
      · rename_i us ms2 q2
        cases e
        refine ⟨g, ms, v, ms1, R, q1, fun g1 y H1 R1 x1 r1 => ?_⟩
        obtain ⟨g2, R2, x2, _, r2⟩ := r1.val R1 x1
        refine pairs_read ks es R2 q2 (by simpa using l) fun g3 ws H3 R3 x3 r3 => ?_
        exact k g3 (y :: ws) H3 R3 (x2.trans x3) (.cons (R2.hr.avr x3.toExt0 r2) r3)
      · cases e
    · cases e
theorem keys_isSome : ∀ {ks : List Str} {keys : List (Option Expr)}, mKeys ks keys = true → keys.all (·.isSome) = true ∧ keys.length = ks.length
  | [], [], _ => ⟨rfl, rfl⟩
  | [], _ :: _, h => by cases h
  | k :: ks, [], h => by cases h
  | k :: ks, none :: xs, h => by cases h
  | k :: ks, some x :: xs, h => by
    cases x <;> try (exact absurd (show false = true from h) Bool.false_ne_true)
    rename_i c _ _
    cases c <;> try (exact absurd (show false = true from h) Bool.false_ne_true)
    have h' : (decide (k = _) && mKeys ks xs) = true := h
    rw [Bool.and_eq_true] at h'
    obtain ⟨h1, h2⟩ := keys_isSome h'.2
    exact ⟨by simpa using h1, by simp [h2]⟩
theorem pps_keys {pos : Pos} : ∀ {ks : List Str} {keys : List (Option Expr)} {x : Expr} {xs : List Expr} {e : E} {es : Es}, mKeys ks keys = true → keys.length = (x :: xs).length → (∀ b, PE X x (tE X.K X.mg X.w F b (ev b e))) →
    (∀ {ks : List Str} {keys : List (Option Expr)}, mKeys ks keys = true → keys.length = xs.length → PPs X pos keys xs (trsE X F ks es)) → PPs X pos keys (x :: xs) (trsE X F ks (.cons e es))
  | [], [], _, _, _, _, _, hl, _, _ => by cases hl
  | [], _ :: _, _, _, _, _, h, _, _, _ => by cases h
  | k :: ks, [], _, _, _, _, h, _, _, _ => by cases h
  | k :: ks, none :: ys, _, _, _, _, h, _, _, _ => by cases h
  | k :: ks, some y :: ys, x, xs, e, es, h, hl, h1, h2 => by
    cases y <;> try (exact absurd (show false = true from h) Bool.false_ne_true)
    rename_i c _ _
    cases c <;> try (exact absurd (show false = true from h) Bool.false_ne_true)
    rename_i z
    have h' : (decide (k = z) && mKeys ks ys) = true := h
    rw [Bool.and_eq_true, decide_eq_true_eq] at h'
    obtain ⟨rfl, h'⟩ := h'
    exact pps_cons pe_str (h1 false) (h2 h' (by simpa using hl))
/-- a dict made by a display, nobody else's -/
structure NewD (X : Cx) (F : Fr) (g : G) (H : Hp) (ms : MS) (σ : L2.St) (H0 : Hp) (p : Addr) (kv : List (Key × V)) : Prop where
  rel : Rel X.K X.mg X.w F g ms σ H
  at_ : H p = some (.dK kv)
  io : p ∉ g.io
  z : ¬ g.Z p
  f : F.H p = none
  oa : ∀ i, g.oa i ≠ some p
  h0 : H0 p = none
theorem zip_keys {ks : List Str} {ws : List V} (hl : ks.length = ws.length) : ((ks.zip ws).map fun p => ((Sum.inr p.1 : Key), p.2)).map (·.1) = ks.map Sum.inr ∧ ((ks.zip ws).map fun p => ((Sum.inr p.1 : Key), p.2)).map (·.2) = ws := by
  induction ks generalizing ws with
  | nil =>
    cases ws with
    | nil => exact ⟨rfl, rfl⟩
    | cons _ _ => cases hl
  | cons k ks ih =>
    cases ws with
    | nil => cases hl
    | cons w ws =>
      obtain ⟨h1, h2⟩ := ih (ws := ws) (by simpa using hl)
      exact ⟨by simp only [List.zip_cons_cons, List.map_cons, h1], by simp only [List.zip_cons_cons, List.map_cons, h2]⟩
theorem merge_nodup : ∀ (more kvs : List (Key × V)), (kvs.map (·.1) ++ more.map (·.1)).Nodup → mergeK kvs more = kvs ++ more
  | [], kvs, _ => by simp [mergeK]
  | p :: more, kvs, h => by
    have hn : valV kvs p.1 = none := by
      have := List.nodup_append.mp h
      rw [List.map_cons] at this
      have hp := this.2.2
      unfold valV
      rw [Option.map_eq_none_iff, List.find?_eq_none]
      intro x hx
      simp only [decide_eq_true_eq]
      exact hp x.1 (List.mem_map_of_mem hx) p.1 List.mem_cons_self
    show mergeK (putK kvs p.1 p.2) more = _
    rw [putK_new p.2 hn, merge_nodup more (kvs ++ [(p.1, p.2)]) (by simpa using h)]
    simp
theorem disp_read {ks : List Str} {es : Es} {keys : List (Option Expr)} {vals : List Expr} {pos : Pos} (hk : mKeys ks keys = true) (hl : keys.length = vals.length) (h15 : ks.length ≤ 15) (pp : PPs X pos keys vals (trsE X F ks es)) :
    PE X (.Dict keys vals pos) fun σ H Q => ∃ g ms vs ms', Rel X.K X.mg X.w F g ms σ H ∧ evs es ms = some (vs, ms') ∧ ks.length = vs.length ∧ ks.Nodup ∧
      ∀ g' ws H' p, NewD X F g' H' ms' σ H p ((ks.zip ws).map fun p => ((Sum.inr p.1 : Key), p.2)) → Ext g H g' H' → AVRs X.K g' H' ws vs → Q (.ref p) H' := by
  obtain ⟨h1, h2⟩ := keys_isSome hk
  by_cases h0 : keys = []
  · subst h0
    cases vals with
    | cons _ _ => cases hl
    | nil =>
      refine PE.imp pe_dnewK fun σ H Q ⟨g, ms, vs, ms', R, q, l, nd, k⟩ p hp => ?_
      have hks : ks = [] := by
        cases ks with
        | nil => rfl
        | cons _ _ => cases h2
      subst hks
      have hvs : vs = [] := by
        cases vs with
        | nil => rfl
        | cons _ _ => cases l
      subst hvs
      have hm : ms' = ms := by
        cases es with
        | nil => unfold evs at q; cases q; rfl
        | cons e es =>
          unfold evs at q
          split at q
          · split at q
            · cases q
            · cases q
          · cases q
      subst hm
      obtain ⟨f1, f2⟩ := R.hr.fresh hp
      exact k g [] _ p ⟨R.new hp, upd_same, f1, f2, R.f0 hp, R.oa0 hp, hp⟩ (.same (up_same hp)) .nil
  · refine PE.imp (pe_disp pp h1 hl h0 (by rw [h2]; exact h15)) fun σ H Q ⟨g, ms, vs, ms', R, q, l, nd, k⟩ p hp => ?_
    obtain ⟨f1, f2⟩ := R.hr.fresh hp
    have f3 := R.f0 hp
    have f4 := R.oa0 hp
    refine pairs_read ks es (R.new (o := .dK []) hp) q l fun g1 ws H1 R1 x1 r1 => ?_
    have hlw : ks.length = ws.length := by rw [r1.length]; exact l
    have hp1 : H1 p = some (.dK []) := x1.keep p _ f1 upd_same
    have n1 : p ∉ g1.io := fun hm => by
      obtain ⟨n, en, hn⟩ := x1.io
      rw [en] at hm
      rcases List.mem_append.mp hm with hm | hm
      · exact f1 hm
      · have := hn p hm; rw [upd_same] at this; cases this
    have n2 : ¬ g1.Z p := fun z => by
      rcases x1.zn p z with z | z | ⟨i, z⟩
      · exact f2 z
      · rw [upd_same] at z; cases z
      · exact f4 i z
    have n4 : ∀ i, g1.oa i ≠ some p := fun i z => by
      rcases x1.on i p z with ⟨j, z⟩ | z
      · exact f4 j z
      · rw [upd_same] at z; cases z
    obtain ⟨z1, z2⟩ := zip_keys hlw
    refine ⟨hp1, (ks.zip ws).map fun p => ((Sum.inr p.1 : Key), p.2), by simp [kV], by simp; omega, ?_⟩
    have hmg : mergeK [] ((ks.zip ws).map fun p => ((Sum.inr p.1 : Key), p.2)) = (ks.zip ws).map fun p => ((Sum.inr p.1 : Key), p.2) := by
      rw [merge_nodup _ _ (by
        rw [z1]
        simp only [List.map_nil, List.nil_append]
        exact List.Pairwise.map _ (fun a b h z => h (Sum.inr.inj z)) nd)]
      rfl
    rw [hmg]
    obtain ⟨R2, avs, _⟩ := R1.pokeFree (u' := .dK ((ks.zip ws).map fun p => ((Sum.inr p.1 : Key), p.2))) hp1 (.inr (.inl ⟨_, rfl⟩)) n1 n2 f3 n4
    refine k g1 ws _ p ⟨R2, upd_same, n1, n2, f3, n4, hp⟩ ?_ (avs r1)
    -- the way from H to the end
    refine ⟨⟨fun c o hc hh => ?_, x1.zz, ?_, fun c o hh => ?_⟩, fun c hc => ?_, fun i c hc => ?_⟩
    · have ne : c ≠ p := fun e => by rw [e, hp] at hh; cases hh
      rw [upd_ne ne]
      exact x1.keep c o hc (by rw [upd_ne ne]; exact hh)
    · obtain ⟨n, en, hn⟩ := x1.io
      refine ⟨n, en, fun c hc => ?_⟩
      have := hn c hc
      by_cases ne : c = p
      · subst ne; exact hp
      · rw [upd_ne ne] at this; exact this
    · have ne : c ≠ p := fun e => by rw [e, hp] at hh; cases hh
      rw [upd_ne ne]
      exact x1.th c o (by rw [upd_ne ne]; exact hh)
    · rcases x1.zn c hc with h | h | h
      · exact .inl h
      · by_cases ne : c = p
        · subst ne; exact .inr (.inl hp)
        · rw [upd_ne ne] at h; exact .inr (.inl h)
      · exact .inr (.inr h)
    · rcases x1.on i c hc with h | h
      · exact .inl h
      · by_cases ne : c = p
        · subst ne; exact .inr hp
        · rw [upd_ne ne] at h; exact .inr h
theorem zipD_all : ∀ {ks : List Str} {vs : List AV} {kvs : List (Str × PyData)}, zipD ks vs = some kvs → ks.length = vs.length ∧ kvs.map (·.1) = ks ∧ allD vs = some (kvs.map (·.2))
  | [], [], _, h => by simp [zipD] at h; subst h; exact ⟨rfl, rfl, rfl⟩
  | [], _ :: _, _, h => by simp [zipD] at h
  | _ :: _, [], _, h => by simp [zipD] at h
  | k :: ks, v :: vs, kvs, h => by
    cases v with
    | dat d =>
      simp only [zipD, Option.map_eq_some_iff] at h
      obtain ⟨r, e, rfl⟩ := h
      obtain ⟨h1, h2, h3⟩ := zipD_all e
      exact ⟨by simp [h1], by simp [h2], by simp [allD, h3]⟩
    | _ => simp [zipD] at h
theorem s_fdict {ks : List Str} {es : Es} {keys : List (Option Expr)} {vals : List Expr} {pos : Pos} (hk : mKeys ks keys = true) (hl : keys.length = vals.length) (h15 : ks.length ≤ 15) (pp : PPs X pos keys vals (trsE X F ks es)) (b : Bool) :
    PE X (.Dict keys vals pos) (tE X.K X.mg X.w F b (ev b (.fdict ks es))) := by
  refine PE.imp (disp_read hk hl h15 pp) fun σ H Q ⟨g, ms, rv, ms', R, e, k⟩ => ?_
  unfold ev at e
  split at e
  · rename_i vs ms1 q
    split at e
    · rename_i kvs q2
      split at e
      · rename_i c
        cases e
        obtain ⟨h1, h2, h3⟩ := zipD_all q2
        refine ⟨g, ms, vs, ms', R, q, h1, c.2, fun g1 ws H1 p N x1 r1 => ?_⟩
        obtain ⟨R2, e2⟩ := N.rel.freezeAny N.at_ N.io N.f N.oa
        refine k _ _ H1 R2 (x1.frz (.inl N.h0)) (.av (.fd (.inr rfl) N.at_ ?_ ?_))
        · obtain ⟨z1, _⟩ := zip_keys (ks := ks) (ws := ws) (by rw [r1.length]; exact h1)
          rw [z1, ← h2, List.map_map]
          rfl
        · obtain ⟨_, z2⟩ := zip_keys (ks := ks) (ws := ws) (by rw [r1.length]; exact h1)
          rw [z2]
          exact N.rel.hr.dzs e2 (r1.dzs h3)
      · cases e
    · cases e
  · cases e
theorem s_adict {ks : List Str} {es : Es} {keys : List (Option Expr)} {vals : List Expr} {pos : Pos} (hk : mKeys ks keys = true) (hl : keys.length = vals.length) (h15 : ks.length ≤ 15) (pp : PPs X pos keys vals (trsE X F ks es)) (b : Bool) :
    PE X (.Dict keys vals pos) (tE X.K X.mg X.w F b (ev b (.adict ks es))) := by
  refine PE.imp (disp_read hk hl h15 pp) fun σ H Q ⟨g, ms, rv, ms', R, e, k⟩ => ?_
  unfold ev at e
  split at e
  · rename_i vs ms1 q
    split at e
    · rename_i c
      cases e
      refine ⟨g, ms, vs, ms1, R, q, c.1, c.2.2, fun g1 ws H1 p N x1 r1 => ?_⟩
      obtain ⟨z1, z2⟩ := zip_keys (ks := ks) (ws := ws) (by rw [r1.length]; exact c.1)
      have hz : (ks.zip vs).map (·.1) = ks ∧ (ks.zip vs).map (·.2) = vs := ⟨List.map_fst_zip (by omega), List.map_snd_zip (by omega)⟩
      obtain ⟨R2, _⟩ := N.rel.alloc (a := p) (o := .dct (ks.zip vs)) (.dct N.at_ (by
        rw [z1]
        have := congrArg (List.map (Sum.inr : Str → Key)) hz.1
        rw [List.map_map] at this
        exact this.symm) (by rw [z2, hz.2]; exact r1)) N.io N.z N.f N.oa
      refine k _ _ _ R2 (x1.grow N.h0) (.av (.ref ?_))
      show (g1.io ++ [_])[ms1.hp.length]? = _
      rw [← N.rel.hr.hl]
      simp
    · cases e
  · cases e
theorem s_fdcopy {a : E} {x : Expr} {y : Str} {p pos : Pos} (hy : y = sDict) (hg : isGl X.env.scope y = true) (ok : OkX X) (hx : isPl x = true) (h : ∀ b, PE X x (tE X.K X.mg X.w F b (ev b a))) (b : Bool) :
    PE X (.Call (.Name y p) [x] [] pos) (tE X.K X.mg X.w F b (ev b (.fdcopy a))) := by
  subst hy
  refine PE.imp (pe_callTy (X := X) call_dictD (gl_of hg) (ok.free sDict (by decide)) (by decide +kernel) (pa_cons (h true) pa_nil (pl_star hx _)) (by decide +kernel) (by decide +kernel) (pl_star hx _) rfl) fun σ H Q ⟨g, ms, rv, ms', R, e, k⟩ => ?_
  unfold ev at e
  split at e
  · rename_i kvs ms1 q1
    cases e
    refine ⟨g, ms, _, ms', R, q1, fun g1 v H1 R1 x1 r1 => ?_⟩
    cases r1 with
    | av r1 =>
      cases r1 with
      | @fd aa kv _ z0 hd hk hv =>
        refine ⟨aa, kv, rfl, .inl hd, fun p hp => ?_⟩
        obtain ⟨f1, f2⟩ := R1.hr.fresh hp
        have h0 : H p = none := by
          cases z : H p with
          | none => rfl
          | some u =>
            obtain ⟨u', z'⟩ := x1.th p u z
            rw [hp] at z'; cases z'
        have R2 := R1.new (o := .dK kv) hp
        obtain ⟨R3, e3⟩ := R2.freezeAny (a := p) upd_same f1 (R1.f0 hp) (R1.oa0 hp)
        refine k _ _ _ R3 ((x1.trans (.same (up_same hp))).frz (.inl h0)) (.av (.fd (.inr rfl) upd_same hk ?_))
        exact R2.hr.dzs e3 (R1.hr.dzs (.same (up_same hp)) hv)
  · cases e
/-! ### repr -/
def rReprD (K : PySem.W.Frag) (mg : Str → Option Value) (wd : World) (F : Fr) : List V → Hp → VK → Prop := fun vs H Q => ∃ v g ms σ x z, vs = [v] ∧ Rel K mg wd F g ms σ H ∧ LR K g H v x ∧ reprV x = some z ∧
  ∀ v' H', (∀ a o, H a = some o → H' a = some o) → RVR K F g H H' false v' z → Q v' H'
theorem call_reprD (hr : Room 0 X.A) (hgd : X.A.guards = some []) : CallR X (.builtin "repr") (rReprD X.K X.mg X.w F) := by
  intro pins s σ H vs us Q I r h
  obtain ⟨v, g, ms, σ', x, z, rfl, R, lv, e, k⟩ := h
  obtain ⟨u, rfl, ru⟩ := vals1 r
  unfold reprV at e
  split at e
  · rename_i d hd
    split at e
    · rename_i c
      cases e
      have dp := lv.dp hd
      obtain ⟨as, rd⟩ := Dp.reads I d v u dp ru
      have dd := (dp_depth d dp (by omega)).1
      have hu : X.A.units + (d.depth + 1) < cLine := by have := hr.un; omega
      have hsz : d.shown.length ≤ sizeLine := by rw [line_eq]; show _ ≤ 16777216; omega
      have fin : ∀ (h' : Heap) (t : Tok) (tk : Nat), (∀ b o, s.heap.get? b = some o → h'.get? b = some o) → EP X pins σ Q (.str d.shown t) { s with heap := h', toks := tk } := fun h' t tk hk => ⟨.str d.shown, H, I.kept hk, ⟨t, rfl⟩, k (.str d.shown) H (fun _ _ q => q) (.av (.dat (.str _)))⟩
      cases u with
      | ref a => exact repr_of_reads' rd c.2.1 (fun z => by rw [c.2.2.2.1] at z; cases z) hgd hu (fun _ _ q => q) fin hsz
      | _ => cases rd <;> cases c.1
    · cases e
  · cases e
theorem s_repr {a : E} {x : Expr} {y : Str} {p pos : Pos} (hgd : X.A.guards = some []) (hy : y = sRepr) (hg : isGl X.env.scope y = true) (ok : OkX X) (hx : isPl x = true) (h : ∀ b, PE X x (tE X.K X.mg X.w F b (ev b a))) (b : Bool) :
    PE X (.Call (.Name y p) [x] [] pos) (tE X.K X.mg X.w F b (ev b (.repr a))) := by
  subst hy
  refine PE.imp (pe_callB (X := X) (call_reprD (F := F) ok.room hgd) (gl_of hg) (ok.free sRepr (by decide)) (by decide +kernel) (pa_cons (h true) pa_nil (pl_star hx _)) (by decide +kernel) (by decide +kernel) (pl_star hx _) rfl) fun σ H Q q => ?_
  obtain ⟨g, ms, rv, ms', R, e, k⟩ := un_call (a := a) (op := fun _ x => reprV x) (fun ms => by first | (rw [ev]; done) | (rw [ev]; cases ev true a ms <;> rfl)) q
  refine ⟨g, ms, rv, ms', R, e, fun g1 v H1 R1 x1 r1 => ?_⟩
  obtain ⟨g2, ms2, u, z, R2, l2, e2, k2⟩ := k g1 v H1 R1 x1 r1
  exact ⟨v, g2, ms2, σ, u, z, rfl, R2, l2, e2, k2⟩
/-! ### reversed -/
theorem wk_rev (R : Rel X.K X.mg X.w F g ms σ H) {a : Addr} {vs : List V} {xs : List PyData} (ha : H a = some (.lst vs)) (hz : g.Z a) (d : Dzs X.K g.Z H vs xs) : Wk X.K X.mg X.w (Itv X.K a vs.length) g H (.fix xs.reverse) := by
  have hk : ∀ g' H', ExtS g H g' H' → SqL X.K H' a vs := fun g' H' x => SqL.of (R.keepZ x hz ha)
  refine ⟨fun i g' H' hp dd R' x e => ?_, fun i g' H' hp R' x e => ?_⟩
  · have e1 := item_fix e
    have hi : i < xs.length := by
      have := (List.getElem?_eq_some_iff.mp e1).1
      simpa using this
    rw [List.getElem?_reverse (by simpa using hi)] at e1
    obtain ⟨u, h1, _⟩ := d.get e1
    rw [← d.length] at h1 hi
    refine ⟨⟨hi, vs, u, hk g' H' x, h1⟩, fun y H'' ⟨e2, hy⟩ => ?_⟩
    obtain ⟨w, h3, h4⟩ := (R.dzsS x d).get' (hy vs (hk g' H' x))
    rw [d.length, e1] at h3
    cases h3
    exact ⟨e2, h4⟩
  · have := none_len (item_fix e)
    show vs.length ≤ i
    rw [d.length]
    simpa using this
theorem s_rev {e : E} {x tg : Expr} {y : Str} {p pos : Pos} (hy : y = sReversed) (hg : isGl X.env.scope y = true) (ok : OkX X) (hx : isPl x = true) (h : ∀ b, PE X x (tE X.K X.mg X.w F b (ev b e))) : PI X tg (.Call (.Name y p) [x] [] pos) (tI X.K X.mg X.w F (evI (.rev e))) := by
  subst hy
  refine PI.imp (RT.pi_revA (X := X) (gl_of hg) (ok.free sReversed (by decide)) (h false) (pl_star hx _)) fun σ H RR ⟨g, ms, xs, ms', R, q, k⟩ => ?_
  unfold evI at q
  split at q
  · rename_i v ms1 q1
    split at q
    · rename_i ys hd
      cases q
      refine ⟨g, ms, v, ms', R, q1, fun g1 w H1 R1 x1 r1 => ?_⟩
      obtain ⟨g2, R2, x2, _, r2⟩ := r1.val R1 x1
      have dz := r2.d?_dz hd
      cases dz with
      | lst p1 p2 p3 => exact ⟨_, _, rfl, .inl ⟨SqL.of p1, k g2 _ H1 R2 x2 (wk_rev R2 p1 p2 p3)⟩⟩
    · cases q
  · cases q
end
end Sv

/-! Sv: dicts whose keys are nested tuples. -/
namespace Sv
open PySem PySem.Spec PyProof.Rows L2
mutual
theorem nk_depth : ∀ d : PyData, hk d = true → (nkD d).depth ≤ dep d
  | .none, _ => by simp [nkD, NestedKey.depth]
  | .int _, _ => by simp [nkD, NestedKey.depth]
  | .str _, _ => by simp [nkD, NestedKey.depth]
  | .tuple xs, h => by
    have := nks_depth xs (by simpa [hk] using h)
    unfold nkD NestedKey.depth dep
    omega
  | .bool _, h => by cases h
  | .list _, h => by cases h
  | .dict _, h => by cases h
theorem nks_depth : ∀ d : List PyData, hks d = true → NestedKey.depthAll (nkDs d) ≤ deps d
  | [], _ => by simp [nkDs, NestedKey.depthAll]
  | x :: xs, h => by
    have h' : hk x = true ∧ hks xs = true := by simpa [hks] using h
    have h1 := nk_depth x h'.1
    have h2 := nks_depth xs h'.2
    unfold nkDs NestedKey.depthAll deps
    omega
end
mutual
theorem nk_eqq : ∀ a b : PyData, hk a = true → hk b = true → eqq a b = decide (nkD a = nkD b)
  | .none, b, h1, h2 => by cases b <;> first | (exact absurd (show false = true from h2) Bool.false_ne_true) | simp [eqq, nkD]
  | .int i, b, h1, h2 => by
    cases b <;> first | (exact absurd (show false = true from h2) Bool.false_ne_true) | (simp [eqq, nkD]; done) | (simp [eqq, nkD]; exact Bool.beq_eq_decide_eq _ _)
  | .str i, b, h1, h2 => by cases b <;> first | (exact absurd (show false = true from h2) Bool.false_ne_true) | simp [eqq, nkD]
  | .tuple xs, b, h1, h2 => by
    cases b <;> first | (exact absurd (show false = true from h2) Bool.false_ne_true) | simp [eqq, nkD]
    rename_i ys
    rw [nks_eqq xs ys (by simpa [hk] using h1) (by simpa [hk] using h2)]
  | .bool _, _, h, _ => by cases h
  | .list _, _, h, _ => by cases h
  | .dict _, _, h, _ => by cases h
theorem nks_eqq : ∀ a b : List PyData, hks a = true → hks b = true → eqqs a b = decide (nkDs a = nkDs b)
  | [], b, h1, h2 => by cases b <;> simp [eqqs, nkDs]
  | x :: xs, b, h1, h2 => by
    cases b with
    | nil => simp [eqqs, nkDs]
    | cons y ys =>
      have h1' : hk x = true ∧ hks xs = true := by simpa [hks] using h1
      have h2' : hk y = true ∧ hks ys = true := by simpa [hks] using h2
      unfold eqqs nkDs
      rw [nk_eqq x y h1'.1 h2'.1, nks_eqq xs ys h1'.2 h2'.2]
      by_cases c : nkD x = nkD y <;> by_cases d : nkDs xs = nkDs ys <;> simp [c, d]
end
theorem kOk_hk {d : PyData} (h : kOk d = true) : hk d = true ∧ dep d ≤ 8 ∧ ∃ xs, d = .tuple xs := by
  cases d with
  | tuple xs =>
    unfold kOk at h
    simp only [Bool.and_eq_true, decide_eq_true_eq] at h
    exact ⟨by simpa [hk] using h.1, h.2, xs, rfl⟩
  | _ => cases h
section
variable {X : Cx} {F : Fr} {g g' : G} {ms ms' : MS} {σ σ' : L2.St} {H H' : Hp} {Z : Addr → Prop} {pins : List (Addr × Obj)} {s : Shared}
mutual
theorem nk_is (I : Inv X pins σ H s) : ∀ (d : PyData) {v : V} {u : Value}, Dz X.K Z H v d → RelV v u → hk d = true → NestedIs s.heap (nkD d) u
  | .none, v, u, h, r, k => by cases h; cases r; exact .none
  | .int i, v, u, h, r, k => by
    cases h
    obtain ⟨t, rfl⟩ := r
    exact .int i t
  | .str i, v, u, h, r, k => by
    cases h
    obtain ⟨t, rfl⟩ := r
    exact .text i t
  | .tuple ds, v, u, h, r, k => by
    cases h with
    | tup q1 q2 =>
      cases r
      obtain ⟨its, rv, ⟨⟨cls, dd, data, sl⟩, ho, hc, n, hd⟩, hs⟩ := I.tuple q1
      simp only at hc hd
      subst hc hd
      exact .tup ho rfl rfl (by simpa using nks_is I ds q2 rv (by simpa [hk] using k))
  | .bool _, _, _, _, _, k => by cases k
  | .list _, _, _, _, _, k => by cases k
  | .dict _, _, _, _, _, k => by cases k
theorem nks_is (I : Inv X pins σ H s) : ∀ (ds : List PyData) {vs : List V} {us : List Value}, Dzs X.K Z H vs ds → Vals vs us → hks ds = true → NestedAll s.heap (nkDs ds) us
  | [], _, _, h, r, k => by cases h; cases r; exact .nil
  | d :: ds, _, _, h, r, k => by
    have k' : hk d = true ∧ hks ds = true := by simpa [hks] using k
    cases h with
    | cons p q =>
      cases r with
      | cons r1 r2 => exact .cons (nk_is I d p r1 k'.1) (nks_is I ds q r2 k'.2)
end
theorem key_is (I : Inv X pins σ H s) {d : PyData} {ka : Addr} (h : Dz X.K Z H (.ref ka) d) (k : kOk d = true) : (nestedKind X.prog X.w).is s.heap (nkD d) ka := by
  obtain ⟨h1, h2, _⟩ := kOk_hk k
  exact ⟨nk_is I d h rfl h1, Nat.le_trans (nk_depth d h1) h2⟩
/-! ### the dict in the heap -/
def findV (xs : List (NestedKey × Addr × V)) (k : NestedKey) : Option V := (xs.find? fun x => decide (x.1 = k)).map (·.2.2)
def storedV (xs : List (NestedKey × Addr × V)) (k : NestedKey) (a : Addr) (v : V) : List (NestedKey × Addr × V) := if (findV xs k).isSome = true then xs.map (fun x => if x.1 = k then (x.1, x.2.1, v) else x) else xs ++ [(k, a, v)]
theorem KdR.find {k : NestedKey} : ∀ {xs : List (NestedKey × Addr × V)} {ys : List (NestedKey × Addr × Value)}, KdR xs ys → (findV xs k = none → atKey ys k = none) ∧ ∀ v, findV xs k = some v → ∃ p, atKey ys k = some p ∧ RelV v p.2
  | _, _, .nil => ⟨fun _ => rfl, fun v h => by cases h⟩
  | _, _, .cons (a := x) (b := y) h t => by
    obtain ⟨i1, i2⟩ := KdR.find (k := k) t
    obtain ⟨e1, e2, e3⟩ := h
    by_cases c : x.1 = k
    · have c' : y.1 = k := by rw [← e1]; exact c
      refine ⟨fun h => by simp [findV, List.find?_cons, c] at h, fun v h => ?_⟩
      have hv : x.2.2 = v := by simpa [findV, List.find?_cons, c] using h
      exact ⟨y.2, by simp [atKey, List.find?_cons, c'], by rw [← hv]; exact e3⟩
    · have c' : ¬ y.1 = k := by rw [← e1]; exact c
      refine ⟨fun h => ?_, fun v h => ?_⟩
      · have := i1 (by simpa [findV, List.find?_cons, c] using h)
        simpa [atKey, List.find?_cons, c'] using this
      · obtain ⟨p, h1, h2⟩ := i2 v (by simpa [findV, List.find?_cons, c] using h)
        exact ⟨p, by simpa [atKey, List.find?_cons, c'] using h1, h2⟩
theorem KdR.isSome {k : NestedKey} {xs : List (NestedKey × Addr × V)} {ys : List (NestedKey × Addr × Value)} (h : KdR xs ys) : (findV xs k).isSome = (atKey ys k).isSome := by
  obtain ⟨h1, h2⟩ := h.find (k := k)
  cases e : findV xs k with
  | none => rw [h1 e] <;> rfl
  | some v =>
    obtain ⟨p, e2, _⟩ := h2 v e
    rw [e2] <;> rfl
theorem KdR.put {k : NestedKey} {a : Addr} {v : V} {u : Value} (r : RelV v u) {xs : List (NestedKey × Addr × V)} {ys : List (NestedKey × Addr × Value)} (h : KdR xs ys) : KdR (storedV xs k a v) (storedH ys k a u) := by
  unfold storedV storedH
  rw [h.isSome (k := k)]
  by_cases c : (atKey ys k).isSome = true
  · rw [if_pos c, if_pos c]
    clear c
    induction h with
    | nil => exact .nil
    | @cons x y xs ys p t ih =>
      refine .cons ?_ ih
      obtain ⟨e1, e2, e3⟩ := p
      unfold putAt
      dsimp only
      by_cases d : x.1 = k
      · rw [if_pos d, if_pos (by rw [← e1]; exact d)]
        exact ⟨e1, e2, r⟩
      · rw [if_neg d, if_neg (by rw [← e1]; exact d)]
        exact ⟨e1, e2, e3⟩
  · rw [if_neg c, if_neg c]
    clear c
    induction h with
    | nil => exact .cons ⟨rfl, rfl, r⟩ .nil
    | cons p t ih => exact .cons p ih
theorem kdr_keys {xs : List (NestedKey × Addr × V)} {ys : List (NestedKey × Addr × Value)} (r : KdR xs ys) : ys.map (·.1) = xs.map (·.1) := by
  induction r with
  | nil => rfl
  | cons p t ih => rw [List.map_cons, List.map_cons, ih, p.1]
theorem kdp_is (I : Inv X pins σ H s) : ∀ {xs : List (NestedKey × Addr × V)} {kvs : List (PyData × AV)} {ys : List (NestedKey × Addr × Value)}, KdP X.K g H xs kvs → KdR xs ys → ∀ x ∈ ys, (nestedKind X.prog X.w).is s.heap x.1 x.2.1
  | _, _, _, .nil, r => by cases r; intro x hx; cases hx
  | _, _, _, .cons hk1 hk2 dz av t, r => by
    cases r with
    | @cons _ y _ ys p q =>
      intro x hx
      rcases List.mem_cons.mp hx with rfl | hx
      · obtain ⟨e1, e2, e3⟩ := p
        rw [← e1, ← e2, hk1]
        exact key_is I dz hk2
      · exact kdp_is I t q x hx
theorem kd_dict (I : Inv X pins σ H s) {a : Addr} {xs : List (NestedKey × Addr × V)} {kvs : List (PyData × AV)} (ha : H a = some (KdO X.w a xs)) (P : KdP X.K g H xs kvs) :
    ∃ ys, KdR xs ys ∧ s.heap.DictOfH (nestedKind X.prog X.w) a ys ∧ (a == sysModules) = false ∧ xs.length ≤ sizeLine := by
  obtain ⟨⟨hl, hs, hn, ys, r, o, es, ep, ho, hc, hd, he⟩, _⟩ := I.hok a _ ha
  exact ⟨ys, r, ⟨o, es, ep, ho, hc, hd, he, kdp_is I P r, by rw [kdr_keys r]; exact hn⟩, hs, hl⟩
theorem kd_new {P : Program} {w : World} {H1 : Hp} {h' : Heap} {a : Addr} {xs : List (NestedKey × Addr × V)} {ys : List (NestedKey × Addr × Value)} (r : KdR xs ys) (D : h'.DictOfH (nestedKind P w) a ys) (hs : (a == sysModules) = false) (hl : xs.length ≤ sizeLine) : ObjOk P w H1 h' a (KdO w a xs) := by
  obtain ⟨o, es, ep, ho, hc, hd, he, _, hn⟩ := D
  rw [kdr_keys r] at hn
  exact ⟨⟨hl, hs, hn, ys, r, o, es, ep, ho, hc, hd, he⟩, ⟨o, ho⟩, fun h1 h2 ⟨hl, hs, hn, ys, r, o, es, ep, ho, hc, hd, he⟩ k => ⟨hl, hs, hn, ys, r, o, es, ep, k o ho, hc, hd, he⟩⟩
/-! ### the small heap's dict beside it -/
theorem KdP.find {d : PyData} (hd : kOk d = true) : ∀ {xs : List (NestedKey × Addr × V)} {kvs : List (PyData × AV)}, KdP X.K g H xs kvs → (kfind kvs d = none → findV xs (nkD d) = none) ∧ ∀ y, kfind kvs d = some y → ∃ v, findV xs (nkD d) = some v ∧ AVR X.K g H v y
  | _, _, .nil => ⟨fun _ => rfl, fun v h => by cases h⟩
  | _, _, .cons (k := k) (a := a) (v := v) (d := e) (x := x) h1 h2 dz av t => by
    obtain ⟨i1, i2⟩ := KdP.find hd t
    have q := nk_eqq e d (kOk_hk h2).1 (kOk_hk hd).1
    by_cases c : nkD e = nkD d
    · have q1 : eqq e d = true := by rw [q]; simpa using c
      refine ⟨fun h => by simp [kfind, List.find?_cons, q1] at h, fun y h => ?_⟩
      have hv : x = y := by simpa [kfind, List.find?_cons, q1] using h
      exact ⟨v, by simp [findV, List.find?_cons, h1, c], by rw [← hv]; exact av⟩
    · have q1 : eqq e d = false := by rw [q]; simpa using c
      refine ⟨fun h => ?_, fun y h => ?_⟩
      · have := i1 (by simpa [kfind, List.find?_cons, q1] using h)
        simpa [findV, List.find?_cons, h1, c] using this
      · obtain ⟨p, z1, z2⟩ := i2 y (by simpa [kfind, List.find?_cons, q1] using h)
        exact ⟨p, by simpa [findV, List.find?_cons, h1, c] using z1, z2⟩
theorem kfind_any {kvs : List (PyData × AV)} {d : PyData} : (kvs.any fun p => eqq p.1 d) = (kfind kvs d).isSome := by
  unfold kfind
  induction kvs with
  | nil => rfl
  | cons p r ih =>
    rw [List.any_cons, ih, List.find?_cons]
    cases eqq p.1 d <;> simp
theorem KdP.put {d : PyData} {ka : Addr} {v : V} {y : AV} (hd : kOk d = true) (dk : Dz X.K g.Z H (.ref ka) d) (dv : AVR X.K g H v y) {xs : List (NestedKey × Addr × V)} {kvs : List (PyData × AV)} (h : KdP X.K g H xs kvs) : KdP X.K g H (storedV xs (nkD d) ka v) (kput kvs d y) := by
  unfold storedV kput
  have e : (findV xs (nkD d)).isSome = (kvs.any fun p => eqq p.1 d) := by
    rw [kfind_any]
    obtain ⟨h1, h2⟩ := h.find hd
    cases q : kfind kvs d with
    | none => rw [h1 q] <;> rfl
    | some z =>
      obtain ⟨v, e, _⟩ := h2 z q
      rw [e] <;> rfl
  rw [e]
  by_cases c : (kvs.any fun p => eqq p.1 d) = true
  · rw [if_pos c, if_pos c]
    clear c e
    induction h with
    | nil => exact .nil
    | @cons k a v1 d1 x xs ys h1 h2 dz av t ih =>
      have q := nk_eqq d1 d (kOk_hk h2).1 (kOk_hk hd).1
      rw [List.map_cons, List.map_cons]
      by_cases c : nkD d1 = nkD d
      · have q1 : eqq d1 d = true := by rw [q]; simpa using c
        simp only [q1, if_pos, h1, c]
        exact .cons c.symm h2 dz dv ih
      · have q1 : eqq d1 d = false := by rw [q]; simpa using c
        simp only [q1, h1, c, if_neg, if_false, Bool.false_eq_true]
        exact .cons rfl h2 dz av ih
  · rw [if_neg c, if_neg c]
    clear c e
    induction h with
    | nil => exact .cons rfl hd dk dv .nil
    | cons h1 h2 dz av t ih => exact .cons h1 h2 dz av ih
theorem KdP.length : ∀ {xs : List (NestedKey × Addr × V)} {kvs : List (PyData × AV)}, KdP X.K g H xs kvs → xs.length = kvs.length
  | _, _, .nil => rfl
  | _, _, .cons _ _ _ _ t => by simp [KdP.length t]
theorem storedV_len (xs : List (NestedKey × Addr × V)) (k : NestedKey) (a : Addr) (v : V) : (storedV xs k a v).length ≤ xs.length + 1 := by
  unfold storedV
  split <;> simp
theorem HRel.kd {hp : List AO} (R : HRel X.K X.mg X.w g hp H) {v : V} {j : Nat} {kvs : List (PyData × AV)} (h : AVR X.K g H v (.ref j)) (e : hp[j]? = some (.kd kvs)) : ∃ a xs, g.io[j]? = some a ∧ v = .ref a ∧ H a = some (KdO X.w a xs) ∧ KdP X.K g H xs kvs := by
  cases h with
  | @ref _ a h =>
    have o := R.ho j a _ h e
    cases o with
    | kd p q => exact ⟨a, _, h, rfl, p, q⟩
theorem room8 (ok : Room 0 X.A) : (nestedKind X.prog X.w).room X.A.in1 := by
  have := ok.un
  show X.A.units + 1 + 8 < cLine
  omega
theorem LR.dat {v : V} {d : PyData} (h : LR X.K g H v (.av (.dat d))) : Dz X.K g.Z H v d := by
  cases h with
  | av h => cases h with
    | dat h => exact h
theorem kOk_ref {v : V} {d : PyData} (h : Dz X.K Z H v d) (k : kOk d = true) : ∃ ka, v = .ref ka := by
  obtain ⟨_, _, xs, rfl⟩ := kOk_hk k
  cases h with
  | tup _ _ => exact ⟨_, rfl⟩
/-! ### k in d -/
def kinR (neg : Bool) : List AO → RV → RV → Option RV := fun hp x y => match x, y with
  | .av (.dat d), .av (.ref j) => match hp[j]? with
    | some (.kd kvs) => if kOk d then some (blV (if neg then !(kfind kvs d).isSome else (kfind kvs d).isSome)) else none
    | _ => none
  | _, _ => none
theorem op_kin (ok : Room 0 X.A) (neg : Bool) : OpR X (compareOp (inop neg)) (rV X.K X.mg X.w F (kinR neg)) := by
  intro pins s σ H v w v' w' Q I rv rw' h
  obtain ⟨g, ms, σ', x, y, z, R, lv, lw, e, k⟩ := h
  unfold kinR at e
  split at e
  · rename_i d j
    split at e
    · rename_i kvs e1
      split at e
      · rename_i hd
        cases e
        have dz := lv.dat
        obtain ⟨ka, rfl⟩ := kOk_ref dz hd
        cases rv
        cases lw with
        | av lw =>
          obtain ⟨a, xs, p1, rfl, p3, p4⟩ := R.hr.kd lw e1
          cases rw'
          obtain ⟨ys, r, D, hs, hl⟩ := kd_dict I p3 p4
          have ky := key_is I dz hd
          have es : (kfind kvs d).isSome = (atKey ys (nkD d)).isSome := by
            rw [← r.isSome]
            obtain ⟨h1, h2⟩ := p4.find hd
            cases q : kfind kvs d with
            | none => rw [h1 q] <;> rfl
            | some z =>
              obtain ⟨v, e, _⟩ := h2 z q
              rw [e] <;> rfl
          have fin := k (.bl (if neg then !(kfind kvs d).isSome else (kfind kvs d).isSome)) H (fun _ _ q => q) (rvr_bl _)
          cases neg with
          | false => exact wpAny_in_heap (room8 ok) ky hs D ⟨.bl _, H, I.tok _, rfl, by rw [← es]; simpa using fin⟩
          | true => exact notIn_keyed (room8 ok) ky hs ⟨ys, D, rfl⟩ ⟨.bl _, H, I.tok _, rfl, by rw [valueAt_pairsH, Option.isSome_map, ← es]; simpa using fin⟩
      · cases e
    · cases e
  · cases e
theorem ev_kin (neg : Bool) (a b : E) (k : Bool) (ms : MS) (r : RV × MS) (h : ev k (.kin neg a b) ms = some r) : ∃ x ms1 y ms2 z, ev true a ms = some (x, ms1) ∧ ev true b ms1 = some (y, ms2) ∧ kinR neg ms2.hp x y = some z ∧ r = (z, ms2) := by
  unfold ev at h
  split at h
  · rename_i d ms1 q1
    split at h
    · rename_i j ms2 q2
      split at h
      · rename_i kvs e1
        split at h
        · rename_i hd
          cases h
          exact ⟨_, ms1, _, _, _, q1, q2, by unfold kinR; simp only [e1, hd, if_true], rfl⟩
        · cases h
      · cases h
    · cases h
  · cases h
end
end Sv

/-! Sv: dicts whose keys are nested tuples: made, asked, filled. -/
namespace Sv
open PySem PySem.Spec PyProof.Rows L2
section
variable {X : Cx} {F : Fr} {g g' : G} {ms ms' : MS} {σ σ' : L2.St} {H H' : Hp} {Z : Addr → Prop} {pins : List (Addr × Obj)} {s : Shared}
/-! ### d[k] = v -/
def rSetKd (K : PySem.W.Frag) (w : World) : V → V → V → Hp → (Hp → Prop) → Prop := fun o i v H Q => ∃ (a ka : Addr) (xs : List (NestedKey × Addr × V)) (kvs : List (PyData × AV)) (g : G) (d : PyData), o = .ref a ∧ i = .ref ka ∧ H a = some (KdO w a xs) ∧ KdP K g H xs kvs ∧ kOk d = true ∧ Dz K g.Z H (.ref ka) d ∧ xs.length < sizeLine ∧
  Q (upd H a (KdO w a (storedV xs (nkD d) ka v)))
theorem kd_write (I : Inv X pins σ H s) {a ka : Addr} {xs : List (NestedKey × Addr × V)} {ys : List (NestedKey × Addr × Value)} {k : NestedKey} {v : V} {u : Value} {t : Nat} (ha : H a = some (KdO X.w a xs)) (r : KdR xs ys) (rv : RelV v u) (hs : (a == sysModules) = false) (hl : xs.length < sizeLine) {h' : Heap}
    (D : h'.DictOfH (nestedKind X.prog X.w) a (storedH ys k ka u)) (sb : Heap.SameBut a s.heap h') : Inv X pins σ (upd H a (KdO X.w a (storedV xs k ka v))) { s with heap := h', toks := t } := by
  have he : ∃ o, h'.get? a = some o := by
    obtain ⟨o, _, _, ho, _⟩ := D
    exact ⟨o, ho⟩
  exact I.write (e := a) (t' := t) (by rw [ha]; trivial) (.inl rfl) (fun b u hb hu => (sb.2 b hb).trans hu) he (kd_new (r.put rv) D hs (by have := storedV_len xs k ka v; omega))
theorem set_kd (ok : Room 0 X.A) : PSet X (rSetKd X.K X.w) := by
  intro pins s σ H o i v ov iv u Q I ro ri rv h
  obtain ⟨a, ka, xs, kvs, g, d, rfl, rfl, ha, P, hd, dz, hl, q⟩ := h
  cases ro
  cases ri
  obtain ⟨ys, r, D, hs, _⟩ := kd_dict I ha P
  have e : ys.length = xs.length := by
    have := congrArg List.length (kdr_keys r)
    simpa using this
  exact wpAny_setItem_heap (hsz := by omega) (room8 ok) (key_is I dz hd) D fun h' D' sb => ⟨_, kd_write I ha r rv hs hl D' sb, q⟩
/-! ### {} -/
theorem pe_kd0 {pos : Pos} : PE X (.Dict [] [] pos) fun _ H Q => ∀ p, H p = none → Q (.ref p) (upd H p (KdO X.w p [])) := ⟨fun pins s σ H Q I h =>
  wpAny_Dict_empty ⟨.ref s.heap.objs.size, _, I.laid (a := s.heap.objs.size) (o := KdO X.w s.heap.objs.size []) (t' := s.toks) (fun _ _ q => Heap.get?_push_of_some _ q) (Nat.le_refl _)
    (kd_new (ys := []) .nil ⟨_, #[], 0, Heap.get?_push_size _ rfl, ⟨rfl, rfl, rfl⟩, rfl, rfl, by simp, by simp⟩ (beq_eq_false_iff_ne.mpr (Ne.symm (Nat.ne_of_lt I.big))) (Nat.zero_le _)), rfl, h _ (I.hok.fresh (Nat.le_refl _))⟩⟩
theorem s_kd0 {pos : Pos} (b : Bool) : PE X (.Dict [] [] pos) (tE X.K X.mg X.w F b (ev b .kd0)) := by
  refine PE.imp pe_kd0 fun σ H Q ⟨g, ms, rv, ms', R, e, k⟩ p hp => ?_
  unfold ev at e
  cases e
  have f := R.hr.fresh hp
  obtain ⟨R2, _⟩ := (R.new (o := KdO X.w p []) hp).alloc (a := p) (o := .kd []) (.kd upd_same .nil) f.1 f.2 (R.f0 hp) (R.oa0 hp)
  refine k _ _ _ R2 ((Ext.same (up_same hp)).grow hp) (.av (.ref ?_))
  show (g.io ++ [_])[ms.hp.length]? = _
  rw [← R.hr.hl]
  simp
/-! ### {k: v} -/
def tKd1 (K : PySem.W.Frag) (w : World) (tk tv : TE) : TE := fun σ H Q => ∀ p, H p = none → tk σ (upd H p (KdO w p [])) fun x H1 => tv σ H1 fun v H2 => ∃ (ka : Addr) (g : G) (d : PyData), x = .ref ka ∧ H2 p = some (KdO w p []) ∧ kOk d = true ∧ Dz K g.Z H2 (.ref ka) d ∧ Q (.ref p) (upd H2 p (KdO w p [(nkD d, ka, v)]))
theorem pe_kd1 {pos : Pos} {x y : Expr} {tk tv : TE} (ok : Room 0 X.A) (hk : PE X x tk) (hv : PE X y tv) : PE X (.Dict [some x] [y] pos) (tKd1 X.K X.w tk tv) := by
  refine ⟨fun pins s σ H Q I q => ?_⟩
  have hn := I.hok.fresh (Nat.le_refl s.heap.objs.size)
  have hsm : (s.heap.objs.size == sysModules) = false := beq_eq_false_iff_ne.mpr (Ne.symm (Nat.ne_of_lt I.big))
  have hd0 : (s.heap.push { cls := .type "dict", data := .dict #[] }).DictOfH (nestedKind X.prog X.w) s.heap.objs.size [] := ⟨_, #[], 0, Heap.get?_push_size _ rfl, ⟨rfl, rfl, rfl⟩, rfl, rfl, by simp, by simp⟩
  have I1 := I.laid (a := s.heap.objs.size) (o := KdO X.w s.heap.objs.size []) (h' := s.heap.push { cls := .type "dict", data := .dict #[] }) (t' := s.toks) (fun _ _ q => Heap.get?_push_of_some _ q) (Nat.le_refl _) (kd_new (ys := []) .nil hd0 hsm (Nat.zero_le _))
  have hroom : (nestedKind X.prog X.w).room X.A := by
    have := ok.un
    show X.A.units + 8 < cLine
    omega
  rw [arm_eval_Dict, show (evalEachOpt [some x] X.env).zip ((evalEach [y] X.env).map fun v => do let x ← v; standAt pos; pure x) = ([(eval x X.env, do let z ← eval y X.env; standAt pos; pure z)] : List (Sem Value × Sem Value)).map fun p => (some p.1, p.2) from rfl, dictDisplay_pairs _ (by simp) (by simp)]
  refine wpAny_bind (wpAny_standAt (wpAny_bind (wpAny_subDictH (knd := nestedKind X.prog X.w) (Q := fun d s' => wpAny (model X.prog X.w) X.A (pure (Value.ref d)) (EP X pins σ Q) X.xe s') hroom (by simp) ?_)))
  refine evalPairs_cons (thn (hk.run pins _ σ _ _ I1 (q _ hn)) fun u s1 ⟨x1, H1, I2, rx, q1⟩ => wpAny_bind (thn (hv.run pins s1 σ H1 _ I2 q1) fun w2 s2 ⟨v, H2, I3, rv, ka, g, d, ex, hp, hd, dz, q2⟩ => wpAny_bind (wpAny_standAt (wpAny_pure (evalPairs_nil ?_)))))
  subst ex
  cases rx
  obtain ⟨ys, r, D, _, _⟩ := kd_dict (g := g) I3 hp (.nil (K := X.K) (g := g) (H := H2))
  cases r
  refine ⟨[(nkD d, ka, w2)], ⟨rfl, rfl, key_is I3 dz hd, trivial⟩, D, fun h' tk D' sb => wpAny_pure ⟨.ref s.heap.objs.size, _, ?_, rfl, q2⟩⟩
  have he : ∃ o, h'.get? s.heap.objs.size = some o := by
    obtain ⟨o, _, _, ho, _⟩ := D'
    exact ⟨o, ho⟩
  exact I3.write (e := s.heap.objs.size) (t' := tk) (by rw [hp]; trivial) (.inl rfl) (fun b u hb hu => (sb.2 b hb).trans hu) he (kd_new (ys := [(nkD d, ka, w2)]) (.cons ⟨rfl, rfl, rv⟩ .nil) D' hsm (by show 1 ≤ sizeLine; rw [sizeLine_eq]; omega))
/-- an object of the small heap is changed, seen from an expression -/
theorem Rel.pokeObjE (R : Rel X.K X.mg X.w F g ms σ H) {j : Nat} {a : Addr} {u : HO} {o o2 : AO} (hj : g.io[j]? = some a) (hx : ms.hp[j]? = some o) {u0 : HO} (h3 : H a = some u0) (hu : (∃ vs, u0 = .lst vs) ∨ (∃ kv, u0 = .dK kv) ∨ (∃ C dx fs, u0 = .ins C dx fs) ∨ ∃ φ, u0 = .ext φ) (h4 : ORel X.K X.mg X.w g (upd H a u) a o2) :
    Rel X.K X.mg X.w F g { ms with hp := ms.hp.set j o2 } σ (upd H a u) ∧ Ext g H g (upd H a u) := by
  have ha : a ∈ g.io := List.mem_of_getElem? hj
  have z1 := R.hr.nz a ha
  obtain ⟨dz, dzs, av, avs⟩ := poke_dz (X := X) (g := g) (u' := u) h3 hu z1
  have hjl : j < ms.hp.length := (List.getElem?_eq_some_iff.mp hx).1
  have no : ∀ i, g.oa i ≠ some a := fun i z => (R.oaf i a z).2.1 ha
  refine ⟨⟨⟨by simp [R.hr.hl], R.hr.nd, fun k b o p1 p2 => ?_, R.hr.nz, fun b z => let ⟨o, q⟩ := R.hr.zt b z; upd_th b o q⟩, R.len, fun k v hk => let ⟨x, q1, q2⟩ := R.av k v hk; ⟨x, q1, av q2⟩, fun k ws hk => ?_, fun k b hk => ?_, R.inj, ⟨R.fr.io, R.fr.z, R.fr.zz, fun b o p1 p2 => ?_, fun b o p => let ⟨o', q⟩ := R.fr.th b o p; upd_th b o' q⟩⟩,
    ⟨fun b o p1 q => ?_, fun _ z => z, ⟨[], by simp, by simp⟩, upd_th⟩, fun b q => .inl q, fun i b q => .inl ⟨i, q⟩⟩
  · by_cases hk : k = j
    · subst hk
      rw [hj] at p1
      cases p1
      rw [List.getElem?_set_self hjl] at p2
      cases p2
      exact h4
    · rw [List.getElem?_set_ne (Ne.symm hk)] at p2
      have hb : b ≠ a := fun e => hk (by
        obtain ⟨l1, e1⟩ := List.getElem?_eq_some_iff.mp p1
        obtain ⟨l2, e2⟩ := List.getElem?_eq_some_iff.mp hj
        exact (List.getElem_inj R.hr.nd).mp (by rw [e1, e2, e]))
      have q := R.hr.ho k b o p1 p2
      cases q with
      | lst h q => exact .lst (by rw [upd_ne hb]; exact h) (avs q)
      | dct h kk q => exact .dct (by rw [upd_ne hb]; exact h) kk (avs q)
      | ins h mm kk q => exact .ins (by rw [upd_ne hb]; exact h) mm kk (avs q)
      | kd h q => exact .kd (by rw [upd_ne hb]; exact h) (KdP.map (g := g) (g' := g) (fun _ _ h => dz h) (fun _ _ h => av h) q)
  · obtain ⟨b, ts, q1, q2, q3, q4⟩ := R.own k ws hk
    exact ⟨b, ts, q1, q2, by rw [upd_ne (fun e => no k (by rw [← e]; exact q1))]; exact q3, dzs q4⟩
  · obtain ⟨q1, q2, q3, ts, q4⟩ := R.oaf k b hk
    exact ⟨q1, q2, q3, ts, by rw [upd_ne (fun e => no k (by rw [← e]; exact hk))]; exact q4⟩
  · have hb : b ≠ a := fun e => by
      obtain ⟨n, en, hn⟩ := R.fr.io
      rw [en] at ha
      rcases List.mem_append.mp ha with ha | ha
      · exact p1 (by rw [e]; exact ha)
      · rw [e, hn a ha] at p2; cases p2
    rw [upd_ne hb]
    exact R.fr.keep b o p1 p2
  · rw [upd_ne (fun e => p1 (by rw [e]; exact ha))]
    exact q
theorem s_kd1 {k v : E} {x y : Expr} {pos : Pos} (ok : OkX X) (h1 : ∀ b, PE X x (tE X.K X.mg X.w F b (ev b k))) (h2 : ∀ b, PE X y (tE X.K X.mg X.w F b (ev b v))) (b : Bool) : PE X (.Dict [some x] [y] pos) (tE X.K X.mg X.w F b (ev b (.kd1 k v))) := by
  refine PE.imp (pe_kd1 ok.room (h1 true) (h2 true)) fun σ H Q ⟨g, ms, rv, ms', R, e, kk⟩ p hp => ?_
  unfold ev at e
  split at e
  · rename_i d ms1 q1
    split at e
    · rename_i dy ms2 q2
      split at e
      · rename_i hd
        cases e
        have f := R.hr.fresh hp
        refine ⟨g, ms, _, ms1, R.new hp, q1, fun g1 u1 H1 R1 x1 r1 => ⟨g1, ms1, _, ms2, R1, q2, fun g2 u2 H2 R2 x2 r2 => ?_⟩⟩
        have xx := x1.trans x2
        have dz := (r1.lr.ext R1.hr x2.toExt0).dat
        obtain ⟨ka, rfl⟩ := kOk_ref dz hd
        have hp2 : H2 p = some (KdO X.w p []) := xx.keep p _ f.1 upd_same
        have n1 : p ∉ g2.io := fun hm => by
          obtain ⟨n, en, hn⟩ := xx.io
          rw [en] at hm
          rcases List.mem_append.mp hm with hm | hm
          · exact f.1 hm
          · have := hn p hm; rw [upd_same] at this; cases this
        have n2 : ¬ g2.Z p := fun z => by
          rcases xx.zn p z with z | z | ⟨i, z⟩
          · exact f.2 z
          · rw [upd_same] at z; cases z
          · exact R.oa0 hp i z
        have n4 : ∀ i, g2.oa i ≠ some p := fun i z => by
          rcases xx.on i p z with ⟨j, z⟩ | z
          · exact R.oa0 hp j z
          · rw [upd_same] at z; cases z
        refine ⟨ka, g2, d, rfl, hp2, hd, dz, ?_⟩
        have dv := r2.lr.dat
        obtain ⟨dz', _, av', _⟩ := poke_dz (X := X) (g := g2) (u' := KdO X.w p [(nkD d, ka, u2)]) hp2 (.inr (.inr (.inr ⟨_, rfl⟩))) n2
        obtain ⟨R3, _, _⟩ := R2.pokeFree (u' := KdO X.w p [(nkD d, ka, u2)]) hp2 (.inr (.inr (.inr ⟨_, rfl⟩))) n1 n2 (R.f0 hp) n4
        obtain ⟨R4, _⟩ := R3.alloc (a := p) (o := .kd [(d, .dat dy)]) (.kd upd_same (.cons rfl hd (dz' dz) (.dat (dz' dv)) .nil)) n1 n2 (R.f0 hp) n4
        have x3 : Ext g H g2 (upd H2 p (KdO X.w p [(nkD d, ka, u2)])) := by
          refine ⟨⟨fun c o hc hh => ?_, xx.zz, ?_, fun c o hh => ?_⟩, fun c hc => ?_, fun i c hc => ?_⟩
          · have ne : c ≠ p := fun e => by rw [e, hp] at hh; cases hh
            rw [upd_ne ne]
            exact xx.keep c o hc (by rw [upd_ne ne]; exact hh)
          · obtain ⟨n, en, hn⟩ := xx.io
            refine ⟨n, en, fun c hc => ?_⟩
            have := hn c hc
            by_cases ne : c = p
            · subst ne; exact hp
            · rw [upd_ne ne] at this; exact this
          · have ne : c ≠ p := fun e => by rw [e, hp] at hh; cases hh
            rw [upd_ne ne]
            exact xx.th c o (by rw [upd_ne ne]; exact hh)
          · rcases xx.zn c hc with h | h | h
            · exact .inl h
            · by_cases ne : c = p
              · subst ne; exact .inr (.inl hp)
              · rw [upd_ne ne] at h; exact .inr (.inl h)
            · exact .inr (.inr h)
          · rcases xx.on i c hc with h | h
            · exact .inl h
            · by_cases ne : c = p
              · subst ne; exact .inr hp
              · rw [upd_ne ne] at h; exact .inr h
        refine kk _ _ _ R4 (x3.grow hp) (.av (.ref ?_))
        show (g2.io ++ [_])[ms2.hp.length]? = _
        rw [← R2.hr.hl]
        simp
      · cases e
    · cases e
  · cases e
/-! ### d.get(k, []), d.setdefault(k, []) -/
def IsKd (w : World) (H : Hp) (a : Addr) : Prop := ∃ xs, H a = some (KdO w a xs)
theorem isKd_at (I : Inv X pins σ H s) {a : Addr} (d : IsKd X.w H a) : s.TypeIs (.ref a) "dict" ∧ (∀ b, Value.ref a = .ref b → ∃ ob, s.heap.get? b = some ob ∧ ob.dict = none) := by
  obtain ⟨xs, ha⟩ := d
  obtain ⟨⟨hl, hs, hn, ys, r, o, es, ep, ho, hc, hd, he⟩, _⟩ := I.hok a _ ha
  exact ⟨⟨o, ho, hc.1⟩, fun b q => by cases q; exact ⟨o, ho, hc.2.1⟩⟩
def tKget (K : PySem.W.Frag) (w : World) (td ty : TE) : TE := fun σ H Q => td σ H fun x H1 => ∃ a, x = .ref a ∧ IsKd w H1 a ∧ ty σ H1 fun y H2 => ∀ p, H2 p = none → ∃ (ka : Addr) (xs : List (NestedKey × Addr × V)) (kvs : List (PyData × AV)) (g : G) (d : PyData), y = .ref ka ∧ H2 a = some (KdO w a xs) ∧ KdP K g H2 xs kvs ∧
  kOk d = true ∧ Dz K g.Z H2 (.ref ka) d ∧ (∀ v, findV xs (nkD d) = some v → Q v (upd H2 p (.lst []))) ∧ (findV xs (nkD d) = none → Q (.ref p) (upd H2 p (.lst [])))
theorem kd_new_lst (I : Inv X pins σ H s) : Inv X pins σ (upd H s.heap.objs.size (.lst [])) { s with heap := s.heap.push { cls := .type "list", data := .seq #[] } } :=
  I.laid (t' := s.toks) (fun _ _ q => Heap.get?_push_of_some _ q) (Nat.le_refl _) ⟨Nat.zero_le _, [], 0, .nil, Heap.get?_push_size _ rfl⟩
theorem pe_kget {o e : Expr} {td ty : TE} {apos cpos lp : Pos} (ok : Room 0 X.A) (ho : PE X o td) (he : PE X e ty) (m : M2 X o "get" apos e (.List [] lp) cpos) : PE X (.Call (.Attribute o "get" apos) [e, .List [] lp] [] cpos) (tKget X.K X.w td ty) := by
  refine ⟨fun pins s σ H Q I h => ?_⟩
  refine wpAny_Call_method m.base m.few m.line PySem.F.plainAttrs_dict PySem.F.slot_dict_get PySem.F.type_dict_get (thn (ho.run pins s σ H _ I h) fun u s1 ⟨x, H1, I1, rx, a, ex, d, q1⟩ => ?_)
  subst ex
  obtain rfl : u = Value.ref a := rx
  obtain ⟨t1, t2⟩ := isKd_at I1 d
  refine ⟨t1, t2, ?_⟩
  rw [m.trees]
  refine Calls.callWith_builtin rfl (Calls.evalArgs_plain (Calls.spliced_cons (thn (he.run pins s1 σ H1 _ I1 q1) fun iv s2 ⟨y, H2, I2, ry, q2⟩ =>
    Calls.spliced_cons (thn ((pe_lst (X := X) (pos := lp) pa_nil).run pins s2 σ H2 (fun z H3 => ∃ p, z = .ref p ∧ H2 p = none ∧ H3 = upd H2 p (.lst [])) I2 ⟨Nat.zero_le _, fun p hp => ⟨p, rfl, hp, rfl⟩⟩) fun fv s3 ⟨z, H3, I3, rz, p, ez, hp, eH⟩ => Calls.spliced_nil ?_))))
  subst ez eH
  obtain ⟨ka, xs, kvs, g, dd, rfl, ha, P, hd, dz, k1, k2⟩ := q2 p hp
  cases ry
  have ex : ∀ b u, H2 b = some u → upd H2 p (.lst []) b = some u := up_same hp
  have dz' : Dz X.K g.Z (upd H2 p (.lst [])) (.ref ka) dd := Dz.mono (fun a xs z q => ⟨z, ex a _ q⟩) (fun a xs q => sqT_keep (fun _ _ q => ex _ _ q) (fun _ _ _ q => ex _ _ q) q) _ dz
  have P' : KdP X.K g (upd H2 p (.lst [])) xs kvs := P.map (g' := g) (fun v d h => Dz.mono (fun a xs z q => ⟨z, ex a _ q⟩) (fun a xs q => sqT_keep (fun _ _ q => ex _ _ q) (fun _ _ _ q => ex _ _ q) q) _ h) fun v x h => h.map (fun a xs z q => ⟨z, ex a _ q⟩) (fun a xs z q => ⟨z, ex a _ q⟩) (fun a xs q => sqT_keep (fun _ _ q => ex _ _ q) (fun _ _ _ q => ex _ _ q) q) (fun _ _ q => q) fun a ns q => q.keep fun o q => ex _ _ q
  obtain ⟨ys, r, D, hs, _⟩ := kd_dict I3 (ex _ _ ha) P'
  refine call_meetsIn PySem.F.slot_dict_get D.typeIs PySem.F.entry_dict_get (PySem.F.args_dict_get_3 _ _ _) (meetsH_dict_get_default (nestedKind X.prog X.w) a ka hs fv) ⟨room8 ok, nkD dd, ys, key_is I3 dz' hd, D, ?_⟩
  obtain ⟨f1, f2⟩ := r.find (k := nkD dd)
  cases e : findV xs (nkD dd) with
  | none =>
    rw [f1 e]
    exact ⟨.ref p, _, I3.tok _, rz, k2 e⟩
  | some v =>
    obtain ⟨pp, e1, e2⟩ := f2 v e
    rw [e1]
    exact ⟨v, _, I3.tok _, e2, k1 v e⟩
end
end Sv

/-! Sv: get and setdefault of such dicts. -/
namespace Sv
open PySem PySem.Spec PyProof.Rows L2
section
variable {X : Cx} {F : Fr} {g g' : G} {ms ms' : MS} {σ σ' : L2.St} {H H' : Hp} {Z : Addr → Prop} {pins : List (Addr × Obj)} {s : Shared}
theorem m2_of {x y : Expr} {m : Str} {ap cp lp : Pos} (hx : isRcv x = true) (hy : isPl y = true) (hl : (ap.endLine == cp.line) = true) : M2 X x m ap y (.List [] lp) cp := by
  have e : backTo cp (starEach [y, .List [] lp] X.env) = [(false, eval y X.env), (false, eval (.List [] lp) X.env)] := by
    rw [pl_star hy] <;> rfl
  exact ⟨rcv_base hx m, by rw [e] <;> rfl, hl, e⟩
theorem s_kget {d k : E} {x y : Expr} {m : Str} {ap cp lp : Pos} (hm : m = sGet) (hx : isRcv x = true) (hl : (ap.endLine == cp.line) = true) (ok : OkX X) (hy : isPl y = true) (h1 : ∀ b, PE X x (tE X.K X.mg X.w F b (ev b d))) (h2 : ∀ b, PE X y (tE X.K X.mg X.w F b (ev b k))) (b : Bool) :
    PE X (.Call (.Attribute x m ap) [y, .List [] lp] [] cp) (tE X.K X.mg X.w F b (ev b (.kget d k))) := by
  subst hm
  refine PE.imp (pe_kget ok.room (h1 true) (h2 true) (m2_of hx hy hl)) fun σ H Q ⟨g, ms, rv, ms', R, e, kk⟩ => ?_
  unfold ev at e
  split at e
  · rename_i j ms1 q1
    split at e
    · rename_i kvs0 e0
      split at e
      · rename_i dk ms2 q2
        split at e
        · rename_i kvs e1
          split at e
          · rename_i hd
            refine ⟨g, ms, _, ms1, R, q1, fun g1 u1 H1 R1 x1 r1 => ?_⟩
            cases r1 with
            | av r1 =>
              obtain ⟨a, xs0, hj, rfl, ha0, _⟩ := R1.hr.kd r1 e0
              refine ⟨a, rfl, ⟨xs0, ha0⟩, g1, ms1, _, ms2, R1, q2, fun g2 u2 H2 R2 x2 r2 p hp => ?_⟩
              have dz := r2.lr.dat
              obtain ⟨ka, rfl⟩ := kOk_ref dz hd
              obtain ⟨a', xs, hj', ea, ha, P⟩ := R2.hr.kd (R1.hr.avr x2.toExt0 r1) e1
              cases ea
              obtain ⟨f1, f2⟩ := P.find hd
              have xx := x1.trans x2
              refine ⟨ka, xs, kvs, g2, dk, rfl, ha, P, hd, dz, fun v hv => ?_, fun hn => ?_⟩
              · cases q : kfind kvs dk with
                | none => rw [f1 q] at hv; cases hv
                | some y =>
                  rw [q] at e
                  cases e
                  obtain ⟨v', h1, h2⟩ := f2 y q
                  rw [hv] at h1
                  cases h1
                  exact kk g2 v _ (R2.new hp) (xx.trans (.same (up_same hp))) (.av (R2.hr.avr (.same (up_same hp)) h2))
              · cases q : kfind kvs dk with
                | some y =>
                  obtain ⟨v', h1, h2⟩ := f2 y q
                  rw [hn] at h1; cases h1
                | none =>
                  rw [q] at e
                  cases e
                  exact kk g2 _ _ (R2.new hp) (xx.trans (.same (up_same hp))) ((R2.newlst hp .nil).since xx.toExt0)
          · cases e
        · cases e
      · cases e
    · cases e
  · cases e
def tKsetd (K : PySem.W.Frag) (w : World) (td ty : TE) : TE := fun σ H Q => td σ H fun x H1 => ∃ a, x = .ref a ∧ IsKd w H1 a ∧ ty σ H1 fun y H2 => ∀ p, H2 p = none → ∃ (ka : Addr) (xs : List (NestedKey × Addr × V)) (kvs : List (PyData × AV)) (g : G) (d : PyData), y = .ref ka ∧ H2 a = some (KdO w a xs) ∧ KdP K g H2 xs kvs ∧
  kOk d = true ∧ Dz K g.Z H2 (.ref ka) d ∧ xs.length < sizeLine ∧ (∀ v, findV xs (nkD d) = some v → Q v (upd H2 p (.lst []))) ∧ (findV xs (nkD d) = none → Q (.ref p) (upd (upd H2 p (.lst [])) a (KdO w a (storedV xs (nkD d) ka (.ref p)))))
theorem pe_ksetd {o e : Expr} {td ty : TE} {apos cpos lp : Pos} (ok : Room 0 X.A) (ho : PE X o td) (he : PE X e ty) (m : M2 X o "setdefault" apos e (.List [] lp) cpos) : PE X (.Call (.Attribute o "setdefault" apos) [e, .List [] lp] [] cpos) (tKsetd X.K X.w td ty) := by
  refine ⟨fun pins s σ H Q I h => ?_⟩
  refine wpAny_Call_method m.base m.few m.line PySem.F.plainAttrs_dict PySem.F.slot_dict_setdefault PySem.F.type_dict_setdefault (thn (ho.run pins s σ H _ I h) fun u s1 ⟨x, H1, I1, rx, a, ex, d, q1⟩ => ?_)
  subst ex
  obtain rfl : u = Value.ref a := rx
  obtain ⟨t1, t2⟩ := isKd_at I1 d
  refine ⟨t1, t2, ?_⟩
  rw [m.trees]
  refine Calls.callWith_builtin rfl (Calls.evalArgs_plain (Calls.spliced_cons (thn (he.run pins s1 σ H1 _ I1 q1) fun iv s2 ⟨y, H2, I2, ry, q2⟩ =>
    Calls.spliced_cons (thn ((pe_lst (X := X) (pos := lp) pa_nil).run pins s2 σ H2 (fun z H3 => ∃ p, z = .ref p ∧ H2 p = none ∧ H3 = upd H2 p (.lst [])) I2 ⟨Nat.zero_le _, fun p hp => ⟨p, rfl, hp, rfl⟩⟩) fun fv s3 ⟨z, H3, I3, rz, p, ez, hp, eH⟩ => Calls.spliced_nil ?_))))
  subst ez eH
  obtain ⟨ka, xs, kvs, g, dd, rfl, ha, P, hd, dz, hl, k1, k2⟩ := q2 p hp
  cases ry
  have ex : ∀ b u, H2 b = some u → upd H2 p (.lst []) b = some u := up_same hp
  have dz' : Dz X.K g.Z (upd H2 p (.lst [])) (.ref ka) dd := Dz.mono (fun a xs z q => ⟨z, ex a _ q⟩) (fun a xs q => sqT_keep (fun _ _ q => ex _ _ q) (fun _ _ _ q => ex _ _ q) q) _ dz
  have P' : KdP X.K g (upd H2 p (.lst [])) xs kvs := P.map (g' := g) (fun v d h => Dz.mono (fun a xs z q => ⟨z, ex a _ q⟩) (fun a xs q => sqT_keep (fun _ _ q => ex _ _ q) (fun _ _ _ q => ex _ _ q) q) _ h) fun v x h => h.map (fun a xs z q => ⟨z, ex a _ q⟩) (fun a xs z q => ⟨z, ex a _ q⟩) (fun a xs q => sqT_keep (fun _ _ q => ex _ _ q) (fun _ _ _ q => ex _ _ q) q) (fun _ _ q => q) fun a ns q => q.keep fun o q => ex _ _ q
  obtain ⟨ys, r, D, hs, _⟩ := kd_dict I3 (ex _ _ ha) P'
  have el : ys.length = xs.length := by
    have := congrArg List.length (kdr_keys r)
    simpa using this
  obtain ⟨f1, f2⟩ := r.find (k := nkD dd)
  refine call_setdefault_heap (hsz := by omega) (room8 ok) (key_is I3 dz' hd) hs D (fun pp hpp => ?_) fun hn h' D' sb => ?_
  · cases e : findV xs (nkD dd) with
    | none => rw [f1 e] at hpp; cases hpp
    | some v =>
      obtain ⟨qq, e1, e2⟩ := f2 v e
      rw [e1] at hpp
      cases hpp
      exact ⟨v, _, I3.tok _, e2, k1 v e⟩
  · cases e : findV xs (nkD dd) with
    | some v =>
      obtain ⟨qq, e1, e2⟩ := f2 v e
      rw [e1] at hn; cases hn
    | none => exact ⟨.ref p, _, kd_write I3 (ex _ _ ha) r rz hs hl D' sb, rz, k2 e⟩
theorem s_ksetd {d k : E} {x y : Expr} {m : Str} {ap cp lp : Pos} (hm : m = sSetd) (hx : isRcv x = true) (hl : (ap.endLine == cp.line) = true) (ok : OkX X) (hy : isPl y = true) (h1 : ∀ b, PE X x (tE X.K X.mg X.w F b (ev b d))) (h2 : ∀ b, PE X y (tE X.K X.mg X.w F b (ev b k))) (b : Bool) :
    PE X (.Call (.Attribute x m ap) [y, .List [] lp] [] cp) (tE X.K X.mg X.w F b (ev b (.ksetd d k))) := by
  subst hm
  refine PE.imp (pe_ksetd ok.room (h1 true) (h2 true) (m2_of hx hy hl)) fun σ H Q ⟨g, ms, rv, ms', R, e, kk⟩ => ?_
  unfold ev at e
  split at e
  · rename_i j ms1 q1
    split at e
    · rename_i kvs0 e0
      split at e
      · rename_i dk ms2 q2
        split at e
        · rename_i kvs e1
          split at e
          · rename_i hd
            refine ⟨g, ms, _, ms1, R, q1, fun g1 u1 H1 R1 x1 r1 => ?_⟩
            cases r1 with
            | av r1 =>
              obtain ⟨a, xs0, hj, rfl, ha0, _⟩ := R1.hr.kd r1 e0
              refine ⟨a, rfl, ⟨xs0, ha0⟩, g1, ms1, _, ms2, R1, q2, fun g2 u2 H2 R2 x2 r2 p hp => ?_⟩
              have dz := r2.lr.dat
              obtain ⟨ka, rfl⟩ := kOk_ref dz hd.1
              obtain ⟨a', xs, hj', ea, ha, P⟩ := R2.hr.kd (R1.hr.avr x2.toExt0 r1) e1
              cases ea
              obtain ⟨f1, f2⟩ := P.find hd.1
              have xx := x1.trans x2
              refine ⟨ka, xs, kvs, g2, dk, rfl, ha, P, hd.1, dz, by rw [line_eq, P.length]; exact hd.2, fun v hv => ?_, fun hn => ?_⟩
              · cases q : kfind kvs dk with
                | none => rw [f1 q] at hv; cases hv
                | some y =>
                  rw [q] at e
                  cases e
                  obtain ⟨v', h1, h2⟩ := f2 y q
                  rw [hv] at h1
                  cases h1
                  exact kk g2 v _ (R2.new hp) (xx.trans (.same (up_same hp))) (.av (R2.hr.avr (.same (up_same hp)) h2))
              · cases q : kfind kvs dk with
                | some y =>
                  obtain ⟨v', h1, h2⟩ := f2 y q
                  rw [hn] at h1; cases h1
                | none =>
                  rw [q] at e
                  cases e
                  have f := R2.hr.fresh hp
                  have h0 : H p = none := by
                    cases z : H p with
                    | none => rfl
                    | some u =>
                      obtain ⟨u', z'⟩ := xx.th p u z
                      rw [hp] at z'; cases z'
                  obtain ⟨R3, _⟩ := (R2.new (o := .lst []) hp).alloc (a := p) (o := .lst []) (.lst upd_same .nil) f.1 f.2 (R2.f0 hp) (R2.oa0 hp)
                  have x3 : Ext g H { g2 with io := g2.io ++ [p] } (upd H2 p (.lst [])) := (xx.trans (.same (up_same hp))).grow h0
                  have ex : ∀ b u, H2 b = some u → upd H2 p (.lst []) b = some u := up_same hp
                  have hia : ({ g2 with io := g2.io ++ [p] } : G).io[j]? = some a := by
                    show (g2.io ++ [p])[j]? = _
                    rw [List.getElem?_append_left (List.getElem?_eq_some_iff.mp hj').1]
                    exact hj'
                  have hip : ({ g2 with io := g2.io ++ [p] } : G).io[ms2.hp.length]? = some p := by
                    show (g2.io ++ [p])[_]? = _
                    rw [← R2.hr.hl]
                    simp
                  have hx2 : (ms2.hp ++ [AO.lst []])[j]? = some (.kd kvs) := by
                    rw [List.getElem?_append_left (List.getElem?_eq_some_iff.mp e1).1]
                    exact e1
                  have ap : a ≠ p := fun e => by rw [e, hp] at ha; cases ha
                  have P3 : KdP X.K { g2 with io := g2.io ++ [p] } (upd H2 p (.lst [])) xs kvs := KdP.map (g := g2) (g' := { g2 with io := g2.io ++ [p] }) (fun v d h => R2.hr.dz (.same (up_same hp)) h) (fun v x h => AVR.map (g := g2) (g' := { g2 with io := g2.io ++ [p] }) (fun _ _ z q => ⟨z, q⟩) (fun _ _ z q => ⟨z, q⟩) (fun _ _ q => q) (fun i b q => by
                    show (g2.io ++ [p])[i]? = _
                    rw [List.getElem?_append_left (List.getElem?_eq_some_iff.mp q).1]
                    exact q) (fun _ _ q => q) (R2.hr.avr (.same (up_same hp)) h)) P
                  have hz : ¬ ({ g2 with io := g2.io ++ [p] } : G).Z a := R2.hr.nz a (List.mem_of_getElem? hj')
                  obtain ⟨dz4, _, av4, _⟩ := poke_dz (X := X) (g := { g2 with io := g2.io ++ [p] }) (u' := KdO X.w a (storedV xs (nkD dk) ka (.ref p))) (ex _ _ ha) (.inr (.inr (.inr ⟨_, rfl⟩))) hz
                  have P4 := KdP.put (g := { g2 with io := g2.io ++ [p] }) hd.1 (dz4 (R2.hr.dz (.same (up_same hp)) dz)) (v := .ref p) (y := .ref ms2.hp.length) (.ref hip) (KdP.map (g := { g2 with io := g2.io ++ [p] }) (g' := { g2 with io := g2.io ++ [p] }) (fun _ _ h => dz4 h) (fun _ _ h => av4 h) P3)
                  obtain ⟨R4, x4⟩ := R3.pokeObjE (u := KdO X.w a (storedV xs (nkD dk) ka (.ref p))) (o2 := .kd (kput kvs dk (.ref ms2.hp.length))) hia hx2 (ex _ _ ha) (.inr (.inr (.inr ⟨_, rfl⟩))) (.kd upd_same P4)
                  exact kk _ _ _ R4 (x3.trans x4) (.av (.ref hip))
          · cases e
        · cases e
      · cases e
    · cases e
  · cases e
end
end Sv

/-! Sv: every expression. -/
namespace Sv
open PySem PySem.Spec PyProof.Rows L2
theorem OkX.blk {X : Cx} (ok : OkX X) {s : Shared} {H : Hp} {s2 : Scope} {cenv : Env} {fp : List Addr} : OkX (X.blk s H s2 cenv fp) := ⟨ok.calm, ok.nd, ok.room, ok.free⟩
section
variable {X : Cx} {F : Fr}
theorem lit_true {d : PyData} {x : Expr} (h : mLit d x = true) : (∀ o vs p, x ≠ .BoolOp o vs p) ∧ ∀ whole, isTrue x X.env whole = (do let v ← whole; standAt x.pos; holding [v] (truthy v)) := by
  cases x with
  | Constant c k p => exact ⟨fun _ _ _ z => (nomatch z), fun _ => rfl⟩
  | UnaryOp o e p =>
    cases o with
    | Not => cases d <;> cases h
    | _ => exact ⟨fun _ _ _ z => (nomatch z), fun _ => rfl⟩
  | _ => cases d <;> cases h
/-- a piece that never answers -/
theorem Sd.never {e : E} {x : Expr} (h : ∀ b, PE X x (tE X.K X.mg X.w F b (ev b e))) (hn : ∀ ms c ms', ev true e ms ≠ some (.av (.dat (.bool c)), ms')) : Sd X F e x :=
  ⟨h, fun _ => PT.imp (t := fun _ _ _ => False) ⟨fun _ _ _ _ _ _ q => q.elim⟩ fun σ H Q ⟨g, ms, c, ms', R, q, k⟩ => hn ms c ms' q, fun _ _ _ _ => PW.imp (t := fun _ _ _ => False) ⟨fun _ _ _ _ _ _ _ q => q.elim⟩ fun σ H Q ⟨g, ms, c, ms', R, q, k⟩ => hn ms c ms' q⟩
theorem ops_bin {o : BinO} {p : Operator} (h : mOp o p = true) : p = bop o := by cases o <;> cases p <;> first | rfl | cases h
theorem ops_cmp {o : CmpO} {p : CmpOp} (h : mCmp o p = true) : p = cop o := by cases o <;> cases p <;> first | rfl | cases h
theorem ops_in {o : Bool} {p : CmpOp} (h : mIn o p = true) : p = inop o := by cases o <;> cases p <;> first | rfl | cases h
theorem cop_in (o : CmpO) : cop o ≠ .In := by cases o <;> decide
theorem cop_nin (o : CmpO) : cop o ≠ .NotIn := by cases o <;> decide
theorem ev_bin (o : BinO) (a b : E) (k : Bool) (ms : MS) (r : RV × MS) (h : ev k (.bin o a b) ms = some r) : ∃ x ms1 y ms2 z, ev true a ms = some (x, ms1) ∧ ev true b ms1 = some (y, ms2) ∧ binV o x y = some z ∧ r = (z, ms2) := by
  unfold ev at h
  cases q1 : ev true a ms with
  | none => rw [q1] at h; cases h
  | some r1 =>
    obtain ⟨x, ms1⟩ := r1
    rw [q1] at h
    dsimp only at h
    cases q2 : ev true b ms1 with
    | none => rw [q2] at h; cases h
    | some r2 =>
      obtain ⟨y, ms2⟩ := r2
      rw [q2] at h
      dsimp only at h
      obtain ⟨z, q3, q4⟩ := Option.map_eq_some_iff.mp h
      exact ⟨x, ms1, y, ms2, z, rfl, q2, q3, q4.symm⟩
theorem ev_cmp (o : CmpO) (a b : E) (k : Bool) (ms : MS) (r : RV × MS) (h : ev k (.cmp o a b) ms = some r) : ∃ x ms1 y ms2 z, ev true a ms = some (x, ms1) ∧ ev true b ms1 = some (y, ms2) ∧ cmpR o ms2.hp x y = some z ∧ r = (z, ms2) := by
  unfold ev at h
  cases q1 : ev true a ms with
  | none => rw [q1] at h; cases h
  | some r1 =>
    obtain ⟨x, ms1⟩ := r1
    rw [q1] at h
    dsimp only at h
    cases q2 : ev true b ms1 with
    | none => rw [q2] at h; cases h
    | some r2 =>
      obtain ⟨y, ms2⟩ := r2
      rw [q2] at h
      dsimp only at h
      obtain ⟨z, q3, q4⟩ := Option.map_eq_some_iff.mp h
      exact ⟨x, ms1, y, ms2, blV z, rfl, q2, by unfold cmpR; rw [q3]; rfl, q4.symm⟩
theorem ev_in (o : Bool) (a b : E) (k : Bool) (ms : MS) (r : RV × MS) (h : ev k (.isin o a b) ms = some r) : ∃ x ms1 y ms2 z, ev true a ms = some (x, ms1) ∧ ev true b ms1 = some (y, ms2) ∧ inR o ms2.hp x y = some z ∧ r = (z, ms2) := by
  unfold ev at h
  cases q1 : ev true a ms with
  | none => rw [q1] at h; cases h
  | some r1 =>
    obtain ⟨x, ms1⟩ := r1
    rw [q1] at h
    dsimp only at h
    cases q2 : ev true b ms1 with
    | none => rw [q2] at h; cases h
    | some r2 =>
      obtain ⟨y, ms2⟩ := r2
      rw [q2] at h
      dsimp only at h
      obtain ⟨z, q3, q4⟩ := Option.map_eq_some_iff.mp h
      exact ⟨x, ms1, y, ms2, _, rfl, q2, by unfold inR; rw [q3]; rfl, q4.symm⟩
theorem ev_sub (a b : E) (k : Bool) (ms : MS) (r : RV × MS) (h : ev k (.sub a b) ms = some r) : ∃ x ms1 y ms2 z, ev true a ms = some (x, ms1) ∧ ev true b ms1 = some (y, ms2) ∧ subR ms2.hp x y = some z ∧ r = (z, ms2) := by
  unfold ev at h
  cases q1 : ev true a ms with
  | none => rw [q1] at h; cases h
  | some r1 =>
    obtain ⟨x, ms1⟩ := r1
    rw [q1] at h
    dsimp only at h
    cases q2 : ev true b ms1 with
    | none => rw [q2] at h; cases h
    | some r2 =>
      obtain ⟨y, ms2⟩ := r2
      rw [q2] at h
      dsimp only at h
      obtain ⟨z, q3, q4⟩ := Option.map_eq_some_iff.mp h
      exact ⟨x, ms1, y, ms2, _, rfl, q2, by unfold subR; rw [q3]; rfl, q4.symm⟩
/-! ### and, or, not, if -/
theorem ev_and {a b : E} {k : Bool} {ms : MS} {r : RV × MS} (h : ev k (.and a b) ms = some r) : ∃ c ms1, ev true a ms = some (blV c, ms1) ∧ (c = true → ∃ d ms2, ev true b ms1 = some (blV d, ms2) ∧ r = (blV d, ms2)) ∧ (c = false → r = (blV false, ms1)) := by
  unfold ev at h
  split at h
  · rename_i c ms1 q1
    refine ⟨c, ms1, q1, fun e => ?_, fun e => ?_⟩
    · subst e
      rw [if_pos rfl] at h
      split at h
      · rename_i d ms2 q2
        cases h
        exact ⟨d, ms2, q2, rfl⟩
      · cases h
    · subst e
      rw [if_neg Bool.false_ne_true] at h
      cases h
      rfl
  · cases h
theorem ev_or {a b : E} {k : Bool} {ms : MS} {r : RV × MS} (h : ev k (.or a b) ms = some r) : ∃ c ms1, ev true a ms = some (blV c, ms1) ∧ (c = false → ∃ d ms2, ev true b ms1 = some (blV d, ms2) ∧ r = (blV d, ms2)) ∧ (c = true → r = (blV true, ms1)) := by
  unfold ev at h
  split at h
  · rename_i c ms1 q1
    refine ⟨c, ms1, q1, fun e => ?_, fun e => ?_⟩
    · subst e
      rw [if_neg Bool.false_ne_true] at h
      split at h
      · rename_i d ms2 q2
        cases h
        exact ⟨d, ms2, q2, rfl⟩
      · cases h
    · subst e
      rw [if_pos rfl] at h
      cases h
      rfl
  · cases h
theorem RVR.bl {g : G} {S H : Hp} {b : Bool} {v : V} {c : Bool} (h : RVR X.K F g S H b v (blV c)) : v = .bl c := LR.bl h.lr
theorem rd_and {a b : E} {k : Bool} {σ : L2.St} {H : Hp} {Q : VK} (h : tE X.K X.mg X.w F k (ev k (.and a b)) σ H Q) : tAndV (tE X.K X.mg X.w F true (ev true a)) (tE X.K X.mg X.w F true (ev true b)) σ H Q := by
  obtain ⟨g, ms, rv, ms', R, q, k⟩ := h
  obtain ⟨c, ms1, q1, h1, h2⟩ := ev_and q
  refine ⟨g, ms, _, ms1, R, q1, fun g1 v H1 R1 x1 r1 => ⟨c, r1.bl, ?_⟩⟩
  cases c with
  | true =>
    obtain ⟨d, ms2, q2, e⟩ := h1 rfl
    cases e
    exact iteT ⟨g1, ms1, _, ms', R1, q2, fun g2 w H2 R2 x2 r2 => by rw [r2.bl]; exact k g2 _ H2 R2 (x1.trans x2) (rvr_bl d)⟩
  | false =>
    have e := h2 rfl
    cases e
    exact iteF (k g1 _ H1 R1 x1 (rvr_bl false))
theorem rd_or {a b : E} {k : Bool} {σ : L2.St} {H : Hp} {Q : VK} (h : tE X.K X.mg X.w F k (ev k (.or a b)) σ H Q) : tOrV (tE X.K X.mg X.w F true (ev true a)) (tE X.K X.mg X.w F true (ev true b)) σ H Q := by
  obtain ⟨g, ms, rv, ms', R, q, k⟩ := h
  obtain ⟨c, ms1, q1, h1, h2⟩ := ev_or q
  refine ⟨g, ms, _, ms1, R, q1, fun g1 v H1 R1 x1 r1 => ⟨c, r1.bl, ?_⟩⟩
  cases c with
  | false =>
    obtain ⟨d, ms2, q2, e⟩ := h1 rfl
    cases e
    exact iteF ⟨g1, ms1, _, ms', R1, q2, fun g2 w H2 R2 x2 r2 => by rw [r2.bl]; exact k g2 _ H2 R2 (x1.trans x2) (rvr_bl d)⟩
  | true =>
    have e := h2 rfl
    cases e
    exact iteT (k g1 _ H1 R1 x1 (rvr_bl true))
theorem rt_and {a b : E} {σ : L2.St} {H : Hp} {Q : Bool → Hp → Prop} (h : tT X.K X.mg X.w F (ev true (.and a b)) σ H Q) : tAnd (tT X.K X.mg X.w F (ev true a)) (tT X.K X.mg X.w F (ev true b)) σ H Q := by
  obtain ⟨g, ms, rv, ms', R, q, k⟩ := h
  obtain ⟨c, ms1, q1, h1, h2⟩ := ev_and q
  refine ⟨g, ms, c, ms1, R, q1, fun g1 H1 R1 x1 => ?_⟩
  cases c with
  | true =>
    obtain ⟨d, ms2, q2, e⟩ := h1 rfl
    cases e
    exact iteT ⟨g1, ms1, _, ms', R1, q2, fun g2 H2 R2 x2 => k g2 H2 R2 (x1.trans x2)⟩
  | false =>
    have e := h2 rfl
    cases e
    exact iteF (k g1 H1 R1 x1)
theorem rt_or {a b : E} {σ : L2.St} {H : Hp} {Q : Bool → Hp → Prop} (h : tT X.K X.mg X.w F (ev true (.or a b)) σ H Q) : tOr (tT X.K X.mg X.w F (ev true a)) (tT X.K X.mg X.w F (ev true b)) σ H Q := by
  obtain ⟨g, ms, rv, ms', R, q, k⟩ := h
  obtain ⟨c, ms1, q1, h1, h2⟩ := ev_or q
  refine ⟨g, ms, c, ms1, R, q1, fun g1 H1 R1 x1 => ?_⟩
  cases c with
  | false =>
    obtain ⟨d, ms2, q2, e⟩ := h1 rfl
    cases e
    exact iteF ⟨g1, ms1, _, ms', R1, q2, fun g2 H2 R2 x2 => k g2 H2 R2 (x1.trans x2)⟩
  | true =>
    have e := h2 rfl
    cases e
    exact iteT (k g1 H1 R1 x1)
theorem rd_not {a : E} {k : Bool} {σ : L2.St} {H : Hp} {Q : VK} (h : tE X.K X.mg X.w F k (ev k (.not a)) σ H Q) : tNotV (tE X.K X.mg X.w F true (ev true a)) σ H Q := by
  obtain ⟨g, ms, rv, ms', R, q, k⟩ := h
  unfold ev at q
  split at q
  · rename_i c ms1 q1
    cases q
    exact ⟨g, ms, _, ms', R, q1, fun g1 v H1 R1 x1 r1 => ⟨c, r1.bl, k g1 _ H1 R1 x1 (rvr_bl _)⟩⟩
  · cases q
theorem rt_not {a : E} {σ : L2.St} {H : Hp} {Q : Bool → Hp → Prop} (h : tT X.K X.mg X.w F (ev true (.not a)) σ H Q) : tNot (tT X.K X.mg X.w F (ev true a)) σ H Q := by
  obtain ⟨g, ms, rv, ms', R, q, k⟩ := h
  unfold ev at q
  split at q
  · rename_i c ms1 q1
    cases q
    exact ⟨g, ms, _, ms', R, q1, fun g1 H1 R1 x1 => k g1 H1 R1 x1⟩
  · cases q
theorem rd_ife {c a b : E} {k : Bool} {σ : L2.St} {H : Hp} {Q : VK} (h : tE X.K X.mg X.w F k (ev k (.ife c a b)) σ H Q) : tIf (tT X.K X.mg X.w F (ev true c)) (tE X.K X.mg X.w F k (ev k a)) (tE X.K X.mg X.w F k (ev k b)) σ H Q := by
  obtain ⟨g, ms, rv, ms', R, q, kk⟩ := h
  unfold ev at q
  split at q
  · rename_i d ms1 q1
    refine ⟨g, ms, d, ms1, R, q1, fun g1 H1 R1 x1 => ?_⟩
    cases d with
    | true => exact iteT ⟨g1, ms1, rv, ms', R1, by simpa using q, fun g2 w H2 R2 x2 r2 => kk g2 w H2 R2 (x1.trans x2) (r2.since x1.toExt0)⟩
    | false => exact iteF ⟨g1, ms1, rv, ms', R1, by simpa using q, fun g2 w H2 R2 x2 r2 => kk g2 w H2 R2 (x1.trans x2) (r2.since x1.toExt0)⟩
  · cases q

theorem PTs.imp {X : Cx} {x : List Expr} {t t' : TT} (h : PTs X x t) (i : ∀ σ H Q, t' σ H Q → t σ H Q) : PTs X x t' := ⟨fun pins s σ H Q I q => h.run pins s σ H Q I (i σ H Q q)⟩
theorem mEs_nil {N : List Str} {sc : Scope} {es : Es} {xs : List Expr} (h : mEs N sc es xs = true) (e : xs = []) : es = .nil := by
  subst e
  cases es with
  | nil => rfl
  | cons _ _ => simp [mEs] at h
theorem mI_set {N : List Str} {sc : Scope} {it : I} {x : Expr} {env : Env} (h : mI N sc it x = true) (v : Value) : foldedSetIterable x env v = pure v := by
  cases it with
  | seq e => exact pl_set (mE_pl e (by simpa [mI] using h)) v
  | range1 e => cases x <;> first | rfl | simp [mI] at h
  | range2 a b => cases x <;> first | rfl | simp [mI] at h
  | rev e => cases x <;> first | rfl | simp [mI] at h
theorem s_compE {e : E} {tg : List Nat} {it : I} {c : Es} {x t i : Expr} {ifs : List Expr} {s2 : Scope} {pos : Pos} (ok : OkX X) (hb : blkC X.N X.env.scope s2 ((tgNames t).zip tg) = true) (hl : (tgNames t).length = tg.length) (hi : PI X t i (tI X.K X.mg X.w F (evI it))) (hset : ∀ v, foldedSetIterable i X.env v = pure v)
    (hg : ∀ (s : Shared) (H : Hp) (C : Addr) (cl : List (Str × Addr)) (fp : List Addr), PG (X.blk s H s2 (compEnvC s2 cl C X.env) fp) t (tgG X.K X.mg X.w F tg)) (ht : ∀ (s : Shared) (H : Hp) (C : Addr) (cl : List (Str × Addr)) (fp : List Addr), PTs (X.blk s H s2 (compEnvC s2 cl C X.env) fp) ifs (tC' X.K X.mg X.w F (evC c)))
    (he : ∀ (s : Shared) (H : Hp) (C : Addr) (cl : List (Str × Addr)) (fp : List Addr), PE (X.blk s H s2 (compEnvC s2 cl C X.env) fp) x (tE X.K X.mg X.w F false (ev false e))) (b : Bool) : PE X (.ListComp x [⟨t, i, ifs, 0⟩] s2 pos) (tE X.K X.mg X.w F b (ev b (.comp e tg it c))) := by
  have z := pe_lc (pos := pos) ok.calm ok.nd hi (blkOk_by hb) hg ht he hset
  have e : ((tgNames t).zip tg).map (·.2) = tg := by
    rw [List.map_snd_zip]
    omega
  rw [e] at z
  exact PE.imp z (s_comp (pos := pos) ok hb hl hi hset hg ht he b)
/-! ### all expressions -/
mutual
theorem sE : ∀ (e : E) {X : Cx} {F : Fr} (ok : OkX X) {x : Expr}, okE (prX X) e → mE X.N X.env.scope e x = true → Sd X F e x
  | .lit d, X, F, ok, x, _, hm => Sd.val (s_lit (show mLit d x = true from hm)) (lit_true (X := X) (show mLit d x = true from hm)).1 (lit_true (show mLit d x = true from hm)).2
  | .glob n d, X, F, ok, x, hk, hm => by
    cases x <;> try (exact absurd (show false = true from hm) Bool.false_ne_true)
    exact Sd.val (s_glob (show OkGl X n d from hk) hm) (fun _ _ _ z => nomatch z)
  | .var i, X, F, ok, x, hk, hm => by
    cases x <;> try (exact absurd (show false = true from hm) Bool.false_ne_true)
    exact Sd.val (s_var hm) (fun _ _ _ z => nomatch z)
  | .tup es, X, F, ok, x, hk, hm => by
    cases x <;> try (exact absurd (show false = true from hm) Bool.false_ne_true)
    exact Sd.val (s_tup (sEs es ok (show okEs (prX X) es from hk) (show mEs X.N X.env.scope es _ = true from hm)).1) (fun _ _ _ z => nomatch z)
  | .lst es, X, F, ok, x, hk, hm => by
    cases x <;> try (exact absurd (show false = true from hm) Bool.false_ne_true)
    exact Sd.val (s_lst (sEs es ok (show okEs (prX X) es from hk) (show mEs X.N X.env.scope es _ = true from hm)).1) (fun _ _ _ z => nomatch z)
  | .bin o a b, X, F, ok, x, hk, hm => by
    cases x <;> try (exact absurd (show false = true from hm) Bool.false_ne_true)
    have hm : (mOp o _ && mE X.N X.env.scope a _ && mE X.N X.env.scope b _) = true := hm
    simp only [Bool.and_eq_true] at hm
    simp only [okE] at hk
    obtain ⟨⟨m1, m2⟩, m3⟩ := hm
    have e := ops_bin m1
    subst e
    exact Sd.val (fun k => PE.imp (pe_op (op_bin (F := F) o) ((sE a ok hk.1 m2).pe true) ((sE b ok hk.2 m3).pe true)) fun σ H Q q => bin_read (ev_bin o a b k) q) (fun _ _ _ z => nomatch z)
  | .cmp o a b, X, F, ok, x, hk, hm => by
    cases x <;> try (exact absurd (show false = true from hm) Bool.false_ne_true)
    rename_i l ops cs p
    match ops, cs, hm with
    | [p], [y], hm =>
      have hm : (mCmp o p && mE X.N X.env.scope a l && mE X.N X.env.scope b y) = true := hm
      simp only [Bool.and_eq_true] at hm
      simp only [okE] at hk
      obtain ⟨⟨m1, m2⟩, m3⟩ := hm
      have e := ops_cmp m1
      subst e
      have ha := sE a (F := F) ok hk.1 m2
      have hb := sE b (F := F) ok hk.2 m3
      have hmk : behindInMarks (cop o) y = false := pl_mark (mE_pl b m3) _
      exact ⟨fun k => PE.imp (pe_cmpR (op_cmp (mg := X.mg) (F := F) ok.room o) (ha.pe true) (hb.pe true) hmk) fun σ H Q q => bin_read (ev_cmp o a b k) q,
        fun _ => PT.imp (pt_cmpR (op_cmp (mg := X.mg) (F := F) ok.room o) (ha.pe true) (hb.pe true) hmk) fun σ H Q q => bin_read (ev_cmp o a b true) (tT_of (b := true) q), fun _ _ _ z => nomatch z⟩
    | [], _, hm => exact absurd (show false = true from hm) Bool.false_ne_true
    | [_], [], hm => exact absurd (show false = true from hm) Bool.false_ne_true
    | [_], _ :: _ :: _, hm => exact absurd (show false = true from hm) Bool.false_ne_true
    | _ :: _ :: _, _, hm => exact absurd (show false = true from hm) Bool.false_ne_true
  | .isin o a b, X, F, ok, x, hk, hm => by
    cases x <;> try (exact absurd (show false = true from hm) Bool.false_ne_true)
    rename_i l ops cs p
    match ops, cs, hm with
    | [p], [y], hm =>
      have hm : (mIn o p && mE X.N X.env.scope a l && mE X.N X.env.scope b y) = true := hm
      simp only [Bool.and_eq_true] at hm
      simp only [okE] at hk
      obtain ⟨⟨m1, m2⟩, m3⟩ := hm
      have e := ops_in m1
      subst e
      have ha := sE a (F := F) ok hk.1 m2
      have hb := sE b (F := F) ok hk.2 m3
      have hmk : behindInMarks (inop o) y = false := pl_mark (mE_pl b m3) _
      exact ⟨fun k => PE.imp (pe_cmpR (op_in (mg := X.mg) (F := F) ok.room o) (ha.pe true) (hb.pe true) hmk) fun σ H Q q => bin_read (ev_in o a b k) q,
        fun _ => PT.imp (pt_cmpR (op_in (mg := X.mg) (F := F) ok.room o) (ha.pe true) (hb.pe true) hmk) fun σ H Q q => bin_read (ev_in o a b true) (tT_of (b := true) q), fun _ _ _ z => nomatch z⟩
    | [], _, hm => exact absurd (show false = true from hm) Bool.false_ne_true
    | [_], [], hm => exact absurd (show false = true from hm) Bool.false_ne_true
    | [_], _ :: _ :: _, hm => exact absurd (show false = true from hm) Bool.false_ne_true
    | _ :: _ :: _, _, hm => exact absurd (show false = true from hm) Bool.false_ne_true
  | .inrange o a b, X, F, ok, x, hk, hm => by
    unfold mE at hm
    split at hm <;> rename_i heq <;> try (cases heq; done)
    · cases heq
      simp only [Bool.and_eq_true, decide_eq_true_eq, Bool.not_eq_true'] at hm
      simp only [okE] at hk
      exact s_inrange hm.1.1.1.1 hm.1.1.1.2 hm.1.1.2 ok (mE_pl a hm.1.2) (mE_pl b hm.2) (sE a ok hk.1 hm.1.2).pe (sE b ok hk.2 hm.2).pe
    · cases hm
  | .isnone o a, X, F, ok, x, hk, hm => by
    unfold mE at hm
    split at hm <;> rename_i heq <;> try (cases heq; done)
    · cases heq
      simp only [Bool.and_eq_true, decide_eq_true_eq, Bool.not_eq_true'] at hm
      simp only [okE] at hk
      exact s_isnone hm.1 (sE a ok hk hm.2).pe
    · cases hm
  | .and a b, X, F, ok, x, hk, hm => by
    unfold mE at hm
    split at hm <;> rename_i heq <;> try (cases heq; done)
    · rename_i x y r pos
      cases heq
      simp only [Bool.and_eq_true, Bool.not_eq_true'] at hm
      simp only [okE] at hk
      have ha := sE a (F := F) ok hk.1 hm.1.1
      cases r with
      | nil =>
        have hm2 := hm.2
        simp only [Bool.and_eq_true, Bool.not_eq_true'] at hm2
        have hb := sE b (F := F) ok hk.2 hm2.1
        have w := PW.imp (pw_and (pos := pos) (ha.pt hm.1.2) (pw_and1 (hb.pt hm2.2))) fun σ H Q q => rt_and q
        exact ⟨fun k => PE.imp (pe_and (ha.pe true) (pe_one (hb.pe true))) fun σ H Q q => rd_and q, fun _ => PW.pt w, fun _ _ _ _ => w⟩
      | cons z r =>
        have hb := sE b (F := F) ok hk.2 hm.2
        have w := PW.imp (pw_and (pos := pos) (ha.pt hm.1.2) (hb.pw _ _ _ rfl)) fun σ H Q q => rt_and q
        exact ⟨fun k => PE.imp (pe_and (ha.pe true) (hb.pe true)) fun σ H Q q => rd_and q, fun _ => PW.pt w, fun _ _ _ _ => w⟩
    · cases hm
  | .or a b, X, F, ok, x, hk, hm => by
    unfold mE at hm
    split at hm <;> rename_i heq <;> try (cases heq; done)
    · rename_i x y r pos
      cases heq
      simp only [Bool.and_eq_true, Bool.not_eq_true'] at hm
      simp only [okE] at hk
      have ha := sE a (F := F) ok hk.1 hm.1.1
      cases r with
      | nil =>
        have hm2 := hm.2
        simp only [Bool.and_eq_true, Bool.not_eq_true'] at hm2
        have hb := sE b (F := F) ok hk.2 hm2.1
        have w := PW.imp (pw_or (pos := pos) (ha.pt hm.1.2) (pw_or1 (hb.pt hm2.2))) fun σ H Q q => rt_or q
        exact ⟨fun k => PE.imp (pe_or (ha.pe true) (pe_one (hb.pe true))) fun σ H Q q => rd_or q, fun _ => PW.pt w, fun _ _ _ _ => w⟩
      | cons z r =>
        have hb := sE b (F := F) ok hk.2 hm.2
        have w := PW.imp (pw_or (pos := pos) (ha.pt hm.1.2) (hb.pw _ _ _ rfl)) fun σ H Q q => rt_or q
        exact ⟨fun k => PE.imp (pe_or (ha.pe true) (hb.pe true)) fun σ H Q q => rd_or q, fun _ => PW.pt w, fun _ _ _ _ => w⟩
    · cases hm
  | .not a, X, F, ok, x, hk, hm => by
    unfold mE at hm
    split at hm <;> rename_i heq <;> try (cases heq; done)
    · cases heq
      simp only [Bool.and_eq_true, decide_eq_true_eq, Bool.not_eq_true'] at hm
      simp only [okE] at hk
      have ha := sE a (F := F) ok hk hm.1
      exact ⟨fun k => PE.imp (pe_not (ha.pe true)) fun σ H Q q => rd_not q, fun _ => PT.imp (pt_not (ha.pt hm.2)) fun σ H Q q => rt_not q, fun _ _ _ z => nomatch z⟩
    · cases hm
  | .ife c a b, X, F, ok, x, hk, hm => by
    unfold mE at hm
    split at hm <;> rename_i heq <;> try (cases heq; done)
    · cases heq
      simp only [Bool.and_eq_true, decide_eq_true_eq, Bool.not_eq_true'] at hm
      simp only [okE] at hk
      have hc := sE c (F := F) ok hk.1 hm.1.1.1
      have ha := sE a (F := F) ok hk.2.1 hm.1.2
      have hb := sE b (F := F) ok hk.2.2 hm.2
      exact ⟨fun k => PE.imp (pe_ifExp (hc.pt hm.1.1.2) (ha.pe k) (hb.pe k)) fun σ H Q q => rd_ife q, fun z => (nomatch z), fun _ _ _ z => nomatch z⟩
    · cases hm
  | .sub a b, X, F, ok, x, hk, hm => by
    unfold mE at hm
    split at hm <;> rename_i heq <;> try (cases heq; done)
    · cases heq
      simp only [Bool.and_eq_true, decide_eq_true_eq, Bool.not_eq_true'] at hm
      simp only [okE] at hk
      exact Sd.val (fun k => PE.imp (pe_ix (ix_sub (F := F)) ((sE a ok hk.1 hm.1).pe true) ((sE b ok hk.2 hm.2).pe true) (pl_ix (mE_pl b hm.2))) fun σ H Q q => bin_read (ev_sub a b k) q) (fun _ _ _ z => nomatch z)
    · cases hm
  | .slice a lo hi, X, F, ok, x, hk, hm => by
    unfold mE at hm
    split at hm <;> rename_i heq <;> try (cases heq; done)
    · cases heq
      simp only [Bool.and_eq_true, decide_eq_true_eq, Bool.not_eq_true'] at hm
      simp only [okE] at hk
      exact Sd.val (s_slice (sE a ok hk.1 hm.1.1).pe (sP lo ok hk.2.1 hm.1.2) (sP hi ok hk.2.2 hm.2)) (fun _ _ _ z => nomatch z)
    · cases hm
  | .b1 f a, X, F, ok, x, hk, hm => by
    unfold mE at hm
    split at hm <;> rename_i heq <;> try (cases heq; done)
    · cases heq
      simp only [Bool.and_eq_true, decide_eq_true_eq, Bool.not_eq_true'] at hm
      simp only [okE] at hk
      exact Sd.val (s_b1 hm.1.1 hm.1.2 ok (mE_pl a hm.2) (sE a ok hk hm.2).pe) (fun _ _ _ z => nomatch z)
    · cases hm
  | .isi a t, X, F, ok, x, hk, hm => by
    unfold mE at hm
    split at hm <;> rename_i heq <;> try (cases heq; done)
    · cases heq
      simp only [Bool.and_eq_true, decide_eq_true_eq, Bool.not_eq_true'] at hm
      simp only [okE] at hk
      exact Sd.val (s_isi hm.1.1.1.1 hm.1.1.1.2 hm.1.2 ok hm.1.1.2 (mE_pl a hm.2) (sE a ok hk hm.2).pe) (fun _ _ _ z => nomatch z)
    · cases hm
  | .call f es, X, F, ok, x, hk, hm => by
    unfold mE at hm
    split at hm <;> rename_i heq <;> try (cases heq; done)
    · cases heq
      simp only [Bool.and_eq_true, decide_eq_true_eq, Bool.not_eq_true'] at hm
      simp only [okE] at hk
      exact Sd.val (s_call hk.1 hm.1.1.1 hm.1.1.2 hm.1.2 (mEs_pl es hm.2) (mEs_nil hm.2) (sEs es ok hk.2 hm.2).1) (fun _ _ _ z => nomatch z)
    · cases hm
  | .callP f es, X, F, ok, x, hk, hm => by
    unfold mE at hm
    split at hm <;> rename_i heq <;> try (cases heq; done)
    · cases heq
      simp only [Bool.and_eq_true, decide_eq_true_eq, Bool.not_eq_true'] at hm
      simp only [okE] at hk
      exact Sd.val (s_callP hk.1 hm.1.1.1 hm.1.1.2 hm.1.2 (mEs_pl es hm.2) (mEs_nil hm.2) (sEs es ok hk.2 hm.2).1) (fun _ _ _ z => nomatch z)
    · cases hm
  | .callB f es, X, F, ok, x, hk, hm => by
    unfold mE at hm
    split at hm <;> rename_i heq <;> try (cases heq; done)
    · cases heq
      simp only [Bool.and_eq_true, decide_eq_true_eq, Bool.not_eq_true'] at hm
      simp only [okE] at hk
      exact Sd.val (s_callB hk.1 hm.1.1.1 hm.1.1.2 hm.1.2 (mEs_pl es hm.2) (mEs_nil hm.2) (sEs es ok hk.2 hm.2).2.1) (fun _ _ _ z => nomatch z)
    · cases hm
  | .alloc e, X, F, ok, x, hk, hm => by
    have h1 := sE e (F := F) ok (show okE (prX X) e from hk) (show mE X.N X.env.scope e x = true from hm)
    refine Sd.never (s_alloc h1.pe) fun ms c ms' q => ?_
    unfold ev at q
    split at q
    · cases q
    · cases q
  | .allocL es, X, F, ok, x, hk, hm => by
    unfold mE at hm
    split at hm <;> rename_i heq <;> try (cases heq; done)
    · cases heq
      simp only [okE] at hk
      exact Sd.val (s_allocL (sEs es ok hk hm).1) (fun _ _ _ z => nomatch z)
    · cases hm
  | .attr c a f, X, F, ok, x, hk, hm => by
    unfold mE at hm
    split at hm <;> rename_i heq <;> try (cases heq; done)
    · cases heq
      simp only [Bool.and_eq_true, decide_eq_true_eq] at hm
      simp only [okE] at hk
      obtain ⟨⟨m1, m2⟩, m3⟩ := hm
      subst m1
      exact Sd.val (s_attr hk.1 m2 (sE a ok hk.2 m3).pe) (fun _ _ _ z => nomatch z)
    · cases hm
  | .meth c f a es, X, F, ok, x, hk, hm => by
    unfold mE at hm
    split at hm <;> rename_i heq <;> try (cases heq; done)
    · cases heq
      simp only [Bool.and_eq_true, decide_eq_true_eq] at hm
      simp only [okE] at hk
      obtain ⟨⟨⟨⟨⟨m1, m2⟩, m3⟩, m4⟩, m5⟩, m6⟩ := hm
      exact Sd.val (s_meth m3 m4 hk.1 m1 m2 (mEs_pl es m6) (mEs_nil m6) (sE a ok hk.2.1 m5).pe (sEs es ok hk.2.2 m6).1) (fun _ _ _ z => nomatch z)
    · cases hm
  | .new c f es, X, F, ok, x, hk, hm => by
    unfold mE at hm
    split at hm <;> rename_i heq <;> try (cases heq; done)
    · cases heq
      simp only [Bool.and_eq_true, decide_eq_true_eq, Bool.not_eq_true'] at hm
      simp only [okE] at hk
      exact Sd.val (s_new hk.1 hm.1.1.1 hm.1.1.2 hm.1.2 (mEs_pl es hm.2) (mEs_nil hm.2) (sEs es ok hk.2 hm.2).1) (fun _ _ _ z => nomatch z)
    · cases hm
  | .srt true a, X, F, ok, x, hk, hm => by
    unfold mE at hm
    split at hm <;> rename_i heq <;> try (cases heq; done)
    · cases heq
      simp only [Bool.and_eq_true, decide_eq_true_eq] at hm
      simp only [okE] at hk
      exact Sd.val (s_sortSet hm.1.1.1.1 hm.1.1.1.2 hm.1.1.2 hm.1.2 ok (mE_pl a hm.2) (sE a ok hk hm.2).pe) (fun _ _ _ z => nomatch z)
    · cases hm
  | .srt false a, X, F, ok, x, hk, hm => by
    unfold mE at hm
    split at hm <;> rename_i heq <;> try (cases heq; done)
    · cases heq
      simp only [Bool.and_eq_true, decide_eq_true_eq] at hm
      simp only [okE] at hk
      exact Sd.val (s_sortL hm.1.1 hm.1.2 ok (mE_pl a hm.2) (sE a ok hk hm.2).pe) (fun _ _ _ z => nomatch z)
    · cases hm
  | .str1 a, X, F, ok, x, hk, hm => by
    unfold mE at hm
    split at hm <;> rename_i heq <;> try (cases heq; done)
    · cases heq
      simp only [Bool.and_eq_true, decide_eq_true_eq] at hm
      simp only [okE] at hk
      exact Sd.val (s_str1 hm.1.1 hm.1.2 ok (mE_pl a hm.2) (sE a ok hk hm.2).pe) (fun _ _ _ z => nomatch z)
    · cases hm
  | .join s a, X, F, ok, x, hk, hm => by
    unfold mE at hm
    split at hm <;> rename_i heq <;> try (cases heq; done)
    · cases heq
      simp only [Bool.and_eq_true, decide_eq_true_eq] at hm
      simp only [okE] at hk
      exact Sd.val (s_join hm.1.1.1 hm.1.1.2 hm.1.2 (mE_pl a hm.2) (sE a ok hk hm.2).pe) (fun _ _ _ z => nomatch z)
    · cases hm
  | .comp e tg it c, X, F, ok, x, hk, hm => by
    unfold mE at hm
    split at hm <;> rename_i heq <;> try (cases heq; done)
    · rename_i x t i ifs kk s2 pos
      cases heq
      simp only [Bool.and_eq_true, decide_eq_true_eq, Bool.not_eq_true'] at hm
      simp only [okE] at hk
      obtain ⟨⟨⟨⟨⟨⟨m1, m2⟩, m3⟩, m4⟩, m5⟩, m6⟩, m7⟩ := hm
      subst m1
      exact Sd.val (fun b => s_compE (F := F) ok m6 m7 (sI it ok hk.2.1 m4) (mI_set m4) (fun s H C cl fp => s_tg (X := X.blk s H s2 (compEnvC s2 cl C X.env) fp) ok.blk stores_blk m3)
        (fun s H C cl fp => sC c (X := X.blk s H s2 (compEnvC s2 cl C X.env) fp) ok.blk hk.2.2 m5) (fun s H C cl fp => (sE e (X := X.blk s H s2 (compEnvC s2 cl C X.env) fp) (F := F) ok.blk hk.1 m2).pe false) b) (fun _ _ _ z => nomatch z)
    · cases hm
  | .cmpH o a b, X, F, ok, x, hk, hm => by
    cases x <;> try (exact absurd (show false = true from hm) Bool.false_ne_true)
    rename_i l ops cs p
    match ops, cs, hm with
    | [p], [y], hm =>
      have hm : (mCmp o p && mE X.N X.env.scope a l && mE X.N X.env.scope b y) = true := hm
      simp only [Bool.and_eq_true] at hm
      simp only [okE] at hk
      obtain ⟨⟨m1, m2⟩, m3⟩ := hm
      have e := ops_cmp m1
      subst e
      have ha := sE a (F := F) ok hk.1 m2
      have hb := sE b (F := F) ok hk.2 m3
      have hmk : behindInMarks (cop o) y = false := pl_mark (mE_pl b m3) _
      exact ⟨fun k => PE.imp (pe_cmpR (op_cmpH (F := F) ok.room o) (ha.pe true) (hb.pe true) hmk) fun σ H Q q => bin_read (ev_cmpH o a b k) q,
        fun _ => PT.imp (pt_cmpR (op_cmpH (F := F) ok.room o) (ha.pe true) (hb.pe true) hmk) fun σ H Q q => bin_read (ev_cmpH o a b true) (tT_of (b := true) q), fun _ _ _ z => nomatch z⟩
    | [], _, hm => exact absurd (show false = true from hm) Bool.false_ne_true
    | [_], [], hm => exact absurd (show false = true from hm) Bool.false_ne_true
    | [_], _ :: _ :: _, hm => exact absurd (show false = true from hm) Bool.false_ne_true
    | _ :: _ :: _, _, hm => exact absurd (show false = true from hm) Bool.false_ne_true
  | .kin o a b, X, F, ok, x, hk, hm => by
    cases x <;> try (exact absurd (show false = true from hm) Bool.false_ne_true)
    rename_i l ops cs p
    match ops, cs, hm with
    | [p], [y], hm =>
      have hm : (mIn o p && mE X.N X.env.scope a l && mE X.N X.env.scope b y) = true := hm
      simp only [Bool.and_eq_true] at hm
      simp only [okE] at hk
      obtain ⟨⟨m1, m2⟩, m3⟩ := hm
      have e := ops_in m1
      subst e
      have ha := sE a (F := F) ok hk.1 m2
      have hb := sE b (F := F) ok hk.2 m3
      have hmk : behindInMarks (inop o) y = false := pl_mark (mE_pl b m3) _
      exact ⟨fun k => PE.imp (pe_cmpR (op_kin (F := F) ok.room o) (ha.pe true) (hb.pe true) hmk) fun σ H Q q => bin_read (ev_kin o a b k) q,
        fun _ => PT.imp (pt_cmpR (op_kin (F := F) ok.room o) (ha.pe true) (hb.pe true) hmk) fun σ H Q q => bin_read (ev_kin o a b true) (tT_of (b := true) q), fun _ _ _ z => nomatch z⟩
    | [], _, hm => exact absurd (show false = true from hm) Bool.false_ne_true
    | [_], [], hm => exact absurd (show false = true from hm) Bool.false_ne_true
    | [_], _ :: _ :: _, hm => exact absurd (show false = true from hm) Bool.false_ne_true
    | _ :: _ :: _, _, hm => exact absurd (show false = true from hm) Bool.false_ne_true
  | .b1H f a, X, F, ok, x, hk, hm => by
    unfold mE at hm
    split at hm <;> rename_i heq <;> try (cases heq; done)
    · cases heq
      simp only [Bool.and_eq_true, decide_eq_true_eq] at hm
      simp only [okE] at hk
      exact Sd.val (s_b1H hm.1.1 hm.1.2 ok (mE_pl a hm.2) (sE a ok hk hm.2).pe) (fun _ _ _ z => nomatch z)
    · cases hm
  | .chain o1 o2 a b c, X, F, ok, x, hk, hm => by
    unfold mE at hm
    split at hm <;> rename_i heq <;> try (cases heq; done)
    · cases heq
      simp only [Bool.and_eq_true, decide_eq_true_eq] at hm
      simp only [okE] at hk
      exact s_chain hm.1.1.1.1 hm.1.1.1.2 (mE_pl c hm.2) (sE a ok hk.1 hm.1.1.2).pe (sE b ok hk.2.1 hm.1.2).pe (sE c ok hk.2.2 hm.2).pe
    · cases hm
  | .mx mn a b, X, F, ok, x, hk, hm => by
    unfold mE at hm
    split at hm <;> rename_i heq <;> try (cases heq; done)
    · cases heq
      simp only [Bool.and_eq_true, decide_eq_true_eq] at hm
      simp only [okE] at hk
      exact Sd.val (s_mx hm.1.1.1 hm.1.1.2 ok (mE_pl a hm.1.2) (mE_pl b hm.2) (sE a ok hk.1 hm.1.2).pe (sE b ok hk.2 hm.2).pe) (fun _ _ _ z => nomatch z)
    · cases hm
  | .mxL mn a, X, F, ok, x, hk, hm => by
    unfold mE at hm
    split at hm <;> rename_i heq <;> try (cases heq; done)
    · cases heq
      simp only [Bool.and_eq_true, decide_eq_true_eq] at hm
      simp only [okE] at hk
      exact Sd.val (s_mxL hm.1.1 hm.1.2 ok (mE_pl a hm.2) (sE a ok hk hm.2).pe) (fun _ _ _ z => nomatch z)
    · cases hm
  | .mxD a d, X, F, ok, x, hk, hm => by
    unfold mE at hm
    split at hm <;> rename_i heq <;> try (cases heq; done)
    · cases heq
      simp only [Bool.and_eq_true, decide_eq_true_eq] at hm
      simp only [okE] at hk
      exact Sd.val (s_mxD hm.1.1.1.1 hm.1.1.1.2 hm.1.1.2 ok (mE_pl a hm.1.2) (sE a ok hk.1 hm.1.2).pe (sE d ok hk.2 hm.2).pe) (fun _ _ _ z => nomatch z)
    · cases hm
  | .isb neg v a, X, F, ok, x, hk, hm => by
    unfold mE at hm
    split at hm <;> rename_i heq <;> try (cases heq; done)
    · cases heq
      simp only [Bool.and_eq_true, decide_eq_true_eq] at hm
      simp only [okE] at hk
      exact s_isb hm.1.1 (eq_of_beq hm.1.2) (sE a ok hk hm.2).pe
    · cases hm
  | .dget a k, X, F, ok, x, hk, hm => by
    unfold mE at hm
    split at hm <;> rename_i heq <;> try (cases heq; done)
    · cases heq
      simp only [Bool.and_eq_true, decide_eq_true_eq] at hm
      simp only [okE] at hk
      exact Sd.val (s_dget ok (mE_pl k hm.2) (sE a ok hk.1 hm.1).pe (sE k ok hk.2 hm.2).pe) (fun _ _ _ z => nomatch z)
    · cases hm
  | .fdict ks es, X, F, ok, x, hk, hm => by
    unfold mE at hm
    split at hm <;> rename_i heq <;> try (cases heq; done)
    · cases heq
      simp only [Bool.and_eq_true, decide_eq_true_eq] at hm
      simp only [okE] at hk
      exact Sd.val (s_fdict hm.1.1.1 hm.2 hm.1.2 ((sEs es ok hk hm.1.1.2).2.2 hm.1.1.1 hm.2)) (fun _ _ _ z => nomatch z)
    · cases hm
  | .fdcopy a, X, F, ok, x, hk, hm => by
    unfold mE at hm
    split at hm <;> rename_i heq <;> try (cases heq; done)
    · cases heq
      simp only [Bool.and_eq_true, decide_eq_true_eq] at hm
      simp only [okE] at hk
      exact Sd.val (s_fdcopy hm.1.1 hm.1.2 ok (mE_pl a hm.2) (sE a ok hk hm.2).pe) (fun _ _ _ z => nomatch z)
    · cases hm
  | .adict ks es, X, F, ok, x, hk, hm => by
    unfold mE at hm
    split at hm <;> rename_i heq <;> try (cases heq; done)
    · cases heq
      simp only [Bool.and_eq_true, decide_eq_true_eq] at hm
      simp only [okE] at hk
      exact Sd.val (s_adict hm.1.1.1 hm.2 hm.1.2 ((sEs es ok hk hm.1.1.2).2.2 hm.1.1.1 hm.2)) (fun _ _ _ z => nomatch z)
    · cases hm
  | .tupR es, X, F, ok, x, hk, hm => by
    unfold mE at hm
    split at hm <;> rename_i heq <;> try (cases heq; done)
    · cases heq
      simp only [okE] at hk
      exact Sd.val (s_tupR (sEs es ok hk hm).1) (fun _ _ _ z => nomatch z)
    · cases hm
  | .subT a b, X, F, ok, x, hk, hm => by
    unfold mE at hm
    split at hm <;> rename_i heq <;> try (cases heq; done)
    · cases heq
      simp only [Bool.and_eq_true, decide_eq_true_eq] at hm
      simp only [okE] at hk
      exact Sd.val (fun k => PE.imp (pe_ix (ix_subT (F := F)) ((sE a ok hk.1 hm.1).pe true) ((sE b ok hk.2 hm.2).pe true) (pl_ix (mE_pl b hm.2))) fun σ H Q q => bin_read (ev_subT a b k) q) (fun _ _ _ z => nomatch z)
    · cases hm
  | .kd0, X, F, ok, x, hk, hm => by
    unfold mE at hm
    split at hm <;> rename_i heq <;> try (cases heq; done)
    · exact Sd.val s_kd0 (fun _ _ _ z => nomatch z)
    · cases hm
  | .kd1 k v, X, F, ok, x, hk, hm => by
    unfold mE at hm
    split at hm <;> rename_i heq <;> try (cases heq; done)
    · cases heq
      simp only [Bool.and_eq_true, decide_eq_true_eq] at hm
      simp only [okE] at hk
      exact Sd.val (s_kd1 ok (sE k ok hk.1 hm.1).pe (sE v ok hk.2 hm.2).pe) (fun _ _ _ z => nomatch z)
    · cases hm
  | .kget d k, X, F, ok, x, hk, hm => by
    unfold mE at hm
    split at hm <;> rename_i heq <;> try (cases heq; done)
    · cases heq
      simp only [Bool.and_eq_true, decide_eq_true_eq] at hm
      simp only [okE] at hk
      exact Sd.val (s_kget hm.1.1.1.1 hm.1.1.1.2 hm.1.1.2 ok (mE_pl k hm.2) (sE d ok hk.1 hm.1.2).pe (sE k ok hk.2 hm.2).pe) (fun _ _ _ z => nomatch z)
    · cases hm
  | .ksetd d k, X, F, ok, x, hk, hm => by
    unfold mE at hm
    split at hm <;> rename_i heq <;> try (cases heq; done)
    · cases heq
      simp only [Bool.and_eq_true, decide_eq_true_eq] at hm
      simp only [okE] at hk
      exact Sd.val (s_ksetd hm.1.1.1.1 hm.1.1.1.2 hm.1.1.2 ok (mE_pl k hm.2) (sE d ok hk.1 hm.1.2).pe (sE k ok hk.2 hm.2).pe) (fun _ _ _ z => nomatch z)
    · cases hm
  | .repr a, X, F, ok, x, hk, hm => by
    unfold mE at hm
    split at hm <;> rename_i heq <;> try (cases heq; done)
    · cases heq
      simp only [Bool.and_eq_true, decide_eq_true_eq] at hm
      simp only [okE] at hk
      exact Sd.val (s_repr hk.1 hm.1.1 hm.1.2 ok (mE_pl a hm.2) (sE a ok hk.2 hm.2).pe) (fun _ _ _ z => nomatch z)
    · cases hm
theorem sEs : ∀ (es : Es) {X : Cx} {F : Fr} (ok : OkX X) {xs : List Expr}, okEs (prX X) es → mEs X.N X.env.scope es xs = true → PA X xs (tA X.K X.mg X.w F (evs es)) ∧ PA X xs (tBA X.K X.mg X.w F (evB es)) ∧ ∀ {pos : Pos} {ks : List Str} {keys : List (Option Expr)}, mKeys ks keys = true → keys.length = xs.length → PPs X pos keys xs (trsE X F ks es)
  | .nil, X, F, ok, xs, hk, hm => by
    cases xs with
    | nil => exact ⟨s_nil, s_bnil, fun {pos ks keys} h1 h2 => by
      cases keys with
      | cons _ _ => cases h2
      | nil =>
        cases ks with
        | nil => exact pps_nil
        | cons _ _ => cases h1⟩
    | cons _ _ => simp [mEs] at hm
  | .cons e es, X, F, ok, xs, hk, hm => by
    cases xs with
    | nil => simp [mEs] at hm
    | cons x xs =>
      simp only [mEs, Bool.and_eq_true] at hm
      simp only [okEs] at hk
      have h1 := sE e (F := F) ok hk.1 hm.1
      have h2 := sEs es (F := F) ok hk.2 hm.2
      exact ⟨s_cons (mE_pl e hm.1) h1.pe h2.1, s_bcons (mE_pl e hm.1) h1.pe h2.2.1, fun q1 q2 => pps_keys q1 q2 h1.pe fun z1 z2 => h2.2.2 z1 z2⟩
theorem sP : ∀ (es : Es) {X : Cx} {F : Fr} (ok : OkX X) {x : Option Expr}, okEs (prX X) es → mP X.N X.env.scope es x = true → PO X x (tP X.K X.mg X.w F (evP es))
  | .nil, X, F, ok, x, hk, hm => by
    cases x with
    | none => exact s_pnil
    | some _ => simp [mP] at hm
  | .cons e .nil, X, F, ok, x, hk, hm => by
    cases x with
    | none => simp [mP] at hm
    | some x =>
      simp only [mP] at hm
      simp only [okEs] at hk
      exact s_pone (sE e (F := F) ok hk.1 hm).pe
  | .cons e (.cons _ _), X, F, ok, x, hk, hm => by cases x <;> simp [mP] at hm
theorem sC : ∀ (es : Es) {X : Cx} {F : Fr} (ok : OkX X) {xs : List Expr}, okEs (prX X) es → mC X.N X.env.scope es xs = true → PTs X xs (tC' X.K X.mg X.w F (evC es))
  | .nil, X, F, ok, xs, hk, hm => by
    cases xs with
    | cons _ _ => simp [mC] at hm
    | nil =>
      exact PTs.imp pts_nil fun σ H Q ⟨g, ms, c, ms', R, q, k⟩ => by
        unfold evC at q
        cases q
        exact k g H R .refl
  | .cons e .nil, X, F, ok, xs, hk, hm => by
    cases xs with
    | nil => simp [mC] at hm
    | cons x r =>
      cases r with
      | cons _ _ => simp [mC] at hm
      | nil =>
        simp only [mC, Bool.and_eq_true, Bool.not_eq_true'] at hm
        simp only [okEs] at hk
        have h := sE e (F := F) ok hk.1 hm.1
        exact PTs.imp (pts_one (h.pt hm.2)) fun σ H Q ⟨g, ms, c, ms', R, q, k⟩ => by
          unfold evC at q
          split at q
          · rename_i d ms1 q1
            cases q
            exact ⟨g, ms, c, ms', R, q1, k⟩
          · cases q
  | .cons e (.cons _ _), X, F, ok, xs, hk, hm => by cases xs <;> simp [mC] at hm
theorem sI : ∀ (it : I) {X : Cx} {F : Fr} (ok : OkX X) {x tg : Expr}, okI (prX X) it → mI X.N X.env.scope it x = true → PI X tg x (tI X.K X.mg X.w F (evI it))
  | .seq e, X, F, ok, x, tg, hk, hm => s_seq (sE e (F := F) ok (by simpa [okI] using hk) (by simpa [mI] using hm)).pe
  | .range1 e, X, F, ok, x, tg, hk, hm => by
    unfold mI at hm
    split at hm <;> rename_i heq <;> try (cases heq; done)
    · cases heq
      simp only [Bool.and_eq_true, decide_eq_true_eq] at hm
      simp only [okI] at hk
      exact s_range1 hm.1.1 hm.1.2 ok (mE_pl e hm.2) (sE e ok hk hm.2).pe
    · cases hm
  | .range2 a b, X, F, ok, x, tg, hk, hm => by
    unfold mI at hm
    split at hm <;> rename_i heq <;> try (cases heq; done)
    · cases heq
      simp only [Bool.and_eq_true, decide_eq_true_eq] at hm
      simp only [okI] at hk
      exact s_range2 hm.1.1.1 hm.1.1.2 ok (mE_pl a hm.1.2) (mE_pl b hm.2) (sE a ok hk.1 hm.1.2).pe (sE b ok hk.2 hm.2).pe
    · cases hm
  | .rev e, X, F, ok, x, tg, hk, hm => by
    unfold mI at hm
    split at hm <;> rename_i heq <;> try (cases heq; done)
    · cases heq
      simp only [Bool.and_eq_true, decide_eq_true_eq] at hm
      simp only [okI] at hk
      exact s_rev hm.1.1 hm.1.2 ok (mE_pl e hm.2) (sE e ok hk hm.2).pe
    · cases hm
end
end
end Sv

/-! Sv: statements. -/
namespace Sv
open PySem PySem.Spec PyProof.Rows L2
/-- a def's own frame -/
structure OkD (X : Cx) : Prop extends OkX X where
  kind : X.env.scope.kind = .function
  st : Stores X X.env.scope
  po : PassesOwn (model X.prog X.w) X.A X.env X.xe
section
variable {X : Cx} {F : Fr} {W : WX} {g g' : G} {ms ms' : MS} {σ σ' : L2.St} {H H' : Hp}
theorem comp_no {x : Expr} (h : isComp x = false) (t : Option Expr) (l : Nat) (env : Env) : swapsWith x t l env = pure false := by
  cases x <;> first | rfl | cases h
/-- a slot's own list is changed -/
theorem Rel.pokeOwn (R : Rel X.K X.mg X.w F g ms σ H) {i : Nat} {a : Addr} {vs us : List V} {xs ys : List PyData} (hi : ms.rho[i]? = some (.own xs)) (h1 : g.oa i = some a) (h2 : σ[i]? = some (some (.ref a))) (h3 : H a = some (.lst vs)) (h4 : Dzs X.K g.Z H us ys) :
    Rel X.K X.mg X.w F g { ms with rho := ms.rho.set i (.own ys) } σ (upd H a (.lst us)) ∧ ExtS g H g (upd H a (.lst us)) := by
  obtain ⟨z1, z2, z3, _⟩ := R.oaf i a h1
  obtain ⟨dz, dzs, av, avs⟩ := poke_dz (X := X) (g := g) (u' := .lst us) h3 (.inl ⟨_, rfl⟩) z1
  have hil : i < ms.rho.length := (List.getElem?_eq_some_iff.mp hi).1
  refine ⟨⟨⟨R.hr.hl, R.hr.nd, fun j b o p1 p2 => ?_, R.hr.nz, fun b z => let ⟨o, q⟩ := R.hr.zt b z; upd_th b o q⟩, by simp [R.len], fun j v hj => ?_, fun j ws hj => ?_, fun j b hj => ?_, R.inj, ⟨R.fr.io, R.fr.z, R.fr.zz, fun b o p1 p2 => ?_, fun b o p => let ⟨o', q⟩ := R.fr.th b o p; upd_th b o' q⟩⟩,
    fun b o p1 p2 q => ?_, fun _ z => z, ⟨[], by simp, by simp⟩, upd_th, fun i b q => .inl ⟨i, q⟩⟩
  · have hb : b ≠ a := fun e => z2 (by rw [← e]; exact List.mem_of_getElem? p1)
    have q := R.hr.ho j b o p1 p2
    cases q with
    | lst h q => exact .lst (by rw [upd_ne hb]; exact h) (avs q)
    | dct h k q => exact .dct (by rw [upd_ne hb]; exact h) k (avs q)
    | ins h mm k q => exact .ins (by rw [upd_ne hb]; exact h) mm k (avs q)
    | kd h q => exact .kd (by rw [upd_ne hb]; exact h) (KdP.map (g := g) (g' := g) (fun _ _ h => dz h) (fun _ _ h => av h) q)
  · by_cases hji : j = i
    · subst hji
      rw [List.getElem?_set_self hil] at hj
      cases hj
    · rw [List.getElem?_set_ne (Ne.symm hji)] at hj
      obtain ⟨x, q1, q2⟩ := R.av j v hj
      exact ⟨x, q1, av q2⟩
  · by_cases hji : j = i
    · subst hji
      rw [List.getElem?_set_self hil] at hj
      cases hj
      exact ⟨a, us, h1, h2, upd_same, dzs h4⟩
    · rw [List.getElem?_set_ne (Ne.symm hji)] at hj
      obtain ⟨b, ts, q1, q2, q3, q4⟩ := R.own j ws hj
      exact ⟨b, ts, q1, q2, by rw [upd_ne (fun e => hji (R.inj j i a (by rw [← e]; exact q1) h1))]; exact q3, dzs q4⟩
  · obtain ⟨q1, q2, q3, ts, q4⟩ := R.oaf j b hj
    refine ⟨q1, q2, q3, ?_⟩
    by_cases e : b = a
    · subst e; exact ⟨us, upd_same⟩
    · exact ⟨ts, by rw [upd_ne e]; exact q4⟩
  · rw [upd_ne (fun e => by rw [e, z3] at p2; cases p2)]
    exact R.fr.keep b o p1 p2
  · rw [upd_ne (fun e => p2 i (by rw [e]; exact h1))]
    exact q
/-- a list of the small heap is changed -/
theorem Rel.pokeHp (R : Rel X.K X.mg X.w F g ms σ H) {j : Nat} {a : Addr} {vs us : List V} {xs ys : List AV} (hj : g.io[j]? = some a) (hx : ms.hp[j]? = some (.lst xs)) (h3 : H a = some (.lst vs)) (h4 : AVRs X.K g H us ys) :
    Rel X.K X.mg X.w F g { ms with hp := ms.hp.set j (.lst ys) } σ (upd H a (.lst us)) ∧ ExtS g H g (upd H a (.lst us)) := by
  have ha : a ∈ g.io := List.mem_of_getElem? hj
  have z1 := R.hr.nz a ha
  obtain ⟨dz, dzs, av, avs⟩ := poke_dz (X := X) (g := g) (u' := .lst us) h3 (.inl ⟨_, rfl⟩) z1
  have hjl : j < ms.hp.length := (List.getElem?_eq_some_iff.mp hx).1
  have no : ∀ i, g.oa i ≠ some a := fun i z => (R.oaf i a z).2.1 ha
  refine ⟨⟨⟨by simp [R.hr.hl], R.hr.nd, fun k b o p1 p2 => ?_, R.hr.nz, fun b z => let ⟨o, q⟩ := R.hr.zt b z; upd_th b o q⟩, R.len, fun k v hk => let ⟨x, q1, q2⟩ := R.av k v hk; ⟨x, q1, av q2⟩, fun k ws hk => ?_, fun k b hk => ?_, R.inj, ⟨R.fr.io, R.fr.z, R.fr.zz, fun b o p1 p2 => ?_, fun b o p => let ⟨o', q⟩ := R.fr.th b o p; upd_th b o' q⟩⟩,
    fun b o p1 p2 q => ?_, fun _ z => z, ⟨[], by simp, by simp⟩, upd_th, fun i b q => .inl ⟨i, q⟩⟩
  · by_cases hk : k = j
    · subst hk
      rw [hj] at p1
      cases p1
      rw [List.getElem?_set_self hjl] at p2
      cases p2
      exact .lst upd_same (avs h4)
    · rw [List.getElem?_set_ne (Ne.symm hk)] at p2
      have hb : b ≠ a := fun e => hk (by
        obtain ⟨l1, e1⟩ := List.getElem?_eq_some_iff.mp p1
        obtain ⟨l2, e2⟩ := List.getElem?_eq_some_iff.mp hj
        exact (List.getElem_inj R.hr.nd).mp (by rw [e1, e2, e]))
      have q := R.hr.ho k b o p1 p2
      cases q with
      | lst h q => exact .lst (by rw [upd_ne hb]; exact h) (avs q)
      | dct h kk q => exact .dct (by rw [upd_ne hb]; exact h) kk (avs q)
      | ins h mm kk q => exact .ins (by rw [upd_ne hb]; exact h) mm kk (avs q)
      | kd h q => exact .kd (by rw [upd_ne hb]; exact h) (KdP.map (g := g) (g' := g) (fun _ _ h => dz h) (fun _ _ h => av h) q)
  · obtain ⟨b, ts, q1, q2, q3, q4⟩ := R.own k ws hk
    exact ⟨b, ts, q1, q2, by rw [upd_ne (fun e => no k (by rw [← e]; exact q1))]; exact q3, dzs q4⟩
  · obtain ⟨q1, q2, q3, ts, q4⟩ := R.oaf k b hk
    exact ⟨q1, q2, q3, ts, by rw [upd_ne (fun e => no k (by rw [← e]; exact hk))]; exact q4⟩
  · have hb : b ≠ a := fun e => by
      obtain ⟨n, en, hn⟩ := R.fr.io
      rw [en] at ha
      rcases List.mem_append.mp ha with ha | ha
      · exact p1 (by rw [e]; exact ha)
      · rw [e, hn a ha] at p2; cases p2
    rw [upd_ne hb]
    exact R.fr.keep b o p1 p2
  · rw [upd_ne (fun e => p1 (by rw [e]; exact ha))]
    exact q

/-! ### the small statements -/
theorem ExtS.setAv {i : Nat} : ExtS g H { g with oa := fun j => if j = i then none else g.oa j } H := Ext.av_slot.s
/-- a name is set -/
theorem set_read {i : Nat} {v : V} {rv : RV} {ms2 : MS} {S : Hp} {g0 : G} (R : Rel X.K X.mg X.w F g ms σ H) (x : Ext g0 S g H) (r : RVR X.K F g S H false v rv) (e : setSlot i rv ms = some ms2) : ∃ g2, Rel X.K X.mg X.w F g2 ms2 (σ.set i (some v)) H ∧ ExtS g0 S g2 H := by
  cases rv with
  | av a =>
    have e' : (if i < ms.rho.length then some { ms with rho := ms.rho.set i (.av a) } else none) = some ms2 := e
    by_cases c : i < ms.rho.length
    · rw [if_pos c] at e'
      cases e'
      cases r with
      | av r => exact ⟨_, R.setAv c r, x.s.trans ExtS.setAv⟩
    · rw [if_neg c] at e'
      cases e'
  | lst xs =>
    have e' : (if i < ms.rho.length then some { ms with rho := ms.rho.set i (.own xs) } else none) = some ms2 := e
    by_cases c : i < ms.rho.length
    · rw [if_pos c] at e'
      cases e'
      cases r with
      | lst h1 h2 h3 h4 h5 h6 =>
        refine ⟨_, R.setOwn c h1 h2 h3 h4 h5 fun j _ => (h6 rfl).2 j, ?_⟩
        refine ⟨fun b o p1 p2 q => x.keep b o p1 q, x.zz, x.io, x.th, fun j b q => ?_⟩
        by_cases hji : j = i
        · simp [hji] at q
          subst q
          exact .inr (h6 rfl).1
        · simp [hji] at q
          exact x.on j b q
    · rw [if_neg c] at e'
      cases e'
theorem s_set (ok : OkD X) {i : Nat} {e : E} {x : Expr} {y : Str} {p q : Pos} (hn : isNm X.N i y = true) (hl : isLoc X.env.scope y = true) (hc : isComp x = false) (h : ∀ b, PE X x (tE X.K X.mg X.w F b (ev b e))) : PS X (.Assign [.Name y p] x q) (tX X.K X.mg X.w F W (ex (.set i e))) := by
  refine PS.imp (ps_set ok.nd (of_decide_eq_true hn) (ok.st y hl).1 (h false) (comp_no hc _ _ _) (ok.st y hl).2) fun D σ H ⟨g, ms, o, ms', R, q, k⟩ => ?_
  unfold ex at q
  cases q1 : ev false e ms with
  | none => rw [q1] at q; cases q
  | some r =>
    obtain ⟨rv, ms1⟩ := r
    rw [q1] at q
    obtain ⟨m, e1, e2⟩ := Option.map_eq_some_iff.mp q
    cases e2
    refine ⟨g, ms, rv, ms1, R, q1, fun g1 v H1 R1 x1 r1 => ?_⟩
    obtain ⟨g2, R2, x2⟩ := set_read R1 x1 r1 e1
    exact k g2 _ H1 R2 x2
theorem s_setC (ok : OkD X) {i : Nat} {e : E} {tg : List Nat} {it : I} {c : Es} {x t i' : Expr} {ifs : List Expr} {s2 : Scope} {y : Str} {p p2 q : Pos} (hn : isNm X.N i y = true) (hl : X.env.scope.names.lookup y = some .local) (hp : (p.line == p2.line) = true)
    (ha : (s2.names.any fun nk => nk.1 == y && (nk.2 == .local || nk.2 == .cell)) = false) (hk1 : okE (prX X) e) (hk2 : okI (prX X) it) (hk3 : okEs (prX X) c)
    (m2 : mE X.N (relS s2 X.env.scope) e x = true) (m3 : mTg X.N s2 tg t = true) (m4 : mI X.N X.env.scope it i' = true) (m5 : mC X.N (relS s2 X.env.scope) c ifs = true) (m6 : blkC X.N X.env.scope s2 ((tgNames t).zip tg) = true) (m7 : (tgNames t).length = tg.length) :
    PS X (.Assign [.Name y p] (.ListComp x [⟨t, i', ifs, 0⟩] s2 p2) q) (tX X.K X.mg X.w F W (ex (.setC i e tg it c))) := by
  have z := ps_setLc (te := tE X.K X.mg X.w F false (ev false e)) (tt := tC' X.K X.mg X.w F (evC c)) (g := tgG X.K X.mg X.w F tg) (i := i) (y := y) (py := p) (pos := p2) (spos := q) (scope := s2) ok.calm ok.nd (of_decide_eq_true hn) hl (sw_true ok.kind hl hp ha) (sI it (F := F) ok.toOkX hk2 m4) (blkOk_by m6)
    (fun s H C cl fp => s_tg (F := F) (X := X.blk s H s2 (compEnvC s2 cl C X.env) fp) ok.toOkX.blk stores_blk m3) (fun s H C cl fp => sC c (F := F) (X := X.blk s H s2 (compEnvC s2 cl C X.env) fp) ok.toOkX.blk hk3 m5)
    (fun s H C cl fp => (sE e (X := X.blk s H s2 (compEnvC s2 cl C X.env) fp) (F := F) ok.toOkX.blk hk1 m2).pe false) (mI_set m4)
  have e0 : ((tgNames t).zip tg).map (·.2) = tg := by
    rw [List.map_snd_zip]
    omega
  rw [e0] at z
  refine PS.imp z fun D σ H ⟨g, ms, o, ms', R, q, k⟩ => ?_
  unfold ex at q
  cases q1 : ev false (.comp e tg it c) ms with
  | none => rw [q1] at q; cases q
  | some r =>
    obtain ⟨rv, ms1⟩ := r
    rw [q1] at q
    obtain ⟨m, e1, e2⟩ := Option.map_eq_some_iff.mp q
    cases e2
    refine s_comp (pos := p2) ok.toOkX m6 m7 (sI it (F := F) ok.toOkX hk2 m4) (mI_set m4) (fun s H C cl fp => s_tg (F := F) (X := X.blk s H s2 (compEnvC s2 cl C X.env) fp) ok.toOkX.blk stores_blk m3) (fun s H C cl fp => sC c (F := F) (X := X.blk s H s2 (compEnvC s2 cl C X.env) fp) ok.toOkX.blk hk3 m5)
      (fun s H C cl fp => (sE e (X := X.blk s H s2 (compEnvC s2 cl C X.env) fp) (F := F) ok.toOkX.blk hk1 m2).pe false) false σ H _ ⟨g, ms, rv, ms1, R, q1, fun g1 v H1 R1 x1 r1 => ?_⟩
    obtain ⟨g2, R2, x2⟩ := set_read R1 x1 r1 e1
    exact k g2 _ H1 R2 x2
theorem s_setCA (ok : OkD X) {i : Nat} {e : E} {tg : List Nat} {it : I} {c : Es} {x t i' : Expr} {ifs : List Expr} {s2 : Scope} {y : Str} {p p2 q : Pos} (hn : isNm X.N i y = true) (hl : X.env.scope.names.lookup y = some .local) (hp : (p.line == p2.line) = true)
    (ha : (s2.names.any fun nk => nk.1 == y && (nk.2 == .local || nk.2 == .cell)) = false) (hk1 : okE (prX X) e) (hk2 : okI (prX X) it) (hk3 : okEs (prX X) c)
    (m2 : mE X.N (relS s2 X.env.scope) e x = true) (m3 : mTg X.N s2 tg t = true) (m4 : mI X.N X.env.scope it i' = true) (m5 : mC X.N (relS s2 X.env.scope) c ifs = true) (m6 : blkC X.N X.env.scope s2 ((tgNames t).zip tg) = true) (m7 : (tgNames t).length = tg.length) :
    PS X (.Assign [.Name y p] (.ListComp x [⟨t, i', ifs, 0⟩] s2 p2) q) (tX X.K X.mg X.w F W (ex (.setCA i e tg it c))) := by
  have z := ps_setLc (te := tE X.K X.mg X.w F false (ev false e)) (tt := tC' X.K X.mg X.w F (evC c)) (g := tgG X.K X.mg X.w F tg) (i := i) (y := y) (py := p) (pos := p2) (spos := q) (scope := s2) ok.calm ok.nd (of_decide_eq_true hn) hl (sw_true ok.kind hl hp ha) (sI it (F := F) ok.toOkX hk2 m4) (blkOk_by m6)
    (fun s H C cl fp => s_tg (F := F) (X := X.blk s H s2 (compEnvC s2 cl C X.env) fp) ok.toOkX.blk stores_blk m3) (fun s H C cl fp => sC c (F := F) (X := X.blk s H s2 (compEnvC s2 cl C X.env) fp) ok.toOkX.blk hk3 m5)
    (fun s H C cl fp => (sE e (X := X.blk s H s2 (compEnvC s2 cl C X.env) fp) (F := F) ok.toOkX.blk hk1 m2).pe false) (mI_set m4)
  have e0 : ((tgNames t).zip tg).map (·.2) = tg := by
    rw [List.map_snd_zip]
    omega
  rw [e0] at z
  refine PS.imp z fun D σ H ⟨g, ms, o, ms', R, q, k⟩ => ?_
  unfold ex at q
  cases q1 : ev false (.alloc (.comp e tg it c)) ms with
  | none => rw [q1] at q; cases q
  | some r =>
    obtain ⟨rv, ms1⟩ := r
    rw [q1] at q
    obtain ⟨m, e1, e2⟩ := Option.map_eq_some_iff.mp q
    cases e2
    unfold ev at q1
    cases q2 : ev false (.comp e tg it c) ms with
    | none => rw [q2] at q1; cases q1
    | some r2 =>
      obtain ⟨v2, ms2⟩ := r2
      rw [q2] at q1
      cases v2 with
      | av _ => cases q1
      | lst xs =>
        cases q1
        refine s_comp (pos := p2) ok.toOkX m6 m7 (sI it (F := F) ok.toOkX hk2 m4) (mI_set m4) (fun s H C cl fp => s_tg (F := F) (X := X.blk s H s2 (compEnvC s2 cl C X.env) fp) ok.toOkX.blk stores_blk m3) (fun s H C cl fp => sC c (F := F) (X := X.blk s H s2 (compEnvC s2 cl C X.env) fp) ok.toOkX.blk hk3 m5)
          (fun s H C cl fp => (sE e (X := X.blk s H s2 (compEnvC s2 cl C X.env) fp) (F := F) ok.toOkX.blk hk1 m2).pe false) false σ H _ ⟨g, ms, .lst xs, ms2, R, q2, fun g1 v H1 R1 x1 r1 => ?_⟩
        cases r1 with
        | @lst a vs _ p1 p2 p3 p4 p5 p6 =>
          obtain ⟨R2, _⟩ := R1.alloc (.lst p1 (AVRs.of_dzs p2)) p3 p4 p5 (p6 rfl).2
          have hr : AVR X.K { g1 with io := g1.io ++ [a] } H1 (.ref a) (.ref ms2.hp.length) := .ref (by
            show (g1.io ++ [a])[ms2.hp.length]? = some a
            rw [← R1.hr.hl]
            simp)
          obtain ⟨g2, R3, x3⟩ := set_read R2 (x1.grow (p6 rfl).1) (.av hr) e1
          exact k g2 _ H1 R3 x3
theorem tup_sw {es : List Expr} {kk : Nat} {pp : Pos} {x : Expr} (h : isTup x = false) : swappedStores [.Tuple es kk pp] x X.env = pure none := by
  cases x <;> first | rfl | cases h
theorem s_setT (ok : OkD X) {tg : List Nat} {e : E} {x : Expr} {es : List Expr} {kk : Nat} {p q : Pos} (ht : mTg X.N X.env.scope tg (.Tuple es kk p) = true) (hc : isComp x = false) (hu : isTup x = false) (h : ∀ b, PE X x (tE X.K X.mg X.w F b (ev b e))) : PS X (.Assign [.Tuple es kk p] x q) (tX X.K X.mg X.w F W (ex (.setT tg e))) := by
  refine PS.imp (ps_asg (h false) (s_tg (F := F) ok.toOkX ok.st ht) (by unfold swapsWithSole; exact comp_no hc _ _ _) (tup_sw hu)) fun D σ H ⟨g, ms, o, ms', R, q, k⟩ => ?_
  unfold ex at q
  split at q
  · rename_i rv ms1 q1
    split at q
    · rename_i d q2
      obtain ⟨rho, e1, e2⟩ := Option.map_eq_some_iff.mp q
      cases e2
      refine ⟨g, ms, _, ms1, R, q1, fun g1 v H1 R1 x1 r1 => ?_⟩
      obtain ⟨g2, R2, x2, _, av⟩ := RVR.val R1 x1 r1
      rw [q2] at av
      cases av with
      | dat dz => exact ⟨g2, ms1, d, rho, R2, dz, e1, fun g3 σ3 R3 x3 _ => k g3 σ3 H1 R3 (x2.trans x3).s⟩
    · cases q
  · cases q
theorem s_expr {e : E} {x : Expr} {p : Pos} (hc : isComp x = false) (h : ∀ b, PE X x (tE X.K X.mg X.w F b (ev b e))) : PS X (.Expr x p) (tX X.K X.mg X.w F W (ex (.expr e))) := by
  refine PS.imp (ps_expr (h false) (comp_no hc _ _ _)) fun D σ H ⟨g, ms, o, ms', R, q, k⟩ => ?_
  unfold ex at q
  split at q
  · rename_i rv ms1 q1
    cases q
    exact ⟨g, ms, rv, ms', R, q1, fun g1 v H1 R1 x1 r1 => k g1 σ H1 R1 x1.s⟩
  · cases q
theorem s_ret {e : E} {x : Expr} {p : Pos} (h : ∀ b, PE X x (tE X.K X.mg X.w F b (ev b e))) : PS X (.Return (some x) p) (tX X.K X.mg X.w F W (ex (.ret e))) := by
  refine PS.imp (ps_ret (h true)) fun D σ H ⟨g, ms, o, ms', R, q, k⟩ => ?_
  unfold ex at q
  split at q
  · rename_i rv ms1 q1
    cases q
    refine ⟨g, ms, rv, ms', R, q1, fun g1 v H1 R1 x1 r1 => ?_⟩
    refine k g1 σ H1 R1 x1.s v ?_
    cases r1 with
    | av r1 => exact .av r1
    | lst h1 h2 h3 h4 h5 h6 => exact .lst h1 h2 h3 h4 h5 fun z => by cases z
  · cases q
theorem s_pop0 (ok : OkD X) {i j : Nat} {y m : Str} {pp ap cp sp kp : Pos} {jj : Int} (hj : jj = 0) (hn : isNm X.N i y = true) (hv : isVis X.env.scope y = true) (ho : odd y = false) (hm : m = sPop) (hl : (ap.endLine == cp.line) = true) :
    PS X (.Expr (.Call (.Attribute (.Name y pp) m ap) [.Constant (.int jj) j kp] [] cp) sp) (tX X.K X.mg X.w F W (ex (.pop0 i))) := by
  subst hj hm
  have hvis : Vis X.env.scope y := by
    simp only [isVis, Bool.or_eq_true, decide_eq_true_eq] at hv
    rcases hv with (h2 | h2) | h2
    · exact .inl h2
    · exact .inr (.inl h2)
    · exact .inr (.inr h2)
  unfold odd at ho
  simp only [Bool.or_eq_false_iff] at ho
  have pm := pe_bm (X := X) (name := sPop) (apos := ap) (cpos := cp) PySem.F.plainAttrs_list PySem.F.slot_list_pop PySem.F.type_list_pop mt_popAt (pe_var (pos := pp) (of_decide_eq_true hn) hvis ho.1 ho.2) (pa_cons (pe_int (i := 0) (j := j) (pos := kp)) pa_nil) rfl rfl hl
  refine PS.imp (ps_expr pm rfl) fun D σ H ⟨g, ms, o, ms', R, q, k⟩ => ?_
  unfold ex at q
  split at q
  · rename_i x0 xs e1
    cases q
    obtain ⟨a, vs, h1, h2, h3, h4⟩ := R.own i _ e1
    cases h4 with
    | @cons v vs _ _ p4 h4 =>
      refine ⟨.ref a, h2, .inl ⟨rfl, _, SqL.of h3⟩, a, _, 0, 0, v, rfl, rfl, h3, by decide, by decide, PySem.StrLaws.seqIndex_nonneg (by decide) (by simp), rfl, ?_⟩
      obtain ⟨R2, x2⟩ := R.pokeOwn (us := vs) e1 h1 h2 h3 h4
      exact k g σ _ R2 x2
  · rename_i r e1
    split at q
    · rename_i x0 xs e2
      cases q
      obtain ⟨v0, h2, h3⟩ := R.av i _ e1
      obtain ⟨a, vs, q1, rfl, q3, q4⟩ := R.hr.lst h3 e2
      cases q4 with
      | @cons v vs _ _ p4 q4 =>
        refine ⟨.ref a, h2, .inl ⟨rfl, _, SqL.of q3⟩, a, _, 0, 0, v, rfl, rfl, q3, by decide, by decide, PySem.StrLaws.seqIndex_nonneg (by decide) (by simp), rfl, ?_⟩
        obtain ⟨R2, x2⟩ := R.pokeHp (us := vs) q1 e2 q3 q4
        exact k g σ _ R2 x2
    · cases q
  · cases q
theorem vis_of {y : Str} (hv : isVis X.env.scope y = true) : Vis X.env.scope y := by
  simp only [isVis, Bool.or_eq_true, decide_eq_true_eq] at hv
  rcases hv with (h2 | h2) | h2
  · exact .inl h2
  · exact .inr (.inl h2)
  · exact .inr (.inr h2)
theorem var_read {i : Nat} {y : Str} {p : Pos} (hn : isNm X.N i y = true) (hv : isVis X.env.scope y = true) (ho : odd y = false) : PE X (.Name y p) (tVar i) := by
  unfold odd at ho
  simp only [Bool.or_eq_false_iff] at ho
  exact pe_var (of_decide_eq_true hn) (vis_of hv) ho.1 ho.2
theorem sub_sw {o z x : Expr} {p : Pos} : swappedStores [.Subscript o z p] x X.env = pure none := by
  cases x <;> rfl
theorem s_setIx (ok : OkD X) {i : Nat} {ix e : E} {x z : Expr} {y : Str} {py pos q : Pos} (hn : isNm X.N i y = true) (hv : isVis X.env.scope y = true) (ho : odd y = false) (hc : isComp x = false) (hz : isPl z = true) (h1 : ∀ b, PE X z (tE X.K X.mg X.w F b (ev b ix))) (h2 : ∀ b, PE X x (tE X.K X.mg X.w F b (ev b e))) :
    PS X (.Assign [.Subscript (.Name y py) z pos] x q) (tX X.K X.mg X.w F W (ex (.setIx i ix e))) := by
  have hg := pg_sub (X := X) (pos := pos) (var_read (p := py) hn hv ho) (h1 true) set_list (by intro v; cases z <;> first | rfl | cases hz)
  refine PS.imp (ps_asg (h2 false) hg (by unfold swapsWithSole; exact comp_no hc _ _ _) sub_sw) fun D σ H ⟨g, ms, o, ms', R, q, k⟩ => ?_
  unfold ex at q
  cases q1 : ev false e ms with
  | none => rw [q1] at q; cases q
  | some r =>
    obtain ⟨rv, ms1⟩ := r
    rw [q1] at q
    refine ⟨g, ms, rv, ms1, R, q1, fun g1 v H1 R1 x1 r1 => ?_⟩
    obtain ⟨g2, R2, x2, y2, av2⟩ := r1.val R1 x1
    simp only at q
    split at q
    · rename_i xs0 e0
      obtain ⟨a, vs, p1, p2, p3, p4⟩ := R2.own i _ e0
      refine ⟨.ref a, p2, ?_⟩
      split at q
      · rename_i kk ms2 q2
        split at q
        · rename_i xs d e1 e2
          obtain ⟨j, e3, e4⟩ := Option.map_eq_some_iff.mp q
          cases e4
          refine ⟨g2, ms1, _, ms2, R2, q2, fun g3 w H3 R3 x3 r3 => ?_⟩
          have rw3 := r3.lr.int
          subst rw3
          obtain ⟨b, ws, u1, u2, u3, u4⟩ := R3.own i _ e1
          rw [p2] at u2
          cases u2
          have av3 := R2.hr.avr x3.toExt0 av2
          rw [e2] at av3
          cases av3 with
          | dat dd =>
            obtain ⟨R4, x4⟩ := R3.pokeOwn (us := ws.set j v) (ys := xs.set j d) e1 u1 (by exact p2) u3 (u4.set dd j)
            refine ⟨a, ws, kk, j, rfl, rfl, u3, by rw [u4.length, ixD_ixN]; exact e3, ?_⟩
            exact k _ σ _ R4 ((x2.trans x3).s.trans x4)
        · cases q
      · cases q
    · rename_i r0 e0
      obtain ⟨v0, p2, p3⟩ := R2.av i _ e0
      split at q
      · rename_i kk ms2 q2
        split at q
        · rename_i xs e1
          obtain ⟨j, e3, e4⟩ := Option.map_eq_some_iff.mp q
          cases e4
          refine ⟨v0, p2, g2, ms1, _, ms2, R2, q2, fun g3 w H3 R3 x3 r3 => ?_⟩
          have rw3 := r3.lr.int
          subst rw3
          obtain ⟨b, ws, u1, rfl, u3, u4⟩ := R3.hr.lst (R2.hr.avr x3.toExt0 p3) e1
          have av3 := R2.hr.avr x3.toExt0 av2
          obtain ⟨R4, x4⟩ := R3.pokeHp (us := ws.set j v) (ys := xs.set j rv.val) u1 e1 u3 (AVRs.set av3 j u4)
          refine ⟨b, ws, kk, j, rfl, rfl, u3, by rw [u4.length, ixD_ixN]; exact e3, ?_⟩
          exact k _ σ _ R4 ((x2.trans x3).s.trans x4)
        · cases q
      · cases q
    · cases q
theorem s_append (ok : OkD X) {i : Nat} {e : E} {x : Expr} {y m : Str} {pp ap cp sp : Pos} (hn : isNm X.N i y = true) (hv : isVis X.env.scope y = true) (ho : odd y = false) (hm : m = sAppend) (hl : (ap.endLine == cp.line) = true) (hx : isPl x = true) (h : ∀ b, PE X x (tE X.K X.mg X.w F b (ev b e))) :
    PS X (.Expr (.Call (.Attribute (.Name y pp) m ap) [x] [] cp) sp) (tX X.K X.mg X.w F W (ex (.append i e))) := by
  subst hm
  have pm := pe_bm (X := X) (name := sAppend) (apos := ap) (cpos := cp) PySem.F.plainAttrs_list PySem.F.slot_list_append PySem.F.type_list_append mt_append (var_read (p := pp) hn hv ho) (pa_cons (h false) pa_nil (pl_star hx [])) rfl (by rw [pl_star hx]; rfl) hl (pl_star hx []) rfl
  refine PS.imp (ps_expr pm rfl) fun D σ H ⟨g, ms, o, ms', R, q, k⟩ => ?_
  unfold ex at q
  split at q
  · rename_i xs0 e0
    obtain ⟨a, vs, h1, h2, h3, h4⟩ := R.own i _ e0
    refine ⟨.ref a, h2, .inl ⟨rfl, _, SqL.of h3⟩, ?_⟩
    split at q
    · rename_i rv ms1 q1
      refine ⟨g, ms, rv, ms1, R, q1, fun g1 v H1 R1 x1 r1 => ?_⟩
      split at q
      · rename_i xs d e1 e2
        split at q
        · rename_i c
          cases q
          obtain ⟨g2, R2, x2, y2, av2⟩ := r1.val R1 x1
          obtain ⟨b, ws, u1, u2, u3, u4⟩ := R2.own i _ e1
          rw [h2] at u2
          cases u2
          obtain ⟨R4, x4⟩ := R2.pokeOwn (us := ws ++ [v]) (ys := xs ++ [d]) e1 u1 h2 u3 (u4.append (.cons (av2.d?_dz e2) .nil))
          exact ⟨a, ws, v, rfl, rfl, u3, by rw [u4.length, line_eq]; exact c, k _ σ _ R4 (x2.s.trans x4)⟩
        · cases q
      · cases q
    · cases q
  · rename_i r0 e0
    split at q
    · rename_i xs0 e0'
      obtain ⟨v0, h2, h3⟩ := R.av i _ e0
      obtain ⟨a, vs, q1, rfl, q3, q4⟩ := R.hr.lst h3 e0'
      refine ⟨.ref a, h2, .inl ⟨rfl, _, SqL.of q3⟩, ?_⟩
      split at q
      · rename_i rv ms1 q1
        refine ⟨g, ms, rv, ms1, R, q1, fun g1 v H1 R1 x1 r1 => ?_⟩
        split at q
        · rename_i xs e1
          split at q
          · rename_i c
            cases q
            obtain ⟨g2, R2, x2, y2, av2⟩ := r1.val R1 x1
            obtain ⟨b, ws, u1, u2, u3, u4⟩ := R2.hr.lst (R.hr.avr x2.toExt0 h3) e1
            cases u2
            obtain ⟨R4, x4⟩ := R2.pokeHp (us := ws ++ [v]) (ys := xs ++ [rv.val]) u1 e1 u3 (u4.append (.cons av2 .nil))
            exact ⟨a, ws, v, rfl, rfl, u3, by rw [u4.length, line_eq]; exact c, k _ σ _ R4 (x2.s.trans x4)⟩
          · cases q
        · cases q
      · cases q
    · cases q
  · cases q

/-! ### objects are changed -/
/-- an object of the small heap is changed -/
theorem Rel.pokeObj (R : Rel X.K X.mg X.w F g ms σ H) {j : Nat} {a : Addr} {u : HO} {o o2 : AO} (hj : g.io[j]? = some a) (hx : ms.hp[j]? = some o) {u0 : HO} (h3 : H a = some u0) (hu : (∃ vs, u0 = .lst vs) ∨ (∃ kv, u0 = .dK kv) ∨ (∃ C dx fs, u0 = .ins C dx fs) ∨ ∃ φ, u0 = .ext φ) (h4 : ORel X.K X.mg X.w g (upd H a u) a o2) :
    Rel X.K X.mg X.w F g { ms with hp := ms.hp.set j o2 } σ (upd H a u) ∧ ExtS g H g (upd H a u) := by
  have ha : a ∈ g.io := List.mem_of_getElem? hj
  have z1 := R.hr.nz a ha
  obtain ⟨dz, dzs, av, avs⟩ := poke_dz (X := X) (g := g) (u' := u) h3 hu z1
  have hjl : j < ms.hp.length := (List.getElem?_eq_some_iff.mp hx).1
  have no : ∀ i, g.oa i ≠ some a := fun i z => (R.oaf i a z).2.1 ha
  refine ⟨⟨⟨by simp [R.hr.hl], R.hr.nd, fun k b o p1 p2 => ?_, R.hr.nz, fun b z => let ⟨o, q⟩ := R.hr.zt b z; upd_th b o q⟩, R.len, fun k v hk => let ⟨x, q1, q2⟩ := R.av k v hk; ⟨x, q1, av q2⟩, fun k ws hk => ?_, fun k b hk => ?_, R.inj, ⟨R.fr.io, R.fr.z, R.fr.zz, fun b o p1 p2 => ?_, fun b o p => let ⟨o', q⟩ := R.fr.th b o p; upd_th b o' q⟩⟩,
    fun b o p1 p2 q => ?_, fun _ z => z, ⟨[], by simp, by simp⟩, upd_th, fun i b q => .inl ⟨i, q⟩⟩
  · by_cases hk : k = j
    · subst hk
      rw [hj] at p1
      cases p1
      rw [List.getElem?_set_self hjl] at p2
      cases p2
      exact h4
    · rw [List.getElem?_set_ne (Ne.symm hk)] at p2
      have hb : b ≠ a := fun e => hk (by
        obtain ⟨l1, e1⟩ := List.getElem?_eq_some_iff.mp p1
        obtain ⟨l2, e2⟩ := List.getElem?_eq_some_iff.mp hj
        exact (List.getElem_inj R.hr.nd).mp (by rw [e1, e2, e]))
      have q := R.hr.ho k b o p1 p2
      cases q with
      | lst h q => exact .lst (by rw [upd_ne hb]; exact h) (avs q)
      | dct h kk q => exact .dct (by rw [upd_ne hb]; exact h) kk (avs q)
      | ins h mm kk q => exact .ins (by rw [upd_ne hb]; exact h) mm kk (avs q)
      | kd h q => exact .kd (by rw [upd_ne hb]; exact h) (KdP.map (g := g) (g' := g) (fun _ _ h => dz h) (fun _ _ h => av h) q)
  · obtain ⟨b, ts, q1, q2, q3, q4⟩ := R.own k ws hk
    exact ⟨b, ts, q1, q2, by rw [upd_ne (fun e => no k (by rw [← e]; exact q1))]; exact q3, dzs q4⟩
  · obtain ⟨q1, q2, q3, ts, q4⟩ := R.oaf k b hk
    exact ⟨q1, q2, q3, ts, by rw [upd_ne (fun e => no k (by rw [← e]; exact hk))]; exact q4⟩
  · have hb : b ≠ a := fun e => by
      obtain ⟨n, en, hn⟩ := R.fr.io
      rw [en] at ha
      rcases List.mem_append.mp ha with ha | ha
      · exact p1 (by rw [e]; exact ha)
      · rw [e, hn a ha] at p2; cases p2
    rw [upd_ne hb]
    exact R.fr.keep b o p1 p2
  · rw [upd_ne (fun e => p1 (by rw [e]; exact ha))]
    exact q
theorem s_setAttr {c f f' : Str} {o e : E} {x y : Expr} {p q : Pos} (ok : OkAt X c f) (hf : f = f') (hx : isRcv x = true) (h1 : ∀ b, PE X x (tE X.K X.mg X.w F b (ev b o))) (h2 : ∀ b, PE X y (tE X.K X.mg X.w F b (ev b e))) :
    PS X (.Assign [.Attribute x f' p] y q) (tX X.K X.mg X.w F W (ex (.setAttr c o f e))) := by
  subst hf
  obtain ⟨C, m, cl, no⟩ := ok
  refine PS.imp (ps_fld (h1 true) (h2 false) (by cases y <;> rfl)) fun D σ H ⟨g, ms, oo, ms', R, q, k⟩ => ?_
  unfold ex at q
  cases q1 : ev false e ms with
  | none => rw [q1] at q; cases q
  | some r =>
    obtain ⟨rv, ms1⟩ := r
    rw [q1] at q
    dsimp only at q
    refine ⟨g, ms, rv, ms1, R, q1, fun g1 v H1 R1 x1 r1 => ?_⟩
    obtain ⟨g2, R2, x2, y2, av2⟩ := r1.val R1 x1
    split at q
    · rename_i j ms2 q2
      split at q
      · rename_i c' gs e1
        split at q
        · rename_i c1
          cases q
          refine ⟨g2, ms1, _, ms2, R2, q2, fun g3 w H3 R3 x3 r3 => ?_⟩
          cases r3 with
          | av r3 =>
            obtain ⟨a, C', dx, fs, p1, rfl, p3, p4, p5, p6⟩ := R3.hr.ins r3 e1
            have p4' := p4
            rw [c1.1, m] at p4
            cases p4
            have hl : fs.length < 1000 := by
              have := congrArg List.length p5
              simp at this
              omega
            have av3 := R2.hr.avr x3.toExt0 av2
            obtain ⟨z1, z2, z3, z4⟩ := poke_dz (X := X) (g := g3) (u' := .ins C dx (putF f v fs)) p3 (.inr (.inr (.inl ⟨_, _, _, rfl⟩))) (R3.hr.nz a (List.mem_of_getElem? p1))
            obtain ⟨f1, f2⟩ := fput p5 p6 av3 (f := f)
            obtain ⟨R4, x4⟩ := R3.pokeObj (u := .ins C dx (putF f v fs)) (o2 := .ins c' (putA f rv.val gs)) p1 e1 p3 (.inr (.inr (.inl ⟨_, _, _, rfl⟩))) (.ins upd_same p4' f1 (z4 f2))
            exact ⟨a, C, dx, fs, rfl, p3, cl, no, hl, k _ σ _ R4 ((x2.trans x3).s.trans x4)⟩
        · cases q
      · cases q
    · cases q
theorem s_setIxE {o ix e : E} {x y z : Expr} {pos q : Pos} (hc : isComp y = false) (hz : isPl z = true) (h0 : ∀ b, PE X x (tE X.K X.mg X.w F b (ev b o))) (h1 : ∀ b, PE X z (tE X.K X.mg X.w F b (ev b ix))) (h2 : ∀ b, PE X y (tE X.K X.mg X.w F b (ev b e))) :
    PS X (.Assign [.Subscript x z pos] y q) (tX X.K X.mg X.w F W (ex (.setIxE o ix e))) := by
  have hg := pg_sub (X := X) (pos := pos) (h0 true) (h1 true) set_list (by intro v; cases z <;> first | rfl | cases hz)
  refine PS.imp (ps_asg (h2 false) hg (by unfold swapsWithSole; exact comp_no hc _ _ _) sub_sw) fun D σ H ⟨g, ms, oo, ms', R, q, k⟩ => ?_
  unfold ex at q
  cases q1 : ev false e ms with
  | none => rw [q1] at q; cases q
  | some r =>
    obtain ⟨rv, ms1⟩ := r
    rw [q1] at q
    dsimp only at q
    refine ⟨g, ms, rv, ms1, R, q1, fun g1 v H1 R1 x1 r1 => ?_⟩
    obtain ⟨g2, R2, x2, y2, av2⟩ := r1.val R1 x1
    split at q
    · rename_i j ms2 q2
      split at q
      · rename_i kk ms3 q3
        split at q
        · rename_i xs e1
          obtain ⟨jj, e3, e4⟩ := Option.map_eq_some_iff.mp q
          cases e4
          refine ⟨g2, ms1, _, ms2, R2, q2, fun g3 w H3 R3 x3 r3 => ⟨g3, ms2, _, ms3, R3, q3, fun g4 w4 H4 R4 x4 r4 => ?_⟩⟩
          have rw4 := r4.lr.int
          subst rw4
          cases r3 with
          | av r3 =>
            obtain ⟨b, ws, u1, rfl, u3, u4⟩ := R4.hr.lst (R3.hr.avr x4.toExt0 r3) e1
            have av4 := R3.hr.avr x4.toExt0 (R2.hr.avr x3.toExt0 av2)
            obtain ⟨R5, x5⟩ := R4.pokeHp (us := ws.set jj v) (ys := xs.set jj rv.val) u1 e1 u3 (AVRs.set av4 jj u4)
            refine ⟨b, ws, kk, jj, rfl, rfl, u3, by rw [u4.length, ixD_ixN]; exact e3, ?_⟩
            exact k _ σ _ R5 ((x2.trans (x3.trans x4)).s.trans x5)
        · cases q
      · cases q
    · cases q
theorem s_appendE {o e : E} {x y : Expr} {m : Str} {ap cp sp : Pos} (hr : isRcv x = true) (hm : m = sAppend) (hl : (ap.endLine == cp.line) = true) (hx : isPl y = true) (h0 : ∀ b, PE X x (tE X.K X.mg X.w F b (ev b o))) (h : ∀ b, PE X y (tE X.K X.mg X.w F b (ev b e))) :
    PS X (.Expr (.Call (.Attribute x m ap) [y] [] cp) sp) (tX X.K X.mg X.w F W (ex (.appendE o e))) := by
  subst hm
  have pm := pe_bm (X := X) (name := sAppend) (apos := ap) (cpos := cp) PySem.F.plainAttrs_list PySem.F.slot_list_append PySem.F.type_list_append mt_append (h0 true) (pa_cons (h false) pa_nil (pl_star hx [])) (rcv_base hr _) (by rw [pl_star hx]; rfl) hl (pl_star hx []) rfl
  refine PS.imp (ps_expr pm rfl) fun D σ H ⟨g, ms, oo, ms', R, q, k⟩ => ?_
  unfold ex at q
  split at q
  · rename_i r0 ms1 q0
    split at q
    · rename_i xs0 e0
      refine ⟨g, ms, _, ms1, R, q0, fun g0 w H0 R0 x0 r0' => ?_⟩
      cases r0' with
      | av r0' =>
        obtain ⟨a, vs, p1, rfl, p3, p4⟩ := R0.hr.lst r0' e0
        refine ⟨.inl ⟨rfl, _, SqL.of p3⟩, ?_⟩
        split at q
        · rename_i rv ms2 q1
          refine ⟨g0, ms1, rv, ms2, R0, q1, fun g1 v H1 R1 x1 r1 => ?_⟩
          split at q
          · rename_i xs e1
            split at q
            · rename_i c
              cases q
              obtain ⟨g2, R2, x2, y2, av2⟩ := r1.val R1 x1
              obtain ⟨b, ws, u1, u2, u3, u4⟩ := R2.hr.lst (R0.hr.avr x2.toExt0 r0') e1
              cases u2
              obtain ⟨R4, x4⟩ := R2.pokeHp (us := ws ++ [v]) (ys := xs ++ [rv.val]) u1 e1 u3 (u4.append (.cons av2 .nil))
              exact ⟨a, ws, v, rfl, rfl, u3, by rw [u4.length, line_eq]; exact c, k _ σ _ R4 ((x0.trans x2).s.trans x4)⟩
            · cases q
          · cases q
        · cases q
    · cases q
  · cases q
theorem s_never {x : Stmt} : PS X x (tX X.K X.mg X.w F W (ex .never)) := PS.imp ps_never fun D σ H ⟨g, ms, oo, ms', R, q, k⟩ => by
  unfold ex at q
  cases q
/-! ### tuples of objects taken apart, dicts filled -/
theorem gsA_read : ∀ {is : List Nat} {vs : List V} {ds : List A0} {rho : List Slot} {g : G} {ms : MS} {σ : L2.St} {Q : L2.St → Hp → Prop}, Rel X.K X.mg X.w F g ms σ H → A0Rs X.K g H vs ds → bindA is ds ms.rho = some rho →
    (∀ g' σ', Rel X.K X.mg X.w F g' { ms with rho := rho } σ' H → Ext g H g' H → Q σ' H) → gsN is vs σ H Q
  | [], vs, ds, rho, g, ms, σ, Q, R, d, e, k => by
    cases ds with
    | cons _ _ => simp [bindA] at e
    | nil =>
      cases d
      simp [bindA] at e
      subst e
      exact ⟨rfl, k g σ R .refl⟩
  | i :: is, vs, ds, rho, g, ms, σ, Q, R, d, e, k => by
    cases ds with
    | nil => simp [bindA] at e
    | cons d0 ds =>
      cases d with
      | cons p q =>
        unfold bindA at e
        by_cases c : i < ms.rho.length
        · rw [if_pos c] at e
          have R1 := R.setAv c p.av
          refine ⟨_, _, rfl, ?_⟩
          show gsN is _ (σ.set i (some _)) H Q
          refine gsA_read R1 (ds := ds) (A0Rs.map (g := g) (g' := { g with oa := fun j => if j = i then none else g.oa j }) (fun _ _ h => h) (fun _ _ h => h) q) (by exact e) fun g2 σ2 R2 x2 => ?_
          exact k g2 σ2 R2 (Ext.av_slot.trans x2)
        · rw [if_neg c] at e
          cases e
theorem s_setTR (ok : OkD X) {tg : List Nat} {e : E} {x : Expr} {es : List Expr} {kk : Nat} {p q : Pos} (ht : mTg X.N X.env.scope tg (.Tuple es kk p) = true) (hc : isComp x = false) (hu : isTup x = false) (h : ∀ b, PE X x (tE X.K X.mg X.w F b (ev b e))) : PS X (.Assign [.Tuple es kk p] x q) (tX X.K X.mg X.w F W (ex (.setTR tg e))) := by
  have ht' : (decide (tg.length ≠ 1) && mTg.mTgs X.N X.env.scope tg es) = true := by
    unfold mTg at ht
    split at ht
    · rename_i heq
      cases heq
    · rename_i is es' kk' pp' heq
      cases heq
      exact ht
    · cases ht
  simp only [Bool.and_eq_true, decide_eq_true_eq] at ht'
  obtain ⟨h1, h2, h3⟩ := s_tgNames ok.toOkX ok.st ht'.2
  refine PS.imp (ps_asg (h true) (pg_tup ok.calm h1 h2 h3) (by unfold swapsWithSole; exact comp_no hc _ _ _) (tup_sw hu)) fun D σ H ⟨g, ms, o, ms', R, q, k⟩ => ?_
  unfold ex at q
  split at q
  · rename_i xs ms1 q1
    obtain ⟨rho, e1, e2⟩ := Option.map_eq_some_iff.mp q
    cases e2
    refine ⟨g, ms, _, ms1, R, q1, fun g1 v H1 R1 x1 r1 => ?_⟩
    have hl : tg.length = xs.length := by
      have go : ∀ {is : List Nat} {ds : List A0} {r r' : List Slot}, bindA is ds r = some r' → is.length = ds.length := by
        intro is
        induction is with
        | nil => intro ds r r' h; cases ds with
          | nil => rfl
          | cons _ _ => simp [bindA] at h
        | cons i is ih => intro ds r r' h; cases ds with
          | nil => simp [bindA] at h
          | cons d ds =>
            unfold bindA at h
            split at h
            · simp [ih h]
            · cases h
      exact go e1
    cases r1 with
    | av r1 => cases r1 with
      | tup r1 r2 => exact ⟨_, _, rfl, r1, by rw [r2.length, hl], gsA_read R1 r2 e1 fun g2 σ2 R2 x2 => k g2 σ2 H1 R2 (x1.trans x2).s⟩
  · cases q
theorem dput_read {k : Str} {v : V} {y : AV} : ∀ {kv : List (Key × V)} {kvs : List (Str × AV)}, kv.map (·.1) = kvs.map (fun p => Sum.inr p.1) → AVRs X.K g H (kv.map (·.2)) (kvs.map (·.2)) → AVR X.K g H v y →
    (putK kv (.inr k) v).map (·.1) = (dputA k y kvs).map (fun p => Sum.inr p.1) ∧ AVRs X.K g H ((putK kv (.inr k) v).map (·.2)) ((dputA k y kvs).map (·.2)) := by
  intro kv kvs e r av
  have ea : (kv.any fun p => decide (p.1 = (Sum.inr k : Key))) = (kvs.any fun p => decide (p.1 = k)) := by
    clear r
    induction kv generalizing kvs with
    | nil =>
      cases kvs with
      | nil => rfl
      | cons _ _ => simp at e
    | cons p kv ih =>
      cases kvs with
      | nil => simp at e
      | cons q kvs =>
        rw [List.map_cons, List.map_cons] at e
        obtain ⟨e1, e2⟩ := List.cons.inj e
        rw [List.any_cons, List.any_cons, ih e2, e1]
        congr 1
        by_cases c : q.1 = k
        · simp [c]
        · have : ¬ (Sum.inr q.1 : Key) = Sum.inr k := fun z => c (Sum.inr.inj z)
          simp [c]
  unfold putK dputA
  rw [ea]
  by_cases c : (kvs.any fun p => decide (p.1 = k)) = true
  · rw [if_pos c, if_pos c]
    clear c ea
    induction kv generalizing kvs with
    | nil =>
      cases kvs with
      | nil => exact ⟨rfl, .nil⟩
      | cons _ _ => simp at e
    | cons p kv ih =>
      cases kvs with
      | nil => simp at e
      | cons q kvs =>
        rw [List.map_cons, List.map_cons] at e r
        obtain ⟨e1, e2⟩ := List.cons.inj e
        cases r with
        | cons r1 r2 =>
          obtain ⟨i1, i2⟩ := ih e2 r2
          by_cases c : q.1 = k
          · have c' : p.1 = Sum.inr k := by rw [e1, c]
            rw [List.map_cons, List.map_cons, List.map_cons, List.map_cons, if_pos c', if_pos c]
            refine ⟨?_, ?_⟩
            · rw [i1, e1]
            · rw [List.map_cons, List.map_cons]
              exact .cons av i2
          · have c' : ¬ p.1 = Sum.inr k := by rw [e1]; exact fun z => c (Sum.inr.inj z)
            rw [List.map_cons, List.map_cons, List.map_cons, List.map_cons, if_neg c', if_neg c]
            refine ⟨?_, ?_⟩
            · rw [i1, e1]
            · rw [List.map_cons, List.map_cons]
              exact .cons r1 i2
  · rw [if_neg c, if_neg c]
    refine ⟨by simp [e], ?_⟩
    rw [List.map_append, List.map_append]
    exact r.append (.cons av .nil)
theorem s_dset {o e : E} {k z : Str} {x y : Expr} {j : Nat} {kp pos q : Pos} (ok : OkD X) (hz : k = z) (hc : isComp y = false) (h0 : ∀ b, PE X x (tE X.K X.mg X.w F b (ev b o))) (h2 : ∀ b, PE X y (tE X.K X.mg X.w F b (ev b e))) :
    PS X (.Assign [.Subscript x (.Constant (.str z) j kp) pos] y q) (tX X.K X.mg X.w F W (ex (.dset o k e))) := by
  subst hz
  have hu : X.A.units + 1 < cLine := by have := ok.room.un; omega
  refine PS.imp (ps_dput hu (h0 true) pe_str (h2 false) (comp_no hc _ _ _)) fun D σ H ⟨g, ms, oo, ms', R, q, kk⟩ => ?_
  unfold ex at q
  split at q
  · rename_i rv ms1 q1
    split at q
    · rename_i r ms2 q2
      split at q
      · rename_i kvs e1
        split at q
        · rename_i c
          cases q
          refine ⟨g, ms, rv, ms1, R, q1, fun g1 v H1 R1 x1 r1 => ?_⟩
          obtain ⟨g2, R2, x2, y2, av2⟩ := r1.val R1 x1
          refine ⟨g2, ms1, _, ms2, R2, q2, fun g3 w H3 R3 x3 r3 => ?_⟩
          cases r3 with
          | av r3 =>
            obtain ⟨a, kv, p1, rfl, p3, p4, p5⟩ := R3.hr.dct r3 e1
            have av3 := R2.hr.avr x3.toExt0 av2
            have hl : kv.length < 1000 := by
              have := congrArg List.length p4
              simp at this
              omega
            obtain ⟨z1, z2, z3, z4⟩ := poke_dz (X := X) (g := g3) (u' := .dK (putK kv (.inr k) v)) p3 (.inr (.inl ⟨_, rfl⟩)) (R3.hr.nz a (List.mem_of_getElem? p1))
            obtain ⟨f1, f2⟩ := dput_read (k := k) p4 p5 av3
            obtain ⟨R4, x4⟩ := R3.pokeObj (u := .dK (putK kv (.inr k) v)) (o2 := .dct (dputA k rv.val kvs)) p1 e1 p3 (.inr (.inl ⟨_, rfl⟩)) (.dct upd_same f1 (z4 f2))
            exact ⟨a, _, rfl, DPut.k (k := .inr k) p3 (by rw [sizeLine_eq]; omega), kk _ σ _ R4 ((x2.trans x3).s.trans x4)⟩
        · cases q
      · cases q
    · cases q
  · cases q
theorem s_kset {o k e : E} {x z y : Expr} {pos q : Pos} (ok : OkD X) (hz : isPl z = true) (hc : isComp y = false) (h0 : ∀ b, PE X x (tE X.K X.mg X.w F b (ev b o))) (h1 : ∀ b, PE X z (tE X.K X.mg X.w F b (ev b k))) (h2 : ∀ b, PE X y (tE X.K X.mg X.w F b (ev b e))) :
    PS X (.Assign [.Subscript x z pos] y q) (tX X.K X.mg X.w F W (ex (.kset o k e))) := by
  have hg := pg_sub (X := X) (pos := pos) (h0 true) (h1 true) (set_kd ok.room) (by intro v; cases z <;> first | rfl | cases hz)
  refine PS.imp (ps_asg (h2 true) hg (by unfold swapsWithSole; exact comp_no hc _ _ _) sub_sw) fun D σ H ⟨g, ms, oo, ms', R, q, kk⟩ => ?_
  unfold ex at q
  split at q
  · rename_i dy ms1 q1
    split at q
    · rename_i r ms2 q2
      split at q
      · rename_i dk ms3 q3
        split at q
        · rename_i kvs e1
          split at q
          · rename_i c
            cases q
            refine ⟨g, ms, _, ms1, R, q1, fun g1 v H1 R1 x1 r1 => ⟨g1, ms1, _, ms2, R1, q2, fun g2 w H2 R2 x2 r2 => ⟨g2, ms2, _, ms3, R2, q3, fun g3 u H3 R3 x3 r3 => ?_⟩⟩⟩
            have dv := ((r1.lr.ext R1.hr x2.toExt0).ext R2.hr x3.toExt0).dat
            have dz := r3.lr.dat
            obtain ⟨ka, rfl⟩ := kOk_ref dz c.1
            cases r2 with
            | av r2 =>
              obtain ⟨a, xs, p1, rfl, p3, p4⟩ := R3.hr.kd (R2.hr.avr x3.toExt0 r2) e1
              obtain ⟨z1, z2, z3, z4⟩ := poke_dz (X := X) (g := g3) (u' := KdO X.w a (storedV xs (nkD dk) ka v)) p3 (.inr (.inr (.inr ⟨_, rfl⟩))) (R3.hr.nz a (List.mem_of_getElem? p1))
              have P4 := KdP.put (g := g3) c.1 (z1 dz) (v := v) (y := .dat dy) (.dat (z1 dv)) (KdP.map (g := g3) (g' := g3) (fun _ _ h => z1 h) (fun _ _ h => z3 h) p4)
              obtain ⟨R4, x4⟩ := R3.pokeObj (u := KdO X.w a (storedV xs (nkD dk) ka v)) (o2 := .kd (kput kvs dk (.dat dy))) p1 e1 p3 (.inr (.inr (.inr ⟨_, rfl⟩))) (.kd upd_same P4)
              exact ⟨a, ka, xs, kvs, g3, dk, rfl, rfl, p3, p4, c.1, dz, by rw [line_eq, p4.length]; exact c.2, kk _ σ _ R4 ((x1.trans (x2.trans x3)).s.trans x4)⟩
          · cases q
        · cases q
      · cases q
    · cases q
  · cases q
/-! ### blocks, branches, loops -/
theorem s_pass {p : Pos} : PS X (.Pass p) (tX X.K X.mg X.w F W (ex .pass)) := PS.imp ps_pass fun D σ H ⟨g, ms, o, ms', R, q, k⟩ => by
  unfold ex at q
  cases q
  exact k g σ H R .refl
theorem s_brk {p : Pos} : PS X (.Break p) (tX X.K X.mg X.w F W (ex .brk)) := PS.imp ps_break fun D σ H ⟨g, ms, o, ms', R, q, k⟩ => by
  unfold ex at q
  cases q
  exact k g σ H R .refl
theorem s_cont {p : Pos} : PS X (.Continue p) (tX X.K X.mg X.w F W (ex .cont)) := PS.imp ps_continue fun D σ H ⟨g, ms, o, ms', R, q, k⟩ => by
  unfold ex at q
  cases q
  exact k g σ H R .refl
theorem s_snil : PSs X [] (tX X.K X.mg X.w F W (exs .nil)) := PSs.imp pss_nil fun D σ H ⟨g, ms, o, ms', R, q, k⟩ => by
  unfold exs at q
  cases q
  exact k g σ H R .refl
theorem s_scons {s : S} {ss : Ss} {x : Stmt} {xs : List Stmt} (h1 : PS X x (tX X.K X.mg X.w F W (ex s))) (h2 : PSs X xs (tX X.K X.mg X.w F W (exs ss))) : PSs X (x :: xs) (tX X.K X.mg X.w F W (exs (.cons s ss))) := PSs.imp (pss_cons h1 h2) fun D σ H ⟨g, ms, o, ms', R, q, k⟩ => by
  unfold exs at q
  split at q
  · rename_i ms1 q1
    exact ⟨g, ms, .nx, ms1, R, q1, fun g1 σ1 H1 R1 x1 => ⟨g1, ms1, o, ms', R1, q, fun g2 σ2 H2 R2 x2 => k g2 σ2 H2 R2 (x1.trans x2)⟩⟩
  · rename_i o1 ms1 hne q1
    cases q
    refine ⟨g, ms, o, ms', R, q1, fun g1 σ1 H1 R1 x1 => ?_⟩
    have z := k g1 σ1 H1 R1 x1
    cases o with
    | nx => exact (hne rfl).elim
    | rt v => exact z
    | bk => exact z
    | ct => exact z
    | xc e => exact z
  · cases q
theorem s_ite {c : E} {a b : Ss} {x : Expr} {p q : List Stmt} {pos : Pos} (h0 : PT X x (tT X.K X.mg X.w F (ev true c))) (h1 : PSs X p (tX X.K X.mg X.w F W (exs a))) (h2 : PSs X q (tX X.K X.mg X.w F W (exs b))) : PS X (.If x p q pos) (tX X.K X.mg X.w F W (ex (.ite c a b))) := PS.imp (ps_if h0 h1 h2) fun D σ H ⟨g, ms, o, ms', R, q, k⟩ => by
  unfold ex at q
  split at q
  · rename_i kk ms1 q1
    refine ⟨g, ms, kk, ms1, R, q1, fun g1 H1 R1 x1 => ?_⟩
    cases kk with
    | true =>
      rw [if_pos rfl] at q
      exact ⟨g1, ms1, o, ms', R1, q, fun g2 σ2 H2 R2 x2 => k g2 σ2 H2 R2 (x1.s.trans x2)⟩
    | false =>
      rw [if_neg (by decide)] at q
      exact ⟨g1, ms1, o, ms', R1, q, fun g2 σ2 H2 R2 x2 => k g2 σ2 H2 R2 (x1.s.trans x2)⟩
  · cases q
theorem forL_forS {tg : List Nat} {body : MS → Option (Out × MS)} {all : List PyData} : ∀ (xs : List PyData) (ms : MS) (i : Nat) {r : Out × MS}, all.drop i = xs → i ≤ all.length → forL tg body xs ms = some r → forS tg body (.fix all) (xs.length + 1) i ms = some r
  | [], ms, i, r, hd, hi, h => by
    have e : all[i]? = none := by
      rw [List.getElem?_eq_none_iff]
      have := congrArg List.length hd
      simp at this
      omega
    unfold forL at h
    unfold forS
    rw [fix_item, e]
    exact h
  | x :: xs, ms, i, r, hd, hi, h => by
    have hlt : i < all.length := by
      have := congrArg List.length hd
      simp at this
      omega
    rw [List.drop_eq_getElem_cons hlt] at hd
    have e1 : all[i]? = some x := by
      rw [List.getElem?_eq_getElem hlt]
      exact congrArg some (List.cons.inj hd).1
    have ih := fun ms {r} => forL_forS (tg := tg) (body := body) (all := all) xs ms (i + 1) (r := r) (List.cons.inj hd).2 hlt
    unfold forL at h
    show forS tg body (.fix all) ((xs.length + 1) + 1) i ms = some r
    rw [forS.eq_2, fix_item, e1]
    dsimp only
    split at h
    · try dsimp only
      split at h
      · exact ih _ h
      · exact ih _ h
      · exact h
      · exact h
      · exact h
      · cases h
    · cases h
theorem forX_S {tg : List Nat} {body : MS → Option (Out × MS)} {s : Src} {ms : MS} {r : Out × MS} (h : forX tg body s ms = some r) : ∃ n, forS tg body s n 0 ms = some r := by
  cases s with
  | fix xs => exact ⟨_, forL_forS xs ms 0 (by simp) (Nat.zero_le _) h⟩
  | heap r => exact ⟨FUEL, h⟩
theorem s_for (ok : OkD X) {tg : List Nat} {it : I} {body : Ss} {t i : Expr} {b : List Stmt} {pos : Pos} (hg : PG X t (tgG X.K X.mg X.w F tg)) (hi : PI X t i (tI X.K X.mg X.w F (evI it))) (hs : ∀ v, foldedSetIterable i X.env v = pure v) (hb : PSs X b (tX X.K X.mg X.w F W (exs body))) :
    PS X (.For t i b [] pos) (tX X.K X.mg X.w F W (ex (.for_ tg it body))) := PS.imp (ps_for ok.po ok.calm hi hg hb hs) fun D σ H ⟨g, ms, o, ms', R, q, k⟩ => by
  unfold ex at q
  split at q
  · rename_i xs ms1 q1
    obtain ⟨nf, q⟩ := forX_S q
    refine ⟨g, ms, xs, ms1, R, q1, fun g1 J H1 R1 x1 wk => ?_⟩
    refine ⟨fun n m τ T => ∃ g2 ms2, Rel X.K X.mg X.w F g2 ms2 τ T ∧ ExtS g1 H1 g2 T ∧ forS tg (exs body) xs m n ms2 = some (o, ms'), ⟨nf, g1, ms1, R1, .refl, q⟩, ?_⟩
    rintro n m τ T ⟨g2, ms2, R2, x2, q2⟩
    cases m with
    | zero => unfold forS at q2; cases q2
    | succ m =>
    rw [forS.eq_2] at q2
    split at q2
    · cases q2
    · rename_i c1
      have st := wk.stop n g2 T ms2.hp R2.hr x2 c1
      cases q2
      exact .inl ⟨st, k g2 τ T R2 (x1.s.trans x2)⟩
    · rename_i d c1
      obtain ⟨go, yl⟩ := wk.go n g2 T ms2.hp d R2.hr x2 c1
      refine .inr ⟨go, fun τ' T' => ∃ g3 ms3, Rel X.K X.mg X.w F g3 ms3 τ' T' ∧ ExtS g1 H1 g3 T' ∧ forS tg (exs body) xs m (n + 1) ms3 = some (o, ms'), fun τ' T' z => ⟨m, Nat.lt_succ_self _, z⟩, fun v T1 yv => ?_⟩
      obtain ⟨rfl, dd⟩ := yl v T1 yv
      split at q2
      · rename_i rho er
        refine ⟨g2, ms2, d, rho, R2, dd, er, fun g3 τ3 R3 x3 _ => ?_⟩
        split at q2
        · rename_i ms4 q4
          exact ⟨g3, _, _, ms4, R3, q4, fun g5 τ5 H5 R5 x5 => ⟨g5, ms4, R5, x2.trans (x3.s.trans x5), q2⟩⟩
        · rename_i ms4 q4
          exact ⟨g3, _, _, ms4, R3, q4, fun g5 τ5 H5 R5 x5 => ⟨g5, ms4, R5, x2.trans (x3.s.trans x5), q2⟩⟩
        · rename_i ms4 q4
          cases q2
          exact ⟨g3, _, _, ms', R3, q4, fun g5 τ5 H5 R5 x5 => k g5 τ5 H5 R5 (x1.s.trans (x2.trans (x3.s.trans x5)))⟩
        · rename_i v4 ms4 q4
          cases q2
          exact ⟨g3, _, _, ms', R3, q4, fun g5 τ5 H5 R5 x5 => k g5 τ5 H5 R5 (x1.s.trans (x2.trans (x3.s.trans x5)))⟩
        · rename_i v4 ms4 q4
          cases q2
          exact ⟨g3, _, _, ms', R3, q4, fun g5 τ5 H5 R5 x5 => k g5 τ5 H5 R5 (x1.s.trans (x2.trans (x3.s.trans x5)))⟩
        · cases q2
      · cases q2
  · cases q
theorem s_while (ok : OkD X) {c : E} {body : Ss} {x : Expr} {b : List Stmt} {pos : Pos} (h0 : PT X x (tT X.K X.mg X.w F (ev true c))) (hb : PSs X b (tX X.K X.mg X.w F W (exs body))) :
    PS X (.While x b [] pos) (tX X.K X.mg X.w F W (ex (.whil c body))) := PS.imp (ps_while ok.po h0 hb) fun D σ H ⟨g, ms, o, ms', R, q, k⟩ => by
  unfold ex at q
  refine ⟨fun m τ T => ∃ g2 ms2, Rel X.K X.mg X.w F g2 ms2 τ T ∧ ExtS g H g2 T ∧ whileL (ev true c) (exs body) m ms2 = some (o, ms'), ⟨FUEL, g, ms, R, .refl, q⟩, ?_⟩
  rintro m τ T ⟨g2, ms2, R2, x2, q2⟩
  cases m with
  | zero => unfold whileL at q2; cases q2
  | succ m =>
    unfold whileL at q2
    split at q2
    · rename_i ms3 q3
      refine ⟨g2, ms2, true, ms3, R2, q3, fun g3 H3 R3 x3 => ?_⟩
      dsimp only
      rw [if_pos rfl]
      refine ⟨fun τ' T' => ∃ g4 ms4, Rel X.K X.mg X.w F g4 ms4 τ' T' ∧ ExtS g H g4 T' ∧ whileL (ev true c) (exs body) m ms4 = some (o, ms'), fun τ' T' z => ⟨m, Nat.lt_succ_self _, z⟩, ?_⟩
      split at q2
      · rename_i ms4 q4
        exact ⟨g3, _, _, ms4, R3, q4, fun g5 τ5 H5 R5 x5 => ⟨g5, ms4, R5, x2.trans (x3.s.trans x5), q2⟩⟩
      · rename_i ms4 q4
        exact ⟨g3, _, _, ms4, R3, q4, fun g5 τ5 H5 R5 x5 => ⟨g5, ms4, R5, x2.trans (x3.s.trans x5), q2⟩⟩
      · rename_i ms4 q4
        cases q2
        exact ⟨g3, _, _, ms', R3, q4, fun g5 τ5 H5 R5 x5 => k g5 τ5 H5 R5 (x2.trans (x3.s.trans x5))⟩
      · rename_i v4 ms4 q4
        cases q2
        exact ⟨g3, _, _, ms', R3, q4, fun g5 τ5 H5 R5 x5 => k g5 τ5 H5 R5 (x2.trans (x3.s.trans x5))⟩
      · rename_i v4 ms4 q4
        cases q2
        exact ⟨g3, _, _, ms', R3, q4, fun g5 τ5 H5 R5 x5 => k g5 τ5 H5 R5 (x2.trans (x3.s.trans x5))⟩
      · cases q2
    · rename_i ms3 q3
      cases q2
      refine ⟨g2, ms2, false, ms', R2, q3, fun g3 H3 R3 x3 => ?_⟩
      dsimp only
      rw [if_neg (by decide)]
      exact k g3 τ H3 R3 (x2.trans x3.s)
    · cases q2
/-! ### several names at once -/
theorem bindV_read {F : Fr} : ∀ {is : List Nat} {vs : List AV} {ws : List V} {g : G} {ms : MS} {σ : L2.St} {H : Hp} {rho : List Slot}, Rel X.K X.mg X.w F g ms σ H → AVRs X.K g H ws vs → bindV is vs ms.rho = some rho →
    ∃ g', Rel X.K X.mg X.w F g' { ms with rho := rho } ((is.zip ws).foldl (fun τ p => τ.set p.1 (some p.2)) σ) H ∧ Ext g H g' H
  | [], [], ws, g, ms, σ, H, rho, R, r, e => by
    cases r
    cases e
    exact ⟨g, R, Ext.refl⟩
  | i :: is, v :: vs, _, g, ms, σ, H, rho, R, r, e => by
    cases r with
    | cons p q =>
      unfold bindV at e
      by_cases c : i < ms.rho.length
      · rw [if_pos c] at e
        have R1 := R.setAv c p
        obtain ⟨g2, R2, x2⟩ := bindV_read (is := is) R1 (AVRs.map (g := g) (g' := { g with oa := fun j => if j = i then none else g.oa j }) (fun _ _ h => AVR.map (g := g) (g' := { g with oa := fun j => if j = i then none else g.oa j }) (fun _ _ p q => ⟨p, q⟩) (fun _ _ p q => ⟨p, q⟩) (fun _ _ h => h) (fun _ _ h => h) (fun _ _ h => h) h) q) e
        exact ⟨g2, R2, Ext.av_slot.trans x2⟩
      · rw [if_neg c] at e
        cases e
  | [], _ :: _, _, _, _, _, _, _, _, _, e => by cases e
  | _ :: _, [], _, _, _, _, _, _, _, _, e => by cases e
theorem swOk_out {ls : List Pos} {xs : List Expr} (h : swOk ls xs = true) : xs.any isStar = false ∧ xs.all (foldedForSure 8) = false ∧ xs.all (constantsAlone 8) = false ∧ ∀ p ∈ ls, (p.line == (ls.head?.map (·.line)).getD 0) = true := by
  unfold swOk at h
  simp only [Bool.and_eq_true, Bool.not_eq_true'] at h
  exact ⟨h.1.1.1, h.1.1.2, h.1.2, List.all_eq_true.mp h.2⟩
theorem sw2 (ok : OkD X) {x y : Str} {px py pt pt2 : Pos} {kt k2} {a b : Expr} (hxy : x ≠ y) (hx : X.env.scope.names.lookup x = some .local) (hy : X.env.scope.names.lookup y = some .local) (h : swOk [px, py] [a, b] = true) :
    swappedStores [.Tuple [.Name x px, .Name y py] kt pt] (.Tuple [a, b] k2 pt2) X.env = pure (some [x, y]) := by
  obtain ⟨h1, h2, h3, h4⟩ := swOk_out h
  have bk : X.env.blockKind = .function := by
    unfold Env.blockKind
    rw [ok.kind]
    rfl
  have kx : X.env.kindOf x = some .local := hx
  have ky : X.env.kindOf y = some .local := hy
  have l1 : (py.line == px.line) = true := h4 py (by simp)
  have l0 : (px.line == px.line) = true := by simp
  have e1 : ([x, y] : List Str).eraseDups.length = 2 := by
    have : (y == x) = false := by
      rw [beq_eq_false_iff_ne]
      exact Ne.symm hxy
    simp [List.eraseDups_cons, this]
  unfold swappedStores
  simp only [bk, kx, ky, h2, h3, List.filterMap, Expr.pos, List.head?, Option.map, Option.getD, l1, l0, List.length, e1]
  simp [e1]
  simp only [List.any_cons, List.any_nil, Bool.or_eq_false_iff] at h1
  intro hh
  exfalso
  rcases hh with hh | hh
  · have : isStar a = true := by revert hh; cases a <;> intro hh <;> first | rfl | cases hh
    rw [h1.1] at this; cases this
  · have : isStar b = true := by revert hh; cases b <;> intro hh <;> first | rfl | cases hh
    rw [h1.2.1] at this; cases this
theorem sw3 (ok : OkD X) {x y z : Str} {px py pz pt pt2 : Pos} {kt k2} {a b c : Expr} (hxy : x ≠ y) (hxz : x ≠ z) (hyz : y ≠ z) (hx : X.env.scope.names.lookup x = some .local) (hy : X.env.scope.names.lookup y = some .local) (hz : X.env.scope.names.lookup z = some .local) (h : swOk [px, py, pz] [a, b, c] = true) :
    swappedStores [.Tuple [.Name x px, .Name y py, .Name z pz] kt pt] (.Tuple [a, b, c] k2 pt2) X.env = pure (some [x, y, z]) := by
  obtain ⟨h1, h2, h3, h4⟩ := swOk_out h
  have bk : X.env.blockKind = .function := by
    unfold Env.blockKind
    rw [ok.kind]
    rfl
  have kx : X.env.kindOf x = some .local := hx
  have ky : X.env.kindOf y = some .local := hy
  have kz : X.env.kindOf z = some .local := hz
  have l1 : (py.line == px.line) = true := h4 py (by simp)
  have l2 : (pz.line == px.line) = true := h4 pz (by simp)
  have l0 : (px.line == px.line) = true := by simp
  have e1 : ([x, y, z] : List Str).eraseDups.length = 3 := by
    have a1 : (y == x) = false := by
      rw [beq_eq_false_iff_ne]
      exact Ne.symm hxy
    have a2 : (z == x) = false := by
      rw [beq_eq_false_iff_ne]
      exact Ne.symm hxz
    have a3 : (z == y) = false := by
      rw [beq_eq_false_iff_ne]
      exact Ne.symm hyz
    simp [List.eraseDups_cons, a1, a2, a3]
  unfold swappedStores
  simp only [bk, kx, ky, kz, h2, h3, List.filterMap, Expr.pos, List.head?, Option.map, Option.getD, l1, l2, l0, List.length, e1]
  simp [e1]
  simp only [List.any_cons, List.any_nil, Bool.or_eq_false_iff] at h1
  intro hh
  exfalso
  rcases hh with hh | hh | hh
  · have : isStar a = true := by revert hh; cases a <;> intro hh <;> first | rfl | cases hh
    rw [h1.1] at this; cases this
  · have : isStar b = true := by revert hh; cases b <;> intro hh <;> first | rfl | cases hh
    rw [h1.2.1] at this; cases this
  · have : isStar c = true := by revert hh; cases c <;> intro hh <;> first | rfl | cases hh
    rw [h1.2.2.1] at this; cases this
theorem bindV_len : ∀ {is : List Nat} {vs : List AV} {r r' : List Slot}, bindV is vs r = some r' → is.length = vs.length
  | [], [], _, _, _ => rfl
  | i :: is, v :: vs, r, r', h => by
    unfold bindV at h
    split at h
    · simp [bindV_len h]
    · cases h
  | [], _ :: _, _, _, h => by cases h
  | _ :: _, [], _, _, h => by cases h
theorem s_par2 (ok : OkD X) {i j : Nat} {es : Es} {x y : Str} {a b : Expr} {px py pt pt2 pos : Pos} {kt k2} (hi : isNm X.N i x = true) (hj : isNm X.N j y = true) (hij : i ≠ j) (hxy : x ≠ y) (hx : X.env.scope.names.lookup x = some .local) (hy : X.env.scope.names.lookup y = some .local)
    (h : swOk [px, py] [a, b] = true) (ha : PA X [a, b] (tA X.K X.mg X.w F (evs es))) : PS X (.Assign [.Tuple [.Name x px, .Name y py] kt pt] (.Tuple [a, b] k2 pt2) pos) (tX X.K X.mg X.w F W (ex (.par [i, j] es))) := by
  refine PS.imp (ps_par ok.calm ok.nd (of_decide_eq_true hi) (of_decide_eq_true hj) hij hx hy ha (sw2 ok hxy hx hy h)) fun D σ H ⟨g, ms, o, ms', R, q, k⟩ => ?_
  unfold ex at q
  split at q
  · rename_i vs ms1 q1
    obtain ⟨rho, e1, e2⟩ := Option.map_eq_some_iff.mp q
    cases e2
    refine ⟨g, ms, _, ms1, R, q1, fun g1 ws H1 R1 x1 r1 => ?_⟩
    have hl : ws.length = 2 := by rw [r1.length, ← bindV_len e1]; rfl
    obtain ⟨g2, R2, x2⟩ := bindV_read R1 r1 e1
    match ws, hl, R2 with
    | [v, w], _, R2 => exact ⟨v, w, rfl, k g2 _ H1 R2 (x1.trans x2).s⟩
  · cases q
theorem s_par3 (ok : OkD X) {i j l : Nat} {es : Es} {x y z : Str} {a b c : Expr} {px py pz pt pt2 pos : Pos} {kt k2} (hi : isNm X.N i x = true) (hj : isNm X.N j y = true) (hl : isNm X.N l z = true) (hij : i ≠ j) (hil : i ≠ l) (hjl : j ≠ l) (hxy : x ≠ y) (hxz : x ≠ z) (hyz : y ≠ z)
    (hx : X.env.scope.names.lookup x = some .local) (hy : X.env.scope.names.lookup y = some .local) (hz : X.env.scope.names.lookup z = some .local)
    (h : swOk [px, py, pz] [a, b, c] = true) (ha : PA X [a, b, c] (tA X.K X.mg X.w F (evs es))) : PS X (.Assign [.Tuple [.Name x px, .Name y py, .Name z pz] kt pt] (.Tuple [a, b, c] k2 pt2) pos) (tX X.K X.mg X.w F W (ex (.par [i, j, l] es))) := by
  refine PS.imp (ps_par3 ok.calm ok.nd (of_decide_eq_true hi) (of_decide_eq_true hj) (of_decide_eq_true hl) hij hil hjl hx hy hz ha (sw3 ok hxy hxz hyz hx hy hz h)) fun D σ H ⟨g, ms, o, ms', R, q, k⟩ => ?_
  unfold ex at q
  split at q
  · rename_i vs ms1 q1
    obtain ⟨rho, e1, e2⟩ := Option.map_eq_some_iff.mp q
    cases e2
    refine ⟨g, ms, _, ms1, R, q1, fun g1 ws H1 R1 x1 r1 => ?_⟩
    have hl : ws.length = 3 := by rw [r1.length, ← bindV_len e1]; rfl
    obtain ⟨g2, R2, x2⟩ := bindV_read R1 r1 e1
    match ws, hl, R2 with
    | [u, v, w], _, R2 => exact ⟨u, v, w, rfl, k g2 _ H1 R2 (x1.trans x2).s⟩
  · cases q
end
mutual
def okS (p : Pr) : S → Prop
  | .set _ e => okE p e
  | .setC _ e _ it c => okE p e ∧ okI p it ∧ okEs p c
  | .setT _ e => okE p e
  | .setIx _ ix e => okE p ix ∧ okE p e
  | .pop0 _ => True
  | .append _ e => okE p e
  | .setAttr c o f e => p.at_ c f ∧ okE p o ∧ okE p e
  | .setIxE o ix e => okE p o ∧ okE p ix ∧ okE p e
  | .appendE o e => okE p o ∧ okE p e
  | .never => True
  | .expr e => okE p e
  | .ite c a b => okE p c ∧ okSs p a ∧ okSs p b
  | .for_ _ it b => okI p it ∧ okSs p b
  | .whil c b => okE p c ∧ okSs p b
  | .ret e => okE p e
  | .pass => True
  | .brk => True
  | .cont => True
  | .setTR _ e => okE p e
  | .dset o _ e => okE p o ∧ okE p e
  | .kset o k e => okE p o ∧ okE p k ∧ okE p e
  | .par _ es => okEs p es
  | .setCA _ e _ it c => okE p e ∧ okI p it ∧ okEs p c
def okSs (p : Pr) : Ss → Prop
  | .nil => True
  | .cons s ss => okS p s ∧ okSs p ss
end
section
variable {X : Cx}
mutual
theorem sS {F : Fr} {W : WX} (ok : OkD X) : ∀ (s : S) {x : Stmt}, okS (prX X) s → mS X.N X.env.scope s x = true → PS X x (tX X.K X.mg X.w F W (ex s))
  | .set i e, x, hk, hm => by
    unfold mS at hm
    split at hm <;> rename_i heq <;> try (cases heq; done)
    · cases heq
      simp only [Bool.and_eq_true, Bool.not_eq_true'] at hm
      simp only [okS] at hk
      exact s_set ok hm.1.1.1 hm.1.1.2 hm.1.2 (sE e (F := F) ok.toOkX hk hm.2).pe
    · cases hm
  | .setC i e tg it c, x, hk, hm => by
    unfold mS at hm
    split at hm <;> rename_i heq <;> try (cases heq; done)
    · cases heq
      simp only [Bool.and_eq_true, decide_eq_true_eq, Bool.not_eq_true'] at hm
      simp only [okS] at hk
      obtain ⟨⟨⟨⟨n1, n2⟩, n3⟩, n4⟩, ⟨⟨⟨⟨⟨⟨m1, m2⟩, m3⟩, m4⟩, m5⟩, m6⟩, m7⟩⟩ := hm
      subst m1
      exact s_setC ok n1 n2 n3 n4 hk.1 hk.2.1 hk.2.2 m2 m3 m4 m5 m6 m7
    · cases hm
  | .setT tg e, x, hk, hm => by
    unfold mS at hm
    split at hm <;> rename_i heq <;> try (cases heq; done)
    · cases heq
      simp only [Bool.and_eq_true, Bool.not_eq_true'] at hm
      simp only [okS] at hk
      exact s_setT ok hm.1.1.1 hm.1.2 hm.2 (sE e (F := F) ok.toOkX hk hm.1.1.2).pe
    · cases hm
  | .setIx i ix e, x, hk, hm => by
    unfold mS at hm
    split at hm <;> rename_i heq <;> try (cases heq; done)
    · cases heq
      simp only [Bool.and_eq_true, Bool.not_eq_true'] at hm
      simp only [okS] at hk
      exact s_setIx ok hm.1.1.1.1.1 hm.1.1.1.1.2 hm.1.1.1.2 hm.2 (mE_pl ix hm.1.1.2) (sE ix (F := F) ok.toOkX hk.1 hm.1.1.2).pe (sE e (F := F) ok.toOkX hk.2 hm.1.2).pe
    · cases hm
  | .pop0 i, x, hk, hm => by
    unfold mS at hm
    split at hm <;> rename_i heq <;> try (cases heq; done)
    · cases heq
      simp only [Bool.and_eq_true, decide_eq_true_eq, Bool.not_eq_true'] at hm
      exact s_pop0 ok hm.1.1.1.1.1 hm.1.1.1.1.2 hm.1.1.1.2 hm.1.1.2 hm.1.2 hm.2
    · cases hm
  | .append i e, x, hk, hm => by
    unfold mS at hm
    split at hm <;> rename_i heq <;> try (cases heq; done)
    · cases heq
      simp only [Bool.and_eq_true, decide_eq_true_eq, Bool.not_eq_true'] at hm
      simp only [okS] at hk
      exact s_append ok hm.1.1.1.1.1 hm.1.1.1.1.2 hm.1.1.1.2 hm.1.1.2 hm.1.2 (mE_pl e hm.2) (sE e (F := F) ok.toOkX hk hm.2).pe
    · cases hm
  | .setAttr c o f e, x, hk, hm => by
    unfold mS at hm
    split at hm <;> rename_i heq <;> try (cases heq; done)
    · cases heq
      simp only [Bool.and_eq_true, decide_eq_true_eq] at hm
      simp only [okS] at hk
      exact s_setAttr hk.1 hm.1.1.1 hm.1.1.2 (sE o (F := F) ok.toOkX hk.2.1 hm.1.2).pe (sE e (F := F) ok.toOkX hk.2.2 hm.2).pe
    · cases hm
  | .setIxE o ix e, x, hk, hm => by
    unfold mS at hm
    split at hm <;> rename_i heq <;> try (cases heq; done)
    · cases heq
      simp only [Bool.and_eq_true, Bool.not_eq_true'] at hm
      simp only [okS] at hk
      exact s_setIxE hm.2 (mE_pl ix hm.1.1.2) (sE o (F := F) ok.toOkX hk.1 hm.1.1.1).pe (sE ix (F := F) ok.toOkX hk.2.1 hm.1.1.2).pe (sE e (F := F) ok.toOkX hk.2.2 hm.1.2).pe
    · cases hm
  | .appendE o e, x, hk, hm => by
    unfold mS at hm
    split at hm <;> rename_i heq <;> try (cases heq; done)
    · cases heq
      simp only [Bool.and_eq_true, decide_eq_true_eq] at hm
      simp only [okS] at hk
      exact s_appendE hm.1.1.1.1 hm.1.1.1.2 hm.1.1.2 (mE_pl e hm.2) (sE o (F := F) ok.toOkX hk.1 hm.1.2).pe (sE e (F := F) ok.toOkX hk.2 hm.2).pe
    · cases hm
  | .never, x, hk, hm => s_never
  | .expr e, x, hk, hm => by
    unfold mS at hm
    split at hm <;> rename_i heq <;> try (cases heq; done)
    · cases heq
      simp only [Bool.and_eq_true, Bool.not_eq_true'] at hm
      simp only [okS] at hk
      exact s_expr hm.2 (sE e (F := F) ok.toOkX hk hm.1).pe
    · cases hm
  | .ite c a b, x, hk, hm => by
    unfold mS at hm
    split at hm <;> rename_i heq <;> try (cases heq; done)
    · cases heq
      simp only [Bool.and_eq_true, Bool.not_eq_true'] at hm
      simp only [okS] at hk
      exact s_ite ((sE c (F := F) ok.toOkX hk.1 hm.1.1.1).pt hm.1.1.2) (sSs ok a hk.2.1 hm.1.2) (sSs ok b hk.2.2 hm.2)
    · cases hm
  | .for_ tg it b, x, hk, hm => by
    unfold mS at hm
    split at hm <;> rename_i heq <;> try (cases heq; done)
    · cases heq
      simp only [Bool.and_eq_true] at hm
      simp only [okS] at hk
      exact s_for ok (s_tg ok.toOkX ok.st hm.1.1) (sI it ok.toOkX hk.1 hm.1.2) (mI_set hm.1.2) (sSs ok b hk.2 hm.2)
    · cases hm
  | .whil c b, x, hk, hm => by
    unfold mS at hm
    split at hm <;> rename_i heq <;> try (cases heq; done)
    · cases heq
      simp only [Bool.and_eq_true, Bool.not_eq_true'] at hm
      simp only [okS] at hk
      exact s_while ok ((sE c (F := F) ok.toOkX hk.1 hm.1.1).pt hm.1.2) (sSs ok b hk.2 hm.2)
    · cases hm
  | .ret e, x, hk, hm => by
    unfold mS at hm
    split at hm <;> rename_i heq <;> try (cases heq; done)
    · cases heq
      simp only [okS] at hk
      exact s_ret (sE e (F := F) ok.toOkX hk hm).pe
    · cases hm
  | .pass, x, hk, hm => by
    cases x <;> try (simp [mS] at hm; done)
    exact s_pass
  | .brk, x, hk, hm => by
    cases x <;> try (simp [mS] at hm; done)
    exact s_brk
  | .cont, x, hk, hm => by
    cases x <;> try (simp [mS] at hm; done)
    exact s_cont
  | .setTR tg e, x, hk, hm => by
    unfold mS at hm
    split at hm <;> rename_i heq <;> try (cases heq; done)
    · cases heq
      simp only [Bool.and_eq_true, Bool.not_eq_true'] at hm
      simp only [okS] at hk
      exact s_setTR ok hm.1.1.1 hm.1.2 hm.2 (sE e (F := F) ok.toOkX hk hm.1.1.2).pe
    · cases hm
  | .dset o k e, x, hk, hm => by
    unfold mS at hm
    split at hm <;> rename_i heq <;> try (cases heq; done)
    · cases heq
      simp only [Bool.and_eq_true, Bool.not_eq_true', decide_eq_true_eq] at hm
      simp only [okS] at hk
      exact s_dset ok hm.1.1.1 hm.2 (sE o (F := F) ok.toOkX hk.1 hm.1.1.2).pe (sE e (F := F) ok.toOkX hk.2 hm.1.2).pe
    · cases hm
  | .setCA i e tg it c, x, hk, hm => by
    unfold mS at hm
    split at hm <;> rename_i heq <;> try (cases heq; done)
    · cases heq
      simp only [Bool.and_eq_true, decide_eq_true_eq, Bool.not_eq_true'] at hm
      simp only [okS] at hk
      obtain ⟨⟨⟨⟨n1, n2⟩, n3⟩, n4⟩, ⟨⟨⟨⟨⟨⟨m1, m2⟩, m3⟩, m4⟩, m5⟩, m6⟩, m7⟩⟩ := hm
      subst m1
      exact s_setCA ok n1 n2 n3 n4 hk.1 hk.2.1 hk.2.2 m2 m3 m4 m5 m6 m7
    · cases hm
  | .par tg es, x, hk, hm => by
    unfold mS at hm
    split at hm <;> rename_i heq <;> try (cases heq; done)
    · cases heq
      simp only [Bool.and_eq_true, decide_eq_true_eq] at hm
      simp only [okS] at hk
      obtain ⟨⟨⟨⟨⟨⟨⟨h1, h2⟩, h3⟩, h4⟩, h5⟩, h6⟩, h7⟩, h8⟩ := hm
      exact s_par2 ok h1 h2 h3 h4 h5 h6 h7 (sEs es (F := F) ok.toOkX hk h8).1
    · cases heq
      simp only [Bool.and_eq_true, decide_eq_true_eq] at hm
      simp only [okS] at hk
      obtain ⟨⟨⟨⟨⟨⟨⟨⟨⟨⟨⟨⟨⟨h1, h2⟩, h3⟩, h4⟩, h5⟩, h6⟩, h7⟩, h8⟩, h9⟩, h10⟩, h11⟩, h12⟩, h13⟩, h14⟩ := hm
      exact s_par3 ok h1 h2 h3 h4 h5 h6 h7 h8 h9 h10 h11 h12 h13 (sEs es (F := F) ok.toOkX hk h14).1
    · cases hm
  | .kset o k e, x, hk, hm => by
    unfold mS at hm
    split at hm <;> rename_i heq <;> try (cases heq; done)
    · cases heq
      simp only [Bool.and_eq_true, Bool.not_eq_true'] at hm
      simp only [okS] at hk
      exact s_kset ok (mE_pl k hm.1.1.2) hm.2 (sE o (F := F) ok.toOkX hk.1 hm.1.1.1).pe (sE k (F := F) ok.toOkX hk.2.1 hm.1.1.2).pe (sE e (F := F) ok.toOkX hk.2.2 hm.1.2).pe
    · cases hm
theorem sSs {F : Fr} {W : WX} (ok : OkD X) : ∀ (s : Ss) {x : List Stmt}, okSs (prX X) s → mSs X.N X.env.scope s x = true → PSs X x (tX X.K X.mg X.w F W (exs s))
  | .nil, x, hk, hm => by
    cases x with
    | nil => exact s_snil
    | cons _ _ => simp [mSs] at hm
  | .cons s ss, x, hk, hm => by
    cases x with
    | nil => simp [mSs] at hm
    | cons x xs =>
      simp only [mSs, Bool.and_eq_true] at hm
      simp only [okSs] at hk
      exact s_scons (sS ok s hk.1 hm.1) (sSs ok ss hk.2 hm.2)
end
end
end Sv

/-! Sv: a def keeps its promise. -/
namespace Sv
open PySem PySem.Spec PyProof.Rows L2
section
variable {P : Program} {w : World} {K : PySem.W.Frag} {mg : Str → Option Value} {base : Heap}
theorem rep_get {α : Type} {n i : Nat} {a b : α} (h : (List.replicate n a)[i]? = some b) : b = a := by
  rw [List.getElem?_replicate] at h
  split at h <;> cases h
  rfl
/-- the entry of a def -/
theorem rel_start {g : G} {hp : List AO} {H : Hp} {vs : List V} {args : List AV} {n : Nat} (R : HRel K mg w g hp H) (r : AVRs K g H vs args) (N : List Str) (hN : N.length = n) :
    Rel K mg w ⟨g.io, g.Z, H⟩ { g with oa := fun _ => none } ⟨args.map .av ++ List.replicate (n - args.length) .emp, hp⟩ (L2.start N vs) H := by
  have e0 : Ext0 g H { g with oa := fun _ => none } H := ⟨fun _ _ _ h => h, fun _ h => h, ⟨[], by simp, by simp⟩, fun _ o h => ⟨o, h⟩⟩
  refine ⟨⟨R.hl, R.nd, fun j a o h1 h2 => (R.ho j a o h1 h2).ext R e0 fun _ h => h, R.nz, R.zt⟩, ?_, fun i v hi => ?_, fun i xs hi => ?_, fun i a h => by simp at h, fun i j a h => by simp at h, ⟨⟨[], by simp, by simp⟩, fun a h => .inl h, fun a h => h, fun a o _ h => h, fun a o h => ⟨o, h⟩⟩⟩
  · unfold L2.start
    simp [r.length, hN]
  · by_cases hlt : i < args.length
    · rw [List.getElem?_append_left (by simpa using hlt), List.getElem?_map] at hi
      cases q : args[i]? with
      | none => rw [q] at hi; cases hi
      | some u =>
        rw [q] at hi
        cases hi
        obtain ⟨x, h1, h2⟩ := r.get q
        refine ⟨x, ?_, R.avr e0 h2⟩
        unfold L2.start
        rw [List.getElem?_append_left (by simpa [r.length] using hlt), List.getElem?_map, h1]
        rfl
    · rw [List.getElem?_append_right (by simpa using hlt)] at hi
      exact absurd (rep_get hi) (by simp)
  · by_cases hlt : i < args.length
    · rw [List.getElem?_append_left (by simpa using hlt), List.getElem?_map] at hi
      cases q : args[i]? with
      | none => rw [q] at hi; cases hi
      | some u => rw [q] at hi; cases hi
    · rw [List.getElem?_append_right (by simpa using hlt)] at hi
      exact absurd (rep_get hi) (by simp)
/-- what a frame leaves behind -/
theorem fra_ext {g0 g : G} {H0 H : Hp} {F : Fr} (hF : F = ⟨g0.io, g0.Z, H0⟩) (f : Fra F g H) : Ext0 g0 H0 g H ∧ ∀ a, g.Z a → g0.Z a ∨ H0 a = none := by
  subst hF
  exact ⟨⟨f.keep, f.zz, f.io, f.th⟩, f.z⟩
/-- THE DEF -/
theorem def_ok {CX : CXT} {x qual : Str} {params : Arguments} {body : List Stmt} {scope : Scope} {f : Addr} {fd : FuncData} {N ps : List Str} {k : Nat} {ss : Ss} (FD : FunD K x qual params body scope [] [] f fd) (S : FnScope N ps scope)
    (hm : mSs N scope ss body = true) (free : ∀ n ∈ freeNames, mg n = none)
    (hk : ∀ X : Cx, X.K = K → X.mg = mg → X.prog = P → X.w = w → X.base = base → Room k X.A → okSs (prX X) ss) :
    FnOk P w K mg base CX (k + 1) f fd ps (spF K mg w (runB N.length ps.length ss)) := by
  refine FD.ok S (fun vs H Q E ⟨g, hp, args, rv, hp', R, r, e, _⟩ => ?_) (fun cdv A outer s H vs Q E hr ⟨g, hp, args, rv, hp', R, r, e, kk⟩ => ?_)
  · unfold runB at e
    split at e
    · rename_i c
      rw [r.length, c]
    · cases e
  · unfold runB at e
    split at e
    · rename_i c
      refine ⟨tX K mg w ⟨g.io, g.Z, H⟩ (fun _ _ _ _ => False) (exs ss), PSs.nox ?_, ?_⟩
      · refine sSs (X := (cxOf CX P w K mg base N qual scope f cdv A outer s H E).nox) (F := ⟨g.io, g.Z, H⟩) ⟨⟨rfl, S.nd, ?_, free⟩, S.kind, ?_, ?_⟩ ss (hk _ rfl rfl rfl rfl rfl hr) hm
        · exact hr.mono (Nat.zero_le _)
        · intro y hy
          refine ⟨?_, .inl rfl⟩
          unfold isLoc at hy
          simp only [Bool.or_eq_true, decide_eq_true_eq] at hy
          exact hy
        · exact PassesOwn.never
      · have R0 := rel_start R r N rfl
        rw [c] at R0
        have fin : ∀ {ms2 : MS} {g2 : G} {σ2 : L2.St} {H2 : Hp}, Rel K mg w ⟨g.io, g.Z, H⟩ g2 ms2 σ2 H2 → Ext0 g H g2 H2 ∧ ∀ a, g2.Z a → g.Z a ∨ H a = none := fun R2 => fra_ext rfl R2.fr
        split at e
        · rename_i ms2 e2
          cases e
          refine ⟨_, _, _, _, R0, e2, fun g2 σ2 H2 R2 x2 => ?_⟩
          obtain ⟨y1, y2⟩ := fin R2
          exact kk g2 .non H2 R2.hr y1 y2 (.av (.dat .non))
        · rename_i v ms2 e2
          cases e
          refine ⟨_, _, _, _, R0, e2, fun g2 σ2 H2 R2 x2 u r2 => ?_⟩
          obtain ⟨y1, y2⟩ := fin R2
          refine kk g2 u H2 R2.hr y1 y2 ?_
          cases r2 with
          | av r2 => exact .av r2
          | lst h1 h2 h3 h4 h5 h6 => exact .lst h5 h1 h2 h3 h4
        · cases e
    · cases e
/-! ### defs by name -/
/-- a def that may be called -/
def Good (P : Program) (w : World) (K : PySem.W.Frag) (mg : Str → Option Value) (base : Heap) (k : Nat) (f : Fn) : Prop := ∃ (fa : Addr) (fd : FuncData) (ps : List Str), mg f.name = some (.ref fa) ∧ PySem.W.keepIn K (.ref fa) = true ∧ Binds K fd ps [] ∧
  FnOk P w K mg base (L2.CX P w) k fa fd ps (spF K mg w f.run)
def GoodGl (K : PySem.W.Frag) (mg : Str → Option Value) (x : Str) (d : PyData) : Prop := ∃ v u, mg x = some u ∧ RelV v u ∧ ∀ Z H, Dz K Z H v d
theorem Good.ok {X : Cx} {k j : Nat} {f : Fn} (h : Good X.prog X.w X.K X.mg X.base k f) (hr : Room j X.A) (hk : k ≤ j) : OkFn X f := by
  obtain ⟨fa, fd, ps, h1, h2, h3, h4⟩ := h
  exact ⟨k, fa, fd, ps, h1, h2, h3, h4, hr.mono hk⟩
theorem good_of {x : Str} {params : Arguments} {body : List Stmt} {scope : Scope} {fd : FuncData} {N ps : List Str} {k : Nat} {ss : Ss} (FD : FunD K x x params body scope [] [] (He.ga K x) fd) (S : FnScope N ps scope)
    (hm : mSs N scope ss body = true) (free : ∀ n ∈ freeNames, mg n = none) (mgf : mg x = some (.ref (He.ga K x)))
    (hb : ∀ (kV doc pm : Value) (an : Option Addr) (cdv ct : Value) (us : List Value), us.length = ps.length → bindArgs (PySem.W.fnOf x x params body scope .none kV doc pm an cdv ct) ⟨us, []⟩ = pure (ps.zip us))
    (hk : ∀ X : Cx, X.K = K → X.mg = mg → X.prog = P → X.w = w → X.base = base → Room k X.A → okSs (prX X) ss) :
    Good P w K mg base (k + 1) ⟨x, runB N.length ps.length ss⟩ :=
  ⟨He.ga K x, fd, ps, mgf, FD.kp, FD.bindsN hb, def_ok FD S hm free hk⟩
/-! ### classes -/
def GoodAt (K : PySem.W.Frag) (mg : Str → Option Value) (c x : Str) : Prop := ∃ C, mg c = some (.ref C) ∧ Cls K C ∧ NoAttr K C x
def GoodMe (P : Program) (w : World) (K : PySem.W.Frag) (mg : Str → Option Value) (base : Heap) (k : Nat) (c : Str) (f : Fn) : Prop := ∃ (C fa : Addr) (fd : FuncData) (ps : List Str), mg c = some (.ref C) ∧ Cls K C ∧ Meth K C f.name fa ∧ Binds K fd ps [] ∧
  FnOk P w K mg base (L2.CX P w) k fa fd ps (spF K mg w f.run)
def GoodMk (P : Program) (w : World) (K : PySem.W.Frag) (mg : Str → Option Value) (base : Heap) (k : Nat) (c : Str) (f : Fn) : Prop := ∃ (C fa : Addr) (fd : FuncData) (ps : List Str), mg c = some (.ref C) ∧ Mk K C fa ∧ Binds K fd ps [] ∧
  FnOk P w K mg base (L2.CX P w) k fa fd ps (spF K mg w f.run)
theorem GoodAt.ok {X : Cx} {c x : Str} (h : GoodAt X.K X.mg c x) : OkAt X c x := h
theorem GoodMe.ok {X : Cx} {k j : Nat} {c : Str} {f : Fn} (h : GoodMe X.prog X.w X.K X.mg X.base k c f) (hr : Room j X.A) (hk : k ≤ j) : OkMe X c f := by
  obtain ⟨C, fa, fd, ps, h1, h2, h3, h4, h5⟩ := h
  exact ⟨C, k, fa, fd, ps, h1, h2, h3, h4, h5, hr.mono hk⟩
theorem GoodMk.ok {X : Cx} {k j : Nat} {c : Str} {f : Fn} (h : GoodMk X.prog X.w X.K X.mg X.base k c f) (hr : Room j X.A) (hk : k + 1 ≤ j) : OkMk X c f := by
  obtain ⟨C, fa, fd, ps, h1, h2, h3, h4⟩ := h
  exact ⟨C, k, fa, fd, ps, h1, h2, h3, h4, hr.mono hk⟩
theorem me_of {c m qual : Str} {params : Arguments} {body : List Stmt} {scope : Scope} {fd : FuncData} {N ps : List Str} {k : Nat} {ss : Ss} (FD : FunD K m qual params body scope [] [] (He.ma K (He.ga K c) m) fd) (S : FnScope N ps scope)
    (hm : mSs N scope ss body = true) (free : ∀ n ∈ freeNames, mg n = none) (mgc : mg c = some (.ref (He.ga K c))) (cl : Cls K (He.ga K c)) (me : Meth K (He.ga K c) m (He.ma K (He.ga K c) m))
    (hb : ∀ (kV doc pm : Value) (an : Option Addr) (cdv ct : Value) (us : List Value), us.length = ps.length → bindArgs (PySem.W.fnOf m qual params body scope .none kV doc pm an cdv ct) ⟨us, []⟩ = pure (ps.zip us))
    (hk : ∀ X : Cx, X.K = K → X.mg = mg → X.prog = P → X.w = w → X.base = base → Room k X.A → okSs (prX X) ss) :
    GoodMe P w K mg base (k + 1) c ⟨m, runB N.length ps.length ss⟩ :=
  ⟨_, _, fd, ps, mgc, cl, me, FD.bindsN hb, def_ok FD S hm free hk⟩
theorem mk_of {c m qual : Str} {params : Arguments} {body : List Stmt} {scope : Scope} {fd : FuncData} {N ps : List Str} {k : Nat} {ss : Ss} (FD : FunD K m qual params body scope [] [] (He.ma K (He.ga K c) m) fd) (S : FnScope N ps scope)
    (hm : mSs N scope ss body = true) (free : ∀ n ∈ freeNames, mg n = none) (mgc : mg c = some (.ref (He.ga K c))) (mk : Mk K (He.ga K c) (He.ma K (He.ga K c) m))
    (hb : ∀ (kV doc pm : Value) (an : Option Addr) (cdv ct : Value) (us : List Value), us.length = ps.length → bindArgs (PySem.W.fnOf m qual params body scope .none kV doc pm an cdv ct) ⟨us, []⟩ = pure (ps.zip us))
    (hk : ∀ X : Cx, X.K = K → X.mg = mg → X.prog = P → X.w = w → X.base = base → Room k X.A → okSs (prX X) ss) :
    GoodMk P w K mg base (k + 1) c ⟨m, runB N.length ps.length ss⟩ :=
  ⟨_, _, fd, ps, mgc, mk, FD.bindsN hb, def_ok FD S hm free hk⟩
section
variable {fa : List He.Fa} {fn : List He.DefD} {h : Heap}
theorem says_fact (c : He.SaysD fa fn K) {f : He.Fa} (hf : f ∈ fa) : f.ok K = true := by
  obtain ⟨i, hi⟩ := List.getElem?_of_mem hf
  exact c.fact i hi
theorem says_free (X : K.In h) (G : h.Ns mainGlobals mg) (c : He.SaysD fa fn K) {x : Str} (hf : He.Fa.free x ∈ fa) : mg x = none := He.free_ok X G (says_fact c hf)
theorem says_glo (X : K.In h) (G : h.Ns mainGlobals mg) (c : He.SaysD fa fn K) {x : Str} (hf : He.Fa.glo x ∈ fa) : mg x = some (.ref (He.ga K x)) := He.glo_ok X G (says_fact c hf)
theorem says_int (X : K.In h) (G : h.Ns mainGlobals mg) (c : He.SaysD fa fn K) {x : Str} {i : Int} (hf : He.Fa.int x i ∈ fa) : GoodGl K mg x (.int i) := by
  obtain ⟨t, e⟩ := He.int_ok X G (says_fact c hf)
  exact ⟨.int i, _, e, ⟨t, rfl⟩, fun _ _ => .int i⟩
theorem says_str (X : K.In h) (G : h.Ns mainGlobals mg) (c : He.SaysD fa fn K) {x z : Str} (hf : He.Fa.str x z ∈ fa) : GoodGl K mg x (.str z) := by
  obtain ⟨t, e⟩ := He.str_ok X G (says_fact c hf)
  exact ⟨.str z, _, e, ⟨t, rfl⟩, fun _ _ => .str z⟩
theorem says_cls (c : He.SaysD fa fn K) {x : Str} (hf : He.Fa.cls x ∈ fa) : Cls K (He.ga K x) := He.cls_ok (says_fact c hf)
theorem says_noat (c : He.SaysD fa fn K) {x f : Str} (hf : He.Fa.noat x f ∈ fa) : NoAttr K (He.ga K x) f := He.noat_ok (says_fact c hf)
theorem says_meth (c : He.SaysD fa fn K) {x m : Str} (hf : He.Fa.meth x m ∈ fa) : Meth K (He.ga K x) m (He.ma K (He.ga K x) m) := He.meth_ok (says_fact c hf)
theorem says_mkr (c : He.SaysD fa fn K) {x : Str} (hf : He.Fa.mkr x ∈ fa) : Mk K (He.ga K x) (He.ma K (He.ga K x) "__init__") := He.mkr_ok (says_fact c hf)
theorem says_at (X : K.In h) (G : h.Ns mainGlobals mg) (c : He.SaysD fa fn K) {x f : Str} (h1 : He.Fa.glo x ∈ fa) (h2 : He.Fa.cls x ∈ fa) (h3 : He.Fa.noat x f ∈ fa) : GoodAt K mg x f := ⟨_, says_glo X G c h1, says_cls c h2, says_noat c h3⟩
/-- THE LAW'S END -/
theorem law_end {l : PySem.W.OpenLaw} {n nn k : Nat} {q : Program} {loose : List Str} {XP : (Str → Option Value) → Heap → Prop} {d : DefRec} {f : Fn} {x : Str}
    (hn : l.most = some n) (hn2 : n ≤ sizeLine) (hdf : d.params.defaults = []) (hr : Room k callerA) (hd : d.name = f.name)
    (plain : ∀ ns : List Int, ns.length ≤ n → ∃ hp, f.run [.scr ns] [] = some (.av (.dat (.bool true)), hp))
    (facts : ∀ (w : World) (mg : Str → Option Value) (h : Heap) (K : PySem.W.Frag), K.In h → h.Ns mainGlobals mg → He.SaysD fa fn K →
      ∃ fd : FuncData, mg f.name = some (.ref (He.ga K f.name)) ∧ (∀ (s : Shared) (u : Value), BindsTo s fd ⟨[u], []⟩ [(x, u)]) ∧ ∀ base : Heap, K.In base → base.Ns mainGlobals mg → FnOk l.prog w K mg base CX0 k (He.ga K f.name) fd [x] (spF K mg w f.run)) :
    PySem.W.WalkO q loose XP (He.hookD nn fa fn).says l.row.toRowW d [] (fun f vs => PySem.call f vs) := by
  refine L2.walk_ofE (l := l) (n := n) (k := k) (x := x) (CX := L2.CX0) hn hn2 hdf hr ?F (fun _ _ _ _ z => z)
  intro w mg fa' h Y G hmg0
  obtain ⟨K, KX, c⟩ := Y
  obtain ⟨fd, e, hb, hF⟩ := facts w mg h K KX G c
  rw [hd] at hmg0
  rw [hmg0] at e
  cases e
  refine ⟨K, fd, spF K mg w f.run, KX, hb, fun H a ns hl hO hS => ?_, hF⟩
  obtain ⟨hp, e⟩ := plain ns hl
  have sc : ScrAt K H a ns := by
    rcases hS with (z | ⟨o, z⟩) | z
    · rcases hO a with y | ⟨_, _, y⟩ <;> (rw [z] at y; cases y)
    · exact .inl ⟨o, z⟩
    · exact .inr fun _ => .inr z
  refine ⟨⟨[], fun _ => False, fun _ => none⟩, [], [.scr ns], _, _, ⟨rfl, List.nodup_nil, fun j a o z _ => by simp at z, fun a z => by simp at z, fun a z => z.elim⟩, .cons (.scr sc) .nil, e, fun g' v H' R x z r => ?_⟩
  cases r with
  | av r => cases r with
    | dat r => cases r; rfl
end
end
end Sv

/-! Sv: constants of the module that are tuples of texts; the law's end for a law that asks for repr. -/
namespace Sv
open PySem PySem.Spec PyProof.Rows L2
/-! ### tuples of texts -/
def strB : Str → Value → Bool
  | z, .str y _ => decide (y = z)
  | _, _ => false
def strsB : List Str → List Value → Bool
  | [], [] => true
  | z :: zs, v :: vs => strB z v && strsB zs vs
  | _, _ => false
def tupB (K : PySem.W.Frag) (x : Str) (zs : List Str) : Bool := match PySem.W.nsIn K mainGlobals x with
  | some (some (.ref a)) => (match K.lookup a with
    | some ⟨.type c, _, .seq its _, _⟩ => decide (c = "tuple") && (decide (its.size ≤ sizeLine) && strsB zs its.toList)
    | _ => false)
  | _ => false
section
variable {P : Program} {w : World} {K : PySem.W.Frag} {mg mb : Str → Option Value} {base : Heap} {h : Heap}
theorem strsB_ok : ∀ {zs : List Str} {vs : List Value}, strsB zs vs = true → Vals (zs.map V.str) vs
  | [], [], _ => .nil
  | z :: zs, v :: vs, e => by
    obtain ⟨e1, e2⟩ := Bool.and_eq_true_iff.mp (show (strB z v && strsB zs vs) = true from e)
    refine .cons ?_ (strsB_ok e2)
    cases v <;> first | exact absurd (show false = true from e1) Bool.false_ne_true | skip
    rename_i y t
    obtain rfl : y = z := of_decide_eq_true e1
    exact ⟨t, rfl⟩
  | [], _ :: _, e => by cases e
  | _ :: _, [], e => by cases e
theorem dzs_strs {Z : Addr → Prop} {H : Hp} : ∀ zs : List Str, Dzs K Z H (zs.map V.str) (zs.map PyData.str)
  | [] => .nil
  | z :: zs => .cons (.str z) (dzs_strs zs)
theorem says_tup (X : K.In h) (G : h.Ns mainGlobals mg) {x : Str} {zs : List Str} (c : tupB K x zs = true) : GoodGl K mg x (.tuple (zs.map .str)) := by
  unfold tupB at c
  split at c
  · rename_i a e
    split at c
    · rename_i cc od its n sl lk
      obtain ⟨c1, c2⟩ := Bool.and_eq_true_iff.mp c
      obtain ⟨c3, c4⟩ := Bool.and_eq_true_iff.mp c2
      obtain rfl : cc = "tuple" := of_decide_eq_true c1
      exact ⟨.ref a, .ref a, PySem.W.mg_of X G e, rfl, fun Z H => .tup (.inr ⟨_, its, n, lk, rfl, rfl, of_decide_eq_true c3, strsB_ok c4⟩) (dzs_strs zs)⟩
    · cases c
  · cases c
end
/-! ### a def at fuel nought -/
section
variable {P : Program} {w : World} {K : PySem.W.Frag} {mg : Str → Option Value} {base : Heap}
theorem none_ok {CX : CXT} {k : Nat} {f : Addr} {fd : FuncData} {ps : List Str} : FnOk P w K mg base CX k f fd ps (spF K mg w (fun _ _ => none)) :=
  ⟨fun vs H Q E ⟨_, _, _, _, _, _, _, e, _⟩ => (nomatch e), fun A outer s H args us vs Q E _ _ _ _ ⟨_, _, _, _, _, _, _, e, _⟩ => (nomatch e)⟩
theorem good_zero {x : Str} {params : Arguments} {body : List Stmt} {scope : Scope} {fd : FuncData} {ps : List Str} {k : Nat} (FD : FunD K x x params body scope [] [] (He.ga K x) fd) (mgf : mg x = some (.ref (He.ga K x)))
    (hb : ∀ (kV doc pm : Value) (an : Option Addr) (cdv ct : Value) (us : List Value), us.length = ps.length → bindArgs (PySem.W.fnOf x x params body scope .none kV doc pm an cdv ct) ⟨us, []⟩ = pure (ps.zip us)) : Good P w K mg base k ⟨x, fun _ _ => none⟩ :=
  ⟨He.ga K x, fd, ps, mgf, FD.kp, FD.bindsN hb, none_ok⟩
theorem me_zero {c m qual : Str} {params : Arguments} {body : List Stmt} {scope : Scope} {fd : FuncData} {ps : List Str} {k : Nat} (FD : FunD K m qual params body scope [] [] (He.ma K (He.ga K c) m) fd) (mgc : mg c = some (.ref (He.ga K c))) (cl : Cls K (He.ga K c)) (me : Meth K (He.ga K c) m (He.ma K (He.ga K c) m))
    (hb : ∀ (kV doc pm : Value) (an : Option Addr) (cdv ct : Value) (us : List Value), us.length = ps.length → bindArgs (PySem.W.fnOf m qual params body scope .none kV doc pm an cdv ct) ⟨us, []⟩ = pure (ps.zip us)) : GoodMe P w K mg base k c ⟨m, fun _ _ => none⟩ :=
  ⟨_, _, fd, ps, mgc, cl, me, FD.bindsN hb, none_ok⟩
end
/-! ### the law's end -/
section
variable {fa : List He.Fa} {fn : List He.DefD} {ex : PySem.W.Frag → Bool}
/-- .. with further facts of the head -/
theorem law_endX {l : PySem.W.OpenLaw} {n nn k : Nat} {q : Program} {loose : List Str} {XP : (Str → Option Value) → Heap → Prop} {d : DefRec} {f : Fn} {x : Str}
    (hn : l.most = some n) (hn2 : n ≤ sizeLine) (hdf : d.params.defaults = []) (hr : Room k callerA) (hd : d.name = f.name)
    (plain : ∀ ns : List Int, ns.length ≤ n → ∃ hp, f.run [.scr ns] [] = some (.av (.dat (.bool true)), hp))
    (facts : ∀ (w : World) (mg : Str → Option Value) (h : Heap) (K : PySem.W.Frag), K.In h → h.Ns mainGlobals mg → He.SaysD fa fn K → ex K = true →
      ∃ fd : FuncData, mg f.name = some (.ref (He.ga K f.name)) ∧ (∀ (s : Shared) (u : Value), BindsTo s fd ⟨[u], []⟩ [(x, u)]) ∧ ∀ base : Heap, K.In base → base.Ns mainGlobals mg → FnOk l.prog w K mg base CX0 k (He.ga K f.name) fd [x] (spF K mg w f.run)) :
    PySem.W.WalkO q loose XP (He.hookX nn fa fn [] [] ex).says l.row.toRowW d [] (fun f vs => PySem.call f vs) := by
  refine L2.walk_ofE (l := l) (n := n) (k := k) (x := x) (CX := L2.CX0) hn hn2 hdf hr ?F (fun _ _ _ _ z => z)
  intro w mg fa' h Y G hmg0
  obtain ⟨K, KX, c⟩ := Y
  obtain ⟨fd, e, hb, hF⟩ := facts w mg h K KX G c.t.d c.more
  rw [hd] at hmg0
  rw [hmg0] at e
  cases e
  refine ⟨K, fd, spF K mg w f.run, KX, hb, fun H a ns hl hO hS => ?_, hF⟩
  obtain ⟨hp, e⟩ := plain ns hl
  have sc : ScrAt K H a ns := by
    rcases hS with (z | ⟨o, z⟩) | z
    · rcases hO a with y | ⟨_, _, y⟩ <;> (rw [z] at y; cases y)
    · exact .inl ⟨o, z⟩
    · exact .inr fun _ => .inr z
  refine ⟨⟨[], fun _ => False, fun _ => none⟩, [], [.scr ns], _, _, ⟨rfl, List.nodup_nil, fun j a o z _ => by simp at z, fun a z => by simp at z, fun a z => z.elim⟩, .cons (.scr sc) .nil, e, fun g' v H' R x z r => ?_⟩
  cases r with
  | av r => cases r with
    | dat r => cases r; rfl
end
/-! ### a law that asks for repr: at the caller's own place -/
/-- the promise of the law's def where it is called -/
def LawAt (P : Program) (w : World) (K : PySem.W.Frag) (mg : Str → Option Value) (base : Heap) (f : Addr) (sp : Sp) : Prop :=
  ∀ (s : Shared) (H : Hp) (u : Value) (v : V) (Q : VK), Env0 P w K mg base callerA [] s H → RelV v u → sp [v] H Q (fun _ _ _ => False) → codeAny (model P w) callerA (.call (.ref f) ⟨[u], []⟩) (CR CX0 [] P w H s Q (fun _ _ _ => False)) s
section
variable {P : Program} {w : World} {K : PySem.W.Frag} {mg mb : Str → Option Value} {base : Heap}
theorem deeper_gd (env : Env) : (callerA.deeper env).guards = some [] := rfl
/-- the law's def at the caller's place -/
theorem def_law {x qual : Str} {params : Arguments} {body : List Stmt} {scope : Scope} {f : Addr} {fd : FuncData} {N : List Str} {p : Str} {k : Nat} {ss : Ss} (FD : FunD K x qual params body scope [] [] f fd) (S : FnScope N [p] scope)
    (hm : mSs N scope ss body = true) (free : ∀ n ∈ freeNames, mg n = none) (hr : Room (k + 1) callerA) (hb : ∀ (s : Shared) (u : Value), BindsTo s fd ⟨[u], []⟩ [(p, u)])
    (hk : ∀ X : Cx, X.K = K → X.mg = mg → X.prog = P → X.w = w → X.base = base → Room k X.A → X.A.guards = some [] → okSs (prX X) ss) :
    LawAt P w K mg base f (spF K mg w (runB N.length 1 ss)) := by
  intro s H u v Q e0 rvu ⟨g, hp, args, rv, hp', R, r, e, kk⟩
  obtain ⟨oc, od, dV, kV, doc, pm, an, cdv, ct, osl, rfl, lk, hcd, _, _⟩ := FD.ex
  have KX : K.In s.heap := e0.mod.kin.keeps fun b o e => (e0.bs b o e).1
  have lim : s.heap.NoLimit := e0.mod.nolimit.keeps fun b o e => (e0.bs b o e).1
  have hkind : ∀ y ∈ [p].zip [u], scope.names.lookup y.1 = some .local ∨ (scope.names.lookup y.1 = some .cell ∧ ((cellsFrom (s.heap.objs.size + 1) scope.names []).lookup y.1).isSome = true) := fun ⟨n, v⟩ hy => by
    rcases S.par n (List.of_mem_zip hy).1 with q | q
    · exact .inl q
    · exact .inr ⟨q, PySem.W.cellsFrom_some _ _ _ (.inl q)⟩
  refine codeAny_call_function hr.depth (KX _ _ lk) rfl S.co S.gen rfl (PySem.W.codeRec_of KX hcd) (hb _ _ _ _ _ _ ?_)
  refine wpAny_newFunctionEnv_cells S.kind hkind fun env he s1 x => ?_
  subst he
  refine ⟨lim.keeps x.toInCall.keep, codeAny_func ?_⟩
  have I : Inv (cxOf CX0 P w K mg base N qual scope f cdv callerA [] s H (fun _ _ _ => False)) [] (start N [v]) H s1 := inv_start S hr.hd e0 rfl (.cons rvu .nil) x
  unfold runB at e
  split at e
  · rename_i c
    have okk := hk (cxOf CX0 P w K mg base N qual scope f cdv callerA [] s H (fun _ _ _ => False)).nox rfl rfl rfl rfl rfl (hr.deeper _) (deeper_gd _)
    have P1 : PSs (cxOf CX0 P w K mg base N qual scope f cdv callerA [] s H (fun _ _ _ => False)) body (tX K mg w ⟨g.io, g.Z, H⟩ (fun _ _ _ _ => False) (exs ss)) := by
      refine PSs.nox ?_
      refine sSs (X := (cxOf CX0 P w K mg base N qual scope f cdv callerA [] s H (fun _ _ _ => False)).nox) (F := ⟨g.io, g.Z, H⟩) ⟨⟨rfl, S.nd, ?_, free⟩, S.kind, ?_, ?_⟩ ss okk hm
      · exact (hr.deeper _).mono (Nat.zero_le _)
      · intro y hy
        refine ⟨?_, .inl rfl⟩
        unfold isLoc at hy
        simp only [Bool.or_eq_true, decide_eq_true_eq] at hy
        exact hy
      · exact PassesOwn.never
    have R0 := rel_start R r N rfl
    rw [c] at R0
    have fin : ∀ {ms2 : MS} {g2 : G} {σ2 : L2.St} {H2 : Hp}, Rel K mg w ⟨g.io, g.Z, H⟩ g2 ms2 σ2 H2 → Ext0 g H g2 H2 ∧ ∀ a, g2.Z a → g.Z a ∨ H a = none := fun R2 => fra_ext rfl R2.fr
    have hq : tX K mg w ⟨g.io, g.Z, H⟩ (fun _ _ _ _ => False) (exs ss) { nx := fun _ H' => Q .non H', rt := Q } (start N [v]) H := by
      split at e
      · rename_i ms2 e2
        cases e
        refine ⟨_, _, _, _, R0, e2, fun g2 σ2 H2 R2 x2 => ?_⟩
        obtain ⟨y1, y2⟩ := fin R2
        exact kk g2 .non H2 R2.hr y1 y2 (.av (.dat .non))
      · rename_i v ms2 e2
        cases e
        refine ⟨_, _, _, _, R0, e2, fun g2 σ2 H2 R2 x2 u r2 => ?_⟩
        obtain ⟨y1, y2⟩ := fin R2
        refine kk g2 u H2 R2.hr y1 y2 ?_
        cases r2 with
        | av r2 => exact .av r2
        | lst h1 h2 h3 h4 h5 h6 => exact .lst h5 h1 h2 h3 h4
      · cases e
    refine wpAny_mono (P1.run [] s1 (start N [v]) H _ I hq) (fun fl s' hs => ?_) fun e s' hs => hs
    cases fl with
    | ret u =>
      obtain ⟨v, σ', H', J, rv, q⟩ := hs
      exact ⟨v, H', J.os, J.bare, J.base, J.hok, rv, q⟩
    | next =>
      obtain ⟨σ', H', J, q⟩ := hs
      exact ⟨.non, H', J.os, J.bare, J.base, J.hok, rfl, q⟩
    | brk =>
      obtain ⟨_, _, _, q⟩ := hs
      exact False.elim q
    | cont =>
      obtain ⟨_, _, _, q⟩ := hs
      exact False.elim q
  · cases e
/-- the script, behind the top -/
theorem law_at {fa a : Addr} {sp : Sp} {s₁ : Shared} {vs : List Value} {ns : List Int}
    (KX : K.In s₁.heap) (hns : s₁.heap.Ns mainGlobals mg) (hb : s₁.heap.Ns builtinsNs mb) (hbb : ∀ x : Str, x ≠ "__name__" → mb x = bootBuiltins x) (hlim : s₁.heap.NoLimit) (hg : s₁.gens = #[])
    (ha : s₁.heap.get? a = some { cls := .type "list", data := .seq vs.toArray }) (hi : IntsAre vs ns) (hl : ns.length ≤ sizeLine)
    (F : ∀ base : Heap, K.In base → base.Ns mainGlobals mg → LawAt P w K mg base fa sp)
    (hsp : ∀ H : Hp, Only H → SqL K H a (ns.map V.int) → sp [.ref a] H (fun v _ => v = .bl true) fun _ _ _ => False) :
    codeAny (model P w) callerA (.call (.ref fa) ⟨[.ref a], []⟩) (fun r s' => r = .ok (.ret (.bool true)) ∧ OldK s₁.heap s'.heap ∧ s'.os = s₁.os ∧ AllBare s'.gens) s₁ := by
  -- the heap's abstraction: nothing, or the script alone
  have core : ∀ H : Hp, Only H → SqL K H a (ns.map V.int) → HOk P w H s₁.heap → (∀ b, H b ≠ none → b = a) → (H a ≠ none → K.lookup a = none) →
      codeAny (model P w) callerA (.call (.ref fa) ⟨[.ref a], []⟩) (fun r s' => r = .ok (.ret (.bool true)) ∧ OldK s₁.heap s'.heap ∧ s'.os = s₁.os ∧ AllBare s'.gens) s₁ := by
    intro H hO hS hok hA hK
    have isA : ∀ {b : Addr} {u : HO}, H b = some u → b = a := fun {b u} q => hA b (by rw [q]; simp)
    have nsK : ∀ {b : Addr} {m : Str → Option Value}, s₁.heap.Ns b m → (hidT s₁.heap H).Ns b m := fun {b m} ⟨o, es, ep, e, d, r⟩ => ⟨o, es, ep, hidT_get e (by
      cases q : H b with
      | none => rfl
      | some u =>
        obtain rfl := isA q
        rw [ha] at e
        cases e
        cases (show Data.seq vs.toArray _ = Data.dict es ep from d)), d, r⟩
    have hKb : K.In (hidT s₁.heap H) := fun b o e => hidT_get (KX b o e) (by
      cases q : H b with
      | none => rfl
      | some u =>
        obtain rfl := isA q
        rw [hK (by rw [q]; simp)] at e
        cases e)
    have hM : Mod K mg (hidT s₁.heap H) := ⟨hKb, nsK hns, ⟨mb, nsK hb, hbb⟩, let ⟨mc, h1, h2⟩ := hlim; ⟨mc, nsK h1, h2⟩⟩
    have e0 : Env0 P w K mg (hidT s₁.heap H) callerA [] s₁ H := ⟨rfl, hM, fun b o e => of_hidT e, Nat.le_of_eq (hidT_size _ _), trivial, fun b hb => absurd (show b ∈ ([] : List Addr) from hb) (by simp), hok, .of_eq hg⟩
    refine codeAny_mono (F _ hKb (nsK hns) s₁ H (.ref a) (.ref a) _ e0 rfl (hsp H hO hS)) fun r s' h => ?_
    cases r with
    | error e => exact False.elim h
    | ok fl =>
      cases fl with
      | next => exact False.elim h
      | brk => exact False.elim h
      | cont => exact False.elim h
      | ret u =>
        obtain ⟨v, H', os, bare, un, hok', r', q⟩ := h
        obtain rfl : v = .bl true := q
        obtain rfl : u = Value.bool true := r'
        refine ⟨rfl, OldK.of_keep fun b o e => ?_, os, bare⟩
        cases q : H b with
        | none => exact un.keep b o e q (fun z => absurd (show b ∈ ([] : List Addr) from z) (by simp)) (by simp)
        | some u =>
          rcases hO b with z | ⟨ob, xs, z⟩
          · rw [q] at z; cases z
          · obtain ⟨e1, _⟩ := hok b _ z
            obtain ⟨e2, _⟩ := hok' b _ (un.frzs b ob _ z)
            rw [e] at e1
            cases e1
            exact e2
  have rv := vals_ints hi
  cases hk : K.lookup a with
  | some o =>
    have e := KX a o hk
    rw [ha] at e
    cases e
    exact core (fun _ => none) (fun _ => .inl rfl) (.inr ⟨_, vs.toArray, _, hk, rfl, rfl, rfl, by rw [List.size_toArray, hi.length]; exact hl, by simpa using rv⟩) (fun b u z => nomatch (show (none : Option HO) = some u from z)) (fun b z => absurd rfl z) fun z => absurd rfl z
  | none =>
    have hit : ∀ {b : Addr}, b = a → (if b = a then some (HO.frz { cls := .type "list", data := .seq vs.toArray } (.lst (ns.map V.int))) else none) = some (HO.frz { cls := .type "list", data := .seq vs.toArray } (.lst (ns.map V.int))) := fun e => if_pos e
    refine core (fun b => if b = a then some (.frz { cls := .type "list", data := .seq vs.toArray } (.lst (ns.map V.int))) else none) (fun b => ?_) (.inl (.inr ⟨_, if_pos rfl⟩)) (fun b u z => ?_) (fun b z => ?_) fun _ => hk
    · by_cases hb : b = a
      · exact .inr ⟨_, _, if_pos hb⟩
      · exact .inl (if_neg hb)
    · by_cases hb : b = a
      · cases (if_pos hb).symm.trans z
        subst hb
        exact ⟨ha, by rw [List.length_map]; exact hl, vs, _, rv, ha⟩
      · cases (if_neg hb).symm.trans z
    · by_cases hb : b = a
      · exact hb
      · exact absurd (if_neg hb) z
end
section
variable {fa : List He.Fa} {fn : List He.DefD} {ex : PySem.W.Frag → Bool}
/-- THE LAW'S END, at the caller's own place -/
theorem law_endG {l : PySem.W.OpenLaw} {n nn : Nat} {q : Program} {loose : List Str} {XP : (Str → Option Value) → Heap → Prop} {d : DefRec} {f : Fn} {x : Str}
    (hn : l.most = some n) (hn2 : n ≤ sizeLine) (hdf : d.params.defaults = []) (hd : d.name = f.name)
    (plain : ∀ ns : List Int, ns.length ≤ n → ∃ hp, f.run [.scr ns] [] = some (.av (.dat (.bool true)), hp))
    (facts : ∀ (w : World) (mg : Str → Option Value) (h : Heap) (K : PySem.W.Frag), K.In h → h.Ns mainGlobals mg → He.SaysD fa fn K → ex K = true →
      mg f.name = some (.ref (He.ga K f.name)) ∧ ∀ base : Heap, K.In base → base.Ns mainGlobals mg → LawAt l.prog w K mg base (He.ga K f.name) (spF K mg w f.run)) :
    PySem.W.WalkO q loose XP (He.hookX nn fa fn [] [] ex).says l.row.toRowW d [] (fun f vs => PySem.call f vs) := by
  refine Att.attach_call hn hdf fun w s₀ s₁ mg mb fa' o pm cd doc a vs ns G Y ho hdd hcd hmg hobj hints hlen hg => ?_
  obtain ⟨K, KX, c⟩ := Y
  obtain ⟨e, hF⟩ := facts w mg _ K KX G.T.g c.t.d c.more
  rw [hd] at hmg
  rw [hmg] at e
  cases e
  refine law_at KX G.T.g G.T.b G.T.builtins G.T.nolimit hg hobj hints (Nat.le_trans hlen hn2) hF fun H hO hS => ?_
  obtain ⟨hp, e⟩ := plain ns hlen
  have sc : ScrAt K H a ns := by
    rcases hS with (z | ⟨o, z⟩) | z
    · rcases hO a with y | ⟨_, _, y⟩ <;> (rw [z] at y; cases y)
    · exact .inl ⟨o, z⟩
    · exact .inr fun _ => .inr z
  refine ⟨⟨[], fun _ => False, fun _ => none⟩, [], [.scr ns], _, _, ⟨rfl, List.nodup_nil, fun j a o z _ => by simp at z, fun a z => by simp at z, fun a z => z.elim⟩, .cons (.scr sc) .nil, e, fun g' v H' R x z r => ?_⟩
  cases r with
  | av r => cases r with
    | dat r => cases r; rfl
end
end Sv

/-! Sv: the interpreter's equations for simp (printed by gen_ev.py off SvCore). -/
namespace Sv
open PySem
@[simp] theorem eve_0 (bb : Bool) (d : PyData) (ms : MS) : ev bb (.lit d) ms = some (.av (.dat d), ms) := by first | rfl | (rw [ev]; done) | (rw [ev]; rfl)
@[simp] theorem eve_1 (bb : Bool) (u0 : Str) (d : PyData) (ms : MS) : ev bb (.glob u0 d) ms = some (.av (.dat d), ms) := by first | rfl | (rw [ev]; done) | (rw [ev]; rfl)
@[simp] theorem eve_2 (b : Bool) (i : Nat) (ms : MS) : ev b (.var i) ms = match ms.rho[i]? with
    | some (.av v) => some (.av v, ms)
    | some (.own xs) => if b then some (.lst xs, ms) else some (.av (.dat (.list xs)), { ms with rho := ms.rho.set i (.av (.dat (.list xs))) })
    | _ => none := by first | rfl | (rw [ev]; done) | (rw [ev]; rfl)
@[simp] theorem eve_3 (bb : Bool) (es : Es) (ms : MS) : ev bb (.tup es) ms = match evs es ms with
    | some (vs, ms1) => (match allD vs with
      | some ds => if ds.length ≤ LINE then some (.av (.dat (.tuple ds)), ms1) else none
      | none => none)
    | none => none := by first | rfl | (rw [ev]; done) | (rw [ev]; rfl)
@[simp] theorem eve_4 (bb : Bool) (es : Es) (ms : MS) : ev bb (.lst es) ms = match evs es ms with
    | some (vs, ms1) => (match allD vs with
      | some ds => if ds.length ≤ LINE then some (.lst ds, ms1) else none
      | none => none)
    | none => none := by first | rfl | (rw [ev]; done) | (rw [ev]; rfl)
@[simp] theorem eve_5 (bb : Bool) (op : BinO) (a : E) (b : E) (ms : MS) : ev bb (.bin op a b) ms = match ev true a ms with
    | some (x, ms1) => (match ev true b ms1 with
      | some (y, ms2) => (binV op x y).map fun z => (z, ms2)
      | none => none)
    | none => none := by first | rfl | (rw [ev]; done) | (rw [ev]; rfl)
@[simp] theorem eve_6 (bb : Bool) (op : CmpO) (a : E) (b : E) (ms : MS) : ev bb (.cmp op a b) ms = match ev true a ms with
    | some (x, ms1) => (match ev true b ms1 with
      | some (y, ms2) => (cmpV op x y).map fun z => (blV z, ms2)
      | none => none)
    | none => none := by first | rfl | (rw [ev]; done) | (rw [ev]; rfl)
@[simp] theorem eve_7 (bb : Bool) (neg : Bool) (a : E) (b : E) (ms : MS) : ev bb (.isin neg a b) ms = match ev true a ms with
    | some (x, ms1) => (match ev true b ms1 with
      | some (y, ms2) => (inV x y).map fun z => (blV (if neg then !z else z), ms2)
      | none => none)
    | none => none := by first | rfl | (rw [ev]; done) | (rw [ev]; rfl)
@[simp] theorem eve_8 (bb : Bool) (neg : Bool) (a : E) (n : E) (ms : MS) : ev bb (.inrange neg a n) ms = match ev true a ms with
    | some (.av (.dat (.int i)), ms1) => (match ev true n ms1 with
      | some (.av (.dat (.int k)), ms2) => if 0 ≤ k ∧ smB 4611686018427387903 k = true then some (blV (if neg then !decide (0 ≤ i ∧ i < k) else decide (0 ≤ i ∧ i < k)), ms2) else none
      | _ => none)
    | _ => none := by first | rfl | (rw [ev]; done) | (rw [ev]; rfl)
@[simp] theorem eve_9 (bb : Bool) (neg : Bool) (a : E) (ms : MS) : ev bb (.isnone neg a) ms = match ev true a ms with
    | some (.av (.dat .none), ms1) => some (blV (!neg), ms1)
    | some (.av (.dat _), ms1) => some (blV neg, ms1)
    | some (.lst _, ms1) => some (blV neg, ms1)
    | _ => none := by first | rfl | (rw [ev]; done) | (rw [ev]; rfl)
@[simp] theorem eve_10 (bb : Bool) (a : E) (b : E) (ms : MS) : ev bb (.and a b) ms = match ev true a ms with
    | some (.av (.dat (.bool c)), ms1) => if c then (match ev true b ms1 with
      | some (.av (.dat (.bool d)), ms2) => some (blV d, ms2)
      | _ => none) else some (blV false, ms1)
    | _ => none := by first | rfl | (rw [ev]; done) | (rw [ev]; rfl)
@[simp] theorem eve_11 (bb : Bool) (a : E) (b : E) (ms : MS) : ev bb (.or a b) ms = match ev true a ms with
    | some (.av (.dat (.bool c)), ms1) => if c then some (blV true, ms1) else (match ev true b ms1 with
      | some (.av (.dat (.bool d)), ms2) => some (blV d, ms2)
      | _ => none)
    | _ => none := by first | rfl | (rw [ev]; done) | (rw [ev]; rfl)
@[simp] theorem eve_12 (bb : Bool) (a : E) (ms : MS) : ev bb (.not a) ms = match ev true a ms with
    | some (.av (.dat (.bool c)), ms1) => some (blV (!c), ms1)
    | _ => none := by first | rfl | (rw [ev]; done) | (rw [ev]; rfl)
@[simp] theorem eve_13 (b : Bool) (c : E) (x : E) (y : E) (ms : MS) : ev b (.ife c x y) ms = match ev true c ms with
    | some (.av (.dat (.bool k)), ms1) => if k then ev b x ms1 else ev b y ms1
    | _ => none := by first | rfl | (rw [ev]; done) | (rw [ev]; rfl)
@[simp] theorem eve_14 (bb : Bool) (a : E) (i : E) (ms : MS) : ev bb (.sub a i) ms = match ev true a ms with
    | some (x, ms1) => (match ev true i ms1 with
      | some (y, ms2) => (subV ms2.hp x y).map fun z => (.av z, ms2)
      | none => none)
    | none => none := by first | rfl | (rw [ev]; done) | (rw [ev]; rfl)
@[simp] theorem eve_15 (bb : Bool) (a : E) (lo : Es) (hi : Es) (ms : MS) : ev bb (.slice a lo hi) ms = match ev true a ms with
    | some (x, ms1) => (match evP lo ms1 with
      | some (l, ms2) => (match evP hi ms2 with
        | some (h, ms3) => (sliceV x l h).map fun z => (z, ms3)
        | none => none)
      | none => none)
    | none => none := by first | rfl | (rw [ev]; done) | (rw [ev]; rfl)
@[simp] theorem eve_16 (bb : Bool) (f : B1) (a : E) (ms : MS) : ev bb (.b1 f a) ms = match ev true a ms with
    | some (x, ms1) => (b1V ms1.hp f x).map fun z => (z, ms1)
    | none => none := by first | rfl | (rw [ev]; done) | (rw [ev]; rfl)
@[simp] theorem eve_17 (bb : Bool) (a : E) (t : Str) (ms : MS) : ev bb (.isi a t) ms = match ev true a ms with
    | some (x, ms1) => (isiV x t).map fun z => (blV z, ms1)
    | none => none := by first | rfl | (rw [ev]; done) | (rw [ev]; rfl)
@[simp] theorem eve_18 (bb : Bool) (f : Fn) (es : Es) (ms : MS) : ev bb (.call f es) ms = match evs es ms with
    | some (vs, ms1) => (match f.run vs ms1.hp with
      | some (v, hp) => some (v, { ms1 with hp := hp })
      | none => none)
    | none => none := by first | rfl | (rw [ev]; done) | (rw [ev]; rfl)
@[simp] theorem eve_19 (bb : Bool) (f : Fn) (es : Es) (ms : MS) : ev bb (.callP f es) ms = match evs es ms with
    | some (vs, ms1) => (match allD vs with
      | some _ => (match f.run vs [] with
        | some (.av (.dat d), _) => some (.av (.dat d), ms1)
        | some (.lst xs, _) => some (.lst xs, ms1)
        | _ => none)
      | none => none)
    | none => none := by first | rfl | (rw [ev]; done) | (rw [ev]; rfl)
@[simp] theorem eve_20 (bb : Bool) (f : Fn) (es : Es) (ms : MS) : ev bb (.callB f es) ms = match evB es ms with
    | some (vs, ms1) => (match allD vs with
      | some _ => (match f.run vs [] with
        | some (.av (.dat d), _) => if noL d then some (.av (.dat d), ms1) else none
        | some (.lst xs, _) => if noLs xs then some (.lst xs, ms1) else none
        | _ => none)
      | none => none)
    | none => none := by first | rfl | (rw [ev]; done) | (rw [ev]; rfl)
@[simp] theorem eve_21 (bb : Bool) (e : E) (ms : MS) : ev bb (.alloc e) ms = match ev false e ms with
    | some (.lst xs, ms1) => some (.av (.ref ms1.hp.length), { ms1 with hp := ms1.hp ++ [.lst (xs.map .dat)] })
    | _ => none := by first | rfl | (rw [ev]; done) | (rw [ev]; rfl)
@[simp] theorem eve_22 (bb : Bool) (es : Es) (ms : MS) : ev bb (.allocL es) ms = match evs es ms with
    | some (vs, ms1) => if vs.length ≤ LINE then some (.av (.ref ms1.hp.length), { ms1 with hp := ms1.hp ++ [.lst vs] }) else none
    | none => none := by first | rfl | (rw [ev]; done) | (rw [ev]; rfl)
@[simp] theorem eve_23 (bb : Bool) (elt : E) (tg : List Nat) (it : I) (cond : Es) (ms : MS) : ev bb (.comp elt tg it cond) ms = match evI it ms with
    | some (xs, ms1) => if plainAt tg ms1.rho then
        (match compX tg (evC cond) (ev false elt) xs { ms1 with rho := wipeR tg ms1.rho } with
        | some (acc, ms2) => some (.lst acc, { ms2 with rho := back tg ms1.rho ms2.rho })
        | none => none)
      else none
    | none => none := by first | rfl | (rw [ev]; done) | (rw [ev]; rfl)
@[simp] theorem eve_24 (bb : Bool) (c : Str) (a : E) (f : Str) (ms : MS) : ev bb (.attr c a f) ms = match ev true a ms with
    | some (.av (.ref r), ms1) => (match ms1.hp[r]? with
      | some (.ins c' fs) => if c' = c then (match fs.lookup f with
        | some v => some (.av v, ms1)
        | none => none) else none
      | _ => none)
    | _ => none := by first | rfl | (rw [ev]; done) | (rw [ev]; rfl)
@[simp] theorem eve_25 (bb : Bool) (c : Str) (f : Fn) (a : E) (es : Es) (ms : MS) : ev bb (.meth c f a es) ms = match ev true a ms with
    | some (.av (.ref r), ms1) => (match ms1.hp[r]? with
      | some (.ins c' fs) => if c' = c ∧ fs.lookup f.name = none then (match evs es ms1 with
        | some (vs, ms2) => (match f.run (.ref r :: vs) ms2.hp with
          | some (v, hp) => some (v, { ms2 with hp := hp })
          | none => none)
        | none => none) else none
      | _ => none)
    | _ => none := by first | rfl | (rw [ev]; done) | (rw [ev]; rfl)
@[simp] theorem eve_26 (bb : Bool) (c : Str) (f : Fn) (es : Es) (ms : MS) : ev bb (.new c f es) ms = match evs es ms with
    | some (vs, ms1) => (match f.run (.ref ms1.hp.length :: vs) (ms1.hp ++ [.ins c []]) with
      | some (.av (.dat .none), hp) => some (.av (.ref ms1.hp.length), { ms1 with hp := hp })
      | _ => none)
    | none => none := by first | rfl | (rw [ev]; done) | (rw [ev]; rfl)
@[simp] theorem eve_27 (bb : Bool) (a : E) (ms : MS) : ev bb (.str1 a) ms = match ev true a ms with
    | some (x, ms1) => (strV x).map fun z => (z, ms1)
    | none => none := by first | rfl | (rw [ev]; done) | (rw [ev]; rfl)
@[simp] theorem eve_28 (bb : Bool) (st : Bool) (a : E) (ms : MS) : ev bb (.srt st a) ms = match ev true a ms with
    | some (x, ms1) => (srtV st x).map fun z => (z, ms1)
    | none => none := by first | rfl | (rw [ev]; done) | (rw [ev]; rfl)
@[simp] theorem eve_29 (bb : Bool) (s : Str) (a : E) (ms : MS) : ev bb (.join s a) ms = match ev true a ms with
    | some (x, ms1) => (joinV s x).map fun z => (z, ms1)
    | none => none := by first | rfl | (rw [ev]; done) | (rw [ev]; rfl)
@[simp] theorem eve_30 (bb : Bool) (op : CmpO) (a : E) (b : E) (ms : MS) : ev bb (.cmpH op a b) ms = match ev true a ms with
    | some (x, ms1) => (match ev true b ms1 with
      | some (y, ms2) => (cmpHV op ms2.hp x y).map fun z => (blV z, ms2)
      | none => none)
    | none => none := by first | rfl | (rw [ev]; done) | (rw [ev]; rfl)
@[simp] theorem eve_31 (bb : Bool) (f : B1) (a : E) (ms : MS) : ev bb (.b1H f a) ms = match ev true a ms with
    | some (x, ms1) => (b1HV f ms1.hp x).map fun z => (z, ms1)
    | none => none := by first | rfl | (rw [ev]; done) | (rw [ev]; rfl)
@[simp] theorem eve_32 (bb : Bool) (o1 : CmpO) (o2 : CmpO) (a : E) (b : E) (c : E) (ms : MS) : ev bb (.chain o1 o2 a b c) ms = match ev true a ms with
    | some (.av (.dat (.int i)), ms1) => (match ev true b ms1 with
      | some (.av (.dat (.int j)), ms2) => if cmpI o1 i j then (match ev true c ms2 with
        | some (.av (.dat (.int k)), ms3) => some (blV (cmpI o2 j k), ms3)
        | _ => none) else some (blV false, ms2)
      | _ => none)
    | _ => none := by first | rfl | (rw [ev]; done) | (rw [ev]; rfl)
@[simp] theorem eve_33 (bb : Bool) (mn : Bool) (a : E) (b : E) (ms : MS) : ev bb (.mx mn a b) ms = match ev true a ms with
    | some (.av (.dat (.int i)), ms1) => (match ev true b ms1 with
      | some (.av (.dat (.int j)), ms2) => some (intV (mxI mn i j), ms2)
      | _ => none)
    | _ => none := by first | rfl | (rw [ev]; done) | (rw [ev]; rfl)
@[simp] theorem eve_34 (bb : Bool) (mn : Bool) (a : E) (ms : MS) : ev bb (.mxL mn a) ms = match ev true a ms with
    | some (x, ms1) => (match x.d? with
      | some (.list xs) => (match intsD xs with
        | some (n :: ns) => some (intV (mxIs mn (n :: ns)), ms1)
        | _ => none)
      | _ => none)
    | none => none := by first | rfl | (rw [ev]; done) | (rw [ev]; rfl)
@[simp] theorem eve_35 (bb : Bool) (a : E) (d : E) (ms : MS) : ev bb (.mxD a d) ms = match ev true a ms with
    | some (x, ms1) => (match x.d? with
      | some (.list xs) => (match intsD xs with
        | some ns => (match ev true d ms1 with
          | some (.av (.dat (.int i)), ms2) => some (intV (if ns.isEmpty then i else mxIs false ns), ms2)
          | _ => none)
        | none => none)
      | _ => none)
    | none => none := by first | rfl | (rw [ev]; done) | (rw [ev]; rfl)
@[simp] theorem eve_36 (bb : Bool) (neg : Bool) (v : Bool) (a : E) (ms : MS) : ev bb (.isb neg v a) ms = match ev true a ms with
    | some (.av (.dat (.bool b)), ms1) => some (blV (if neg then !(b == v) else (b == v)), ms1)
    | _ => none := by first | rfl | (rw [ev]; done) | (rw [ev]; rfl)
@[simp] theorem eve_37 (bb : Bool) (a : E) (k : E) (ms : MS) : ev bb (.dget a k) ms = match ev true a ms with
    | some (x, ms1) => (match ev true k ms1 with
      | some (y, ms2) => (dgetV ms2.hp x y).map fun z => (.av z, ms2)
      | none => none)
    | none => none := by first | rfl | (rw [ev]; done) | (rw [ev]; rfl)
@[simp] theorem eve_38 (bb : Bool) (ks : List Str) (es : Es) (ms : MS) : ev bb (.fdict ks es) ms = match evs es ms with
    | some (vs, ms1) => (match zipD ks vs with
      | some kvs => if kvs.length ≤ 15 ∧ ks.Nodup then some (.av (.fd kvs), ms1) else none
      | none => none)
    | none => none := by first | rfl | (rw [ev]; done) | (rw [ev]; rfl)
@[simp] theorem eve_39 (bb : Bool) (a : E) (ms : MS) : ev bb (.fdcopy a) ms = match ev true a ms with
    | some (.av (.fd kvs), ms1) => some (.av (.fd kvs), ms1)
    | _ => none := by first | rfl | (rw [ev]; done) | (rw [ev]; rfl)
@[simp] theorem eve_40 (bb : Bool) (ks : List Str) (es : Es) (ms : MS) : ev bb (.adict ks es) ms = match evs es ms with
    | some (vs, ms1) => if ks.length = vs.length ∧ ks.length ≤ 15 ∧ ks.Nodup then some (.av (.ref ms1.hp.length), { ms1 with hp := ms1.hp ++ [.dct (ks.zip vs)] }) else none
    | none => none := by first | rfl | (rw [ev]; done) | (rw [ev]; rfl)
@[simp] theorem eve_41 (bb : Bool) (es : Es) (ms : MS) : ev bb (.tupR es) ms = match evs es ms with
    | some (vs, ms1) => (match allA0 vs with
      | some xs => if xs.length ≤ LINE then some (.av (.tup xs), ms1) else none
      | none => none)
    | none => none := by first | rfl | (rw [ev]; done) | (rw [ev]; rfl)
@[simp] theorem eve_42 (bb : Bool) (a : E) (i : E) (ms : MS) : ev bb (.subT a i) ms = match ev true a ms with
    | some (.av (.tup xs), ms1) => (match ev true i ms1 with
      | some (.av (.dat (.int k)), ms2) => (atD xs k).map fun z => (.av z.av, ms2)
      | _ => none)
    | _ => none := by first | rfl | (rw [ev]; done) | (rw [ev]; rfl)
@[simp] theorem eve_43 (bb : Bool) (ms : MS) : ev bb (.kd0) ms = some (.av (.ref ms.hp.length), { ms with hp := ms.hp ++ [.kd []] }) := by first | rfl | (rw [ev]; done) | (rw [ev]; rfl)
@[simp] theorem eve_44 (bb : Bool) (k : E) (v : E) (ms : MS) : ev bb (.kd1 k v) ms = match ev true k ms with
    | some (.av (.dat x), ms1) => (match ev true v ms1 with
      | some (.av (.dat y), ms2) => if kOk x then some (.av (.ref ms2.hp.length), { ms2 with hp := ms2.hp ++ [.kd [(x, .dat y)]] }) else none
      | _ => none)
    | _ => none := by first | rfl | (rw [ev]; done) | (rw [ev]; rfl)
@[simp] theorem eve_45 (bb : Bool) (neg : Bool) (k : E) (d : E) (ms : MS) : ev bb (.kin neg k d) ms = match ev true k ms with
    | some (.av (.dat x), ms1) => (match ev true d ms1 with
      | some (.av (.ref j), ms2) => (match ms2.hp[j]? with
        | some (.kd kvs) => if kOk x then some (blV (if neg then !(kfind kvs x).isSome else (kfind kvs x).isSome), ms2) else none
        | _ => none)
      | _ => none)
    | _ => none := by first | rfl | (rw [ev]; done) | (rw [ev]; rfl)
@[simp] theorem eve_46 (bb : Bool) (d : E) (k : E) (ms : MS) : ev bb (.kget d k) ms = match ev true d ms with
    | some (.av (.ref j), ms1) => (match ms1.hp[j]? with
      | some (.kd _) => (match ev true k ms1 with
        | some (.av (.dat x), ms2) => (match ms2.hp[j]? with
          | some (.kd kvs) => if kOk x then (match kfind kvs x with
            | some v => some (.av v, ms2)
            | none => some (.lst [], ms2)) else none
          | _ => none)
        | _ => none)
      | _ => none)
    | _ => none := by first | rfl | (rw [ev]; done) | (rw [ev]; rfl)
@[simp] theorem eve_47 (bb : Bool) (d : E) (k : E) (ms : MS) : ev bb (.ksetd d k) ms = match ev true d ms with
    | some (.av (.ref j), ms1) => (match ms1.hp[j]? with
      | some (.kd _) => (match ev true k ms1 with
        | some (.av (.dat x), ms2) => (match ms2.hp[j]? with
          | some (.kd kvs) => if kOk x ∧ kvs.length < LINE then (match kfind kvs x with
            | some v => some (.av v, ms2)
            | none => some (.av (.ref ms2.hp.length), { ms2 with hp := (ms2.hp ++ [AO.lst []]).set j (AO.kd (kput kvs x (AV.ref ms2.hp.length))) })) else none
          | _ => none)
        | _ => none)
      | _ => none)
    | _ => none := by first | rfl | (rw [ev]; done) | (rw [ev]; rfl)
@[simp] theorem eve_48 (bb : Bool) (a : E) (ms : MS) : ev bb (.repr a) ms = match ev true a ms with
    | some (x, ms1) => (reprV x).map fun z => (z, ms1)
    | none => none := by first | rfl | (rw [ev]; done) | (rw [ev]; rfl)
@[simp] theorem evse_0  (ms : MS) : evs (.nil) ms = some ([], ms) := by first | rfl | (rw [evs]; done) | (rw [evs]; rfl)
@[simp] theorem evse_1 (e : E) (es : Es) (ms : MS) : evs (.cons e es) ms = match ev false e ms with
    | some (v, ms1) => (match evs es ms1 with
      | some (vs, ms2) => some (v.val :: vs, ms2)
      | none => none)
    | none => none := by first | rfl | (rw [evs]; done) | (rw [evs]; rfl)
@[simp] theorem evBe_0  (ms : MS) : evB (.nil) ms = some ([], ms) := by first | rfl | (rw [evB]; done) | (rw [evB]; rfl)
@[simp] theorem evBe_1 (e : E) (es : Es) (ms : MS) : evB (.cons e es) ms = match ev true e ms with
    | some (v, ms1) => (match evB es ms1 with
      | some (vs, ms2) => some (v.val :: vs, ms2)
      | none => none)
    | none => none := by first | rfl | (rw [evB]; done) | (rw [evB]; rfl)
@[simp] theorem evPe_0  (ms : MS) : evP (.nil) ms = some (none, ms) := by first | rfl | (rw [evP]; done) | (rw [evP]; rfl)
@[simp] theorem evPe_1 (e : E) (ms : MS) : evP (.cons e .nil) ms = match ev true e ms with
    | some (.av (.dat (.int i)), ms1) => some (some i, ms1)
    | _ => none := by first | rfl | (rw [evP]; done) | (rw [evP]; rfl)
@[simp] theorem evCe_0  (ms : MS) : evC (.nil) ms = some (true, ms) := by first | rfl | (rw [evC]; done) | (rw [evC]; rfl)
@[simp] theorem evCe_1 (e : E) (ms : MS) : evC (.cons e .nil) ms = match ev true e ms with
    | some (.av (.dat (.bool c)), ms1) => some (c, ms1)
    | _ => none := by first | rfl | (rw [evC]; done) | (rw [evC]; rfl)
@[simp] theorem evIe_0 (e : E) (ms : MS) : evI (.seq e) ms = match ev false e ms with
    | some (.av (.scr ns), ms1) => some (.fix (ns.map .int), ms1)
    | some (.av (.ref r), ms1) => (match ms1.hp[r]? with
      | some (.lst _) => some (.heap r, ms1)
      | _ => none)
    | some (v, ms1) => (match v.d? with
      | some (.list xs) => some (.fix xs, ms1)
      | some (.tuple xs) => some (.fix xs, ms1)
      | _ => none)
    | none => none := by first | rfl | (rw [evI]; done) | (rw [evI]; rfl)
theorem evIe_1 (e : E) (ms : MS) : evI (.range1 e) ms = match ev true e ms with
    | some (.av (.dat (.int k)), ms1) => if smB 4611686018427387903 k = true then some (.fix ((List.range k.toNat).map fun (j : Nat) => PyData.int j), ms1) else none
    | _ => none := by first | rfl | (rw [evI]; done) | (rw [evI]; rfl)
theorem evIe_2 (a : E) (b : E) (ms : MS) : evI (.range2 a b) ms = match ev true a ms with
    | some (.av (.dat (.int i)), ms1) => (match ev true b ms1 with
      | some (.av (.dat (.int j)), ms2) => if (smB 4611686018427387903 i && smB 4611686018427387903 j) = true then some (.fix ((List.range (j - i).toNat).map fun (k : Nat) => PyData.int (i + k)), ms2) else none
      | _ => none)
    | _ => none := by first | rfl | (rw [evI]; done) | (rw [evI]; rfl)
@[simp] theorem evIe_3 (e : E) (ms : MS) : evI (.rev e) ms = match ev false e ms with
    | some (v, ms1) => (match v.d? with
      | some (.list xs) => some (.fix xs.reverse, ms1)
      | _ => none)
    | none => none := by first | rfl | (rw [evI]; done) | (rw [evI]; rfl)
@[simp] theorem exe_0 (i : Nat) (e : E) (ms : MS) : ex (.set i e) ms = match ev false e ms with
    | some (v, ms1) => (setSlot i v ms1).map fun m => (.nx, m)
    | none => none := by first | rfl | (rw [ex]; done) | (rw [ex]; rfl)
@[simp] theorem exe_1 (i : Nat) (elt : E) (tg : List Nat) (it : I) (cond : Es) (ms : MS) : ex (.setC i elt tg it cond) ms = match ev false (.comp elt tg it cond) ms with
    | some (v, ms1) => (setSlot i v ms1).map fun m => (.nx, m)
    | none => none := by first | rfl | (rw [ex]; done) | (rw [ex]; rfl)
@[simp] theorem exe_2 (tg : List Nat) (e : E) (ms : MS) : ex (.setT tg e) ms = match ev false e ms with
    | some (v, ms1) => (match v.val with
      | .dat d => (bindT tg d ms1.rho).map fun rho => (.nx, { ms1 with rho := rho })
      | _ => none)
    | none => none := by first | rfl | (rw [ex]; done) | (rw [ex]; rfl)
@[simp] theorem exe_3 (i : Nat) (ix : E) (e : E) (ms : MS) : ex (.setIx i ix e) ms = match ev false e ms with
    | some (v, ms1) => (match ms1.rho[i]? with
      | some (.own _) => (match ev true ix ms1 with
        | some (.av (.dat (.int k)), ms2) => (match ms2.rho[i]?, v.val with
          | some (.own xs), .dat d => (ixD xs.length k).map fun j => (.nx, { ms2 with rho := ms2.rho.set i (.own (xs.set j d)) })
          | _, _ => none)
        | _ => none)
      | some (.av (.ref r)) => (match ev true ix ms1 with
        | some (.av (.dat (.int k)), ms2) => (match ms2.hp[r]? with
          | some (.lst xs) => (ixD xs.length k).map fun j => (.nx, { ms2 with hp := ms2.hp.set r (.lst (xs.set j v.val)) })
          | _ => none)
        | _ => none)
      | _ => none)
    | none => none := by first | rfl | (rw [ex]; done) | (rw [ex]; rfl)
@[simp] theorem exe_4 (i : Nat) (ms : MS) : ex (.pop0 i) ms = match ms.rho[i]? with
    | some (.own (_ :: xs)) => some (.nx, { ms with rho := ms.rho.set i (.own xs) })
    | some (.av (.ref r)) => (match ms.hp[r]? with
      | some (.lst (_ :: xs)) => some (.nx, { ms with hp := ms.hp.set r (.lst xs) })
      | _ => none)
    | _ => none := by first | rfl | (rw [ex]; done) | (rw [ex]; rfl)
@[simp] theorem exe_5 (i : Nat) (e : E) (ms : MS) : ex (.append i e) ms = match ms.rho[i]? with
    | some (.own _) => (match ev false e ms with
      | some (v, ms1) => (match ms1.rho[i]?, v.d? with
        | some (.own xs), some d => if xs.length < LINE then some (.nx, { ms1 with rho := ms1.rho.set i (.own (xs ++ [d])) }) else none
        | _, _ => none)
      | none => none)
    | some (.av (.ref r)) => (match ms.hp[r]? with
      | some (.lst _) => (match ev false e ms with
        | some (v, ms1) => (match ms1.hp[r]? with
          | some (.lst xs) => if xs.length < LINE then some (.nx, { ms1 with hp := ms1.hp.set r (.lst (xs ++ [v.val])) }) else none
          | _ => none)
        | none => none)
      | _ => none)
    | _ => none := by first | rfl | (rw [ex]; done) | (rw [ex]; rfl)
@[simp] theorem exe_6 (c : Str) (o : E) (f : Str) (e : E) (ms : MS) : ex (.setAttr c o f e) ms = match ev false e ms with
    | some (v, ms1) => (match ev true o ms1 with
      | some (.av (.ref r), ms2) => (match ms2.hp[r]? with
        | some (.ins c' fs) => if c' = c ∧ fs.length < 1000 then some (.nx, { ms2 with hp := ms2.hp.set r (.ins c' (putA f v.val fs)) }) else none
        | _ => none)
      | _ => none)
    | none => none := by first | rfl | (rw [ex]; done) | (rw [ex]; rfl)
@[simp] theorem exe_7 (o : E) (ix : E) (e : E) (ms : MS) : ex (.setIxE o ix e) ms = match ev false e ms with
    | some (v, ms1) => (match ev true o ms1 with
      | some (.av (.ref r), ms2) => (match ev true ix ms2 with
        | some (.av (.dat (.int k)), ms3) => (match ms3.hp[r]? with
          | some (.lst xs) => (ixD xs.length k).map fun j => (.nx, { ms3 with hp := ms3.hp.set r (.lst (xs.set j v.val)) })
          | _ => none)
        | _ => none)
      | _ => none)
    | none => none := by first | rfl | (rw [ex]; done) | (rw [ex]; rfl)
@[simp] theorem exe_8 (o : E) (e : E) (ms : MS) : ex (.appendE o e) ms = match ev true o ms with
    | some (.av (.ref r), ms1) => (match ms1.hp[r]? with
      | some (.lst _) => (match ev false e ms1 with
        | some (v, ms2) => (match ms2.hp[r]? with
          | some (.lst xs) => if xs.length < LINE then some (.nx, { ms2 with hp := ms2.hp.set r (.lst (xs ++ [v.val])) }) else none
          | _ => none)
        | none => none)
      | _ => none)
    | _ => none := by first | rfl | (rw [ex]; done) | (rw [ex]; rfl)
@[simp] theorem exe_9  (ms : MS) : ex (.never) ms = none := by first | rfl | (rw [ex]; done) | (rw [ex]; rfl)
@[simp] theorem exe_10 (e : E) (ms : MS) : ex (.expr e) ms = match ev false e ms with
    | some (_, ms1) => some (.nx, ms1)
    | none => none := by first | rfl | (rw [ex]; done) | (rw [ex]; rfl)
@[simp] theorem exe_11 (c : E) (a : Ss) (b : Ss) (ms : MS) : ex (.ite c a b) ms = match ev true c ms with
    | some (.av (.dat (.bool k)), ms1) => if k then exs a ms1 else exs b ms1
    | _ => none := by first | rfl | (rw [ex]; done) | (rw [ex]; rfl)
@[simp] theorem exe_12 (tg : List Nat) (it : I) (body : Ss) (ms : MS) : ex (.for_ tg it body) ms = match evI it ms with
    | some (xs, ms1) => forX tg (exs body) xs ms1
    | none => none := by first | rfl | (rw [ex]; done) | (rw [ex]; rfl)
theorem exe_13 (c : E) (body : Ss) (ms : MS) : ex (.whil c body) ms = whileL (ev true c) (exs body) FUEL ms := by first | rfl | (rw [ex]; done) | (rw [ex]; rfl)
@[simp] theorem exe_14 (e : E) (ms : MS) : ex (.ret e) ms = match ev true e ms with
    | some (v, ms1) => some (.rt v, ms1)
    | none => none := by first | rfl | (rw [ex]; done) | (rw [ex]; rfl)
@[simp] theorem exe_15  (ms : MS) : ex (.pass) ms = some (.nx, ms) := by first | rfl | (rw [ex]; done) | (rw [ex]; rfl)
@[simp] theorem exe_16  (ms : MS) : ex (.brk) ms = some (.bk, ms) := by first | rfl | (rw [ex]; done) | (rw [ex]; rfl)
@[simp] theorem exe_17  (ms : MS) : ex (.cont) ms = some (.ct, ms) := by first | rfl | (rw [ex]; done) | (rw [ex]; rfl)
@[simp] theorem exe_18 (tg : List Nat) (e : E) (ms : MS) : ex (.setTR tg e) ms = match ev true e ms with
    | some (.av (.tup xs), ms1) => (bindA tg xs ms1.rho).map fun rho => (.nx, { ms1 with rho := rho })
    | _ => none := by first | rfl | (rw [ex]; done) | (rw [ex]; rfl)
@[simp] theorem exe_19 (o : E) (k : Str) (e : E) (ms : MS) : ex (.dset o k e) ms = match ev false e ms with
    | some (v, ms1) => (match ev true o ms1 with
      | some (.av (.ref r), ms2) => (match ms2.hp[r]? with
        | some (.dct kvs) => if kvs.length < 1000 then some (.nx, { ms2 with hp := ms2.hp.set r (.dct (dputA k v.val kvs)) }) else none
        | _ => none)
      | _ => none)
    | none => none := by first | rfl | (rw [ex]; done) | (rw [ex]; rfl)
@[simp] theorem exe_20 (o : E) (k : E) (e : E) (ms : MS) : ex (.kset o k e) ms = match ev true e ms with
    | some (.av (.dat y), ms1) => (match ev true o ms1 with
      | some (.av (.ref r), ms2) => (match ev true k ms2 with
        | some (.av (.dat x), ms3) => (match ms3.hp[r]? with
          | some (.kd kvs) => if kOk x ∧ kvs.length < LINE then some (.nx, { ms3 with hp := ms3.hp.set r (.kd (kput kvs x (.dat y))) }) else none
          | _ => none)
        | _ => none)
      | _ => none)
    | _ => none := by first | rfl | (rw [ex]; done) | (rw [ex]; rfl)
@[simp] theorem exe_21 (tg : List Nat) (es : Es) (ms : MS) : ex (.par tg es) ms = match evs es ms with
    | some (vs, ms1) => (bindV tg vs ms1.rho).map fun rho => (.nx, { ms1 with rho := rho })
    | none => none := by first | rfl | (rw [ex]; done) | (rw [ex]; rfl)
@[simp] theorem exe_22 (i : Nat) (elt : E) (tg : List Nat) (it : I) (cond : Es) (ms : MS) : ex (.setCA i elt tg it cond) ms = match ev false (.alloc (.comp elt tg it cond)) ms with
    | some (v, ms1) => (setSlot i v ms1).map fun m => (.nx, m)
    | none => none := by first | rfl | (rw [ex]; done) | (rw [ex]; rfl)
@[simp] theorem exse_0  (ms : MS) : exs (.nil) ms = some (.nx, ms) := by first | rfl | (rw [exs]; done) | (rw [exs]; rfl)
@[simp] theorem exse_1 (s : S) (ss : Ss) (ms : MS) : exs (.cons s ss) ms = match ex s ms with
    | some (.nx, ms1) => exs ss ms1
    | some (o, ms1) => some (o, ms1)
    | none => none := by first | rfl | (rw [exs]; done) | (rw [exs]; rfl)
end Sv

/-! Sv: the operations on values, for simp. -/
namespace Sv
open PySem
abbrev iv (i : Int) : AV := .dat (.int i)
section
variable {i j k : Int} {b c : Bool} {x y : Str} {xs ys : List PyData} {hp : List AO} {d e : PyData}
@[simp] theorem intV_eq : intV i = .av (.dat (.int i)) := (rfl)
@[simp] theorem blV_eq : blV b = .av (.dat (.bool b)) := (rfl)
@[simp] theorem val_av {v : AV} : (RV.av v).val = v := (rfl)
@[simp] theorem val_lst : (RV.lst xs).val = .dat (.list xs) := (rfl)
@[simp] theorem d_dat : (RV.av (.dat d)).d? = some d := (rfl)
@[simp] theorem d_lst : (RV.lst xs).d? = some (.list xs) := (rfl)
@[simp] theorem bin_add : binV .add (.av (.dat (.int i))) (.av (.dat (.int j))) = some (.av (.dat (.int (i + j)))) := (rfl)
@[simp] theorem bin_sub : binV .sub (.av (.dat (.int i))) (.av (.dat (.int j))) = some (.av (.dat (.int (i - j)))) := (rfl)
@[simp] theorem bin_mul (h : (-18446744073709551616 < i ∧ i < 18446744073709551616) ∨ (-18446744073709551616 < j ∧ j < 18446744073709551616)) : binV .mul (.av (.dat (.int i))) (.av (.dat (.int j))) = some (.av (.dat (.int (i * j)))) := if_pos (by simp only [Bool.or_eq_true, smB_iff]; omega)
@[simp] theorem bin_fdiv (h : 0 < j) (h2 : j < 1073741824) : binV .fdiv (.av (.dat (.int i))) (.av (.dat (.int j))) = some (.av (.dat (.int (i / j)))) := if_pos ⟨h, smB_in (by omega) (by omega)⟩
@[simp] theorem bin_mod (h : 0 < j) : binV .mod (.av (.dat (.int i))) (.av (.dat (.int j))) = some (.av (.dat (.int (i % j)))) := if_pos h
@[simp] theorem bin_addT (h : xs.length + ys.length ≤ 16777216) : binV .add (.av (.dat (.tuple xs))) (.av (.dat (.tuple ys))) = some (.av (.dat (.tuple (xs ++ ys)))) := if_pos h
@[simp] theorem bin_addS (h : x.length + y.length ≤ 16777216) : binV .add (.av (.dat (.str x))) (.av (.dat (.str y))) = some (.av (.dat (.str (x ++ y)))) := if_pos h
@[simp] theorem bin_addL1 (h : xs.length + ys.length ≤ 16777216) : binV .add (.lst xs) (.lst ys) = some (.lst (xs ++ ys)) := if_pos h
@[simp] theorem bin_addL2 (h : xs.length + ys.length ≤ 16777216) : binV .add (.av (.dat (.list xs))) (.lst ys) = some (.lst (xs ++ ys)) := if_pos h
@[simp] theorem bin_addL3 (h : xs.length + ys.length ≤ 16777216) : binV .add (.lst xs) (.av (.dat (.list ys))) = some (.lst (xs ++ ys)) := if_pos h
@[simp] theorem bin_addL4 (h : xs.length + ys.length ≤ 16777216) : binV .add (.av (.dat (.list xs))) (.av (.dat (.list ys))) = some (.lst (xs ++ ys)) := if_pos h
@[simp] theorem bin_mulL1 (h : -9223372036854775807 ≤ k ∧ k < 9223372036854775808 ∧ xs.length * k.toNat ≤ 16777216) : binV .mul (.lst xs) (.av (.dat (.int k))) = some (.lst (List.replicate k.toNat xs).flatten) := if_pos ⟨smB_in (by omega) (by omega), h.2.2⟩
@[simp] theorem bin_mulL2 (h : -9223372036854775807 ≤ k ∧ k < 9223372036854775808 ∧ xs.length * k.toNat ≤ 16777216) : binV .mul (.av (.dat (.list xs))) (.av (.dat (.int k))) = some (.lst (List.replicate k.toNat xs).flatten) := if_pos ⟨smB_in (by omega) (by omega), h.2.2⟩
@[simp] theorem cmp_lt : cmpV .lt (.av (.dat (.int i))) (.av (.dat (.int j))) = some (decide (i < j)) := (rfl)
@[simp] theorem cmp_le : cmpV .le (.av (.dat (.int i))) (.av (.dat (.int j))) = some (decide (i ≤ j)) := (rfl)
@[simp] theorem cmp_gt : cmpV .gt (.av (.dat (.int i))) (.av (.dat (.int j))) = some (decide (j < i)) := (rfl)
@[simp] theorem cmp_ge : cmpV .ge (.av (.dat (.int i))) (.av (.dat (.int j))) = some (decide (j ≤ i)) := (rfl)
theorem cmp_eqD {a u : RV} (h1 : a.d? = some d) (h2 : u.d? = some e) (h3 : dep d ≤ 64) (h4 : dep e ≤ 64) : cmpV .eq a u = some (eqq d e) := by
  simp [cmpV, h1, h2, h3, h4]
theorem cmp_neD {a u : RV} (h1 : a.d? = some d) (h2 : u.d? = some e) (h3 : dep d ≤ 64) (h4 : dep e ≤ 64) : cmpV .ne a u = some (!eqq d e) := by
  simp [cmpV, h1, h2, h3, h4]
@[simp] theorem dep_int : dep (.int i) = 0 := (rfl)
@[simp] theorem dep_bool : dep (.bool b) = 0 := (rfl)
@[simp] theorem dep_none : dep .none = 0 := (rfl)
@[simp] theorem dep_str (h : x.cps.toList.all (fun c => decide (c < 1114112)) = true) : dep (.str x) = 0 := if_pos (by rw [← Array.all_toList]; exact h)
@[simp] theorem dep_list : dep (.list xs) = deps xs + 1 := (rfl)
@[simp] theorem dep_tuple : dep (.tuple xs) = deps xs + 1 := (rfl)
@[simp] theorem deps_nil : deps [] = 0 := (rfl)
@[simp] theorem deps_cons : deps (d :: xs) = max (dep d) (deps xs) := (rfl)
@[simp] theorem eqq_int : eqq (.int i) (.int j) = decide (i = j) := (rfl)
@[simp] theorem line_v : LINE = 16777216 := (rfl)
@[simp] theorem b30_v : B30 = 1073741824 := (rfl)
@[simp] theorem b62_v : B62 = 4611686018427387904 := (rfl)
@[simp] theorem eqq_str : eqq (.str x) (.str y) = decide (x = y) := (rfl)
@[simp] theorem eqq_bool : eqq (.bool b) (.bool c) = (b == c) := (rfl)
@[simp] theorem eqq_none : eqq .none .none = true := (rfl)
@[simp] theorem eqq_list : eqq (.list xs) (.list ys) = eqqs xs ys := (rfl)
@[simp] theorem eqq_tuple : eqq (.tuple xs) (.tuple ys) = eqqs xs ys := (rfl)
@[simp] theorem eqqs_nil : eqqs [] [] = true := (rfl)
@[simp] theorem eqqs_cons : eqqs (d :: xs) (e :: ys) = (eqq d e && eqqs xs ys) := (rfl)
@[simp] theorem cmp_eq {d e : PyData} (h3 : dep d ≤ 64) (h4 : dep e ≤ 64) : cmpV .eq (.av (.dat d)) (.av (.dat e)) = some (eqq d e) := cmp_eqD rfl rfl h3 h4
@[simp] theorem cmp_ne {d e : PyData} (h3 : dep d ≤ 64) (h4 : dep e ≤ 64) : cmpV .ne (.av (.dat d)) (.av (.dat e)) = some (!eqq d e) := cmp_neD rfl rfl h3 h4
@[simp] theorem cmp_eq1 (h3 : dep (.list xs) ≤ 64) (h4 : dep e ≤ 64) : cmpV .eq (.lst xs) (.av (.dat e)) = some (eqq (.list xs) e) := cmp_eqD rfl rfl h3 h4
@[simp] theorem cmp_eq2 (h3 : dep d ≤ 64) (h4 : dep (.list ys) ≤ 64) : cmpV .eq (.av (.dat d)) (.lst ys) = some (eqq d (.list ys)) := cmp_eqD rfl rfl h3 h4
@[simp] theorem cmp_eq3 (h3 : dep (.list xs) ≤ 64) (h4 : dep (.list ys) ≤ 64) : cmpV .eq (.lst xs) (.lst ys) = some (eqqs xs ys) := cmp_eqD rfl rfl h3 h4
@[simp] theorem cmp_ne1 (h3 : dep (.list xs) ≤ 64) (h4 : dep e ≤ 64) : cmpV .ne (.lst xs) (.av (.dat e)) = some (!eqq (.list xs) e) := cmp_neD rfl rfl h3 h4
@[simp] theorem cmp_ne2 (h3 : dep d ≤ 64) (h4 : dep (.list ys) ≤ 64) : cmpV .ne (.av (.dat d)) (.lst ys) = some (!eqq d (.list ys)) := cmp_neD rfl rfl h3 h4
@[simp] theorem cmp_ne3 (h3 : dep (.list xs) ≤ 64) (h4 : dep (.list ys) ≤ 64) : cmpV .ne (.lst xs) (.lst ys) = some (!eqqs xs ys) := cmp_neD rfl rfl h3 h4
@[simp] theorem allD_nil : allD [] = some [] := (rfl)
@[simp] theorem allD_cons {r : List AV} : allD (.dat d :: r) = (allD r).map (d :: ·) := (rfl)
@[simp] theorem b1_int : b1V hp .int (.av (.dat (.int i))) = some (.av (.dat (.int i))) := (rfl)
@[simp] theorem b1_intb : b1V hp .int (.av (.dat (.bool b))) = some (.av (.dat (.int (if b then 1 else 0)))) := (rfl)
@[simp] theorem b1_abs : b1V hp .abs (.av (.dat (.int i))) = some (.av (.dat (.int (if i < 0 then -i else i)))) := (rfl)
@[simp] theorem b1_len1 : b1V hp .len (.lst xs) = some (.av (.dat (.int xs.length))) := (rfl)
@[simp] theorem b1_len2 : b1V hp .len (.av (.dat (.list xs))) = some (.av (.dat (.int xs.length))) := (rfl)
@[simp] theorem b1_len3 : b1V hp .len (.av (.dat (.tuple xs))) = some (.av (.dat (.int xs.length))) := (rfl)
theorem b1_lenR {r : Nat} {vs : List AV} (h : hp[r]? = some (.lst vs)) : b1V hp .len (.av (.ref r)) = some (.av (.dat (.int vs.length))) := by
  simp [b1V, lenV, h]
@[simp] theorem b1_tuple1 : b1V hp .tuple (.lst xs) = some (.av (.dat (.tuple xs))) := (rfl)
@[simp] theorem b1_tuple2 : b1V hp .tuple (.av (.dat (.list xs))) = some (.av (.dat (.tuple xs))) := (rfl)
@[simp] theorem b1_tuple3 : b1V hp .tuple (.av (.dat (.tuple xs))) = some (.av (.dat (.tuple xs))) := (rfl)
@[simp] theorem b1_list1 : b1V hp .list (.lst xs) = some (.lst xs) := (rfl)
@[simp] theorem b1_list2 : b1V hp .list (.av (.dat (.list xs))) = some (.lst xs) := (rfl)
@[simp] theorem b1_list3 : b1V hp .list (.av (.dat (.tuple xs))) = some (.lst xs) := (rfl)
@[simp] theorem set_av {v : AV} {ms : MS} {n : Nat} (h : n < ms.rho.length) : setSlot n (.av v) ms = some { ms with rho := ms.rho.set n (.av v) } := if_pos h
@[simp] theorem set_lst {ms : MS} {n : Nat} (h : n < ms.rho.length) : setSlot n (.lst xs) ms = some { ms with rho := ms.rho.set n (.own xs) } := if_pos h
theorem ixD_nn {n j : Nat} (h : j < n) : ixD n (j : Int) = some j := by
  unfold ixD
  rw [if_neg (by omega), if_pos (by omega)]
  simp
@[simp] theorem atD_zero {α : Type} {a : α} {as : List α} : atD (a :: as) 0 = some a := by
  have : ixD (a :: as).length 0 = some 0 := ixD_nn (j := 0) (by simp)
  unfold atD
  rw [this]
  rfl
theorem atD_nat {α : Type} {as : List α} {n : Nat} (h : n < as.length) : atD as (n : Int) = some as[n] := by
  simp [atD, ixD_nn h, h]
theorem atD_pos {α : Type} {as : List α} {i : Int} (h0 : 0 ≤ i) (h : i < as.length) : atD as i = as[i.toNat]? := by
  unfold atD ixD
  rw [if_neg (by omega), if_pos h]
@[simp] theorem sub_list : subV hp (.av (.dat (.list xs))) (.av (.dat (.int i))) = (atD xs i).map .dat := (rfl)
@[simp] theorem sub_lst : subV hp (.lst xs) (.av (.dat (.int i))) = (atD xs i).map .dat := (rfl)
@[simp] theorem sub_tup : subV hp (.av (.dat (.tuple xs))) (.av (.dat (.int i))) = (atD xs i).map .dat := (rfl)
theorem sub_ref {r : Nat} {vs : List AV} (h : hp[r]? = some (.lst vs)) : subV hp (.av (.ref r)) (.av (.dat (.int i))) = atD vs i := by
  simp [subV, h]
@[simp] theorem bind_one {n : Nat} {rho : List Slot} (h : n < rho.length) : bindT [n] d rho = some (rho.set n (.av (.dat d))) := if_pos h
@[simp] theorem forL_nil (tg : List Nat) (body : MS → Option (Out × MS)) (ms : MS) : forL tg body [] ms = some (.nx, ms) := (rfl)
@[simp] theorem forX_fix (tg : List Nat) (body : MS → Option (Out × MS)) (xs : List PyData) (ms : MS) : forX tg body (.fix xs) ms = forL tg body xs ms := (rfl)
@[simp] theorem forX_heap (tg : List Nat) (body : MS → Option (Out × MS)) (r : Nat) (ms : MS) : forX tg body (.heap r) ms = forS tg body (.heap r) FUEL 0 ms := (rfl)
@[simp] theorem compX_fix (tg : List Nat) (test : MS → Option (Bool × MS)) (elt : MS → Option (RV × MS)) (xs : List PyData) (ms : MS) : compX tg test elt (.fix xs) ms = compL tg test elt xs [] ms := (rfl)
@[simp] theorem compX_heap (tg : List Nat) (test : MS → Option (Bool × MS)) (elt : MS → Option (RV × MS)) (r : Nat) (ms : MS) : compX tg test elt (.heap r) ms = compS tg test elt (.heap r) FUEL 0 [] ms := (rfl)
theorem forL_cons (tg : List Nat) (body : MS → Option (Out × MS)) (x : PyData) (r : List PyData) (ms : MS) : forL tg body (x :: r) ms = match bindT tg x ms.rho with
    | some rho => (match body { ms with rho := rho } with
      | some (.nx, ms1) => forL tg body r ms1
      | some (.ct, ms1) => forL tg body r ms1
      | some (.bk, ms1) => some (.nx, ms1)
      | some (.rt v, ms1) => some (.rt v, ms1)
      | some (.xc e, ms1) => some (.xc e, ms1)
      | none => none)
    | none => none := (rfl)
theorem forL_nx {tg : List Nat} {body : MS → Option (Out × MS)} {x : PyData} {r : List PyData} {ms ms1 : MS} {rho : List Slot} (h1 : bindT tg x ms.rho = some rho) (h2 : body ⟨rho, ms.hp⟩ = some (.nx, ms1)) : forL tg body (x :: r) ms = forL tg body r ms1 := by
  rw [forL_cons, h1]
  simp only [h2]
theorem whileL_succ (test : MS → Option (RV × MS)) (body : MS → Option (Out × MS)) (n : Nat) (ms : MS) : whileL test body (n + 1) ms = match test ms with
    | some (.av (.dat (.bool true)), ms1) => (match body ms1 with
      | some (.nx, ms2) => whileL test body n ms2
      | some (.ct, ms2) => whileL test body n ms2
      | some (.bk, ms2) => some (.nx, ms2)
      | some (.rt v, ms2) => some (.rt v, ms2)
      | some (.xc e, ms2) => some (.xc e, ms2)
      | none => none)
    | some (.av (.dat (.bool false)), ms1) => some (.nx, ms1)
    | _ => none := (rfl)
/-- a for over items, with an invariant -/
theorem forL_inv {tg : List Nat} {body : MS → Option (Out × MS)} (P : Nat → MS → Prop) : ∀ (l : List PyData) (n : Nat) (ms : MS), P n ms →
    (∀ j d ms, l[j]? = some d → P (n + j) ms → ∃ rho ms1, bindT tg d ms.rho = some rho ∧ body ⟨rho, ms.hp⟩ = some (.nx, ms1) ∧ P (n + j + 1) ms1) →
    ∃ ms', forL tg body l ms = some (.nx, ms') ∧ P (n + l.length) ms'
  | [], n, ms, h, _ => ⟨ms, rfl, h⟩
  | d :: l, n, ms, h, hs => by
    obtain ⟨rho, ms1, e1, e2, h1⟩ := hs 0 d ms rfl h
    obtain ⟨ms', e3, h3⟩ := forL_inv P l (n + 1) ms1 h1 fun j x ms hj hp => by
      obtain ⟨rho, ms2, q1, q2, q3⟩ := hs (j + 1) x ms (by simpa using hj) (by rw [show n + (j + 1) = n + 1 + j by omega]; exact hp)
      exact ⟨rho, ms2, q1, q2, by rw [show n + 1 + j + 1 = n + (j + 1) + 1 by omega]; exact q3⟩
    refine ⟨ms', ?_, by rw [show n + (d :: l).length = n + 1 + l.length by simp; omega]; exact h3⟩
    rw [forL_nx e1 e2]
    exact e3
end
end Sv
namespace Sv
open PySem
section
variable {i : Int} {b : Bool} {xs : List PyData}
theorem isi_of {d : PyData} {a : RV} {t : Str} {r : Bool} (h : a.d? = some d) (ht : t = sInt ∨ t = sBool ∨ t = sList ∨ t = sTuple ∨ t = sStr) (e : (decide (tyD d = t) || (decide (t = sInt) && decide (tyD d = sBool))) = r) : isiV a t = some r := by
  unfold isiV
  rw [h]
  simp only [if_pos ht, e]
@[simp] theorem isi_int_int : isiV (.av (.dat (.int i))) ⟨#[105, 110, 116]⟩ = some true := isi_of (d := .int i) (by rfl) (.inl rfl) (by show (decide ((⟨#[105, 110, 116]⟩ : Str) = ⟨#[105, 110, 116]⟩) || _) = true; simp)
@[simp] theorem isi_int_bool : isiV (.av (.dat (.int i))) ⟨#[98, 111, 111, 108]⟩ = some false := isi_of (d := .int i) (by rfl) (.inr (.inl rfl)) (by show (decide ((⟨#[105, 110, 116]⟩ : Str) = ⟨#[98, 111, 111, 108]⟩) || (decide ((⟨#[98, 111, 111, 108]⟩ : Str) = sInt) && decide ((⟨#[105, 110, 116]⟩ : Str) = sBool))) = false; decide)
theorem evI_range1 {e : E} {ms ms1 : MS} {k : Int} (h : ev true e ms = some (.av (.dat (.int k)), ms1)) (h1 : -4611686018427387903 ≤ k) (h2 : k < 4611686018427387904) : evI (.range1 e) ms = some (.fix ((List.range k.toNat).map fun (j : Nat) => PyData.int j), ms1) := by
  simp [evIe_1, h, smB_in (n := 4611686018427387903) h1 (by omega)]
end
end Sv
namespace Sv
open PySem
/-- a comprehension whose tests and values change nothing -/
theorem compL_map {tg : List Nat} {test : MS → Option (Bool × MS)} {elt : MS → Option (RV × MS)} (p : PyData → Bool) (f : PyData → PyData) (ms : MS) : ∀ (xs acc : List PyData),
    (∀ x ∈ xs, ∃ rho, bindT tg x ms.rho = some rho ∧ test ⟨rho, ms.hp⟩ = some (p x, ⟨rho, ms.hp⟩) ∧ (p x = true → ∃ rv, elt ⟨rho, ms.hp⟩ = some (rv, ⟨rho, ms.hp⟩) ∧ rv.d? = some (f x)) ∧ plainAt tg rho = true ∧ wipeR tg rho = ms.rho) →
    acc.length + xs.length ≤ 16777216 → compL tg test elt xs acc ms = some (acc ++ (xs.filter p).map f, ms)
  | [], acc, _, _ => by simp [compL]
  | x :: xs, acc, h, hl => by
    obtain ⟨rho, h1, h2, h3, h4, h5⟩ := h x (List.mem_cons_self ..)
    unfold compL
    rw [h1]
    simp only [h2]
    cases hp : p x with
    | false =>
      simp only [h4, if_true]
      rw [h5, compL_map p f ms xs acc (fun y hy => h y (List.mem_cons_of_mem _ hy)) (by simp at hl; omega)]
      simp [hp]
    | true =>
      obtain ⟨rv, e1, e2⟩ := h3 hp
      have hlt : acc.length < LINE := by simp at hl ⊢; omega
      simp only [e1, e2, if_pos hlt, h4, if_true]
      rw [h5, compL_map p f ms xs (acc ++ [f x]) (fun y hy => h y (List.mem_cons_of_mem _ hy)) (by simp at hl ⊢; omega)]
      simp [hp]
end Sv
namespace Sv
open PySem
section
variable {i j k : Int} {xs : List PyData}
@[simp] theorem bin_mulT (h : xs ≠ [] ∧ -1000 ≤ k ∧ k ≤ 1000 ∧ xs.length ≤ 1000) : binV .mul (.av (.dat (.tuple xs))) (.av (.dat (.int k))) = some (.av (.dat (.tuple (List.replicate k.toNat xs).flatten))) := by
  obtain ⟨h1, h2, h3, h4⟩ := h
  simp [binV, h1, smB_in (n := 1000) (k := k) (by omega) (by omega), h4]
@[simp] theorem isi_list1 : isiV (.lst xs) ⟨#[108, 105, 115, 116]⟩ = some true := isi_of (d := .list xs) (by rfl) (.inr (.inr (.inl rfl))) (by show (decide ((⟨#[108, 105, 115, 116]⟩ : Str) = ⟨#[108, 105, 115, 116]⟩) || _) = true; simp)
@[simp] theorem isi_list2 : isiV (.av (.dat (.list xs))) ⟨#[108, 105, 115, 116]⟩ = some true := isi_of (d := .list xs) (by rfl) (.inr (.inr (.inl rfl))) (by show (decide ((⟨#[108, 105, 115, 116]⟩ : Str) = ⟨#[108, 105, 115, 116]⟩) || _) = true; simp)
end
end Sv

/-! Sv: the draws that all laws make. -/
namespace Sv
open PySem
/-- _law_state(script): 0 script 1 seed 2 cell -/
def ss__law_state : Ss := (.cons (.set 1 (.lit (.int 7)))
  (.cons (.for_ [2] (.seq (.var 0)) (.cons (.set 1 (.bin .mod (.b1 .int (.bin .add (.bin .mul (.var 1) (.lit (.int 31))) (.var 2))) (.lit (.int 1000003))))
  .nil))
  (.cons (.ret (.allocL (.cons (.alloc (.comp (.b1 .abs (.var 2)) [2] (.seq (.var 0)) .nil)) (.cons (.bin .add (.var 1) (.lit (.int 1))) .nil))))
  .nil)))
def f__law_state : Fn := ⟨⟨#[95, 108, 97, 119, 95, 115, 116, 97, 116, 101]⟩, runB 3 1 ss__law_state⟩
/-- _law_draw(state, many): 0 state 1 many 2 cells 3 value 4 mixed -/
def ss__law_draw : Ss := (.cons (.set 2 (.sub (.var 0) (.lit (.int 0))))
  (.cons (.whil (.and (.cmp .gt (.b1 .len (.var 2)) (.lit (.int 0))) (.cmp .eq (.sub (.var 2) (.lit (.int 0))) (.lit (.int 0)))) (.cons (.pop0 2)
  .nil))
  (.cons (.ite (.cmp .gt (.b1 .len (.var 2)) (.lit (.int 0))) (.cons (.set 3 (.sub (.var 2) (.lit (.int 0))))
  (.cons (.setIx 2 (.lit (.int 0)) (.bin .fdiv (.var 3) (.var 1)))
  (.cons (.ret (.bin .mod (.b1 .int (.var 3)) (.var 1)))
  .nil))) .nil)
  (.cons (.set 4 (.bin .mod (.b1 .int (.bin .add (.bin .mul (.sub (.var 0) (.lit (.int 1))) (.lit (.int 48271))) (.lit (.int 12345)))) (.lit (.int 2147483647))))
  (.cons (.setIx 0 (.lit (.int 1)) (.var 4))
  (.cons (.ret (.bin .mod (.b1 .int (.bin .fdiv (.var 4) (.lit (.int 64)))) (.var 1)))
  .nil))))))
def f__law_draw : Fn := ⟨⟨#[95, 108, 97, 119, 95, 100, 114, 97, 119]⟩, runB 5 2 ss__law_draw⟩

def DS (cs : List Int) (s : Int) : List AO := [.lst (cs.map iv), .lst [.ref 0, iv s]]
/-- the heap holds the draws' state, and rest -/
def DSt (hp rest : List AO) : Prop := ∃ cs s, cs.length ≤ 63 ∧ hp = DS cs s ++ rest
theorem st_loop : ∀ (xs : List Int) (sl : Slot) (seed : Int) (c : Slot) (hp : List AO), (∀ ys, c ≠ .own ys) → ∃ s' c', (∀ ys, c' ≠ .own ys) ∧
    forL [2] (exs (.cons (.set 1 (.bin .mod (.b1 .int (.bin .add (.bin .mul (.var 1) (.lit (.int 31))) (.var 2))) (.lit (.int 1000003)))) .nil)) (xs.map .int) ⟨[sl, .av (iv seed), c], hp⟩ = some (.nx, ⟨[sl, .av (iv s'), c'], hp⟩)
  | [], sl, seed, c, hp, hc => ⟨seed, c, hc, rfl⟩
  | x :: xs, sl, seed, c, hp, hc => by
    obtain ⟨s', c', h1, h2⟩ := st_loop xs sl ((seed * 31 + x) % 1000003) (.av (iv x)) hp (fun _ z => by cases z)
    refine ⟨s', c', h1, ?_⟩
    rw [← h2, List.map_cons]
    refine forL_nx (rho := [sl, .av (iv seed), .av (iv x)]) (by simp [bindT]) ?_
    simp
theorem abs_loop : ∀ (xs : List Int) (sl s1 : Slot) (hp : List AO) (acc : List PyData), acc.length + xs.length ≤ LINE →
    compL [2] (evC .nil) (ev false (.b1 .abs (.var 2))) (xs.map .int) acc ⟨[sl, s1, .emp], hp⟩ = some (acc ++ xs.map (fun x => .int (if x < 0 then -x else x)), ⟨[sl, s1, .emp], hp⟩)
  | [], sl, s1, hp, acc, h => by simp [compL]
  | x :: xs, sl, s1, hp, acc, h => by
    have h' : acc.length < 16777216 := by simp at h; omega
    rw [List.map_cons]
    unfold compL
    simp [h', plainAt, wipeR]
    rw [abs_loop xs sl s1 hp _ (by simp at h ⊢; omega)]
    simp
theorem state_run (ns : List Int) (h : ns.length ≤ 63) : ∃ hp, f__law_state.run [.scr ns] [] = some (.av (.ref 1), hp) ∧ DSt hp [] := by
  obtain ⟨s', c', h1, h2⟩ := st_loop ns (.av (.scr ns)) 7 .emp [] (fun _ z => by cases z)
  refine ⟨DS (ns.map fun x => if x < 0 then -x else x) (s' + 1), ?_, ⟨ns.map fun x => if x < 0 then -x else x, s' + 1, by simpa using h, by simp⟩⟩
  have e := abs_loop ns (.av (.scr ns)) (.av (iv s')) [] [] (by simp [LINE]; omega)
  have hc : plainAt [2] [Slot.av (.scr ns), .av (iv s'), c'] = true := by
    cases c' with
    | own ys => exact absurd rfl (h1 ys)
    | _ => rfl
  simp [f__law_state, runB, ss__law_state, h2, hc, wipeR, e, back, DS]
theorem pop_loop : ∀ (n : Nat) (cs : List Int) (m s : Int) (rest : List AO) (x y : Slot), cs.length < n → ∃ cs', cs'.length ≤ cs.length ∧
    whileL (ev true (.and (.cmp .gt (.b1 .len (.var 2)) (.lit (.int 0))) (.cmp .eq (.sub (.var 2) (.lit (.int 0))) (.lit (.int 0))))) (exs (.cons (.pop0 2) .nil)) n ⟨[.av (.ref 1), .av (iv m), .av (.ref 0), x, y], DS cs s ++ rest⟩ =
      some (.nx, ⟨[.av (.ref 1), .av (iv m), .av (.ref 0), x, y], DS cs' s ++ rest⟩)
  | 0, cs, m, s, rest, x, y, h => by omega
  | n + 1, [], m, s, rest, x, y, h => by
    refine ⟨[], Nat.le_refl _, ?_⟩
    rw [whileL_succ]
    simp [DS, b1_lenR (vs := []), subV]
  | n + 1, c :: cs, m, s, rest, x, y, h => by
    by_cases h0 : c = 0
    · subst h0
      obtain ⟨cs', h1, h2⟩ := pop_loop n cs m s rest x y (by simp at h; omega)
      refine ⟨cs', by simp; omega, ?_⟩
      rw [← h2, whileL_succ]
      have e : (0 : Int) < (cs.length : Int) + 1 := by omega
      simp [DS, b1_lenR (vs := iv 0 :: cs.map iv), sub_ref (vs := iv 0 :: cs.map iv), e]
    · refine ⟨c :: cs, Nat.le_refl _, ?_⟩
      rw [whileL_succ]
      have e : (0 : Int) < (cs.length : Int) + 1 := by omega
      simp [DS, b1_lenR (vs := iv c :: cs.map iv), sub_ref (vs := iv c :: cs.map iv), e, h0]
theorem draw_run {hp rest : List AO} (D : DSt hp rest) {m : Int} (h0 : 0 < m) (h1 : m < B30) : ∃ v hp', f__law_draw.run [.ref 1, iv m] hp = some (.av (iv v), hp') ∧ DSt hp' rest ∧ 0 ≤ v ∧ v < m := by
  obtain ⟨cs, s, hl, rfl⟩ := D
  obtain ⟨cs', q1, q2⟩ := pop_loop FUEL cs m s rest .emp .emp (by unfold FUEL; omega)
  cases cs' with
  | nil =>
    refine ⟨(s * 48271 + 12345) % 2147483647 / 64 % m, DS [] ((s * 48271 + 12345) % 2147483647) ++ rest, ?_, ⟨[], _, by simp, rfl⟩, Int.emod_nonneg _ (by omega), Int.emod_lt_of_pos _ h0⟩
    have e : (DS cs s ++ rest)[1]? = some (.lst [.ref 0, iv s]) := rfl
    simp [f__law_draw, runB, ss__law_draw, exe_13, sub_ref e, q2]
    simp [DS, b1_lenR (vs := []), sub_ref (vs := [.ref 0, iv s]), atD, ixD, h0]
  | cons c cs' =>
    refine ⟨c % m, DS (c / m :: cs') s ++ rest, ?_, ⟨_, _, by simp at q1 ⊢; omega, rfl⟩, Int.emod_nonneg _ (by omega), Int.emod_lt_of_pos _ h0⟩
    have e : (DS cs s ++ rest)[1]? = some (.lst [.ref 0, iv s]) := rfl
    have e2 : (0 : Int) < (cs'.length : Int) + 1 := by omega
    simp at h1
    simp [f__law_draw, runB, ss__law_draw, exe_13, sub_ref e, q2]
    simp [DS, b1_lenR (vs := iv c :: cs'.map iv), sub_ref (vs := iv c :: cs'.map iv), ixD, h0, h1, e2]
end Sv

/-! Sv: disks. -/
namespace Sv
open PySem
/-- Disk.__init__(self, contents): 0 self 1 contents 2 row -/
def ss_Disk_init : Ss := (.cons (.setAttr ⟨#[68, 105, 115, 107]⟩ (.var 0) ⟨#[100, 117, 114, 97, 98, 108, 101]⟩ (.alloc (.comp (.b1 .list (.var 2)) [2] (.seq (.var 1)) .nil)))
  (.cons (.setAttr ⟨#[68, 105, 115, 107]⟩ (.var 0) ⟨#[112, 101, 110, 100, 105, 110, 103]⟩ (.alloc (.lst .nil)))
  .nil))
def f_Disk_init : Fn := ⟨⟨#[95, 95, 105, 110, 105, 116, 95, 95]⟩, runB 3 2 ss_Disk_init⟩
/-- Disk.barrier(self): 0 self 1 sector 2 words -/
def ss_Disk_barrier : Ss := (.cons (.for_ [1, 2] (.seq (.attr ⟨#[68, 105, 115, 107]⟩ (.var 0) ⟨#[112, 101, 110, 100, 105, 110, 103]⟩)) (.cons (.setIxE (.attr ⟨#[68, 105, 115, 107]⟩ (.var 0) ⟨#[100, 117, 114, 97, 98, 108, 101]⟩) (.var 1) (.b1 .list (.var 2)))
  .nil))
  (.cons (.setAttr ⟨#[68, 105, 115, 107]⟩ (.var 0) ⟨#[112, 101, 110, 100, 105, 110, 103]⟩ (.alloc (.lst .nil)))
  .nil))
def f_Disk_barrier : Fn := ⟨⟨#[98, 97, 114, 114, 105, 101, 114]⟩, runB 3 1 ss_Disk_barrier⟩
/-- Disk.write(self, sector, words): 0 self 1 sector 2 words -/
def ss_Disk_write : Ss := (.cons (.appendE (.attr ⟨#[68, 105, 115, 107]⟩ (.var 0) ⟨#[112, 101, 110, 100, 105, 110, 103]⟩) (.tup (.cons (.var 1) (.cons (.b1 .list (.var 2)) .nil))))
  .nil)
def f_Disk_write : Fn := ⟨⟨#[119, 114, 105, 116, 101]⟩, runB 3 3 ss_Disk_write⟩
/-- Disk.look(self, sector): 0 self 1 sector 2 words 3 at 4 written -/
def ss_Disk_look : Ss := (.cons (.set 2 (.sub (.attr ⟨#[68, 105, 115, 107]⟩ (.var 0) ⟨#[100, 117, 114, 97, 98, 108, 101]⟩) (.var 1)))
  (.cons (.for_ [3, 4] (.seq (.attr ⟨#[68, 105, 115, 107]⟩ (.var 0) ⟨#[112, 101, 110, 100, 105, 110, 103]⟩)) (.cons (.ite (.cmp .eq (.var 3) (.var 1)) (.cons (.set 2 (.var 4))
  .nil) .nil)
  .nil))
  (.cons (.ret (.b1 .list (.var 2)))
  .nil)))
def f_Disk_look : Fn := ⟨⟨#[108, 111, 111, 107]⟩, runB 5 2 ss_Disk_look⟩
/-- Disk.snapshot(self): 0 self 1 durable 2 row 3 sector 4 words -/
def ss_Disk_snapshot : Ss := (.cons (.set 1 (.b1 .tuple (.comp (.b1 .tuple (.var 2)) [2] (.seq (.attr ⟨#[68, 105, 115, 107]⟩ (.var 0) ⟨#[100, 117, 114, 97, 98, 108, 101]⟩)) .nil)))
  (.cons (.ret (.tup (.cons (.var 1) (.cons (.b1 .tuple (.comp (.tup (.cons (.var 3) (.cons (.b1 .tuple (.var 4)) .nil))) [3, 4] (.seq (.attr ⟨#[68, 105, 115, 107]⟩ (.var 0) ⟨#[112, 101, 110, 100, 105, 110, 103]⟩)) .nil)) .nil))))
  .nil))
def f_Disk_snapshot : Fn := ⟨⟨#[115, 110, 97, 112, 115, 104, 111, 116]⟩, runB 5 1 ss_Disk_snapshot⟩

abbrev cDisk : Str := ⟨#[68, 105, 115, 107]⟩
abbrev aDur : Str := ⟨#[100, 117, 114, 97, 98, 108, 101]⟩
abbrev aPen : Str := ⟨#[112, 101, 110, 100, 105, 110, 103]⟩
/-- rows of a disk, writes that pend -/
def rowV (w : List PyData) : AV := .dat (.list w)
def wrD (p : Int × List PyData) : PyData := .tuple [.int p.1, .list p.2]
def wrV (p : Int × List PyData) : AV := .dat (wrD p)
/-- a disk stands at d, its lists at r1 and r2 -/
structure DiskAt (hp : List AO) (d r1 r2 : Nat) (dur : List (List PyData)) (pen : List (Int × List PyData)) : Prop where
  ob : hp[d]? = some (.ins cDisk [(aDur, .ref r1), (aPen, .ref r2)])
  du : hp[r1]? = some (.lst (dur.map rowV))
  pe : hp[r2]? = some (.lst (pen.map wrV))
/-- nothing but the places of S has changed; new places may have come -/
structure Fm (S : Nat → Prop) (hp hp' : List AO) : Prop where
  le : hp.length ≤ hp'.length
  eq : ∀ i, i < hp.length → ¬ S i → hp'[i]? = hp[i]?
theorem Fm.refl {S : Nat → Prop} {hp : List AO} : Fm S hp hp := ⟨Nat.le_refl _, fun _ _ _ => rfl⟩
theorem Fm.trans {S : Nat → Prop} {h1 h2 h3 : List AO} (a : Fm S h1 h2) (b : Fm S h2 h3) : Fm S h1 h3 := ⟨Nat.le_trans a.le b.le, fun i hi hs => (b.eq i (Nat.lt_of_lt_of_le hi a.le) hs).trans (a.eq i hi hs)⟩
theorem Fm.mono {S T : Nat → Prop} {h1 h2 : List AO} (a : Fm S h1 h2) (h : ∀ i, i < h1.length → S i → T i) : Fm T h1 h2 := ⟨a.le, fun i hi hs => a.eq i hi fun z => hs (h i hi z)⟩
theorem Fm.get {S : Nat → Prop} {h1 h2 : List AO} (a : Fm S h1 h2) {i : Nat} {o : AO} (h : h1[i]? = some o) (hs : ¬ S i) : h2[i]? = some o := by
  rw [a.eq i (List.getElem?_eq_some_iff.mp h).1 hs]
  exact h
theorem DiskAt.lt {hp : List AO} {d r1 r2 : Nat} {dur : List (List PyData)} {pen : List (Int × List PyData)} (D : DiskAt hp d r1 r2 dur pen) : d < hp.length ∧ r1 < hp.length ∧ r2 < hp.length ∧ d ≠ r1 ∧ d ≠ r2 :=
  ⟨(List.getElem?_eq_some_iff.mp D.ob).1, (List.getElem?_eq_some_iff.mp D.du).1, (List.getElem?_eq_some_iff.mp D.pe).1, (fun e => by have h := D.ob; rw [e, D.du] at h; cases h), (fun e => by have h := D.ob; rw [e, D.pe] at h; cases h)⟩
theorem DiskAt.keep {S : Nat → Prop} {h1 h2 : List AO} {d r1 r2 : Nat} {dur : List (List PyData)} {pen : List (Int × List PyData)} (D : DiskAt h1 d r1 r2 dur pen) (f : Fm S h1 h2) (a : ¬ S d) (b : ¬ S r1) (c : ¬ S r2) : DiskAt h2 d r1 r2 dur pen :=
  ⟨f.get D.ob a, f.get D.du b, f.get D.pe c⟩
/-! ### loops over a list of the heap -/
/-- a comprehension over a heap list that it does not change -/
theorem compS_map {tg : List Nat} {test : MS → Option (Bool × MS)} {elt : MS → Option (RV × MS)} (p : PyData → Bool) (f : PyData → PyData) (ms : MS) (r : Nat) (all : List PyData) (hr : ms.hp[r]? = some (.lst (all.map .dat))) : ∀ (xs acc : List PyData) (n i : Nat), all.drop i = xs → xs.length < n →
    (∀ x ∈ xs, ∃ rho, bindT tg x ms.rho = some rho ∧ test ⟨rho, ms.hp⟩ = some (p x, ⟨rho, ms.hp⟩) ∧ (p x = true → ∃ rv, elt ⟨rho, ms.hp⟩ = some (rv, ⟨rho, ms.hp⟩) ∧ rv.d? = some (f x)) ∧ plainAt tg rho = true ∧ wipeR tg rho = ms.rho) →
    acc.length + xs.length ≤ 16777216 → compS tg test elt (.heap r) n i acc ms = some (acc ++ (xs.filter p).map f, ms)
  | xs, acc, 0, i, _, h, _, _ => by omega
  | [], acc, n + 1, i, hd, _, _, _ => by
    have e : (all.map AV.dat)[i]? = none := by
      rw [List.getElem?_eq_none_iff]
      have := congrArg List.length hd
      simp at this
      simp; omega
    rw [compS.eq_2]
    simp only [Src.item, hr, e]
    simp
  | x :: xs, acc, n + 1, i, hd, hn, h, hl => by
    have hlt : i < all.length := by
      have := congrArg List.length hd
      simp at this
      omega
    rw [List.drop_eq_getElem_cons hlt] at hd
    have e1 : (all.map AV.dat)[i]? = some (.dat x) := by
      rw [List.getElem?_map, List.getElem?_eq_getElem hlt, (List.cons.inj hd).1]
      rfl
    obtain ⟨rho, h1, h2, h3, h4, h5⟩ := h x (List.mem_cons_self ..)
    have ih := fun acc hl => compS_map (tg := tg) (test := test) (elt := elt) p f ms r all hr xs acc n (i + 1) (List.cons.inj hd).2 (by simp at hn; omega) (fun y hy => h y (List.mem_cons_of_mem _ hy)) hl
    rw [compS.eq_2]
    simp only [Src.item, hr, e1, h1, h2]
    cases hp : p x with
    | false =>
      simp only [h4, if_true]
      rw [h5, ih acc (by simp at hl; omega)]
      simp [hp]
    | true =>
      obtain ⟨rv, e1, e2⟩ := h3 hp
      have hlt : acc.length < LINE := by simp at hl ⊢; omega
      simp only [e1, e2, if_pos hlt, h4, if_true]
      rw [h5, ih (acc ++ [f x]) (by simp at hl ⊢; omega)]
      simp [hp]
/-- a for over a heap list that its body does not change -/
theorem forS_inv {tg : List Nat} {body : MS → Option (Out × MS)} {r : Nat} {all : List PyData} (P : Nat → MS → Prop) (hr : ∀ n ms, P n ms → ms.hp[r]? = some (.lst (all.map .dat))) : ∀ (xs : List PyData) (n i : Nat) (ms : MS), all.drop i = xs → i ≤ all.length → xs.length < n → P i ms →
    (∀ j d ms, all[j]? = some d → P j ms → ∃ rho ms1, bindT tg d ms.rho = some rho ∧ body ⟨rho, ms.hp⟩ = some (.nx, ms1) ∧ P (j + 1) ms1) →
    ∃ ms', forS tg body (.heap r) n i ms = some (.nx, ms') ∧ P all.length ms'
  | xs, 0, i, ms, _, _, h, _, _ => by omega
  | [], n + 1, i, ms, hd, hi, _, hp, _ => by
    have hl : all.length ≤ i := by
      have := congrArg List.length hd
      simp at this
      omega
    have e : (all.map AV.dat)[i]? = none := by
      rw [List.getElem?_eq_none_iff]
      simp; omega
    have e2 : i = all.length := by omega
    subst e2
    exact ⟨ms, by rw [forS.eq_2]; simp only [Src.item, hr _ ms hp, e], hp⟩
  | x :: xs, n + 1, i, ms, hd, hi, hn, hp, h => by
    have hlt : i < all.length := by
      have := congrArg List.length hd
      simp at this
      omega
    rw [List.drop_eq_getElem_cons hlt] at hd
    have e0 : all[i]? = some x := by rw [List.getElem?_eq_getElem hlt, (List.cons.inj hd).1]
    have e1 : (all.map AV.dat)[i]? = some (.dat x) := by rw [List.getElem?_map, e0]; rfl
    obtain ⟨rho, ms1, q1, q2, q3⟩ := h i x ms e0 hp
    obtain ⟨ms', q4, q5⟩ := forS_inv P hr xs n (i + 1) ms1 (List.cons.inj hd).2 hlt (by simp at hn; omega) q3 h
    refine ⟨ms', ?_, q5⟩
    rw [forS.eq_2]
    simp only [Src.item, hr _ ms hp, e1, q1, q2]
    exact q4

/-! ### what the methods do -/
theorem keys_ne1 : (aPen == aDur) = false := by decide
theorem keys_ne2 : (aDur == aPen) = false := by decide
theorem look_dur {a b : AV} : [(aDur, a), (aPen, b)].lookup aDur = some a := by simp [List.lookup]
theorem look_pen {a b : AV} : [(aDur, a), (aPen, b)].lookup aPen = some b := by simp [List.lookup, keys_ne1]
theorem look_no {a b : AV} {m : Str} (h1 : (m == aDur) = false) (h2 : (m == aPen) = false) : [(aDur, a), (aPen, b)].lookup m = none := by simp [List.lookup, h1, h2]
theorem get_dur {hp : List AO} {d r1 r2 : Nat} {dur : List (List PyData)} {pen : List (Int × List PyData)} (D : DiskAt hp d r1 r2 dur pen) {b : Bool} {a : E} {ms ms1 : MS} (h : ev true a ms = some (.av (.ref d), ms1)) (hh : ms1.hp = hp) : ev b (.attr cDisk a aDur) ms = some (.av (.ref r1), ms1) := by
  subst hh
  simp [h, D.ob, look_dur]
theorem get_pen {hp : List AO} {d r1 r2 : Nat} {dur : List (List PyData)} {pen : List (Int × List PyData)} (D : DiskAt hp d r1 r2 dur pen) {b : Bool} {a : E} {ms ms1 : MS} (h : ev true a ms = some (.av (.ref d), ms1)) (hh : ms1.hp = hp) : ev b (.attr cDisk a aPen) ms = some (.av (.ref r2), ms1) := by
  subst hh
  simp [h, D.ob, look_pen]
/-- a row of the contents that a disk is made of: a list or a tuple -/
def rowD : PyData → Option (List PyData)
  | .list xs => some xs
  | .tuple xs => some xs
  | _ => none
theorem disk_write {hp : List AO} {d r1 r2 : Nat} {dur : List (List PyData)} {pen : List (Int × List PyData)} (D : DiskAt hp d r1 r2 dur pen) (hne : r1 ≠ r2) (hl : pen.length < 16777216) (k : Int) (w : PyData) (ws : List PyData) (hw : rowD w = some ws) :
    ∃ hp', f_Disk_write.run [.ref d, iv k, .dat w] hp = some (.av (.dat .none), hp') ∧ DiskAt hp' d r1 r2 dur (pen ++ [(k, ws)]) ∧ Fm (fun i => i = r2) hp hp' ∧ hp'.length = hp.length := by
  obtain ⟨l1, l2, l3, n1, n2⟩ := D.lt
  refine ⟨hp.set r2 (.lst ((pen ++ [(k, ws)]).map wrV)), ?_, ⟨by rw [List.getElem?_set_ne (Ne.symm n2)]; exact D.ob, by rw [List.getElem?_set_ne (Ne.symm hne)]; exact D.du, by rw [List.getElem?_set_self l3]⟩, ⟨by simp, fun i hi hs => by rw [List.getElem?_set_ne (Ne.symm hs)]⟩, by simp⟩
  have hb : b1V hp .list (.av (.dat w)) = some (.lst ws) := by
    cases w <;> simp [rowD] at hw <;> subst hw <;> rfl
  simp [f_Disk_write, runB, ss_Disk_write, D.ob, D.pe, look_pen, hb, allD, hl]
  rfl

@[simp] theorem bind_two {i j : Nat} {a b : PyData} {rho : List Slot} (h1 : i < rho.length) (h2 : j < rho.length) : bindT [i, j] (.tuple [a, b]) rho = some ((rho.set i (.av (.dat a))).set j (.av (.dat b))) := by
  simp [bindT, bindT.bindN, h1, h2]
@[simp] theorem bind_three {i j k : Nat} {a b c : PyData} {rho : List Slot} (h1 : i < rho.length) (h2 : j < rho.length) (h3 : k < rho.length) : bindT [i, j, k] (.tuple [a, b, c]) rho = some (((rho.set i (.av (.dat a))).set j (.av (.dat b))).set k (.av (.dat c))) := by
  simp [bindT, bindT.bindN, h1, h2, h3]
/-- the writes that pend reach the disk -/
def applyW (dur : List (List PyData)) : List (Int × List PyData) → List (List PyData)
  | [] => dur
  | p :: r => applyW (dur.set p.1.toNat p.2) r
theorem applyW_len : ∀ (pen : List (Int × List PyData)) (dur : List (List PyData)), (applyW dur pen).length = dur.length
  | [], _ => rfl
  | p :: r, dur => by
    show (applyW (dur.set p.1.toNat p.2) r).length = _
    rw [applyW_len r]
    simp
theorem applyW_snoc : ∀ (pen : List (Int × List PyData)) (p : Int × List PyData) (dur : List (List PyData)), applyW dur (pen ++ [p]) = (applyW dur pen).set p.1.toNat p.2
  | [], _, _ => rfl
  | q :: r, p, dur => applyW_snoc r p (dur.set q.1.toNat q.2)
theorem set_rowV (xs : List (List PyData)) (j : Nat) (w : List PyData) : (xs.map rowV).set j (.dat (.list w)) = (xs.set j w).map rowV := by
  rw [List.map_set]
  rfl
theorem disk_barrier {hp : List AO} {d r1 r2 : Nat} {dur : List (List PyData)} {pen : List (Int × List PyData)} (D : DiskAt hp d r1 r2 dur pen) (hne : r1 ≠ r2) (hw : ∀ p ∈ pen, 0 ≤ p.1 ∧ p.1 < dur.length) (hl : pen.length < 1000000000) :
    ∃ hp', f_Disk_barrier.run [.ref d] hp = some (.av (.dat .none), hp') ∧ DiskAt hp' d r1 hp.length (applyW dur pen) [] ∧ Fm (fun i => i = d ∨ i = r1) hp hp' := by
  obtain ⟨l1, l2, l3, n1, n2⟩ := D.lt
  have stay : ∀ xs : List AV, (hp.set r1 (.lst xs))[d]? = some (.ins cDisk [(aDur, .ref r1), (aPen, .ref r2)]) := fun xs => by
    rw [List.getElem?_set_ne (Ne.symm n1)]; exact D.ob
  have stay2 : ∀ xs : List AV, (hp.set r1 (.lst xs))[r2]? = some (.lst (pen.map wrV)) := fun xs => by
    rw [List.getElem?_set_ne hne]; exact D.pe
  have stay3 : ∀ xs : List AV, (hp.set r1 (.lst xs))[r1]? = some (.lst xs) := fun xs => List.getElem?_set_self l2
  have hall : (pen.map wrD).map AV.dat = pen.map wrV := by simp [wrV]
  obtain ⟨ms', e1, s1, s2, rfl⟩ := forS_inv (tg := [1, 2]) (body := exs (.cons (.setIxE (.attr cDisk (.var 0) aDur) (.var 1) (.b1 .list (.var 2))) .nil)) (r := r2) (all := pen.map wrD)
    (fun i ms => ∃ s1 s2, ms = ⟨[.av (.ref d), s1, s2], hp.set r1 (.lst ((applyW dur (pen.take i)).map rowV))⟩) (fun i ms ⟨s1, s2, e⟩ => by rw [e, hall]; exact stay2 _)
    (pen.map wrD) FUEL 0 ⟨[.av (.ref d), .emp, .emp], hp⟩ (by simp) (by simp) (by simp [FUEL]; omega) ⟨.emp, .emp, by
      have : hp.set r1 (.lst (dur.map rowV)) = hp := by
        apply List.ext_getElem?
        intro i
        by_cases h : i = r1
        · subst h; rw [List.getElem?_set_self l2, D.du]
        · rw [List.getElem?_set_ne (Ne.symm h)]
      simp [applyW, this]⟩ (by
      rintro j x ms hj ⟨s1, s2, rfl⟩
      rw [List.getElem?_map] at hj
      cases hp0 : pen[j]? with
      | none => rw [hp0] at hj; cases hj
      | some p =>
        rw [hp0] at hj
        cases hj
        obtain ⟨k, w⟩ := p
        have hk := hw (k, w) (List.mem_of_getElem? hp0)
        have ht : pen.take (j + 1) = pen.take j ++ [(k, w)] := by
          rw [List.take_add_one, hp0]; rfl
        have hix : ixD (dur.length) k = some k.toNat := by
          unfold ixD
          rw [if_neg (by have := hk.1; simp at this; omega), if_pos (by have := hk.2; simpa using this)]
        refine ⟨[.av (.ref d), .av (iv k), .av (.dat (.list w))], ⟨[.av (.ref d), .av (iv k), .av (.dat (.list w))], hp.set r1 (.lst ((applyW dur (pen.take (j + 1))).map rowV))⟩, by simp [wrD], ?_, _, _, rfl⟩
        simp [stay, stay3, look_dur, applyW_len, hix]
        rw [set_rowV, ht, applyW_snoc])
  refine ⟨((hp.set r1 (.lst ((applyW dur pen).map rowV))) ++ [AO.lst []]).set d (.ins cDisk [(aDur, .ref r1), (aPen, .ref hp.length)]), ?_, ?_, ?_⟩
  · have e2 : pen.take (pen.map wrD).length = pen := by simp
    rw [e2] at e1
    have g : (hp.set r1 (.lst ((applyW dur pen).map rowV)) ++ [AO.lst []])[d]? = some (.ins cDisk [(aDur, .ref r1), (aPen, .ref r2)]) := by
      rw [List.getElem?_append_left (by simpa using l1)]; exact stay _
    have e3 : hp[d]? = some (.ins cDisk [(aDur, .ref r1), (aPen, .ref r2)]) := D.ob
    simp [f_Disk_barrier, runB, ss_Disk_barrier, e3, look_pen, D.pe, e1, g, putA]
  · refine ⟨?_, ?_, ?_⟩
    · rw [List.getElem?_set_self (by simp; omega)]
    · rw [List.getElem?_set_ne n1, List.getElem?_append_left (by simpa using l2)]
      exact stay3 _
    · rw [List.getElem?_set_ne (by omega), List.getElem?_append_right (by simp)]
      simp
  · refine ⟨by simp, fun i hi hs => ?_⟩
    rw [List.getElem?_set_ne (fun e => hs (.inl e.symm)), List.getElem?_append_left (by simpa using hi), List.getElem?_set_ne (fun e => hs (.inr e.symm))]

/-- the last words written to a sector, or what it has -/
def lookP (k : Int) (w : List PyData) : List (Int × List PyData) → List PyData
  | [] => w
  | p :: r => lookP k (if p.1 = k then p.2 else w) r
theorem lookP_snoc (k : Int) : ∀ (pen : List (Int × List PyData)) (p : Int × List PyData) (w : List PyData), lookP k w (pen ++ [p]) = if p.1 = k then p.2 else lookP k w pen
  | [], _, _ => rfl
  | q :: r, p, w => lookP_snoc k r p _
theorem disk_look {hp : List AO} {d r1 r2 : Nat} {dur : List (List PyData)} {pen : List (Int × List PyData)} (D : DiskAt hp d r1 r2 dur pen) {k : Nat} {w0 : List PyData} (hk : dur[k]? = some w0) (hl : pen.length < 1000000000) :
    f_Disk_look.run [.ref d, iv k] hp = some (.lst (lookP k w0 pen), hp) := by
  have hall : (pen.map wrD).map AV.dat = pen.map wrV := by simp [wrV]
  have hlt := (List.getElem?_eq_some_iff.mp hk).1
  obtain ⟨ms', e1, s3, s4, rfl⟩ := forS_inv (tg := [3, 4]) (body := exs (.cons (.ite (.cmp .eq (.var 3) (.var 1)) (.cons (.set 2 (.var 4)) .nil) .nil) .nil)) (r := r2) (all := pen.map wrD)
    (fun i ms => ∃ s3 s4, ms = ⟨[.av (.ref d), .av (iv k), .av (.dat (.list (lookP k w0 (pen.take i)))), s3, s4], hp⟩) (fun i ms ⟨s3, s4, e⟩ => by rw [e, hall]; exact D.pe)
    (pen.map wrD) FUEL 0 ⟨[.av (.ref d), .av (iv k), .av (.dat (.list w0)), .emp, .emp], hp⟩ (by simp) (by simp) (by simp [FUEL]; omega) ⟨.emp, .emp, by simp [lookP]⟩ (by
      rintro j x ms hj ⟨s3, s4, rfl⟩
      rw [List.getElem?_map] at hj
      cases hp0 : pen[j]? with
      | none => rw [hp0] at hj; cases hj
      | some p =>
        rw [hp0] at hj
        cases hj
        obtain ⟨q, w⟩ := p
        have ht : pen.take (j + 1) = pen.take j ++ [(q, w)] := by
          rw [List.take_add_one, hp0]; rfl
        refine ⟨[.av (.ref d), .av (iv k), .av (.dat (.list (lookP k w0 (pen.take j)))), .av (iv q), .av (.dat (.list w))], ⟨[.av (.ref d), .av (iv k), .av (.dat (.list (lookP k w0 (pen.take (j + 1))))), .av (iv q), .av (.dat (.list w))], hp⟩, by simp [wrD], ?_, _, _, rfl⟩
        rw [ht, lookP_snoc]
        by_cases c : q = k
        · simp [c]
        · simp [c])
  have e2 : pen.take (pen.map wrD).length = pen := by simp
  rw [e2] at e1
  have e3 : hp[d]? = some (.ins cDisk [(aDur, .ref r1), (aPen, .ref r2)]) := D.ob
  have e4 : atD (dur.map rowV) (k : Int) = some (rowV w0) := by
    rw [atD_nat (by simpa using hlt)]
    simp
    rw [List.getElem?_eq_getElem hlt] at hk
    cases hk
    rfl
  simp [f_Disk_look, runB, ss_Disk_look, e3, look_dur, look_pen, sub_ref D.du, e4, rowV, D.pe, e1]
def snapD (dur : List (List PyData)) (pen : List (Int × List PyData)) : PyData := .tuple [.tuple (dur.map .tuple), .tuple (pen.map fun p => .tuple [.int p.1, .tuple p.2])]
theorem disk_snapshot {hp : List AO} {d r1 r2 : Nat} {dur : List (List PyData)} {pen : List (Int × List PyData)} (D : DiskAt hp d r1 r2 dur pen) (h1 : dur.length ≤ 16777216) (hl : pen.length ≤ 16777216) :
    f_Disk_snapshot.run [.ref d] hp = some (.av (.dat (snapD dur pen)), hp) := by
  have hall : (pen.map wrD).map AV.dat = pen.map wrV := by simp [wrV]
  have hdl : (dur.map PyData.list).map AV.dat = dur.map rowV := by simp [rowV]
  have e3 : hp[d]? = some (.ins cDisk [(aDur, .ref r1), (aPen, .ref r2)]) := D.ob
  have c1 := compS_map (tg := [2]) (test := evC .nil) (elt := ev false (.b1 .tuple (.var 2))) (fun _ => true) (fun x => match x with | .list w => .tuple w | x => x) ⟨[.av (.ref d), .emp, .emp, .emp, .emp], hp⟩ r1 (dur.map .list) (by rw [hdl]; exact D.du)
    (dur.map .list) [] FUEL 0 (by simp) (by simp [FUEL]; omega) (by
      intro x hx
      obtain ⟨w, _, rfl⟩ := List.mem_map.mp hx
      exact ⟨[.av (.ref d), .emp, .av (.dat (.list w)), .emp, .emp], by simp, by simp, fun _ => ⟨.av (.dat (.tuple w)), by simp, by simp⟩, rfl, rfl⟩) (by simpa using h1)
  have c2 := fun s1 : PyData => compS_map (tg := [3, 4]) (test := evC .nil) (elt := ev false (.tup (.cons (.var 3) (.cons (.b1 .tuple (.var 4)) .nil)))) (fun _ => true) (fun x => match x with | .tuple [a, .list w] => .tuple [a, .tuple w] | x => x) ⟨[.av (.ref d), .av (.dat s1), .emp, .emp, .emp], hp⟩ r2 (pen.map wrD) (by rw [hall]; exact D.pe)
    (pen.map wrD) [] FUEL 0 (by simp) (by simp [FUEL]; omega) (by
      intro x hx
      obtain ⟨⟨q, w⟩, _, rfl⟩ := List.mem_map.mp hx
      exact ⟨[.av (.ref d), .av (.dat s1), .emp, .av (iv q), .av (.dat (.list w))], by simp [wrD], by simp, fun _ => ⟨.av (.dat (.tuple [.int q, .tuple w])), by simp, by simp [wrD]⟩, rfl, rfl⟩) (by simpa using hl)
  rw [List.filter_eq_self.mpr (fun _ _ => rfl)] at c1
  have c2 := fun s1 : PyData => by
    have := c2 s1
    rw [List.filter_eq_self.mpr (fun _ _ => rfl)] at this
    exact this
  simp at c1 c2
  have f1 : (fun x => match x with | PyData.list w => PyData.tuple w | x => x) ∘ PyData.list = PyData.tuple := rfl
  have f2 : (fun x => match x with | PyData.tuple [a, .list w] => PyData.tuple [a, .tuple w] | x => x) ∘ wrD = fun p => .tuple [.int p.1, .tuple p.2] := rfl
  rw [f1] at c1
  rw [f2] at c2
  simp [f_Disk_snapshot, runB, ss_Disk_snapshot, e3, look_dur, look_pen, D.du, D.pe, plainAt, wipeR, c1, c2, back, snapD]
/-- Disk(contents) -/
theorem disk_new {hp : List AO} {rows : List PyData} {wss : List (List PyData)} (hr : rows.map rowD = wss.map some) (hl : rows.length ≤ 16777216) :
    f_Disk_init.run [.ref hp.length, .dat (.tuple rows)] (hp ++ [.ins cDisk []]) = some (.av (.dat .none), hp ++ [.ins cDisk [(aDur, .ref (hp.length + 1)), (aPen, .ref (hp.length + 2))], .lst (wss.map rowV), .lst []]) := by
  have c1 := compL_map (tg := [2]) (test := evC .nil) (elt := ev false (.b1 .list (.var 2))) (fun _ => true) (fun x => match rowD x with | some w => .list w | none => x) ⟨[.av (.ref hp.length), .av (.dat (.tuple rows)), .emp], hp ++ [.ins cDisk []]⟩ rows [] (by
      intro x hx
      have : ∃ w, rowD x = some w := by
        have h2 : rowD x ∈ wss.map some := by rw [← hr]; exact List.mem_map_of_mem hx
        obtain ⟨w, _, e⟩ := List.mem_map.mp h2
        exact ⟨w, e.symm⟩
      obtain ⟨w, e⟩ := this
      refine ⟨[.av (.ref hp.length), .av (.dat (.tuple rows)), .av (.dat x)], by simp, by simp, fun _ => ⟨.lst w, ?_, by simp [e]⟩, rfl, rfl⟩
      cases x <;> simp [rowD] at e <;> subst e <;> simp) (by simpa using hl)
  rw [List.filter_eq_self.mpr (fun _ _ => rfl)] at c1
  have e5 : rows.map (fun x => match rowD x with | some w => PyData.list w | none => x) = wss.map .list := by
    have : ∀ (rows : List PyData) (wss : List (List PyData)), rows.map rowD = wss.map some → rows.map (fun x => match rowD x with | some w => PyData.list w | none => x) = wss.map .list := by
      intro rows
      induction rows with
      | nil => intro wss h; cases wss with
        | nil => rfl
        | cons _ _ => simp at h
      | cons x rows ih => intro wss h; cases wss with
        | nil => simp at h
        | cons w wss =>
          simp at h
          simp [h.1]
          exact ih wss (by simpa using h.2)
    exact this rows wss hr
  rw [e5] at c1
  simp at c1
  simp [f_Disk_init, runB, ss_Disk_init, plainAt, wipeR, c1, back, putA]
  exact fun a _ => rfl

/-! ### draws beside other objects -/
def DrawOk (hp : List AO) : Prop := ∃ (cs : List Int) (s : Int), cs.length ≤ 63 ∧ hp[0]? = some (.lst (cs.map iv)) ∧ hp[1]? = some (.lst [.ref 0, iv s])
theorem draw_of {hp : List AO} (D : DSt hp []) : DrawOk hp ∧ hp.length = 2 := by
  obtain ⟨cs, s, h, rfl⟩ := D
  exact ⟨⟨cs, s, h, rfl, rfl⟩, rfl⟩
theorem DrawOk.keep {S : Nat → Prop} {h1 h2 : List AO} (D : DrawOk h1) (f : Fm S h1 h2) (a : ¬ S 0) (b : ¬ S 1) : DrawOk h2 := by
  obtain ⟨cs, s, h, e1, e2⟩ := D
  exact ⟨cs, s, h, f.get e1 a, f.get e2 b⟩
/-- the draws' own places -/
def two (i : Nat) : Prop := i < 2
theorem draw_fm {hp : List AO} (D : DrawOk hp) {m : Int} (h0 : 0 < m) (h1 : m < B30) : ∃ v hp', f__law_draw.run [.ref 1, iv m] hp = some (.av (iv v), hp') ∧ DrawOk hp' ∧ Fm two hp hp' ∧ 0 ≤ v ∧ v < m := by
  obtain ⟨cs, s, hl, e1, e2⟩ := D
  have e : hp = DS cs s ++ hp.drop 2 := by
    cases hp with
    | nil => simp at e1
    | cons a r => cases r with
      | nil => simp at e2
      | cons b r =>
        simp at e1 e2
        subst e1 e2
        rfl
  obtain ⟨v, hp', q1, ⟨cs', s', q2, q3⟩, q4, q5⟩ := draw_run (hp := hp) (rest := hp.drop 2) ⟨cs, s, hl, e⟩ h0 h1
  refine ⟨v, hp', q1, ⟨cs', s', q2, by rw [q3]; rfl, by rw [q3]; rfl⟩, ⟨by rw [q3]; rw [e]; simp [DS], fun i hi hs => ?_⟩, q4, q5⟩
  have h2 : 2 ≤ i := by unfold two at hs; omega
  rw [q3]
  conv => rhs; rw [e]
  rw [List.getElem?_append_right (by simp [DS]; exact h2), List.getElem?_append_right (by simp [DS]; exact h2)]
  simp [DS]
/-- a comprehension whose values change the heap -/
theorem compL_rel {tg : List Nat} {elt : MS → Option (RV × MS)} {rho0 : List Slot} (I : List AO → Prop) (R : PyData → PyData → Prop) : ∀ (xs acc : List PyData) (hp : List AO), I hp →
    (∀ x ∈ xs, ∀ hp, I hp → ∃ rho rv d hp', bindT tg x rho0 = some rho ∧ elt ⟨rho, hp⟩ = some (rv, ⟨rho, hp'⟩) ∧ rv.d? = some d ∧ R x d ∧ I hp' ∧ plainAt tg rho = true ∧ wipeR tg rho = rho0) →
    acc.length + xs.length ≤ 16777216 → ∃ ds hp', compL tg (evC .nil) elt xs acc ⟨rho0, hp⟩ = some (acc ++ ds, ⟨rho0, hp'⟩) ∧ I hp' ∧ ds.length = xs.length ∧ ∀ d ∈ ds, ∃ x ∈ xs, R x d
  | [], acc, hp, hi, _, _ => ⟨[], hp, by simp [compL], hi, rfl, by simp⟩
  | x :: xs, acc, hp, hi, h, hl => by
    obtain ⟨rho, rv, d, hp', h1, h2, h3, h4, h5, h6, h7⟩ := h x (List.mem_cons_self ..) hp hi
    obtain ⟨ds, hp2, q1, q2, q3, q4⟩ := compL_rel (tg := tg) (elt := elt) I R xs (acc ++ [d]) hp' h5 (fun y hy => h y (List.mem_cons_of_mem _ hy)) (by simp at hl ⊢; omega)
    refine ⟨d :: ds, hp2, ?_, q2, by simp [q3], fun z hz => ?_⟩
    · have hlt : acc.length < LINE := by simp at hl ⊢; omega
      unfold compL
      rw [h1]
      simp only [evCe_0, h2, h3, if_pos hlt, h6, if_true]
      rw [h7, q1]
      simp
    · rcases List.mem_cons.mp hz with rfl | hz
      · exact ⟨x, List.mem_cons_self .., h4⟩
      · obtain ⟨y, hy, r⟩ := q4 z hz
        exact ⟨y, List.mem_cons_of_mem _ hy, r⟩
/-! ### data equal to itself, its depth -/
mutual
def noDict : PyData → Bool
  | .dict _ => false
  | .list xs => noDicts xs
  | .tuple xs => noDicts xs
  | _ => true
def noDicts : List PyData → Bool
  | [] => true
  | x :: xs => noDict x && noDicts xs
end
mutual
theorem eqq_refl : ∀ d : PyData, noDict d = true → eqq d d = true
  | .none, _ => rfl
  | .bool b, _ => by simp
  | .int i, _ => by simp
  | .str x, _ => by simp
  | .list xs, h => eqqs_refl xs h
  | .tuple xs, h => eqqs_refl xs h
  | .dict _, h => by cases h
theorem eqqs_refl : ∀ d : List PyData, noDicts d = true → eqqs d d = true
  | [], _ => rfl
  | x :: xs, h => by
    have h' : noDict x = true ∧ noDicts xs = true := by simpa [noDicts] using h
    simp [eqq_refl x h'.1, eqqs_refl xs h'.2]
end
theorem noDicts_of : ∀ {xs : List PyData}, (∀ x ∈ xs, noDict x = true) → noDicts xs = true
  | [], _ => rfl
  | x :: xs, h => by
    simp [noDicts, h x (List.mem_cons_self ..), noDicts_of fun y hy => h y (List.mem_cons_of_mem _ hy)]
theorem deps_le : ∀ {xs : List PyData} {n : Nat}, (∀ x ∈ xs, dep x ≤ n) → deps xs ≤ n
  | [], _, _ => Nat.zero_le _
  | x :: xs, n, h => by
    have h1 := h x (List.mem_cons_self ..)
    have h2 := deps_le (xs := xs) (n := n) fun y hy => h y (List.mem_cons_of_mem _ hy)
    simp
    omega
/-- a word's row: ints alone -/
def Ints (xs : List PyData) : Prop := ∀ x ∈ xs, ∃ i, x = .int i
theorem Ints.dep {xs : List PyData} (h : Ints xs) : deps xs = 0 := by
  have := deps_le (xs := xs) (n := 0) fun x hx => by
    obtain ⟨i, rfl⟩ := h x hx
    simp
  omega
theorem Ints.nd {xs : List PyData} (h : Ints xs) : noDicts xs = true := noDicts_of fun x hx => by
  obtain ⟨i, rfl⟩ := h x hx
  rfl

@[simp] theorem nm1 : (f_Disk_look.name = aDur) = False := eq_false (by decide)
@[simp] theorem nm2 : (f_Disk_look.name = aPen) = False := eq_false (by decide)
@[simp] theorem nm3 : (f_Disk_write.name = aDur) = False := eq_false (by decide)
@[simp] theorem nm4 : (f_Disk_write.name = aPen) = False := eq_false (by decide)
@[simp] theorem nm5 : (f_Disk_barrier.name = aDur) = False := eq_false (by decide)
@[simp] theorem nm6 : (f_Disk_barrier.name = aPen) = False := eq_false (by decide)
@[simp] theorem nm7 : (f_Disk_snapshot.name = aDur) = False := eq_false (by decide)
@[simp] theorem nm8 : (f_Disk_snapshot.name = aPen) = False := eq_false (by decide)
/-- a sector's row -/
def Row (w : List PyData) : Prop := Ints w ∧ w.length ≤ 1000
end Sv

/-! Sv: texts. -/
namespace Sv
open PySem
def cpl (x : Str) : List Nat := x.cps.toList
theorem str_ext {x y : Str} (h : cpl x = cpl y) : x = y := by
  cases x with
  | mk a => cases y with
    | mk b =>
      have : a = b := Array.toList_inj.mp h
      rw [this]
@[simp] theorem cpl_app (x y : Str) : cpl (x ++ y) = cpl x ++ cpl y := by
  show (x.cps ++ y.cps).toList = _
  simp [cpl]
@[simp] theorem cpl_mk (l : List Nat) : cpl ⟨l.toArray⟩ = l := by simp [cpl]
theorem len_cpl (x : Str) : x.length = (cpl x).length := by
  show x.cps.size = x.cps.toList.length
  simp
@[simp] theorem len_app (x y : Str) : (x ++ y).length = x.length + y.length := by
  rw [len_cpl, len_cpl, len_cpl, cpl_app, List.length_append]
/-- texts with something between -/
def joinL (sep : List Nat) : List (List Nat) → List Nat
  | [] => []
  | [x] => x
  | x :: y :: r => x ++ sep ++ joinL sep (y :: r)
theorem cpl_join (s : Str) : ∀ ys : List Str, cpl (Str.join s ys) = joinL (cpl s) (ys.map cpl)
  | [] => rfl
  | [x] => rfl
  | x :: y :: r => by
    show cpl (x ++ s ++ Str.join s (y :: r)) = cpl x ++ cpl s ++ joinL (cpl s) ((y :: r).map cpl)
    rw [cpl_app, cpl_app, cpl_join s (y :: r)]
/-- .. with it ahead of each -/
def flatL (sep : List Nat) : List (List Nat) → List Nat
  | [] => []
  | x :: r => sep ++ x ++ flatL sep r
theorem flat_join (sep : List Nat) : ∀ ys : List (List Nat), (flatL sep ys).drop sep.length = joinL sep ys
  | [] => by simp [flatL, joinL]
  | x :: r => by
    have : ∀ (r : List (List Nat)) (x : List Nat), x ++ flatL sep r = joinL sep (x :: r) := by
      intro r
      induction r with
      | nil => intro x; simp [flatL, joinL]
      | cons y r ih =>
        intro x
        show x ++ (sep ++ y ++ flatL sep r) = x ++ sep ++ joinL sep (y :: r)
        rw [← ih y]
        simp
    rw [← this r x]
    simp [flatL]
theorem flatL_snoc (sep : List Nat) : ∀ (ys : List (List Nat)) (y : List Nat), flatL sep (ys ++ [y]) = flatL sep ys ++ sep ++ y
  | [], y => by simp [flatL]
  | x :: r, y => by
    show sep ++ x ++ flatL sep (r ++ [y]) = _
    rw [flatL_snoc sep r y]
    simp [flatL]
/-- a text of at most n signs, all of them code points -/
def Sm (n : Nat) (x : Str) : Prop := x.length ≤ n ∧ x.cps.toList.all (fun c => decide (c < 1114112)) = true
theorem Sm.app {n m : Nat} {x y : Str} (a : Sm n x) (b : Sm m y) : Sm (n + m) (x ++ y) := by
  refine ⟨by rw [len_app]; have := a.1; have := b.1; omega, ?_⟩
  have h : (x ++ y).cps.toList = x.cps.toList ++ y.cps.toList := cpl_app x y
  rw [h, List.all_append, a.2, b.2]
  rfl
theorem Sm.le {n m : Nat} {x : Str} (a : Sm n x) (h : n ≤ m) : Sm m x := ⟨Nat.le_trans a.1 h, a.2⟩
theorem Sm.dep {n : Nat} {x : Str} (a : Sm n x) : dep (.str x) = 0 := dep_str a.2
theorem Sm.join {n k : Nat} {s : Str} (hs : Sm k s) : ∀ {ys : List Str}, (∀ y ∈ ys, Sm n y) → Sm (ys.length * (n + k)) (Str.join s ys)
  | [], _ => ⟨Nat.zero_le _, rfl⟩
  | [x], h => (h x (List.mem_cons_self ..)).le (by simp)
  | x :: y :: r, h => by
    have a := h x (List.mem_cons_self ..)
    have b := Sm.join hs (ys := y :: r) fun z hz => h z (List.mem_cons_of_mem _ hz)
    refine ((a.app hs).app b).le ?_
    simp [Nat.succ_mul]
    omega
/-- an int's text -/
def istr (i : Int) : Str := toString i
theorem istr_all : ((List.range 256).all fun n => decide ((istr (n : Int)).length ≤ 3) && (istr (n : Int)).cps.toList.all fun c => decide (c < 1114112)) = true := by decide +kernel
theorem istr_sm {i : Int} (h0 : 0 ≤ i) (h1 : i < 256) : Sm 3 (istr i) := by
  have q := List.all_eq_true.mp istr_all i.toNat (by simp; omega)
  rw [show ((i.toNat : Nat) : Int) = i by omega] at q
  simp only [Bool.and_eq_true, decide_eq_true_eq] at q
  exact q
theorem str_val {i : Int} (h0 : 0 ≤ i) (h1 : i < 256) : strV (.av (.dat (.int i))) = some (.av (.dat (.str (istr i)))) := by
  have : i.natAbs.log2 < 1920 := by
    by_cases z : i.natAbs = 0
    · rw [z]; decide
    · have h8 : i.natAbs.log2 < 8 := (Nat.log2_lt z).mpr (by omega)
      omega
  have e : strV (.av (.dat (.int i))) = if i.natAbs.log2 < 1920 then some (.av (.dat (.str (istr i)))) else none := rfl
  rw [e, if_pos this]
theorem strsD_map : ∀ ys : List Str, strsD (ys.map .str) = some ys
  | [] => rfl
  | y :: r => by simp [strsD, strsD_map r]
theorem sum_len {n : Nat} : ∀ {ys : List Str}, (∀ y ∈ ys, Sm n y) → (ys.map (·.length)).sum ≤ ys.length * n
  | [], _ => by simp
  | y :: r, h => by
    have a := (h y (List.mem_cons_self ..)).1
    have b := sum_len (ys := r) fun z hz => h z (List.mem_cons_of_mem _ hz)
    simp [Nat.succ_mul]
    omega
theorem join_val {s : Str} {ys : List Str} {n : Nat} (h : ∀ y ∈ ys, Sm n y) (hl : ys.length * n + ys.length * s.length ≤ 16777216) : joinV s (.lst (ys.map .str)) = some (.av (.dat (.str (Str.join s ys)))) := by
  unfold joinV
  simp only [d_lst, strsD_map]
  rw [if_pos (by have := sum_len h; simp; omega)]
/-- a text without its first k signs -/
theorem slice_text {x : Str} {k : Nat} (h : x.length ≤ 16777216) (hk : k ≤ x.length) : sliceV (.av (.dat (.str x))) (some (k : Int)) none = some (.av (.dat (.str ⟨((cpl x).drop k).toArray⟩))) := by
  have e : sliceV (.av (.dat (.str x))) (some (k : Int)) none = if x.length ≤ LINE then some (.av (.dat (.str ⟨(cutD x.cps.toList (some (k : Int)) none).toArray⟩))) else none := rfl
  rw [e, if_pos (by simpa using h)]
  have hl : x.cps.toList.length = x.length := (len_cpl x).symm
  have c : cutD x.cps.toList (some (k : Int)) none = (cpl x).drop k := by
    unfold cutD clipD
    simp only
    rw [if_neg (by omega), hl]
    have : min (k : Int).toNat x.length = k := by simp; omega
    rw [this]
    exact List.take_of_length_le (by rw [List.length_drop, hl]; exact Nat.le_refl _)
  rw [c]
end Sv

/-! Sv: loops and comprehensions over typed items; data that is told by eqq. -/
namespace Sv
open PySem
section
variable {α : Type} {tg : List Nat} {body : MS → Option (Out × MS)} {test : MS → Option (Bool × MS)} {elt : MS → Option (RV × MS)}
/-- a comprehension over typed items, that changes nothing -/
theorem compL_mapT (e : α → PyData) (p : α → Bool) (f : α → PyData) (ms : MS) : ∀ (xs : List α) (acc : List PyData),
    (∀ x ∈ xs, ∃ rho, bindT tg (e x) ms.rho = some rho ∧ test ⟨rho, ms.hp⟩ = some (p x, ⟨rho, ms.hp⟩) ∧ (p x = true → ∃ rv, elt ⟨rho, ms.hp⟩ = some (rv, ⟨rho, ms.hp⟩) ∧ rv.d? = some (f x)) ∧ plainAt tg rho = true ∧ wipeR tg rho = ms.rho) →
    acc.length + xs.length ≤ 16777216 → compL tg test elt (xs.map e) acc ms = some (acc ++ (xs.filter p).map f, ms)
  | [], acc, _, _ => by simp [compL]
  | x :: xs, acc, h, hl => by
    obtain ⟨rho, h1, h2, h3, h4, h5⟩ := h x (List.mem_cons_self ..)
    rw [List.map_cons]
    unfold compL
    rw [h1]
    simp only [h2]
    cases hp : p x with
    | false =>
      simp only [h4, if_true]
      rw [h5, compL_mapT e p f ms xs acc (fun y hy => h y (List.mem_cons_of_mem _ hy)) (by simp at hl; omega)]
      simp [hp]
    | true =>
      obtain ⟨rv, e1, e2⟩ := h3 hp
      have hlt : acc.length < LINE := by simp at hl ⊢; omega
      simp only [e1, e2, if_pos hlt, h4, if_true]
      rw [h5, compL_mapT e p f ms xs (acc ++ [f x]) (fun y hy => h y (List.mem_cons_of_mem _ hy)) (by simp at hl ⊢; omega)]
      simp [hp]
/-- .. without a test -/
theorem compL_all (e : α → PyData) (f : α → PyData) (ms : MS) (xs : List α) 
    (h : ∀ x ∈ xs, ∃ rho, bindT tg (e x) ms.rho = some rho ∧ (∃ rv, elt ⟨rho, ms.hp⟩ = some (rv, ⟨rho, ms.hp⟩) ∧ rv.d? = some (f x)) ∧ plainAt tg rho = true ∧ wipeR tg rho = ms.rho)
    (hl : xs.length ≤ 16777216) : compL tg (evC .nil) elt (xs.map e) [] ms = some (xs.map f, ms) := by
  have := compL_mapT (test := evC .nil) e (fun _ => true) f ms xs [] (fun x hx => by
    obtain ⟨rho, h1, h2, h3, h4⟩ := h x hx
    exact ⟨rho, h1, by simp, fun _ => h2, h3, h4⟩) (by simpa using hl)
  rw [List.filter_eq_self.mpr (fun _ _ => rfl), List.nil_append] at this
  exact this
/-- a for over typed items, with an invariant of what is behind -/
theorem forL_pre (e : α → PyData) (xs : List α) (P : List α → MS → Prop) : ∀ (post pre : List α) (ms : MS), xs = pre ++ post → P pre ms →
    (∀ pre x post ms, xs = pre ++ x :: post → P pre ms → ∃ rho ms1, bindT tg (e x) ms.rho = some rho ∧ body ⟨rho, ms.hp⟩ = some (.nx, ms1) ∧ P (pre ++ [x]) ms1) →
    ∃ ms', forL tg body (post.map e) ms = some (.nx, ms') ∧ P xs ms'
  | [], pre, ms, hx, hp, _ => ⟨ms, rfl, by rw [hx, List.append_nil]; exact hp⟩
  | x :: post, pre, ms, hx, hp, h => by
    obtain ⟨rho, ms1, h1, h2, h3⟩ := h pre x post ms hx hp
    obtain ⟨ms', h4, h5⟩ := forL_pre e xs P post (pre ++ [x]) ms1 (by simp [hx]) h3 h
    refine ⟨ms', ?_, h5⟩
    rw [List.map_cons, forL_nx h1 h2]
    exact h4
theorem forL_T (e : α → PyData) (xs : List α) (P : List α → MS → Prop) {ms : MS} (h0 : P [] ms)
    (h : ∀ pre x post ms, xs = pre ++ x :: post → P pre ms → ∃ rho ms1, bindT tg (e x) ms.rho = some rho ∧ body ⟨rho, ms.hp⟩ = some (.nx, ms1) ∧ P (pre ++ [x]) ms1) :
    ∃ ms', forL tg body (xs.map e) ms = some (.nx, ms') ∧ P xs ms' := forL_pre e xs P xs [] ms rfl h0 h
/-- .. that may return -/
theorem forL_preR (e : α → PyData) (xs : List α) (P : List α → MS → Prop) (R : RV → MS → Prop) : ∀ (post pre : List α) (ms : MS), xs = pre ++ post → P pre ms →
    (∀ pre x post ms, xs = pre ++ x :: post → P pre ms → ∃ rho, bindT tg (e x) ms.rho = some rho ∧ ((∃ ms1, body ⟨rho, ms.hp⟩ = some (.nx, ms1) ∧ P (pre ++ [x]) ms1) ∨ ∃ v ms1, body ⟨rho, ms.hp⟩ = some (.rt v, ms1) ∧ R v ms1)) →
    (∃ ms', forL tg body (post.map e) ms = some (.nx, ms') ∧ P xs ms') ∨ ∃ v ms', forL tg body (post.map e) ms = some (.rt v, ms') ∧ R v ms'
  | [], pre, ms, hx, hp, _ => .inl ⟨ms, rfl, by rw [hx, List.append_nil]; exact hp⟩
  | x :: post, pre, ms, hx, hp, h => by
    obtain ⟨rho, h1, h2⟩ := h pre x post ms hx hp
    rcases h2 with ⟨ms1, h2, h3⟩ | ⟨v, ms1, h2, h3⟩
    · rcases forL_preR e xs P R post (pre ++ [x]) ms1 (by simp [hx]) h3 h with ⟨ms', h4, h5⟩ | ⟨v, ms', h4, h5⟩
      · exact .inl ⟨ms', by rw [List.map_cons, forL_nx h1 h2]; exact h4, h5⟩
      · exact .inr ⟨v, ms', by rw [List.map_cons, forL_nx h1 h2]; exact h4, h5⟩
    · refine .inr ⟨v, ms1, ?_, h3⟩
      rw [List.map_cons, forL_cons, h1]
      simp only [h2]
theorem forL_TR (e : α → PyData) (xs : List α) (P : List α → MS → Prop) (R : RV → MS → Prop) {ms : MS} (h0 : P [] ms)
    (h : ∀ pre x post ms, xs = pre ++ x :: post → P pre ms → ∃ rho, bindT tg (e x) ms.rho = some rho ∧ ((∃ ms1, body ⟨rho, ms.hp⟩ = some (.nx, ms1) ∧ P (pre ++ [x]) ms1) ∨ ∃ v ms1, body ⟨rho, ms.hp⟩ = some (.rt v, ms1) ∧ R v ms1)) :
    (∃ ms', forL tg body (xs.map e) ms = some (.nx, ms') ∧ P xs ms') ∨ ∃ v ms', forL tg body (xs.map e) ms = some (.rt v, ms') ∧ R v ms' := forL_preR e xs P R xs [] ms rfl h0 h
/-- a comprehension whose values come with a changing heap -/
theorem compL_relT (e : α → PyData) {β : Type} (f : β → PyData) {rho0 : List Slot} (I : List AO → Prop) (R : α → β → Prop) : ∀ (xs : List α) (acc : List PyData) (hp : List AO), I hp →
    (∀ x ∈ xs, ∀ hp, I hp → ∃ rho rv y hp', bindT tg (e x) rho0 = some rho ∧ elt ⟨rho, hp⟩ = some (rv, ⟨rho, hp'⟩) ∧ rv.d? = some (f y) ∧ R x y ∧ I hp' ∧ plainAt tg rho = true ∧ wipeR tg rho = rho0) →
    acc.length + xs.length ≤ 16777216 → ∃ (ys : List β) (hp' : List AO), compL tg (evC .nil) elt (xs.map e) acc ⟨rho0, hp⟩ = some (acc ++ ys.map f, ⟨rho0, hp'⟩) ∧ I hp' ∧ ys.length = xs.length ∧ ∀ y ∈ ys, ∃ x ∈ xs, R x y
  | [], acc, hp, hi, _, _ => ⟨[], hp, by simp [compL], hi, rfl, by simp⟩
  | x :: xs, acc, hp, hi, h, hl => by
    obtain ⟨rho, rv, y, hp', h1, h2, h3, h4, h5, h6, h7⟩ := h x (List.mem_cons_self ..) hp hi
    obtain ⟨ys, hp2, q1, q2, q3, q4⟩ := compL_relT e f I R xs (acc ++ [f y]) hp' h5 (fun y hy => h y (List.mem_cons_of_mem _ hy)) (by simp at hl ⊢; omega)
    refine ⟨y :: ys, hp2, ?_, q2, by simp [q3], fun z hz => ?_⟩
    · have hlt : acc.length < LINE := by simp at hl ⊢; omega
      rw [List.map_cons]
      unfold compL
      rw [h1]
      simp only [evCe_0, h2, h3, if_pos hlt, h6, if_true]
      rw [h7, q1]
      simp
    · rcases List.mem_cons.mp hz with rfl | hz
      · exact ⟨x, List.mem_cons_self .., h4⟩
      · obtain ⟨y, hy, r⟩ := q4 z hz
        exact ⟨y, List.mem_cons_of_mem _ hy, r⟩
end
theorem ex_append_own {i : Nat} {e : E} {ms ms1 : MS} {xs0 xs : List PyData} {v : RV} {d : PyData} (h1 : ms.rho[i]? = some (.own xs0)) (he : ev false e ms = some (v, ms1)) (h2 : ms1.rho[i]? = some (.own xs)) (hd : v.d? = some d) (hl : xs.length < 16777216) :
    ex (.append i e) ms = some (.nx, { ms1 with rho := ms1.rho.set i (.own (xs ++ [d])) }) := by
  unfold ex
  simp only [h1, he, h2, hd]
  rw [if_pos hl]
/-! ### places that are written -/
section
variable {β : Type} {a b c d e f g h i : β} {as : List β}
theorem atD_lit {xs : List β} {n : Nat} {x : β} (hx : xs[n]? = some x) : atD xs (n : Int) = some x := by
  have hl := (List.getElem?_eq_some_iff.mp hx).1
  unfold atD
  rw [ixD_nn hl]
  exact hx
@[simp] theorem atD_one : atD (a :: b :: as) 1 = some b := atD_lit (n := 1) rfl
@[simp] theorem atD_two : atD (a :: b :: c :: as) 2 = some c := atD_lit (n := 2) rfl
@[simp] theorem atD_three : atD (a :: b :: c :: d :: as) 3 = some d := atD_lit (n := 3) rfl
@[simp] theorem atD_four : atD (a :: b :: c :: d :: e :: as) 4 = some e := atD_lit (n := 4) rfl
@[simp] theorem atD_five : atD (a :: b :: c :: d :: e :: f :: as) 5 = some f := atD_lit (n := 5) rfl
@[simp] theorem atD_six : atD (a :: b :: c :: d :: e :: f :: g :: as) 6 = some g := atD_lit (n := 6) rfl
@[simp] theorem atD_seven : atD (a :: b :: c :: d :: e :: f :: g :: h :: as) 7 = some h := atD_lit (n := 7) rfl
@[simp] theorem atD_eight : atD (a :: b :: c :: d :: e :: f :: g :: h :: i :: as) 8 = some i := atD_lit (n := 8) rfl
end
/-! ### data that == tells apart -/
structure EqOk {α : Type} [DecidableEq α] (P : α → Prop) (e : α → PyData) (n : Nat) : Prop where
  eq : ∀ a b, P a → P b → eqq (e a) (e b) = decide (a = b)
  dep : ∀ a, P a → dep (e a) ≤ n
section
variable {α β γ : Type} [DecidableEq α] [DecidableEq β] [DecidableEq γ] {P : α → Prop} {e : α → PyData} {n : Nat}
theorem EqOk.eqqs (h : EqOk P e n) : ∀ {xs ys : List α}, (∀ x ∈ xs, P x) → (∀ y ∈ ys, P y) → Sv.eqqs (xs.map e) (ys.map e) = decide (xs = ys)
  | [], [], _, _ => by simp
  | [], _ :: _, _, _ => by simp [Sv.eqqs]
  | _ :: _, [], _, _ => by simp [Sv.eqqs]
  | x :: xs, y :: ys, hx, hy => by
    have h1 := h.eq x y (hx x (List.mem_cons_self ..)) (hy y (List.mem_cons_self ..))
    have h2 := EqOk.eqqs h (xs := xs) (ys := ys) (fun z hz => hx z (List.mem_cons_of_mem _ hz)) (fun z hz => hy z (List.mem_cons_of_mem _ hz))
    rw [List.map_cons, List.map_cons, eqqs_cons, h1, h2]
    by_cases c : x = y <;> by_cases d : xs = ys <;> simp [c, d]
theorem EqOk.deps (h : EqOk P e n) {xs : List α} (hx : ∀ x ∈ xs, P x) : Sv.deps (xs.map e) ≤ n := deps_le fun d hd => by
  obtain ⟨x, h1, rfl⟩ := List.mem_map.mp hd
  exact h.dep x (hx x h1)
theorem EqOk.tup (h : EqOk P e n) : EqOk (fun xs : List α => ∀ x ∈ xs, P x) (fun xs => .tuple (xs.map e)) (n + 1) :=
  ⟨fun a b ha hb => by rw [eqq_tuple]; exact h.eqqs ha hb, fun a ha => by rw [dep_tuple]; exact Nat.succ_le_succ (h.deps ha)⟩
theorem EqOk.lst (h : EqOk P e n) : EqOk (fun xs : List α => ∀ x ∈ xs, P x) (fun xs => .list (xs.map e)) (n + 1) :=
  ⟨fun a b ha hb => by rw [eqq_list]; exact h.eqqs ha hb, fun a ha => by rw [dep_list]; exact Nat.succ_le_succ (h.deps ha)⟩
theorem EqOk.inn (h : EqOk P e n) {x : α} (hx : P x) : ∀ {xs : List α}, (∀ x ∈ xs, P x) → Sv.inn (e x) (xs.map e) = decide (x ∈ xs)
  | [], _ => by simp [Sv.inn]
  | y :: ys, hy => by
    have h2 := EqOk.inn h hx (xs := ys) fun z hz => hy z (List.mem_cons_of_mem _ hz)
    unfold Sv.inn at h2 ⊢
    rw [List.map_cons, List.any_cons, h2, h.eq y x (hy y (List.mem_cons_self ..)) hx]
    by_cases c : x = y
    · subst c; simp
    · have c' : ¬ y = x := fun z => c z.symm
      simp [c, c']
theorem EqOk.int : EqOk (fun _ : Int => True) .int 0 := ⟨fun a b _ _ => eqq_int, fun a _ => Nat.le_refl _⟩
theorem EqOk.nat : EqOk (fun _ : Nat => True) (fun n => .int n) 0 := ⟨fun a b _ _ => by rw [eqq_int]; by_cases c : a = b <;> simp [c] <;> omega, fun a _ => Nat.le_refl _⟩
theorem EqOk.bool : EqOk (fun _ : Bool => True) .bool 0 := ⟨fun a b _ _ => by rw [eqq_bool]; cases a <;> cases b <;> rfl, fun a _ => Nat.le_refl _⟩
theorem EqOk.mono (h : EqOk P e n) {Q : α → Prop} (i : ∀ a, Q a → P a) {m : Nat} (hm : n ≤ m) : EqOk Q e m := ⟨fun a b ha hb => h.eq a b (i a ha) (i b hb), fun a ha => Nat.le_trans (h.dep a (i a ha)) hm⟩
theorem EqOk.pair {Q : β → Prop} {f : β → PyData} {m : Nat} (h : EqOk P e n) (g : EqOk Q f m) : EqOk (fun p : α × β => P p.1 ∧ Q p.2) (fun p => .tuple [e p.1, f p.2]) (max n m + 1) :=
  ⟨fun a b ha hb => by
    obtain ⟨a1, a2⟩ := a
    obtain ⟨b1, b2⟩ := b
    simp [h.eq a1 b1 ha.1 hb.1, g.eq a2 b2 ha.2 hb.2], fun a ha => by
    have := h.dep _ ha.1
    have := g.dep _ ha.2
    simp; omega⟩
theorem EqOk.triple {Q : β → Prop} {f : β → PyData} {m : Nat} {R : γ → Prop} {f3 : γ → PyData} {k : Nat} (h : EqOk P e n) (g : EqOk Q f m) (g3 : EqOk R f3 k) : EqOk (fun p : α × β × γ => P p.1 ∧ Q p.2.1 ∧ R p.2.2) (fun p => .tuple [e p.1, f p.2.1, f3 p.2.2]) (max n (max m k) + 1) :=
  ⟨fun a b ha hb => by
    obtain ⟨a1, a2, a3⟩ := a
    obtain ⟨b1, b2, b3⟩ := b
    simp [h.eq a1 b1 ha.1 hb.1, g.eq a2 b2 ha.2.1 hb.2.1, g3.eq a3 b3 ha.2.2 hb.2.2], fun a ha => by
    have := h.dep _ ha.1
    have := g.dep _ ha.2.1
    have := g3.dep _ ha.2.2
    simp; omega⟩
end
section
variable {α : Type} [DecidableEq α] {P : α → Prop} {e : α → PyData} {n : Nat}
theorem EqOk.cmpE (h : EqOk P e n) {x y : RV} {a b : α} (hx : x.d? = some (e a)) (hy : y.d? = some (e b)) (ha : P a) (hb : P b) (hn : n ≤ 64) : cmpV .eq x y = some (decide (a = b)) := by
  rw [cmp_eqD hx hy (Nat.le_trans (h.dep a ha) hn) (Nat.le_trans (h.dep b hb) hn), h.eq a b ha hb]
theorem EqOk.cmpN (h : EqOk P e n) {x y : RV} {a b : α} (hx : x.d? = some (e a)) (hy : y.d? = some (e b)) (ha : P a) (hb : P b) (hn : n ≤ 64) : cmpV .ne x y = some (!decide (a = b)) := by
  rw [cmp_neD hx hy (Nat.le_trans (h.dep a ha) hn) (Nat.le_trans (h.dep b hb) hn), h.eq a b ha hb]
theorem EqOk.inL (h : EqOk P e n) {x y : RV} {a : α} {bs : List α} (hx : x.d? = some (e a)) (hy : y.d? = some (.list (bs.map e))) (ha : P a) (hb : ∀ b ∈ bs, P b) (hn : n ≤ 60) : inV x y = some (decide (a ∈ bs)) := by
  unfold inV
  simp only [hx, hy]
  rw [if_pos ⟨Nat.le_trans (h.dep a ha) hn, Nat.le_trans (h.deps hb) hn⟩, h.inn ha hb]
theorem EqOk.inT (h : EqOk P e n) {x y : RV} {a : α} {bs : List α} (hx : x.d? = some (e a)) (hy : y.d? = some (.tuple (bs.map e))) (ha : P a) (hb : ∀ b ∈ bs, P b) (hn : n ≤ 60) : inV x y = some (decide (a ∈ bs)) := by
  unfold inV
  simp only [hx, hy]
  rw [if_pos ⟨Nat.le_trans (h.dep a ha) hn, Nat.le_trans (h.deps hb) hn⟩, h.inn ha hb]
end
/-! ### ranges -/
theorem range1_eq {e : E} {ms ms1 : MS} {k : Int} (h : ev true e ms = some (.av (.dat (.int k)), ms1)) (h1 : -1000000000 ≤ k) (h2 : k ≤ 1000000000) : evI (.range1 e) ms = some (.fix ((List.range k.toNat).map fun (j : Nat) => PyData.int j), ms1) := by
  rw [evIe_1, h]
  exact if_pos (smB_in (by omega) (by omega))
theorem range1_nat {e : E} {ms ms1 : MS} {n : Nat} (h : ev true e ms = some (.av (.dat (.int n)), ms1)) (h2 : n ≤ 1000000) : evI (.range1 e) ms = some (.fix ((List.range n).map fun (j : Nat) => PyData.int j), ms1) := by
  rw [range1_eq h (by omega) (by omega)]
  rfl
theorem range2_eq {a b : E} {ms ms1 ms2 : MS} {i j : Int} (h : ev true a ms = some (.av (.dat (.int i)), ms1)) (h' : ev true b ms1 = some (.av (.dat (.int j)), ms2)) (h1 : -1000000 ≤ i) (h2 : i ≤ 1000000) (h3 : -1000000 ≤ j) (h4 : j ≤ 1000000) :
    evI (.range2 a b) ms = some (.fix ((List.range (j - i).toNat).map fun (k : Nat) => PyData.int (i + k)), ms2) := by
  rw [evIe_2, h]
  simp only [h']
  exact if_pos (by rw [smB_in (by omega) (by omega), smB_in (by omega) (by omega)]; rfl)
theorem range1_same {e : E} {ms : MS} (n : Nat) (h : ev true e ms = some (.av (.dat (.int n)), ms)) (h2 : n ≤ 1000000) : evI (.range1 e) ms = some (.fix ((List.range n).map fun (j : Nat) => PyData.int j), ms) := range1_nat h h2
/-! ### while -/
theorem whileL_inv {test : MS → Option (RV × MS)} {body : MS → Option (Out × MS)} (P : Nat → MS → Prop) (Q : MS → Prop)
    (h : ∀ m ms, P m ms → (∃ ms1, test ms = some (.av (.dat (.bool false)), ms1) ∧ Q ms1) ∨ (∃ ms1 ms2 m', test ms = some (.av (.dat (.bool true)), ms1) ∧ body ms1 = some (.nx, ms2) ∧ m' < m ∧ P m' ms2)) :
    ∀ (n m : Nat) (ms : MS), m < n → P m ms → ∃ ms', whileL test body n ms = some (.nx, ms') ∧ Q ms'
  | 0, m, ms, hl, _ => absurd hl (Nat.not_lt_zero _)
  | n + 1, m, ms, hl, hp => by
    rw [whileL_succ]
    rcases h m ms hp with ⟨ms1, h1, h2⟩ | ⟨ms1, ms2, m', h1, h2, h3, h4⟩
    · rw [h1]
      exact ⟨ms1, rfl, h2⟩
    · rw [h1]
      simp only [h2]
      exact whileL_inv P Q h n m' ms2 (by omega) h4
theorem whil_inv {test : E} {body : Ss} (P : Nat → MS → Prop) (Q : MS → Prop)
    (h : ∀ m ms, P m ms → (∃ ms1, ev true test ms = some (.av (.dat (.bool false)), ms1) ∧ Q ms1) ∨ (∃ ms1 ms2 m', ev true test ms = some (.av (.dat (.bool true)), ms1) ∧ exs body ms1 = some (.nx, ms2) ∧ m' < m ∧ P m' ms2))
    (m : Nat) (ms : MS) (hm : m < 1000000000) (hp : P m ms) : ∃ ms', ex (.whil test body) ms = some (.nx, ms') ∧ Q ms' := whileL_inv P Q h FUEL m ms hm hp
/-! ### a draw, as a number -/
theorem draw_n {hp : List AO} (W : DrawOk hp) {m : Nat} (h0 : 0 < m) (h1 : m < 1073741824) : ∃ (v : Nat) (hp' : List AO), f__law_draw.run [.ref 1, iv m] hp = some (.av (iv v), hp') ∧ DrawOk hp' ∧ Fm two hp hp' ∧ v < m := by
  obtain ⟨v, hp', e, W', F, v0, v1⟩ := draw_fm W (m := (m : Int)) (by omega) (by show (m : Int) < 1073741824; omega)
  obtain ⟨n, rfl⟩ := Int.eq_ofNat_of_zero_le v0
  exact ⟨n, hp', e, W', F, by omega⟩
end Sv

/-! Sv: images of a crash (texts printed by gen3.py), and what they compute. -/
namespace Sv
open Sv PySem
/-- sector_writes(pending, sector): 0 pending 1 sector 2 at 3 words -/
def ss_sector_writes : Ss := (.cons (.ret (.comp (.var 3) [2, 3] (.seq (.var 0)) (.cons (.cmp .eq (.var 2) (.var 1)) .nil)))
  .nil)
def f_sector_writes : Fn := ⟨⟨#[115, 101, 99, 116, 111, 114, 95, 119, 114, 105, 116, 101, 115]⟩, runB 4 2 ss_sector_writes⟩
/-- choices(snapshot, sector, tears): 0 snapshot 1 sector 2 tears 3 durable 4 pending 5 many -/
def ss_choices : Ss := (.cons (.setT [3, 4] (.var 0))
  (.cons (.set 5 (.b1 .len (.callP f_sector_writes (.cons (.var 4) (.cons (.var 1) .nil)))))
  (.cons (.ite (.var 2) (.cons (.ret (.bin .add (.bin .mul (.var 5) (.b1 .len (.sub (.var 3) (.var 1)))) (.lit (.int 1))))
  .nil) .nil)
  (.cons (.ret (.bin .add (.var 5) (.lit (.int 1))))
  .nil))))
def f_choices : Fn := ⟨⟨#[99, 104, 111, 105, 99, 101, 115]⟩, runB 6 3 ss_choices⟩
/-- next_row(row, counts): 0 row 1 counts 2 at -/
def lb_next_row_0 : Ss := (.cons (.set 2 (.bin .sub (.var 2) (.lit (.int 1))))
  .nil)
def ss_next_row : Ss := (.cons (.set 2 (.bin .sub (.b1 .len (.var 0)) (.lit (.int 1))))
  (.cons (.whil (.and (.cmp .ge (.var 2) (.lit (.int 0))) (.cmp .eq (.bin .add (.sub (.var 0) (.var 2)) (.lit (.int 1))) (.sub (.var 1) (.var 2)))) lb_next_row_0)
  (.cons (.ite (.cmp .lt (.var 2) (.lit (.int 0))) (.cons (.ret (.lit .none))
  .nil) .nil)
  (.cons (.ret (.bin .add (.bin .add (.slice (.var 0) .nil (.cons (.var 2) .nil)) (.tup (.cons (.bin .add (.sub (.var 0) (.var 2)) (.lit (.int 1))) .nil))) (.bin .mul (.tup (.cons (.lit (.int 0)) .nil)) (.bin .sub (.bin .sub (.b1 .len (.var 0)) (.var 2)) (.lit (.int 1))))))
  .nil))))
def f_next_row : Fn := ⟨⟨#[110, 101, 120, 116, 95, 114, 111, 119]⟩, runB 3 2 ss_next_row⟩
/-- rows(snapshot, tears): 0 snapshot 1 tears 2 many 3 counts 4 sector 5 found 6 row -/
def lb_rows_0 : Ss := (.cons (.append 5 (.var 6))
  (.cons (.set 6 (.callP f_next_row (.cons (.var 6) (.cons (.var 3) .nil))))
  .nil))
def ss_rows : Ss := (.cons (.set 2 (.b1 .len (.sub (.var 0) (.lit (.int 0)))))
  (.cons (.setC 3 (.callP f_choices (.cons (.var 0) (.cons (.var 4) (.cons (.var 1) .nil)))) [4] (.range1 (.var 2)) .nil)
  (.cons (.set 5 (.lst .nil))
  (.cons (.set 6 (.bin .mul (.tup (.cons (.lit (.int 0)) .nil)) (.var 2)))
  (.cons (.whil (.isnone true (.var 6)) lb_rows_0)
  (.cons (.ret (.var 5))
  .nil))))))
def f_rows : Fn := ⟨⟨#[114, 111, 119, 115]⟩, runB 7 2 ss_rows⟩
/-- chosen(snapshot, sector, tears, choice): 0 snapshot 1 sector 2 tears 3 choice 4 durable 5 pending 6 contents 7 width 8 whole 9 torn -/
def ss_chosen : Ss := (.cons (.setT [4, 5] (.var 0))
  (.cons (.set 6 (.bin .add (.lst (.cons (.sub (.var 4) (.var 1)) .nil)) (.callP f_sector_writes (.cons (.var 5) (.cons (.var 1) .nil)))))
  (.cons (.ite (.not (.var 2)) (.cons (.ret (.sub (.var 6) (.var 3)))
  .nil) .nil)
  (.cons (.set 7 (.b1 .len (.sub (.var 4) (.var 1))))
  (.cons (.set 8 (.bin .fdiv (.var 3) (.var 7)))
  (.cons (.set 9 (.bin .mod (.var 3) (.var 7)))
  (.cons (.ite (.cmp .eq (.var 9) (.lit (.int 0))) (.cons (.ret (.sub (.var 6) (.var 8)))
  .nil) .nil)
  (.cons (.ret (.bin .add (.slice (.sub (.var 6) (.bin .add (.var 8) (.lit (.int 1)))) .nil (.cons (.var 9) .nil)) (.slice (.sub (.var 6) (.var 8)) (.cons (.var 9) .nil) .nil)))
  .nil))))))))
def f_chosen : Fn := ⟨⟨#[99, 104, 111, 115, 101, 110]⟩, runB 10 4 ss_chosen⟩
/-- image(snapshot, tears, row): 0 snapshot 1 tears 2 row 3 sector -/
def ss_image : Ss := (.cons (.ret (.b1 .tuple (.comp (.callP f_chosen (.cons (.var 0) (.cons (.var 3) (.cons (.var 1) (.cons (.sub (.var 2) (.var 3)) .nil))))) [3] (.range1 (.b1 .len (.var 2))) .nil)))
  .nil)
def f_image : Fn := ⟨⟨#[105, 109, 97, 103, 101]⟩, runB 4 3 ss_image⟩
/-- distinct(snapshot, tears): 0 snapshot 1 tears 2 seen 3 found 4 row 5 left -/
def lb_distinct_0 : Ss := (.cons (.set 5 (.callP f_image (.cons (.var 0) (.cons (.var 1) (.cons (.var 4) .nil)))))
  (.cons (.ite (.kin true (.var 5) (.var 2)) (.cons (.kset (.var 2) (.var 5) (.lit (.bool true)))
  (.cons (.append 3 (.tup (.cons (.var 4) (.cons (.var 5) .nil))))
  .nil)) .nil)
  .nil))
def ss_distinct : Ss := (.cons (.set 2 .kd0)
  (.cons (.set 3 (.lst .nil))
  (.cons (.for_ [4] (.seq (.callP f_rows (.cons (.var 0) (.cons (.var 1) .nil)))) lb_distinct_0)
  (.cons (.ret (.var 3))
  .nil))))
def f_distinct : Fn := ⟨⟨#[100, 105, 115, 116, 105, 110, 99, 116]⟩, runB 6 2 ss_distinct⟩
end Sv
namespace Sv
open PySem
/-! ### the model -/
structure Snap where
  dur : List (List Int)
  pen : List (Nat × List Int)
def wI (w : List Int) : PyData := .tuple (w.map .int)
def penI (p : Nat × List Int) : PyData := .tuple [.int p.1, wI p.2]
def durI (d : List (List Int)) : PyData := .tuple (d.map wI)
def snapI (s : Snap) : PyData := .tuple [durI s.dur, .tuple (s.pen.map penI)]
structure SnapOk (w : Nat) (s : Snap) : Prop where
  wpos : 0 < w
  wle : w ≤ 64
  dl : s.dur.length ≤ 64
  row : ∀ r ∈ s.dur, r.length = w
  at_ : ∀ p ∈ s.pen, p.1 < s.dur.length
  pw : ∀ p ∈ s.pen, p.2.length = w
  pl : s.pen.length ≤ 1000
def wrts (pen : List (Nat × List Int)) (k : Nat) : List (List Int) := (pen.filter fun p => decide (p.1 = k)).map (·.2)
theorem wrts_le (pen : List (Nat × List Int)) (k : Nat) : (wrts pen k).length ≤ pen.length := by
  unfold wrts
  rw [List.length_map]
  exact List.length_filter_le _ _
@[simp] theorem b1_lenW {hp : List AO} {r : List Int} : b1V hp .len (.av (.dat (wI r))) = some (.av (.dat (.int r.length))) := by simp [wI]
theorem cut_take {α : Type} (xs : List α) (n : Nat) : cutD xs none (some (n : Int)) = xs.take n := by
  unfold cutD clipD
  simp only [List.drop_zero, Nat.sub_zero]
  rw [if_neg (by omega)]
  simp only [Int.toNat_natCast]
  rcases Nat.le_total n xs.length with h | h
  · rw [Nat.min_eq_left h]
  · rw [Nat.min_eq_right h, List.take_of_length_le (Nat.le_refl _), List.take_of_length_le h]
theorem cut_drop {α : Type} (xs : List α) (n : Nat) : cutD xs (some (n : Int)) none = xs.drop n := by
  unfold cutD clipD
  simp only []
  rw [if_neg (by omega)]
  simp only [Int.toNat_natCast]
  rcases Nat.le_total n xs.length with h | h
  · rw [Nat.min_eq_left h, List.take_of_length_le (by simp)]
  · rw [Nat.min_eq_right h, List.drop_eq_nil_of_le (Nat.le_refl _), List.drop_eq_nil_of_le h]
    simp
theorem slice_takeW (r : List Int) (n : Nat) : sliceV (.av (.dat (wI r))) none (some (n : Int)) = some (.av (.dat (wI (r.take n)))) := by
  show some (RV.av (.dat (.tuple (cutD (r.map PyData.int) none (some (n : Int)))))) = _
  rw [cut_take, ← List.map_take]
  rfl
theorem slice_dropW (r : List Int) (n : Nat) : sliceV (.av (.dat (wI r))) (some (n : Int)) none = some (.av (.dat (wI (r.drop n)))) := by
  show some (RV.av (.dat (.tuple (cutD (r.map PyData.int) (some (n : Int)) none)))) = _
  rw [cut_drop, ← List.map_drop]
  rfl
theorem addW {a b : List Int} (h : a.length + b.length ≤ 16777216) : binV .add (.av (.dat (wI a))) (.av (.dat (wI b))) = some (.av (.dat (wI (a ++ b)))) := by
  have := bin_addT (xs := a.map .int) (ys := b.map .int) (by simpa using h)
  rw [← List.map_append] at this
  exact this
theorem sector_writes_run (pen : List (Nat × List Int)) (k : Nat) (hl : pen.length ≤ 1000) : f_sector_writes.run [.dat (.tuple (pen.map penI)), .dat (.int k)] [] = some (.lst ((wrts pen k).map wI), []) := by
  have c := compL_mapT (tg := [2, 3]) (test := evC (.cons (.cmp .eq (.var 2) (.var 1)) .nil)) (elt := ev false (.var 3)) penI (fun p => decide (p.1 = k)) (fun p => wI p.2) ⟨[.av (.dat (.tuple (pen.map penI))), .av (.dat (.int k)), .emp, .emp], []⟩ pen [] (fun p hp => by
    refine ⟨[.av (.dat (.tuple (pen.map penI))), .av (.dat (.int k)), .av (.dat (.int p.1)), .av (.dat (wI p.2))], by simp [penI], ?_, fun _ => ⟨.av (.dat (wI p.2)), by simp, rfl⟩, rfl, rfl⟩
    have := cmp_eq (d := .int (p.1 : Int)) (e := .int (k : Int)) (by simp) (by simp)
    simp [this, Int.ofNat_inj]) (by simp; omega)
  rw [List.nil_append] at c
  have e : (pen.filter fun p => decide (p.1 = k)).map (fun p => wI p.2) = (wrts pen k).map wI := by simp [wrts]
  rw [e] at c
  simp [f_sector_writes, runB, ss_sector_writes, plainAt, wipeR, back, c]
/-- how many choices a sector has -/
def chsP (s : Snap) (t : Bool) (w k : Nat) : Nat := if t then (wrts s.pen k).length * w + 1 else (wrts s.pen k).length + 1
theorem dur_at {s : Snap} {k : Nat} {r : List Int} (h : s.dur[k]? = some r) : atD (s.dur.map wI) (k : Int) = some (wI r) := atD_lit (by rw [List.getElem?_map, h]; rfl)
theorem choices_run {s : Snap} {w k : Nat} {t : Bool} (ok : SnapOk w s) (hk : k < s.dur.length) : f_choices.run [.dat (snapI s), .dat (.int k), .dat (.bool t)] [] = some (.av (.dat (.int (chsP s t w k))), []) := by
  have h1 := sector_writes_run s.pen k ok.pl
  obtain ⟨r, hr⟩ : ∃ r, s.dur[k]? = some r := ⟨_, List.getElem?_eq_getElem hk⟩
  have hw : r.length = w := ok.row r (List.mem_of_getElem? hr)
  have h2 := dur_at hr
  have hm := wrts_le s.pen k
  have hp := ok.pl
  have hwl := ok.wle
  have h3 := bin_mul (i := ((wrts s.pen k).length : Int)) (j := (w : Int)) (.inl (by omega))
  cases t with
  | false => simp [f_choices, runB, ss_choices, snapI, durI, h1, chsP, bind_two]
  | true => simp [f_choices, runB, ss_choices, snapI, durI, h1, chsP, bind_two, h2, wI, hw, h3]
/-- what a choice leaves of a sector: cs the words ahead of and behind each write -/
def pickP (cs : List (List Int)) (t : Bool) (w c : Nat) : List Int := if t then (if c % w = 0 then (cs[c / w]?).getD [] else ((cs[c / w + 1]?).getD []).take (c % w) ++ ((cs[c / w]?).getD []).drop (c % w)) else (cs[c]?).getD []
def contP (s : Snap) (k : Nat) : List (List Int) := (s.dur[k]?).getD [] :: wrts s.pen k
theorem contP_len {s : Snap} {w k : Nat} (ok : SnapOk w s) (hk : k < s.dur.length) : ∀ r ∈ contP s k, r.length = w := by
  intro r hr
  rcases List.mem_cons.mp hr with h | h
  · subst h
    rw [List.getElem?_eq_getElem hk]
    exact ok.row _ (List.getElem_mem hk)
  · unfold wrts at h
    obtain ⟨p, hp, rfl⟩ := List.mem_map.mp h
    exact ok.pw p (List.mem_filter.mp hp).1
theorem chosen_run {s : Snap} {w k c : Nat} {t : Bool} (ok : SnapOk w s) (hk : k < s.dur.length) (hc : c < chsP s t w k) : f_chosen.run [.dat (snapI s), .dat (.int k), .dat (.bool t), .dat (.int c)] [] = some (.av (.dat (wI (pickP (contP s k) t w c))), []) := by
  have h1 := sector_writes_run s.pen k ok.pl
  obtain ⟨r, hr⟩ : ∃ r, s.dur[k]? = some r := ⟨_, List.getElem?_eq_getElem hk⟩
  have hw : r.length = w := ok.row r (List.mem_of_getElem? hr)
  have h2 := dur_at hr
  have hm := wrts_le s.pen k
  have hp := ok.pl
  have hwl := ok.wle
  have w0 := ok.wpos
  have hcl := contP_len ok hk
  have e0 : contP s k = r :: wrts s.pen k := by unfold contP; rw [hr]; rfl
  have h3 := bin_addL1 (xs := [wI r]) (ys := (wrts s.pen k).map wI) (by simp; omega)
  have e1 : [wI r] ++ (wrts s.pen k).map wI = (contP s k).map wI := by rw [e0]; rfl
  rw [e1] at h3
  have hlen : (contP s k).length = (wrts s.pen k).length + 1 := by rw [e0]; rfl
  have at_ : ∀ j : Nat, j < (contP s k).length → atD ((contP s k).map wI) (j : Int) = some (wI (((contP s k)[j]?).getD [])) := fun j hj => atD_lit (by
    rw [List.getElem?_map, List.getElem?_eq_getElem hj]
    rfl)
  cases t with
  | false =>
    have hc' : c < (contP s k).length := by unfold chsP at hc; simp at hc; omega
    have h4 := at_ c hc'
    simp [f_chosen, runB, ss_chosen, snapI, durI, h1, bind_two, h2, h3, h4, pickP]
  | true =>
    have hc' : c < (wrts s.pen k).length * w + 1 := hc
    have hq : c / w < (contP s k).length := by
      rw [hlen, Nat.div_lt_iff_lt_mul w0]
      rw [Nat.add_mul, Nat.one_mul]
      omega
    have h4 := at_ (c / w) hq
    have h5 := bin_fdiv (i := (c : Int)) (j := (w : Int)) (by omega) (by omega)
    have h6 := bin_mod (i := (c : Int)) (j := (w : Int)) (by omega)
    have e5 : ((c / w : Nat) : Int) = (c : Int) / (w : Int) := by simp
    have e6 : ((c % w : Nat) : Int) = (c : Int) % (w : Int) := by simp
    rw [e5] at h4
    have h7 := cmp_eq (d := .int ((c : Int) % (w : Int))) (e := .int 0) (by simp) (by simp)
    by_cases hz : c % w = 0
    · have h8 : decide ((c : Int) % (w : Int) = 0) = true := by rw [← e6, hz]; rfl
      rw [eqq_int, h8] at h7
      simp only [f_chosen, runB, ss_chosen, pickP, if_pos hz]
      simp [snapI, durI, h1, bind_two, h2, h3, hw, h5, h6, h7, h4]
    · have h8 : decide ((c : Int) % (w : Int) = 0) = false := decide_eq_false (by omega)
      rw [eqq_int, h8] at h7
      have hq1 : c / w + 1 < (contP s k).length := by
        rw [hlen]
        have d1 := Nat.div_add_mod c w
        have d2 : c / w < (wrts s.pen k).length := by
          rw [Nat.div_lt_iff_lt_mul w0]
          rcases Nat.lt_or_ge c ((wrts s.pen k).length * w) with g | g
          · exact g
          · exfalso
            have : c = (wrts s.pen k).length * w := by omega
            rw [this, Nat.mul_mod_left] at hz
            exact hz rfl
        omega
      have h9 : atD ((contP s k).map wI) ((c : Int) / (w : Int) + 1) = some (wI (((contP s k)[c / w + 1]?).getD [])) := by
        have := at_ (c / w + 1) hq1
        rw [Int.natCast_add, e5] at this
        exact this
      have g1 := slice_takeW (((contP s k)[c / w + 1]?).getD []) (c % w)
      have g2 := slice_dropW (((contP s k)[c / w]?).getD []) (c % w)
      have l1 : (((contP s k)[c / w + 1]?).getD []).length = w := by
        rw [List.getElem?_eq_getElem hq1]
        exact hcl _ (List.getElem_mem hq1)
      have l2 : (((contP s k)[c / w]?).getD []).length = w := by
        rw [List.getElem?_eq_getElem hq]
        exact hcl _ (List.getElem_mem hq)
      have g3 := addW (a := (((contP s k)[c / w + 1]?).getD []).take (c % w)) (b := (((contP s k)[c / w]?).getD []).drop (c % w)) (by rw [List.length_take, List.length_drop, l1, l2]; omega)
      rw [e6] at g1 g2
      simp only [f_chosen, runB, ss_chosen, pickP, if_neg hz]
      simp [snapI, durI, h1, bind_two, h2, h3, hw, h5, h6, h7, h4, h9, g1, g2, g3]
/-- a row of choices fits -/
def RowFit (s : Snap) (t : Bool) (w : Nat) (row : List Nat) : Prop := row.length = s.dur.length ∧ ∀ k c, row[k]? = some c → c < chsP s t w k
def rowI (row : List Nat) : PyData := .tuple (row.map fun c => .int (c : Nat))
def imgP (s : Snap) (t : Bool) (w : Nat) (row : List Nat) : List (List Int) := (List.range row.length).map fun k => pickP (contP s k) t w ((row[k]?).getD 0)
@[simp] theorem b1_lenRow {hp : List AO} {row : List Nat} : b1V hp .len (.av (.dat (rowI row))) = some (.av (.dat (.int row.length))) := by simp [rowI]
theorem sub_row {hp : List AO} {row : List Nat} {k c : Nat} (h : row[k]? = some c) : subV hp (.av (.dat (rowI row))) (.av (.dat (.int k))) = some (.dat (.int c)) := by
  have : atD (row.map fun c => PyData.int (c : Nat)) (k : Int) = some (.int (c : Nat)) := atD_lit (by rw [List.getElem?_map, h]; rfl)
  simp [rowI, this]
theorem image_run {s : Snap} {w : Nat} {t : Bool} {row : List Nat} (ok : SnapOk w s) (hr : RowFit s t w row) : f_image.run [.dat (snapI s), .dat (.bool t), .dat (rowI row)] [] = some (.av (.dat (durI (imgP s t w row))), []) := by
  have hd := ok.dl
  have c := compL_all (tg := [3]) (elt := ev false (.callP f_chosen (.cons (.var 0) (.cons (.var 3) (.cons (.var 1) (.cons (.sub (.var 2) (.var 3)) .nil)))))) (fun k : Nat => PyData.int (k : Int)) (fun k => wI (pickP (contP s k) t w ((row[k]?).getD 0))) ⟨[.av (.dat (snapI s)), .av (.dat (.bool t)), .av (.dat (rowI row)), .emp], []⟩ (List.range row.length) (fun k hk => by
    have hk' : k < row.length := List.mem_range.mp hk
    have hk2 : row[k]? = some ((row[k]?).getD 0) := by rw [List.getElem?_eq_getElem hk']; rfl
    have e1 := sub_row (hp := []) hk2
    have e2 := chosen_run (c := (row[k]?).getD 0) ok (by rw [← hr.1]; exact hk') (hr.2 k _ hk2)
    refine ⟨[.av (.dat (snapI s)), .av (.dat (.bool t)), .av (.dat (rowI row)), .av (.dat (.int k))], by simp, ⟨.av (.dat (wI (pickP (contP s k) t w ((row[k]?).getD 0)))), ?_, rfl⟩, rfl, rfl⟩
    simp [e1, e2]) (by rw [List.length_range, hr.1]; omega)
  have e3 : (List.range row.length).map (fun k => wI (pickP (contP s k) t w ((row[k]?).getD 0))) = (imgP s t w row).map wI := by simp [imgP]
  rw [e3] at c
  have i1 : evI (.range1 (.b1 .len (.var 2))) ⟨[.av (.dat (snapI s)), .av (.dat (.bool t)), .av (.dat (rowI row)), .emp], []⟩ = _ := range1_same row.length (by simp) (by rw [hr.1]; omega)
  simp [f_image, runB, ss_image, plainAt, wipeR, back, i1, c, durI]
/-- the next row of choices -/
def nextP : List Nat → List Nat → Option (List Nat)
  | c :: r, n :: ns => match nextP r ns with
    | some r' => some (c :: r')
    | none => if c + 1 = n then none else some ((c + 1) :: List.replicate r.length 0)
  | _, _ => none
theorem nextP_none : ∀ {row counts : List Nat}, row.length = counts.length → (∀ j c n : Nat, row[j]? = some c → counts[j]? = some n → c + 1 = n) → nextP row counts = none
  | [], [], _, _ => rfl
  | c :: r, n :: ns, hl, h => by
    unfold nextP
    rw [nextP_none (row := r) (counts := ns) (by simpa using hl) (fun j a b p q => h (j + 1) a b (by simpa using p) (by simpa using q))]
    simp only []
    rw [if_pos (h 0 c n rfl rfl)]
  | [], _ :: _, hl, _ => by simp at hl
  | _ :: _, [], hl, _ => by simp at hl
theorem nextP_some : ∀ {row counts : List Nat} {k c n : Nat}, row.length = counts.length → row[k]? = some c → counts[k]? = some n → c + 1 ≠ n → (∀ j c n : Nat, k < j → row[j]? = some c → counts[j]? = some n → c + 1 = n) →
    nextP row counts = some (row.take k ++ ([c + 1] ++ List.replicate (row.length - k - 1) 0))
  | [], _, _, _, _, _, h, _, _, _ => by simp at h
  | _ :: _, [], _, _, _, hl, _, _, _, _ => by simp at hl
  | a :: r, b :: ns, 0, c, n, hl, h1, h2, h3, h => by
    simp at h1 h2
    subst h1 h2
    unfold nextP
    rw [nextP_none (row := r) (counts := ns) (by simpa using hl) (fun j x y p q => h (j + 1) x y (by omega) (by simpa using p) (by simpa using q))]
    simp only []
    rw [if_neg h3]
    simp
  | a :: r, b :: ns, k + 1, c, n, hl, h1, h2, h3, h => by
    unfold nextP
    rw [nextP_some (row := r) (counts := ns) (k := k) (by simpa using hl) (by simpa using h1) (by simpa using h2) h3 (fun j x y hj p q => h (j + 1) x y (by omega) (by simpa using p) (by simpa using q))]
    simp
def cntI (l : List Nat) : PyData := .list (l.map fun n => .int (n : Nat))
theorem sub_cnt {hp : List AO} {l : List Nat} {k c : Nat} (h : l[k]? = some c) : subV hp (.av (.dat (cntI l))) (.av (.dat (.int k))) = some (.dat (.int c)) := by
  have : atD (l.map fun c => PyData.int (c : Nat)) (k : Int) = some (.int (c : Nat)) := atD_lit (by rw [List.getElem?_map, h]; rfl)
  simp [cntI, this]
theorem slice_takeRow (r : List Nat) (n : Nat) : sliceV (.av (.dat (rowI r))) none (some (n : Int)) = some (.av (.dat (rowI (r.take n)))) := by
  show some (RV.av (.dat (.tuple (cutD (r.map fun c => PyData.int (c : Nat)) none (some (n : Int)))))) = _
  rw [cut_take, ← List.map_take]
  rfl
theorem addRow {a b : List Nat} (h : a.length + b.length ≤ 16777216) : binV .add (.av (.dat (rowI a))) (.av (.dat (rowI b))) = some (.av (.dat (rowI (a ++ b)))) := by
  have := bin_addT (xs := a.map fun c => PyData.int (c : Nat)) (ys := b.map fun c => PyData.int (c : Nat)) (by simpa using h)
  rw [← List.map_append] at this
  exact this
theorem zerosRow (n : Nat) (h : n ≤ 1000) : binV .mul (.av (.dat (.tuple [.int 0]))) (.av (.dat (.int n))) = some (.av (.dat (rowI (List.replicate n 0)))) := by
  rw [bin_mulT ⟨by simp, by omega, by omega, by simp⟩]
  have : (List.replicate n [PyData.int 0]).flatten = (List.replicate n 0).map fun c : Nat => PyData.int (c : Nat) := by
    rw [List.map_replicate]
    induction n with
    | zero => rfl
    | succ n ih => rw [List.replicate_succ, List.flatten_cons, List.replicate_succ, ih (by omega)]; rfl
  simp only [Int.toNat_natCast]
  rw [this]
  rfl
def optRow : Option (List Nat) → PyData
  | none => .none
  | some r => rowI r
theorem next_row_run {row counts : List Nat} (hl : row.length = counts.length) (h64 : row.length ≤ 64) : f_next_row.run [.dat (rowI row), .dat (cntI counts)] [] = some (.av (.dat (optRow (nextP row counts))), []) := by
  have w := whil_inv (test := .and (.cmp .ge (.var 2) (.lit (.int 0))) (.cmp .eq (.bin .add (.sub (.var 0) (.var 2)) (.lit (.int 1))) (.sub (.var 1) (.var 2)))) (body := lb_next_row_0)
    (fun m ms => m ≤ row.length ∧ ms = ⟨[.av (.dat (rowI row)), .av (.dat (cntI counts)), .av (iv ((m : Int) - 1))], []⟩ ∧ ∀ j c n : Nat, m ≤ j → row[j]? = some c → counts[j]? = some n → c + 1 = n)
    (fun ms => ∃ m, m ≤ row.length ∧ ms = ⟨[.av (.dat (rowI row)), .av (.dat (cntI counts)), .av (iv ((m : Int) - 1))], []⟩ ∧ (∀ j c n : Nat, m ≤ j → row[j]? = some c → counts[j]? = some n → c + 1 = n) ∧ (m = 0 ∨ ∃ k c n, m = k + 1 ∧ row[k]? = some c ∧ counts[k]? = some n ∧ c + 1 ≠ n))
    (fun m ms ⟨hm, e, hs⟩ => by
      subst e
      cases m with
      | zero => exact .inl ⟨_, by simp, 0, Nat.zero_le _, rfl, hs, .inl rfl⟩
      | succ k =>
        obtain ⟨c, hc⟩ : ∃ c, row[k]? = some c := ⟨_, List.getElem?_eq_getElem (by omega)⟩
        obtain ⟨n, hn⟩ : ∃ n, counts[k]? = some n := ⟨_, List.getElem?_eq_getElem (by omega)⟩
        have e1 : ((k + 1 : Nat) : Int) - 1 = (k : Int) := by omega
        rw [e1]
        have s1 := sub_row (hp := []) hc
        have s2 := sub_cnt (hp := []) hn
        have s3 := cmp_eq (d := .int ((c : Int) + 1)) (e := .int (n : Int)) (by simp) (by simp)
        have s4 : decide ((0 : Int) ≤ (k : Int)) = true := decide_eq_true (by omega)
        by_cases hq : c + 1 = n
        · have s5 : decide ((c : Int) + 1 = (n : Int)) = true := decide_eq_true (by omega)
          rw [eqq_int, s5] at s3
          refine .inr ⟨_, ⟨[.av (.dat (rowI row)), .av (.dat (cntI counts)), .av (iv ((k : Int) - 1))], []⟩, k, by simp [s1, s2, s3]; rfl, by simp [lb_next_row_0], by omega, by omega, rfl, fun j a b hj p q => ?_⟩
          rcases Nat.lt_or_ge k j with g | g
          · exact hs j a b g p q
          · obtain rfl : j = k := by omega
            rw [hc] at p
            rw [hn] at q
            cases p
            cases q
            exact hq
        · have s5 : decide ((c : Int) + 1 = (n : Int)) = false := decide_eq_false (by omega)
          rw [eqq_int, s5] at s3
          exact .inl ⟨_, by simp [s1, s2, s3]; rfl, k + 1, hm, by rw [e1], hs, .inr ⟨k, c, n, rfl, hc, hn, hq⟩⟩)
    row.length ⟨[.av (.dat (rowI row)), .av (.dat (cntI counts)), .av (iv ((row.length : Int) - 1))], []⟩ (by omega) ⟨Nat.le_refl _, rfl, fun j c n hj p q => by
      rw [List.getElem?_eq_none hj] at p
      cases p⟩
  obtain ⟨ms', w1, m, hm, rfl, hs, hend⟩ := w
  rcases hend with rfl | ⟨k, c, n, rfl, hc, hn, hq⟩
  · rw [nextP_none hl fun j c n p q => hs j c n (Nat.zero_le _) p q]
    simp only [f_next_row, runB, ss_next_row]
    simp [w1, optRow]
  · have e1 : ((k + 1 : Nat) : Int) - 1 = (k : Int) := by omega
    rw [e1] at w1
    have s1 := sub_row (hp := []) hc
    have g1 := slice_takeRow row k
    have g2 := addRow (a := row.take k) (b := [c + 1]) (by rw [List.length_take]; simp; omega)
    have g3 := zerosRow (row.length - k - 1) (by omega)
    have e2 : (((row.length - k - 1 : Nat)) : Int) = (row.length : Int) - (k : Int) - 1 := by omega
    rw [e2] at g3
    have g4 := addRow (a := row.take k ++ [c + 1]) (b := List.replicate (row.length - k - 1) 0) (by rw [List.length_append, List.length_take, List.length_replicate]; simp; omega)
    have e3 : rowI [c + 1] = .tuple [.int ((c : Int) + 1)] := rfl
    rw [e3] at g2
    have s4 : decide ((k : Int) < 0) = false := decide_eq_false (by omega)
    have e4 := nextP_some hl hc hn hq (fun j a b hj p q => hs j a b hj p q)
    rw [← List.append_assoc] at e4
    rw [e4]
    simp only [f_next_row, runB, ss_next_row, optRow]
    simp [w1, s1, g1, g2, g3, g4, s4]
/-- all rows of choices, in order -/
def rowsP : List Nat → List (List Nat)
  | [] => [[]]
  | n :: ns => (List.range n).flatMap fun c => (rowsP ns).map (c :: ·)
theorem rowsP_len : ∀ {counts row : List Nat}, row ∈ rowsP counts → row.length = counts.length
  | [], row, h => by simp [rowsP] at h; subst h; rfl
  | n :: ns, row, h => by
    simp only [rowsP, List.mem_flatMap, List.mem_map] at h
    obtain ⟨c, _, r, hr, rfl⟩ := h
    simp [rowsP_len hr]
theorem rowsP_lt : ∀ {counts row : List Nat}, row ∈ rowsP counts → ∀ k c n : Nat, row[k]? = some c → counts[k]? = some n → c < n
  | [], row, h => fun k c n _ q => by simp at q
  | n :: ns, row, h => by
    simp only [rowsP, List.mem_flatMap, List.mem_map] at h
    obtain ⟨c, hc, r, hr, rfl⟩ := h
    intro k a b p q
    cases k with
    | zero => simp at p q; subst p q; exact List.mem_range.mp hc
    | succ k => exact rowsP_lt hr k a b (by simpa using p) (by simpa using q)
/-- a run of a partial function, item by item -/
inductive Runs {α : Type} (f : α → Option α) : α → List α → Prop
  | last {x : α} : f x = none → Runs f x [x]
  | step {x y : α} {l : List α} : f x = some y → Runs f y l → Runs f x (x :: l)
/-- rows with the first choice c, then those with a greater one -/
theorem runs_map {ns : List Nat} {n c : Nat} : ∀ {x : List Nat} {l : List (List Nat)} {m : List (List Nat)}, Runs (fun r => nextP r ns) x l → (∀ y ∈ l, y.length = ns.length) →
    ((c + 1 = n ∧ m = []) ∨ (c + 1 ≠ n ∧ Runs (fun r => nextP r (n :: ns)) ((c + 1) :: List.replicate ns.length 0) m)) → Runs (fun r => nextP r (n :: ns)) (c :: x) (l.map (c :: ·) ++ m)
  | x, _, m, .last h, hl, hm => by
    have e : nextP (c :: x) (n :: ns) = if c + 1 = n then none else some ((c + 1) :: List.replicate x.length 0) := by
      rw [nextP]
      rw [show nextP x ns = none from h]
    rcases hm with ⟨h1, rfl⟩ | ⟨h1, h2⟩
    · rw [if_pos h1] at e
      exact .last e
    · rw [if_neg h1, hl x (by simp)] at e
      exact .step e h2
  | x, _, m, .step (y := y) (l := l) h r, hl, hm => by
    have e : nextP (c :: x) (n :: ns) = some (c :: y) := by
      rw [nextP]
      rw [show nextP x ns = some y from h]
    exact .step e (runs_map r (fun z hz => hl z (List.mem_cons_of_mem _ hz)) hm)
theorem runs_from {ns : List Nat} {n : Nat} (ih : Runs (fun r => nextP r ns) (List.replicate ns.length 0) (rowsP ns)) : ∀ (k c : Nat), c + k = n → 0 < k → Runs (fun r => nextP r (n :: ns)) (c :: List.replicate ns.length 0) ((List.range' c k).flatMap fun c => (rowsP ns).map (c :: ·))
  | 0, _, _, h => absurd h (Nat.lt_irrefl _)
  | k + 1, c, hk, _ => by
    rw [List.range'_succ, List.flatMap_cons]
    refine runs_map ih (fun y hy => rowsP_len hy) ?_
    cases k with
    | zero => exact .inl ⟨by omega, by simp⟩
    | succ k => exact .inr ⟨by omega, runs_from ih (k + 1) (c + 1) (by omega) (by omega)⟩
theorem runs_rows : ∀ {counts : List Nat}, (∀ n ∈ counts, 0 < n) → Runs (fun r => nextP r counts) (List.replicate counts.length 0) (rowsP counts)
  | [], _ => .last rfl
  | n :: ns, h => by
    have := runs_from (n := n) (runs_rows (counts := ns) fun m hm => h m (List.mem_cons_of_mem _ hm)) n 0 (by omega) (h n (List.mem_cons_self ..))
    rw [← List.range_eq_range'] at this
    exact this
def countsP (s : Snap) (t : Bool) (w : Nat) : List Nat := (List.range s.dur.length).map (chsP s t w)
theorem Runs.ne {α : Type} {f : α → Option α} {x : α} {l : List α} (h : Runs f x l) : ∃ r, l = x :: r := by cases h <;> exact ⟨_, rfl⟩
def rowsSt (s : Snap) (t : Bool) (c3 : Slot) (done : List (List Nat)) (o : Option (List Nat)) : MS := ⟨[.av (.dat (snapI s)), .av (.dat (.bool t)), .av (iv s.dur.length), c3, .emp, .own (done.map rowI), .av (.dat (optRow o))], []⟩
theorem rows_body {s : Snap} {t : Bool} {c3 : Slot} {done : List (List Nat)} {counts x : List Nat} {o : Option (List Nat)} (hl : x.length = counts.length) (h64 : x.length ≤ 64) (hd : done.length < 16777216)
    (h3 : c3 = .own (counts.map fun n : Nat => .int (n : Nat)) ∨ c3 = .av (.dat (cntI counts))) (ho : nextP x counts = o) : exs lb_rows_0 (rowsSt s t c3 done (some x)) = some (.nx, rowsSt s t (.av (.dat (cntI counts))) (done ++ [x]) o) := by
  have n1 := next_row_run hl h64
  rw [ho] at n1
  have ox : optRow (some x) = rowI x := rfl
  rcases h3 with rfl | rfl
  · unfold cntI at n1 ⊢
    simp [lb_rows_0, rowsSt, ox, n1, hd]
  · generalize cntI counts = q at n1 ⊢
    simp [lb_rows_0, rowsSt, ox, n1, hd]
theorem rows_run {s : Snap} {w : Nat} {t : Bool} (ok : SnapOk w s) (hN : (rowsP (countsP s t w)).length ≤ 16777216) : f_rows.run [.dat (snapI s), .dat (.bool t)] [] = some (.lst ((rowsP (countsP s t w)).map rowI), []) := by
  have hd := ok.dl
  have cl : (countsP s t w).length = s.dur.length := by simp [countsP]
  have c := compL_all (tg := [4]) (elt := ev false (.callP f_choices (.cons (.var 0) (.cons (.var 4) (.cons (.var 1) .nil))))) (fun k : Nat => PyData.int (k : Int)) (fun k => PyData.int (chsP s t w k : Nat)) ⟨[.av (.dat (snapI s)), .av (.dat (.bool t)), .av (iv s.dur.length), .emp, .emp, .emp, .emp], []⟩ (List.range s.dur.length) (fun k hk => by
    have e2 := choices_run (t := t) ok (List.mem_range.mp hk)
    exact ⟨[.av (.dat (snapI s)), .av (.dat (.bool t)), .av (iv s.dur.length), .emp, .av (.dat (.int k)), .emp, .emp], by simp, ⟨.av (.dat (.int (chsP s t w k : Nat))), by simp [e2], rfl⟩, rfl, rfl⟩) (by rw [List.length_range]; omega)
  have e3 : (List.range s.dur.length).map (fun k => PyData.int (chsP s t w k : Nat)) = (countsP s t w).map fun n : Nat => .int (n : Nat) := by simp [countsP]
  rw [e3] at c
  have i1 : evI (.range1 (.var 2)) ⟨[.av (.dat (snapI s)), .av (.dat (.bool t)), .av (iv s.dur.length), .emp, .emp, .emp, .emp], []⟩ = _ := range1_same s.dur.length (by simp) (by omega)
  have z := zerosRow s.dur.length (by omega)
  have rr := runs_rows (counts := countsP s t w) (fun n hn => by
    obtain ⟨k, _, rfl⟩ := List.mem_map.mp hn
    unfold chsP
    split <;> omega)
  rw [cl] at rr
  have w1 := whil_inv (test := .isnone true (.var 6)) (body := lb_rows_0)
    (fun m ms => ∃ (done l : List (List Nat)) (o : Option (List Nat)) (c3 : Slot), rowsP (countsP s t w) = done ++ l ∧ m = l.length ∧ (c3 = .own ((countsP s t w).map fun n : Nat => .int (n : Nat)) ∨ c3 = .av (.dat (cntI (countsP s t w)))) ∧
      ms = rowsSt s t c3 done o ∧ ((o = none ∧ l = []) ∨ ∃ x, o = some x ∧ Runs (fun r => nextP r (countsP s t w)) x l))
    (fun ms => ∃ c3, ms = rowsSt s t c3 (rowsP (countsP s t w)) none)
    (fun m ms ⟨done, l, o, c3, h1, h2, h3, h4, h5⟩ => by
      subst h4
      rcases h5 with ⟨rfl, rfl⟩ | ⟨x, rfl, r⟩
      · left
        rw [List.append_nil] at h1
        exact ⟨rowsSt s t c3 done none, by simp [rowsSt, optRow], c3, by rw [h1]⟩
      · right
        have hx : x ∈ rowsP (countsP s t w) := by
          obtain ⟨r', rfl⟩ := r.ne
          rw [h1]; simp
        have hxl : x.length = (countsP s t w).length := rowsP_len hx
        have hdl : done.length < 16777216 := by
          obtain ⟨r', rfl⟩ := r.ne
          rw [h1] at hN
          simp at hN
          omega
        have hN1 : ev true (.isnone true (.var 6)) (rowsSt s t c3 done (some x)) = some (.av (.dat (.bool true)), rowsSt s t c3 done (some x)) := by simp [rowsSt, optRow, rowI]
        cases r with
        | last h => exact ⟨_, _, 0, hN1, rows_body hxl (by omega) hdl h3 h, by rw [h2]; simp, done ++ [x], [], none, _, h1.trans (by simp), rfl, .inr rfl, rfl, .inl ⟨rfl, rfl⟩⟩
        | @step _ y l' h r => exact ⟨_, _, l'.length, hN1, rows_body hxl (by omega) hdl h3 h, by rw [h2]; simp, done ++ [x], l', some y, _, h1.trans (by simp), rfl, .inr rfl, rfl, .inr ⟨y, rfl, r⟩⟩)
    (rowsP (countsP s t w)).length (rowsSt s t (.own ((countsP s t w).map fun n : Nat => .int (n : Nat))) [] (some (List.replicate s.dur.length 0))) (by omega)
    ⟨[], _, some (List.replicate s.dur.length 0), _, by simp, rfl, .inl rfl, rfl, .inr ⟨_, rfl, rr⟩⟩
  obtain ⟨ms', w2, c3, rfl⟩ := w1
  unfold rowsSt at w2
  simp only [List.map_nil, optRow] at w2
  have sl : subV [] (.av (.dat (snapI s))) (.av (.dat (.int 0))) = some (.dat (durI s.dur)) := by simp [snapI]
  have sm : b1V [] .len (.av (.dat (durI s.dur))) = some (.av (iv s.dur.length)) := by simp [durI]
  generalize snapI s = q at *
  simp [f_rows, runB, ss_rows, sl, sm, i1, c, plainAt, wipeR, back, z, w2]
/-! ### dicts that only tell what was seen -/
section
variable {α : Type} [DecidableEq α] {P : α → Prop} {e : α → PyData} {n : Nat}
def seenK (e : α → PyData) (xs : List α) : List (PyData × AV) := xs.map fun a => (e a, AV.dat (.bool true))
theorem seen_find (h : EqOk P e n) {x : α} (hx : P x) : ∀ {xs : List α}, (∀ y ∈ xs, P y) → (kfind (seenK e xs) (e x)).isSome = decide (x ∈ xs)
  | [], _ => by simp [kfind, seenK]
  | y :: ys, hy => by
    have ih := seen_find h hx (xs := ys) fun z hz => hy z (List.mem_cons_of_mem _ hz)
    have e1 : eqq (e y) (e x) = decide (y = x) := h.eq y x (hy y (List.mem_cons_self ..)) hx
    unfold kfind seenK at *
    rw [List.map_cons, List.find?_cons]
    by_cases c : y = x
    · subst c
      simp [e1]
    · have c' : ¬ x = y := fun z => c z.symm
      simp only [e1, decide_eq_false c]
      rw [ih]
      simp [c']
theorem seen_in (h : EqOk P e n) {x : α} (hx : P x) {xs : List α} (hy : ∀ y ∈ xs, P y) (c : x ∈ xs) : (kfind (seenK e xs) (e x)).isSome = true := by
  rw [seen_find h hx hy]
  exact decide_eq_true c
theorem seen_out (h : EqOk P e n) {x : α} (hx : P x) {xs : List α} (hy : ∀ y ∈ xs, P y) (c : x ∉ xs) : (kfind (seenK e xs) (e x)).isSome = false := by
  rw [seen_find h hx hy]
  exact decide_eq_false c
theorem seen_put (h : EqOk P e n) {x : α} (hx : P x) {xs : List α} (hy : ∀ y ∈ xs, P y) (hn : x ∉ xs) : kput (seenK e xs) (e x) (.dat (.bool true)) = seenK e (xs ++ [x]) := by
  unfold kput
  have : ((seenK e xs).any fun p => eqq p.1 (e x)) = false := by
    rw [List.any_eq_false]
    intro p hp
    obtain ⟨y, hy', rfl⟩ := List.mem_map.mp hp
    have e1 : eqq (e y) (e x) = decide (y = x) := h.eq y x (hy y hy') hx
    simp only [e1, decide_eq_true_eq]
    rintro rfl
    exact hn hy'
  rw [if_neg (by rw [this]; exact Bool.false_ne_true)]
  simp [seenK]
end
theorem eqDur : EqOk (fun d : List (List Int) => ∀ r ∈ d, ∀ i ∈ r, True) durI 2 := EqOk.int.tup.tup
theorem hks_of : ∀ {xs : List PyData}, (∀ x ∈ xs, hk x = true) → hks xs = true
  | [], _ => rfl
  | x :: xs, h => by
    unfold hks
    rw [h x (List.mem_cons_self ..), hks_of fun y hy => h y (List.mem_cons_of_mem _ hy)]
    rfl
theorem hk_wI (r : List Int) : hk (wI r) = true := hks_of fun x hx => by
  obtain ⟨i, _, rfl⟩ := List.mem_map.mp hx
  rfl
theorem hk_durI (d : List (List Int)) : hk (durI d) = true := hks_of fun x hx => by
  obtain ⟨r, _, rfl⟩ := List.mem_map.mp hx
  exact hk_wI r
theorem kOk_durI (d : List (List Int)) : kOk (durI d) = true := by
  have h1 : hks (d.map wI) = true := hk_durI d
  have h2 : dep (durI d) ≤ 2 := eqDur.dep d fun _ _ _ _ => trivial
  show (hks (d.map wI) && decide (dep (durI d) ≤ 8)) = true
  rw [h1, decide_eq_true (by omega)]
  rfl
/-- each image once, with its first row -/
def dedP (seen : List (List (List Int))) : List (List Nat × List (List Int)) → List (List Nat × List (List Int))
  | [] => []
  | p :: l => if p.2 ∈ seen then dedP seen l else p :: dedP (seen ++ [p.2]) l
def pairI (p : List Nat × List (List Int)) : PyData := .tuple [rowI p.1, durI p.2]
def allP (s : Snap) (t : Bool) (w : Nat) : List (List Nat × List (List Int)) := (rowsP (countsP s t w)).map fun r => (r, imgP s t w r)
def distinctP (s : Snap) (t : Bool) (w : Nat) : List (List Nat × List (List Int)) := dedP [] (allP s t w)
theorem dedP_len : ∀ (l : List (List Nat × List (List Int))) (seen : List (List (List Int))), (dedP seen l).length ≤ l.length
  | [], _ => Nat.le_refl _
  | p :: l, seen => by
    unfold dedP
    split
    · exact Nat.le_trans (dedP_len l seen) (Nat.le_succ _)
    · exact Nat.succ_le_succ (dedP_len l _)
theorem fits {s : Snap} {w : Nat} {t : Bool} {row : List Nat} (h : row ∈ rowsP (countsP s t w)) : RowFit s t w row := by
  have h1 := rowsP_len h
  refine ⟨by rw [h1]; simp [countsP], fun k c hc => ?_⟩
  have hk : k < row.length := (List.getElem?_eq_some_iff.mp hc).1
  have hk2 : k < s.dur.length := by rw [h1] at hk; simpa [countsP] using hk
  exact rowsP_lt h k c _ hc (by simp [countsP, hk2])
def dstSt (s : Snap) (t : Bool) (seen : List (List (List Int))) (found : List (List Nat × List (List Int))) (c4 c5 : Slot) : MS := ⟨[.av (.dat (snapI s)), .av (.dat (.bool t)), .av (.ref 0), .own (found.map pairI), c4, c5], [.kd (seenK durI seen)]⟩
theorem distinct_body {s : Snap} {w : Nat} {t : Bool} (ok : SnapOk w s) {row : List Nat} {seen : List (List (List Int))} {found : List (List Nat × List (List Int))} {c5 : Slot} (hr : RowFit s t w row) (hs : seen.length < 16777216) (hf : found.length < 16777216) :
    ∃ c5', exs lb_distinct_0 (dstSt s t seen found (.av (.dat (rowI row))) c5) = some (.nx, if imgP s t w row ∈ seen then dstSt s t seen found (.av (.dat (rowI row))) c5' else dstSt s t (seen ++ [imgP s t w row]) (found ++ [(row, imgP s t w row)]) (.av (.dat (rowI row))) c5') := by
  have h1 := image_run ok hr
  have h3 := kOk_durI (imgP s t w row)
  refine ⟨.av (.dat (durI (imgP s t w row))), ?_⟩
  by_cases c : imgP s t w row ∈ seen
  · rw [if_pos c]
    have h2 := seen_in eqDur (x := imgP s t w row) (fun _ _ _ _ => trivial) (xs := seen) (fun _ _ _ _ _ _ => trivial) c
    simp [lb_distinct_0, dstSt, h1, h2, h3]
  · rw [if_neg c]
    have h2 := seen_out eqDur (x := imgP s t w row) (fun _ _ _ _ => trivial) (xs := seen) (fun _ _ _ _ _ _ => trivial) c
    have h4 := seen_put eqDur (x := imgP s t w row) (fun _ _ _ _ => trivial) (xs := seen) (fun _ _ _ _ _ _ => trivial) c
    have h5 : (seenK durI seen).length < 16777216 := by simpa [seenK] using hs
    simp [lb_distinct_0, dstSt, h1, h2, h3, h4, h5, hf, pairI]
theorem distinct_run {s : Snap} {w : Nat} {t : Bool} (ok : SnapOk w s) (hN : (rowsP (countsP s t w)).length ≤ 16777215) : ∃ hp, f_distinct.run [.dat (snapI s), .dat (.bool t)] [] = some (.lst ((distinctP s t w).map pairI), hp) := by
  have h1 := rows_run (t := t) ok (by omega)
  have lp := forL_T (tg := [4]) (body := exs lb_distinct_0) rowI (rowsP (countsP s t w))
    (fun pre ms => ∃ (seen : List (List (List Int))) (c4 c5 : Slot), ms = dstSt s t seen (dedP [] (pre.map fun r => (r, imgP s t w r))) c4 c5 ∧ seen.length ≤ pre.length ∧
      ∀ l, dedP [] (pre.map (fun r => (r, imgP s t w r)) ++ l) = dedP [] (pre.map fun r => (r, imgP s t w r)) ++ dedP seen l)
    (ms := dstSt s t [] [] .emp .emp) ⟨[], .emp, .emp, rfl, Nat.le_refl _, fun l => rfl⟩ (fun pre row post ms hx ⟨seen, c4, c5, e, hl, hd⟩ => by
      subst e
      have hrow : row ∈ rowsP (countsP s t w) := by rw [hx]; simp
      have hpl : pre.length < 16777215 := by
        have : (rowsP (countsP s t w)).length = pre.length + (post.length + 1) := by rw [hx]; simp
        omega
      have dl := dedP_len (pre.map fun r => (r, imgP s t w r)) []
      rw [List.length_map] at dl
      obtain ⟨c5', b⟩ := distinct_body (t := t) (c5 := c5) ok (fits hrow) (seen := seen) (found := dedP [] (pre.map fun r => (r, imgP s t w r))) (by omega) (by omega)
      have e1 := hd [(row, imgP s t w row)]
      refine ⟨[.av (.dat (snapI s)), .av (.dat (.bool t)), .av (.ref 0), .own ((dedP [] (pre.map fun r => (r, imgP s t w r))).map pairI), .av (.dat (rowI row)), c5], _, by simp [dstSt], b, ?_⟩
      by_cases c : imgP s t w row ∈ seen
      · rw [if_pos c]
        have e2 : dedP seen [(row, imgP s t w row)] = [] := by simp [dedP, c]
        rw [e2, List.append_nil] at e1
        refine ⟨seen, _, _, by rw [List.map_append, List.map_singleton, e1], by simp; omega, fun l => ?_⟩
        rw [List.map_append, List.map_singleton, List.append_assoc, hd, e1]
        simp [dedP, c]
      · rw [if_neg c]
        have e2 : dedP seen [(row, imgP s t w row)] = [(row, imgP s t w row)] := by simp [dedP, c]
        rw [e2] at e1
        refine ⟨seen ++ [imgP s t w row], _, _, by rw [List.map_append, List.map_singleton, e1], by simp; omega, fun l => ?_⟩
        rw [List.map_append, List.map_singleton, List.append_assoc, hd, e1]
        simp [dedP, c])
  obtain ⟨ms', h2, seen, c4, c5, rfl, _, _⟩ := lp
  have e2 : dedP [] ((rowsP (countsP s t w)).map fun r => (r, imgP s t w r)) = distinctP s t w := rfl
  rw [e2] at h2
  refine ⟨[.kd (seenK durI seen)], ?_⟩
  unfold dstSt at h2
  simp only [List.map_nil] at h2
  have h3 : seenK durI [] = [] := rfl
  rw [h3] at h2
  simp [f_distinct, runB, ss_distinct, h1, h2]
/-! ### how many rows there are -/
def prodN : List Nat → Nat
  | [] => 1
  | n :: ns => n * prodN ns
theorem rowsP_length : ∀ ns : List Nat, (rowsP ns).length = prodN ns
  | [] => rfl
  | n :: ns => by
    have h : ∀ l : List Nat, (l.flatMap fun c => (rowsP ns).map (c :: ·)).length = l.length * (rowsP ns).length := by
      intro l
      induction l with
      | nil => simp
      | cons a l ih => rw [List.flatMap_cons, List.length_append, ih, List.length_cons, Nat.add_mul]; simp; omega
    show ((List.range n).flatMap fun c => (rowsP ns).map (c :: ·)).length = n * prodN ns
    rw [h, List.length_range, rowsP_length ns]
theorem bern (w : Nat) : ∀ m : Nat, m * w + 1 ≤ (w + 1) ^ m
  | 0 => by simp
  | m + 1 => by
    have ih := bern w m
    rw [Nat.pow_succ, Nat.mul_add, Nat.mul_one, Nat.add_mul]
    have h2 : 0 < (w + 1) ^ m := Nat.pow_pos (by omega)
    have : 1 * w ≤ (w + 1) ^ m * w := Nat.mul_le_mul_right _ h2
    omega
theorem sum_cnt (pen : List (Nat × List Int)) : ∀ d : Nat, ((List.range d).map fun k => (wrts pen k).length).sum ≤ pen.length := by
  intro d
  induction pen with
  | nil =>
    have : (List.range d).map (fun k => (wrts [] k).length) = (List.range d).map fun _ => 0 := by simp [wrts]
    rw [this]
    clear this
    induction d with
    | zero => simp
    | succ d ih => rw [List.range_succ, List.map_append, List.sum_append]; simpa using ih
  | cons p pen ih =>
    have e : ∀ d : Nat, ((List.range d).map fun k => (wrts (p :: pen) k).length).sum = ((List.range d).map fun k => (wrts pen k).length).sum + if p.1 < d then 1 else 0 := by
      intro d
      induction d with
      | zero => simp
      | succ d ih2 =>
        rw [List.range_succ, List.map_append, List.sum_append, List.map_append, List.sum_append, ih2]
        simp only [List.map_singleton, List.sum_singleton]
        by_cases h : p.1 = d
        · have : (wrts (p :: pen) d).length = (wrts pen d).length + 1 := by simp [wrts, h]
          rw [this, if_neg (by omega), if_pos (by omega)]
          omega
        · have : (wrts (p :: pen) d).length = (wrts pen d).length := by simp [wrts, h]
          rw [this]
          by_cases h2 : p.1 < d
          · rw [if_pos h2, if_pos (by omega)]; omega
          · rw [if_neg h2, if_neg (by omega)]
            omega
    rw [e]
    simp only [List.length_cons]
    split <;> omega
theorem prod_pow (B : Nat) (f g : Nat → Nat) (h : ∀ k, f k ≤ B ^ g k) : ∀ ks : List Nat, prodN (ks.map f) ≤ B ^ (ks.map g).sum
  | [] => by simp [prodN]
  | k :: ks => by
    simp only [List.map_cons, prodN, List.sum_cons, Nat.pow_add]
    exact Nat.mul_le_mul (h k) (prod_pow B f g h ks)
theorem rows_bound {s : Snap} {w : Nat} {t : Bool} (ok : SnapOk w s) : (rowsP (countsP s t w)).length ≤ (w + 1) ^ s.pen.length := by
  rw [rowsP_length]
  refine Nat.le_trans (prod_pow (w + 1) (chsP s t w) (fun k => (wrts s.pen k).length) (fun k => ?_) _) (Nat.pow_le_pow_right (by omega) (sum_cnt s.pen s.dur.length))
  have := bern w (wrts s.pen k).length
  have h1 : (wrts s.pen k).length * 1 ≤ (wrts s.pen k).length * w := Nat.mul_le_mul_left _ ok.wpos
  unfold chsP
  split
  · exact this
  · omega
end Sv

/-! Sv: stores, typed; the laws' draws of expressions, bodies and stores (texts printed by gen3.py). -/
namespace Sv
open Sv PySem
/-- _law_expr(state, names, variables, deep): 0 state 1 names 2 variables 3 deep 4 kind 5 row 6 name 7 v 8 first 9 operator -/
def ss__law_expr (r__law_expr : List AV → List AO → Option (RV × List AO)) : Ss := (.cons (.set 4 (.call f__law_draw (.cons (.var 0) (.cons (.lit (.int 8)) .nil))))
  (.cons (.ite (.or (.cmp .le (.var 3) (.lit (.int 1))) (.cmp .lt (.var 4) (.lit (.int 3)))) (.cons (.set 5 (.lst (.cons (.tup (.cons (.lit (.str ⟨#[110, 117, 109]⟩)) (.cons (.call f__law_draw (.cons (.var 0) (.cons (.sub (.lst (.cons (.lit (.int 3)) (.cons (.lit (.int 16)) .nil))) (.call f__law_draw (.cons (.var 0) (.cons (.lit (.int 2)) .nil)))) .nil))) .nil))) .nil)))
  (.cons (.set 5 (.bin .add (.bin .add (.var 5) (.comp (.tup (.cons (.var 6) .nil)) [6] (.seq (.var 1)) .nil)) (.comp (.tup (.cons (.var 6) .nil)) [6] (.seq (.var 1)) .nil)))
  (.cons (.set 5 (.bin .add (.var 5) (.comp (.tup (.cons (.lit (.str ⟨#[118, 97, 114]⟩)) (.cons (.var 7) .nil))) [7] (.range1 (.var 2)) .nil)))
  (.cons (.ret (.sub (.var 5) (.call f__law_draw (.cons (.var 0) (.cons (.b1 .len (.var 5)) .nil)))))
  .nil)))) .nil)
  (.cons (.ite (.cmp .lt (.var 4) (.lit (.int 5))) (.cons (.set 8 (.call ⟨⟨#[95, 108, 97, 119, 95, 101, 120, 112, 114]⟩, r__law_expr⟩ (.cons (.var 0) (.cons (.var 1) (.cons (.var 2) (.cons (.bin .sub (.var 3) (.lit (.int 1))) .nil))))))
  (.cons (.ret (.tup (.cons (.lit (.str ⟨#[114, 101, 97, 100]⟩)) (.cons (.var 8) (.cons (.call ⟨⟨#[95, 108, 97, 119, 95, 101, 120, 112, 114]⟩, r__law_expr⟩ (.cons (.var 0) (.cons (.var 1) (.cons (.var 2) (.cons (.bin .sub (.var 3) (.lit (.int 1))) .nil))))) .nil)))))
  .nil)) .nil)
  (.cons (.ite (.cmp .eq (.var 4) (.lit (.int 5))) (.cons (.ret (.tup (.cons (.sub (.lst (.cons (.lit (.str ⟨#[110, 111, 116]⟩)) (.cons (.lit (.str ⟨#[115, 117, 109]⟩)) .nil))) (.call f__law_draw (.cons (.var 0) (.cons (.lit (.int 2)) .nil)))) (.cons (.call ⟨⟨#[95, 108, 97, 119, 95, 101, 120, 112, 114]⟩, r__law_expr⟩ (.cons (.var 0) (.cons (.var 1) (.cons (.var 2) (.cons (.bin .sub (.var 3) (.lit (.int 1))) .nil))))) .nil))))
  .nil) .nil)
  (.cons (.set 8 (.call ⟨⟨#[95, 108, 97, 119, 95, 101, 120, 112, 114]⟩, r__law_expr⟩ (.cons (.var 0) (.cons (.var 1) (.cons (.var 2) (.cons (.bin .sub (.var 3) (.lit (.int 1))) .nil))))))
  (.cons (.set 9 (.sub (.lst (.cons (.lit (.str ⟨#[43]⟩)) (.cons (.lit (.str ⟨#[45]⟩)) (.cons (.lit (.str ⟨#[42]⟩)) (.cons (.lit (.str ⟨#[61, 61]⟩)) (.cons (.lit (.str ⟨#[60]⟩)) (.cons (.lit (.str ⟨#[97, 110, 100]⟩)) (.cons (.lit (.str ⟨#[111, 114]⟩)) .nil)))))))) (.call f__law_draw (.cons (.var 0) (.cons (.lit (.int 7)) .nil)))))
  (.cons (.ret (.tup (.cons (.var 9) (.cons (.var 8) (.cons (.call ⟨⟨#[95, 108, 97, 119, 95, 101, 120, 112, 114]⟩, r__law_expr⟩ (.cons (.var 0) (.cons (.var 1) (.cons (.var 2) (.cons (.bin .sub (.var 3) (.lit (.int 1))) .nil))))) .nil)))))
  .nil)))))))
def r__law_expr : Nat → List AV → List AO → Option (RV × List AO)
  | 0 => fun _ _ => none
  | n + 1 => runB 10 4 (ss__law_expr (r__law_expr n))
def f__law_expr (n : Nat) : Fn := ⟨⟨#[95, 108, 97, 119, 95, 101, 120, 112, 114]⟩, r__law_expr n⟩
/-- _law_body(state, shape, names, writes, nested): 0 state 1 shape 2 names 3 writes 4 nested 5 k -/
def ss__law_body (r__law_body : List AV → List AO → Option (RV × List AO)) (r__law_statement : List AV → List AO → Option (RV × List AO)) : Ss := (.cons (.ret (.comp (.call ⟨⟨#[95, 108, 97, 119, 95, 115, 116, 97, 116, 101, 109, 101, 110, 116]⟩, r__law_statement⟩ (.cons (.var 0) (.cons (.var 1) (.cons (.var 2) (.cons (.var 3) (.cons (.var 4) .nil)))))) [5] (.range1 (.call f__law_draw (.cons (.var 0) (.cons (.lit (.int 3)) .nil)))) .nil))
  .nil)
/-- _law_statement(state, shape, names, writes, nested): 0 state 1 shape 2 names 3 writes 4 nested 5 width 6 variables 7 kind 8 words 9 k 10 body 11 bodies -/
def ss__law_statement (r__law_body : List AV → List AO → Option (RV × List AO)) (r__law_statement : List AV → List AO → Option (RV × List AO)) : Ss := (.cons (.setT [5, 6] (.var 1))
  (.cons (.set 7 (.call f__law_draw (.cons (.var 0) (.cons (.lit (.int 9)) .nil))))
  (.cons (.ite (.and (.cmp .lt (.var 7) (.lit (.int 4))) (.var 3)) (.cons (.setC 8 (.call (f__law_expr 12) (.cons (.var 0) (.cons (.var 2) (.cons (.var 6) (.cons (.lit (.int 2)) .nil))))) [9] (.range1 (.var 5)) .nil)
  (.cons (.ret (.tup (.cons (.lit (.str ⟨#[119, 114, 105, 116, 101]⟩)) (.cons (.call (f__law_expr 12) (.cons (.var 0) (.cons (.var 2) (.cons (.var 6) (.cons (.lit (.int 2)) .nil))))) (.cons (.var 8) .nil)))))
  .nil)) .nil)
  (.cons (.ite (.and (.cmp .eq (.var 7) (.lit (.int 4))) (.var 3)) (.cons (.ret (.tup (.cons (.lit (.str ⟨#[98, 97, 114, 114, 105, 101, 114]⟩)) .nil)))
  .nil) .nil)
  (.cons (.ite (.and (.cmp .eq (.var 7) (.lit (.int 5))) (.and (.cmp .gt (.var 6) (.lit (.int 0))) (.cmp .gt (.var 4) (.lit (.int 0))))) (.cons (.set 10 (.call ⟨⟨#[95, 108, 97, 119, 95, 98, 111, 100, 121]⟩, r__law_body⟩ (.cons (.var 0) (.cons (.var 1) (.cons (.var 2) (.cons (.var 3) (.cons (.bin .sub (.var 4) (.lit (.int 1))) .nil)))))))
  (.cons (.ret (.tup (.cons (.lit (.str ⟨#[108, 111, 111, 112]⟩)) (.cons (.call f__law_draw (.cons (.var 0) (.cons (.var 6) .nil))) (.cons (.bin .add (.lit (.int 1)) (.call f__law_draw (.cons (.var 0) (.cons (.lit (.int 3)) .nil)))) (.cons (.var 10) .nil))))))
  .nil)) .nil)
  (.cons (.ite (.and (.cmp .lt (.var 7) (.lit (.int 8))) (.cmp .gt (.var 6) (.lit (.int 0)))) (.cons (.ret (.tup (.cons (.lit (.str ⟨#[115, 101, 116]⟩)) (.cons (.call f__law_draw (.cons (.var 0) (.cons (.var 6) .nil))) (.cons (.call (f__law_expr 12) (.cons (.var 0) (.cons (.var 2) (.cons (.var 6) (.cons (.lit (.int 3)) .nil))))) .nil)))))
  .nil) .nil)
  (.cons (.set 11 (.lst (.cons (.lst .nil) (.cons (.lst .nil) .nil))))
  (.cons (.ite (.cmp .gt (.var 4) (.lit (.int 0))) (.cons (.setC 11 (.call ⟨⟨#[95, 108, 97, 119, 95, 98, 111, 100, 121]⟩, r__law_body⟩ (.cons (.var 0) (.cons (.var 1) (.cons (.var 2) (.cons (.var 3) (.cons (.bin .sub (.var 4) (.lit (.int 1))) .nil)))))) [9] (.range1 (.lit (.int 2))) .nil)
  .nil) .nil)
  (.cons (.ret (.tup (.cons (.lit (.str ⟨#[105, 102]⟩)) (.cons (.call (f__law_expr 12) (.cons (.var 0) (.cons (.var 2) (.cons (.var 6) (.cons (.lit (.int 2)) .nil))))) (.cons (.sub (.var 11) (.lit (.int 0))) (.cons (.sub (.var 11) (.lit (.int 1))) .nil))))))
  .nil)))))))))
mutual
def r__law_body : Nat → List AV → List AO → Option (RV × List AO)
  | 0 => fun _ _ => none
  | n + 1 => runB 6 5 (ss__law_body (r__law_body n) (r__law_statement n))
def r__law_statement : Nat → List AV → List AO → Option (RV × List AO)
  | 0 => fun _ _ => none
  | n + 1 => runB 12 5 (ss__law_statement (r__law_body n) (r__law_statement n))
end
def f__law_body (n : Nat) : Fn := ⟨⟨#[95, 108, 97, 119, 95, 98, 111, 100, 121]⟩, r__law_body n⟩
def f__law_statement (n : Nat) : Fn := ⟨⟨#[95, 108, 97, 119, 95, 115, 116, 97, 116, 101, 109, 101, 110, 116]⟩, r__law_statement n⟩
/-- _law_most_writes(body): 0 body 1 total 2 one -/
def lb__law_most_writes_0 (r__law_most_writes : List AV → List AO → Option (RV × List AO)) : Ss := (.cons (.ite (.cmp .eq (.sub (.var 2) (.lit (.int 0))) (.lit (.str ⟨#[108, 111, 111, 112]⟩))) (.cons (.set 1 (.bin .add (.var 1) (.bin .mul (.sub (.var 2) (.lit (.int 2))) (.callP ⟨⟨#[95, 108, 97, 119, 95, 109, 111, 115, 116, 95, 119, 114, 105, 116, 101, 115]⟩, r__law_most_writes⟩ (.cons (.sub (.var 2) (.lit (.int 3))) .nil)))))
  .nil) (.cons (.ite (.cmp .eq (.sub (.var 2) (.lit (.int 0))) (.lit (.str ⟨#[105, 102]⟩))) (.cons (.set 1 (.bin .add (.var 1) (.mx false (.callP ⟨⟨#[95, 108, 97, 119, 95, 109, 111, 115, 116, 95, 119, 114, 105, 116, 101, 115]⟩, r__law_most_writes⟩ (.cons (.sub (.var 2) (.lit (.int 2))) .nil)) (.callP ⟨⟨#[95, 108, 97, 119, 95, 109, 111, 115, 116, 95, 119, 114, 105, 116, 101, 115]⟩, r__law_most_writes⟩ (.cons (.sub (.var 2) (.lit (.int 3))) .nil)))))
  .nil) (.cons (.set 1 (.bin .add (.var 1) (.b1 .int (.cmp .eq (.sub (.var 2) (.lit (.int 0))) (.lit (.str ⟨#[119, 114, 105, 116, 101]⟩))))))
  .nil))
  .nil))
  .nil)
def ss__law_most_writes (r__law_most_writes : List AV → List AO → Option (RV × List AO)) : Ss := (.cons (.set 1 (.lit (.int 0)))
  (.cons (.for_ [2] (.seq (.var 0)) (lb__law_most_writes_0 r__law_most_writes))
  (.cons (.ret (.var 1))
  .nil)))
def r__law_most_writes : Nat → List AV → List AO → Option (RV × List AO)
  | 0 => fun _ _ => none
  | n + 1 => runB 3 1 (ss__law_most_writes (r__law_most_writes n))
def f__law_most_writes (n : Nat) : Fn := ⟨⟨#[95, 108, 97, 119, 95, 109, 111, 115, 116, 95, 119, 114, 105, 116, 101, 115]⟩, r__law_most_writes n⟩
/-- _law_store(state): 0 state 1 sectors 2 width 3 keys 4 variables 5 deep 6 shape 7 put 8 sync 9 recover 10 get 11 body -/
def st__law_store_0 : S := (.set 1 (.bin .add (.lit (.int 1)) (.call f__law_draw (.cons (.var 0) (.cons (.lit (.int 3)) .nil)))))
def st__law_store_1 : S := (.set 2 (.bin .add (.lit (.int 1)) (.call f__law_draw (.cons (.var 0) (.cons (.sub (.lst (.cons (.lit (.int 2)) (.cons (.lit (.int 1)) .nil))) (.bin .fdiv (.var 1) (.lit (.int 3)))) .nil)))))
def st__law_store_2 : S := (.set 3 (.bin .add (.lit (.int 1)) (.call f__law_draw (.cons (.var 0) (.cons (.sub (.lst (.cons (.lit (.int 2)) (.cons (.lit (.int 2)) (.cons (.lit (.int 3)) .nil)))) (.call f__law_draw (.cons (.var 0) (.cons (.lit (.int 3)) .nil)))) .nil)))))
def st__law_store_3 : S := (.set 4 (.call f__law_draw (.cons (.var 0) (.cons (.lit (.int 3)) .nil))))
def st__law_store_4 : S := (.set 5 (.bin .add (.lit (.int 1)) (.b1 .int (.cmp .eq (.call f__law_draw (.cons (.var 0) (.cons (.lit (.int 8)) .nil))) (.lit (.int 0))))))
def st__law_store_5 : S := (.set 6 (.lst (.cons (.var 2) (.cons (.var 4) .nil))))
def st__law_store_6 : S := (.set 7 (.call (f__law_body 12) (.cons (.var 0) (.cons (.var 6) (.cons (.lst (.cons (.lit (.str ⟨#[107, 101, 121]⟩)) (.cons (.lit (.str ⟨#[118, 97, 108, 117, 101]⟩)) .nil))) (.cons (.lit (.bool true)) (.cons (.var 5) .nil)))))))
def st__law_store_7 : S := (.set 7 (.bin .add (.var 7) (.lst (.cons (.tup (.cons (.lit (.str ⟨#[119, 114, 105, 116, 101]⟩)) (.cons (.tup (.cons (.lit (.str ⟨#[107, 101, 121]⟩)) .nil)) (.cons (.bin .add (.lst (.cons (.tup (.cons (.lit (.str ⟨#[118, 97, 108, 117, 101]⟩)) .nil)) .nil)) (.bin .mul (.lst (.cons (.tup (.cons (.lit (.str ⟨#[110, 117, 109]⟩)) (.cons (.lit (.int 0)) .nil))) .nil)) (.bin .sub (.var 2) (.lit (.int 1))))) .nil)))) .nil))))
def st__law_store_8 : S := (.ite (.cmp .eq (.call f__law_draw (.cons (.var 0) (.cons (.lit (.int 2)) .nil))) (.lit (.int 0))) (.cons (.set 7 (.bin .add (.var 7) (.lst (.cons (.tup (.cons (.lit (.str ⟨#[98, 97, 114, 114, 105, 101, 114]⟩)) .nil)) .nil))))
  .nil) .nil)
def st__law_store_9 : S := (.set 8 (.lst (.cons (.tup (.cons (.lit (.str ⟨#[98, 97, 114, 114, 105, 101, 114]⟩)) .nil)) .nil)))
def st__law_store_10 : S := (.ite (.cmp .eq (.call f__law_draw (.cons (.var 0) (.cons (.lit (.int 4)) .nil))) (.lit (.int 0))) (.cons (.set 8 (.call (f__law_body 12) (.cons (.var 0) (.cons (.var 6) (.cons (.lst .nil) (.cons (.lit (.bool true)) (.cons (.lit (.int 1)) .nil)))))))
  .nil) .nil)
def st__law_store_11 : S := (.set 9 (.call (f__law_body 12) (.cons (.var 0) (.cons (.var 6) (.cons (.lst .nil) (.cons (.lit (.bool true)) (.cons (.var 5) .nil)))))))
def st__law_store_12 : S := (.ite (.cmp .eq (.call f__law_draw (.cons (.var 0) (.cons (.lit (.int 2)) .nil))) (.lit (.int 0))) (.cons (.set 9 (.lst (.cons (.tup (.cons (.lit (.str ⟨#[98, 97, 114, 114, 105, 101, 114]⟩)) .nil)) .nil)))
  .nil) .nil)
def st__law_store_13 : S := (.set 10 (.tup (.cons (.call (f__law_body 12) (.cons (.var 0) (.cons (.var 6) (.cons (.lst (.cons (.lit (.str ⟨#[107, 101, 121]⟩)) .nil)) (.cons (.lit (.bool false)) (.cons (.lit (.int 1)) .nil)))))) (.cons (.tup (.cons (.lit (.str ⟨#[114, 101, 97, 100]⟩)) (.cons (.tup (.cons (.lit (.str ⟨#[107, 101, 121]⟩)) .nil)) (.cons (.tup (.cons (.lit (.str ⟨#[110, 117, 109]⟩)) (.cons (.lit (.int 0)) .nil))) .nil)))) .nil))))
def st__law_store_14 : S := (.ite (.cmp .eq (.call f__law_draw (.cons (.var 0) (.cons (.lit (.int 5)) .nil))) (.lit (.int 0))) (.cons (.set 10 (.tup (.cons (.lst .nil) (.cons (.call (f__law_expr 12) (.cons (.var 0) (.cons (.lst (.cons (.lit (.str ⟨#[107, 101, 121]⟩)) .nil)) (.cons (.var 4) (.cons (.lit (.int 3)) .nil))))) .nil))))
  .nil) .nil)
def st__law_store_15 : S := (.ite (.cmp .gt (.mxL false (.comp (.callP (f__law_most_writes 12) (.cons (.var 11) .nil)) [11] (.seq (.lst (.cons (.var 7) (.cons (.var 8) (.cons (.var 9) .nil))))) .nil)) (.lit (.int 6))) (.cons (.par [7, 8, 9] (.cons (.slice (.var 7) (.cons (.lit (.int (-1))) .nil) .nil) (.cons (.lst (.cons (.tup (.cons (.lit (.str ⟨#[98, 97, 114, 114, 105, 101, 114]⟩)) .nil)) .nil)) (.cons (.lst (.cons (.tup (.cons (.lit (.str ⟨#[98, 97, 114, 114, 105, 101, 114]⟩)) .nil)) .nil)) .nil))))
  .nil) .nil)
def st__law_store_16 : S := (.ret (.tup (.cons (.lit (.str ⟨#[115, 116, 111, 114, 101]⟩)) (.cons (.var 1) (.cons (.var 2) (.cons (.var 3) (.cons (.var 4) (.cons (.var 7) (.cons (.var 8) (.cons (.var 9) (.cons (.var 10) .nil)))))))))))
def ss__law_store : Ss := (.cons st__law_store_0 (.cons st__law_store_1 (.cons st__law_store_2 (.cons st__law_store_3 (.cons st__law_store_4 (.cons st__law_store_5 (.cons st__law_store_6 (.cons st__law_store_7 (.cons st__law_store_8 (.cons st__law_store_9 (.cons st__law_store_10 (.cons st__law_store_11 (.cons st__law_store_12 (.cons st__law_store_13 (.cons st__law_store_14 (.cons st__law_store_15 (.cons st__law_store_16 .nil)))))))))))))))))
def f__law_store : Fn := ⟨⟨#[95, 108, 97, 119, 95, 115, 116, 111, 114, 101]⟩, runB 12 1 ss__law_store⟩
end Sv
namespace Sv
open PySem
/-! ### the model -/
inductive Bop | add | sub | mul | eq | lt | and | or
  deriving DecidableEq
inductive Ex where
  | num (n : Nat)
  | var (i : Nat)
  | key
  | value
  | not (a : Ex)
  | sum (a : Ex)
  | read (a b : Ex)
  | op (o : Bop) (a b : Ex)
  deriving DecidableEq
inductive St where
  | set (v : Nat) (e : Ex)
  | ite (c : Ex) (a b : List St)
  | loop (v n : Nat) (b : List St)
  | write (s : Ex) (ws : List Ex)
  | barrier
structure Store where
  sectors : Nat
  width : Nat
  keys : Nat
  vars : Nat
  put : List St
  sync : List St
  recover : List St
  get : List St
  gexp : Ex
abbrev tNum : Str := ⟨#[110, 117, 109]⟩
abbrev tVar : Str := ⟨#[118, 97, 114]⟩
abbrev tKey : Str := ⟨#[107, 101, 121]⟩
abbrev tValue : Str := ⟨#[118, 97, 108, 117, 101]⟩
abbrev tNot : Str := ⟨#[110, 111, 116]⟩
abbrev tSum : Str := ⟨#[115, 117, 109]⟩
abbrev tRead : Str := ⟨#[114, 101, 97, 100]⟩
abbrev tSet : Str := ⟨#[115, 101, 116]⟩
abbrev tIf : Str := ⟨#[105, 102]⟩
abbrev tLoop : Str := ⟨#[108, 111, 111, 112]⟩
abbrev tWrite : Str := ⟨#[119, 114, 105, 116, 101]⟩
abbrev tBarrier : Str := ⟨#[98, 97, 114, 114, 105, 101, 114]⟩
abbrev tStore : Str := ⟨#[115, 116, 111, 114, 101]⟩
def Bop.t : Bop → Str
  | .add => ⟨#[43]⟩
  | .sub => ⟨#[45]⟩
  | .mul => ⟨#[42]⟩
  | .eq => ⟨#[61, 61]⟩
  | .lt => ⟨#[60]⟩
  | .and => ⟨#[97, 110, 100]⟩
  | .or => ⟨#[111, 114]⟩
def exI : Ex → PyData
  | .num n => .tuple [.str tNum, .int n]
  | .var i => .tuple [.str tVar, .int i]
  | .key => .tuple [.str tKey]
  | .value => .tuple [.str tValue]
  | .not a => .tuple [.str tNot, exI a]
  | .sum a => .tuple [.str tSum, exI a]
  | .read a b => .tuple [.str tRead, exI a, exI b]
  | .op o a b => .tuple [.str o.t, exI a, exI b]
mutual
def stJ : St → PyData
  | .set v e => .tuple [.str tSet, .int v, exI e]
  | .ite c a b => .tuple [.str tIf, exI c, .list (stIs a), .list (stIs b)]
  | .loop v n b => .tuple [.str tLoop, .int v, .int n, .list (stIs b)]
  | .write s ws => .tuple [.str tWrite, exI s, .list (ws.map exI)]
  | .barrier => .tuple [.str tBarrier]
def stIs : List St → List PyData
  | [] => []
  | s :: l => stJ s :: stIs l
end
theorem stIs_eq : ∀ l : List St, stIs l = l.map stJ
  | [] => rfl
  | s :: l => by rw [stIs, stIs_eq l, List.map_cons]
def bodyI (l : List St) : PyData := .list (l.map stJ)
def storeI (s : Store) : PyData := .tuple [.str tStore, .int s.sectors, .int s.width, .int s.keys, .int s.vars, bodyI s.put, bodyI s.sync, bodyI s.recover, .tuple [bodyI s.get, exI s.gexp]]
/-- which arguments stand: key, value -/
structure Names where
  key : Bool
  value : Bool
def Names.lE (n : Names) : List Ex := (if n.key then [.key] else []) ++ (if n.value then [.value] else [])
def nmI : Ex → PyData
  | .key => .str tKey
  | _ => .str tValue
def Names.l (n : Names) : List PyData := n.lE.map nmI
def exFit (n : Names) (vars : Nat) : Ex → Bool
  | .num k => decide (k ≤ 15)
  | .var i => decide (i < vars)
  | .key => n.key
  | .value => n.value
  | .not a => exFit n vars a
  | .sum a => exFit n vars a
  | .read a b => exFit n vars a && exFit n vars b
  | .op _ a b => exFit n vars a && exFit n vars b
def depP : Ex → Nat
  | .not a => depP a + 1
  | .sum a => depP a + 1
  | .read a b => max (depP a) (depP b) + 1
  | .op _ a b => max (depP a) (depP b) + 1
  | _ => 1
mutual
def stFit (n : Names) (vars width : Nat) (wr : Bool) : St → Bool
  | .set v e => decide (v < vars) && (exFit n vars e && decide (depP e ≤ 5))
  | .ite c a b => (exFit n vars c && decide (depP c ≤ 5)) && (stFits n vars width wr a && stFits n vars width wr b)
  | .loop v k b => decide (v < vars) && (decide (1 ≤ k ∧ k ≤ 8) && stFits n vars width wr b)
  | .write s ws => wr && ((exFit n vars s && decide (depP s ≤ 5)) && (decide (ws.length = width) && ws.all fun e => exFit n vars e && decide (depP e ≤ 5)))
  | .barrier => wr
def stFits (n : Names) (vars width : Nat) (wr : Bool) : List St → Bool
  | [] => true
  | s :: l => stFit n vars width wr s && stFits n vars width wr l
end

mutual
def cntS : St → Nat × Nat × Nat
  | .ite _ a b => (1 + cntM a + cntM b, 1 + max (cntD a) (cntD b), max (cntL a) (cntL b))
  | .loop _ _ b => (1 + cntM b, 1 + cntD b, 1 + cntL b)
  | _ => (1, 0, 0)
def cntM : List St → Nat
  | [] => 0
  | s :: l => (cntS s).1 + cntM l
def cntD : List St → Nat
  | [] => 0
  | s :: l => max (cntS s).2.1 (cntD l)
def cntL : List St → Nat
  | [] => 0
  | s :: l => max (cntS s).2.2 (cntL l)
end
structure BdyOk (n : Names) (vars width : Nat) (wr : Bool) (b : List St) : Prop where
  fit : stFits n vars width wr b = true
  many : cntM b ≤ 60
  deep : cntD b + 1 ≤ 4
  loops : cntL b ≤ 2
structure StoreOk (s : Store) : Prop where
  sec : 1 ≤ s.sectors ∧ s.sectors ≤ 6
  wid : 1 ≤ s.width ∧ s.width ≤ 4
  key : 1 ≤ s.keys ∧ s.keys ≤ 3
  var : s.vars ≤ 8
  put : BdyOk ⟨true, true⟩ s.vars s.width true s.put
  sync : BdyOk ⟨false, false⟩ s.vars s.width true s.sync
  rcv : BdyOk ⟨false, false⟩ s.vars s.width true s.recover
  get : BdyOk ⟨true, false⟩ s.vars s.width false s.get
  gfit : exFit ⟨true, false⟩ s.vars s.gexp = true
  gdep : depP s.gexp ≤ 5
/-! ### the draws -/
theorem Names.mem {n : Names} {e : Ex} (h : e ∈ n.lE) : (e = .key ∧ n.key = true) ∨ (e = .value ∧ n.value = true) := by
  unfold Names.lE at h
  rcases List.mem_append.mp h with h | h
  · split at h
    · rename_i c
      simp at h
      exact .inl ⟨h, c⟩
    · simp at h
  · split at h
    · rename_i c
      simp at h
      exact .inr ⟨h, c⟩
    · simp at h
theorem Names.le (n : Names) : n.lE.length ≤ 2 := by
  unfold Names.lE
  split <;> split <;> simp
def exSt (n : Names) (vars d : Nat) (c4 c5 c6 c7 c8 c9 : Slot) (hp : List AO) : MS := ⟨[.av (.ref 1), .av (.dat (.list n.l)), .av (iv vars), .av (iv d), c4, c5, c6, c7, c8, c9], hp⟩
/-- [(name,) for name in names] -/
theorem names_ev {n : Names} {vars d : Nat} {c4 c7 c8 c9 : Slot} {xs : List PyData} {hp : List AO} (b : Bool) : ev b (.comp (.tup (.cons (.var 6) .nil)) [6] (.seq (.var 1)) .nil) (exSt n vars d c4 (.own xs) .emp c7 c8 c9 hp) = some (.lst (n.lE.map exI), exSt n vars d c4 (.own xs) .emp c7 c8 c9 hp) := by
  have c := compL_all (tg := [6]) (elt := ev false (.tup (.cons (.var 6) .nil))) nmI exI (exSt n vars d c4 (.own xs) .emp c7 c8 c9 hp) n.lE (fun e he => by
    refine ⟨[.av (.ref 1), .av (.dat (.list n.l)), .av (iv vars), .av (iv d), c4, .own xs, .av (.dat (nmI e)), c7, c8, c9], by simp [exSt], ⟨.av (.dat (.tuple [nmI e])), by simp [exSt], ?_⟩, rfl, rfl⟩
    rcases Names.mem he with ⟨rfl, _⟩ | ⟨rfl, _⟩ <;> rfl) (by have := n.le; omega)
  have e1 : n.lE.map nmI = n.l := rfl
  rw [e1] at c
  unfold exSt at *
  simp [plainAt, wipeR, back, c]
theorem vars_ev {n : Names} {vars d : Nat} {c4 c6 c8 c9 : Slot} {xs : List PyData} {hp : List AO} (hv : vars ≤ 1000) (b : Bool) : ev b (.comp (.tup (.cons (.lit (.str tVar)) (.cons (.var 7) .nil))) [7] (.range1 (.var 2)) .nil) (exSt n vars d c4 (.own xs) c6 .emp c8 c9 hp) = some (.lst ((List.range vars).map fun i => exI (.var i)), exSt n vars d c4 (.own xs) c6 .emp c8 c9 hp) := by
  have c := compL_all (tg := [7]) (elt := ev false (.tup (.cons (.lit (.str tVar)) (.cons (.var 7) .nil)))) (fun i : Nat => PyData.int (i : Int)) (fun i => exI (.var i)) (exSt n vars d c4 (.own xs) c6 .emp c8 c9 hp) (List.range vars) (fun i hi => by
    exact ⟨[.av (.ref 1), .av (.dat (.list n.l)), .av (iv vars), .av (iv d), c4, .own xs, c6, .av (.dat (.int i)), c8, c9], by simp [exSt], ⟨.av (.dat (exI (.var i))), by simp [exSt, exI], rfl⟩, rfl, rfl⟩) (by simp; omega)
  have i1 := range1_same (e := .var 2) (ms := exSt n vars d c4 (.own xs) c6 .emp c8 c9 hp) vars (by simp [exSt]) (by omega)
  unfold exSt at *
  simp [i1, plainAt, wipeR, back, c]
def leaves (n : Names) (vars w : Nat) : List Ex := (([.num w] ++ n.lE) ++ n.lE) ++ (List.range vars).map .var
theorem leaf_ok {n : Names} {vars w : Nat} (hw : w ≤ 15) {e : Ex} (h : e ∈ leaves n vars w) : exFit n vars e = true ∧ depP e = 1 := by
  unfold leaves at h
  simp only [List.mem_append, List.mem_singleton, List.mem_map, List.mem_range] at h
  rcases h with ((rfl | h) | h) | ⟨i, hi, rfl⟩
  · exact ⟨by simp [exFit, hw], rfl⟩
  · rcases Names.mem h with ⟨rfl, c⟩ | ⟨rfl, c⟩ <;> exact ⟨by simp [exFit, c], rfl⟩
  · rcases Names.mem h with ⟨rfl, c⟩ | ⟨rfl, c⟩ <;> exact ⟨by simp [exFit, c], rfl⟩
  · exact ⟨by simp [exFit, hi], rfl⟩
@[simp] theorem f_law_expr_run (n : Nat) : (f__law_expr n).run = r__law_expr n := rfl
theorem pick_two {a b v : Nat} (h : v < 2) : ∃ m : Nat, atD ([.int (a : Int), .int (b : Int)] : List PyData) (v : Int) = some (.int (m : Int)) ∧ (m = a ∨ m = b) := by
  match v, h with
  | 0, _ => exact ⟨a, by simp, .inl rfl⟩
  | 1, _ => exact ⟨b, by simp, .inr rfl⟩
/-- a leaf -/
theorem expr_leaf {n : Names} {vars d m k : Nat} {hp0 hp : List AO} (W : DrawOk hp) (hv : vars ≤ 1000) (hk : d ≤ 1 ∨ k < 3) (e0 : f__law_draw.run [.ref 1, .dat (.int 8)] hp0 = some (.av (iv k), hp)) :
    ∃ e hp', r__law_expr (m + 1) [.ref 1, .dat (.list n.l), .dat (.int vars), .dat (.int d)] hp0 = some (.av (.dat (exI e)), hp') ∧ DrawOk hp' ∧ Fm two hp hp' ∧ exFit n vars e = true ∧ depP e = 1 := by
  obtain ⟨v, hp1, e1, W1, F1, hv1⟩ := draw_n W (m := 2) (by omega) (by omega)
  have e1' : f__law_draw.run [.ref 1, .dat (.int 2)] hp = some (.av (iv v), hp1) := e1
  obtain ⟨q, hq, hq2⟩ := pick_two (a := 3) (b := 16) hv1
  have hq' : atD ([.int 3, .int 16] : List PyData) (v : Int) = some (.int (q : Int)) := hq
  obtain ⟨w, hp2, e2, W2, F2, hw⟩ := draw_n W1 (m := q) (by omega) (by omega)
  have hll : (leaves n vars w).length ≤ 10000 := by
    have := n.le
    simp [leaves]; omega
  have hl0 : 0 < (leaves n vars w).length := by simp [leaves]
  obtain ⟨j, hp3, e3, W3, F3, hj⟩ := draw_n W2 (m := (leaves n vars w).length) hl0 (by omega)
  obtain ⟨e, he⟩ : ∃ e, (leaves n vars w)[j]? = some e := ⟨_, List.getElem?_eq_getElem hj⟩
  obtain ⟨o1, o2⟩ := leaf_ok (by omega) (List.mem_of_getElem? he)
  refine ⟨e, hp3, ?_, W3, (F1.trans F2).trans F3, o1, o2⟩
  have n1 : ∀ b xs hp, _ := fun b xs hp => names_ev (n := n) (vars := vars) (d := d) (c4 := .av (iv k)) (c7 := .emp) (c8 := .emp) (c9 := .emp) (xs := xs) (hp := hp) b
  have n2 : ∀ b xs hp, _ := fun b xs hp => vars_ev (n := n) (vars := vars) (d := d) (c4 := .av (iv k)) (c6 := .emp) (c8 := .emp) (c9 := .emp) (xs := xs) (hp := hp) hv b
  have sj : atD ((leaves n vars w).map exI) (j : Int) = some (exI e) := atD_lit (by rw [List.getElem?_map, he]; rfl)
  have b1 := bin_addL1 (xs := [exI (.num w)]) (ys := n.lE.map exI) (by have := n.le; simp; omega)
  have b2 := bin_addL1 (xs := [exI (.num w)] ++ n.lE.map exI) (ys := n.lE.map exI) (by have := n.le; simp; omega)
  have b3 := bin_addL1 (xs := ([exI (.num w)] ++ n.lE.map exI) ++ n.lE.map exI) (ys := (List.range vars).map fun i => exI (.var i)) (by have := n.le; simp; omega)
  have b4 : (([exI (.num w)] ++ n.lE.map exI) ++ n.lE.map exI) ++ (List.range vars).map (fun i => exI (.var i)) = (leaves n vars w).map exI := by simp [leaves]
  rw [b4] at b3
  have bl : ((leaves n vars w).map exI).length = (leaves n vars w).length := by simp
  clear b4
  generalize (leaves n vars w).map exI = L at *
  generalize ([exI (.num w)] ++ n.lE.map exI) ++ n.lE.map exI = L2 at b2 b3
  generalize [exI (.num w)] ++ n.lE.map exI = L1 at b1 b2
  generalize (leaves n vars w).length = ll at *
  unfold exSt at n1 n2
  have hc : ev true (.or (.cmp .le (.var 3) (.lit (.int 1))) (.cmp .lt (.var 4) (.lit (.int 3)))) ⟨[.av (.ref 1), .av (.dat (.list n.l)), .av (iv vars), .av (iv d), .av (iv k), .emp, .emp, .emp, .emp, .emp], hp⟩ = some (.av (.dat (.bool true)), ⟨[.av (.ref 1), .av (.dat (.list n.l)), .av (iv vars), .av (iv d), .av (iv k), .emp, .emp, .emp, .emp, .emp], hp⟩) := by
    by_cases c : (d : Int) ≤ 1
    · simp [c]
    · have : (k : Int) < 3 := by omega
      simp [c, this]
  have s1 : ex (.set 5 (.lst (.cons (.tup (.cons (.lit (.str tNum)) (.cons (.call f__law_draw (.cons (.var 0) (.cons (.sub (.lst (.cons (.lit (.int 3)) (.cons (.lit (.int 16)) .nil))) (.call f__law_draw (.cons (.var 0) (.cons (.lit (.int 2)) .nil)))) .nil))) .nil))) .nil))) ⟨[.av (.ref 1), .av (.dat (.list n.l)), .av (iv vars), .av (iv d), .av (iv k), .emp, .emp, .emp, .emp, .emp], hp⟩ =
      some (.nx, ⟨[.av (.ref 1), .av (.dat (.list n.l)), .av (iv vars), .av (iv d), .av (iv k), .own [exI (.num w)], .emp, .emp, .emp, .emp], hp2⟩) := by
    simp [e1', hq', e2, exI]
  simp only [r__law_expr, runB, ss__law_expr]
  simp [e0, hc, s1, n1, n2, b1, b2, b3, bl, e3, sj]
def ops : List Bop := [.add, .sub, .mul, .eq, .lt, .and, .or]
theorem expr_run {n : Names} {vars : Nat} (hv : vars ≤ 1000) : ∀ (m d : Nat) (hp : List AO), d ≤ m → 1 ≤ m → DrawOk hp →
    ∃ e hp', r__law_expr m [.ref 1, .dat (.list n.l), .dat (.int vars), .dat (.int d)] hp = some (.av (.dat (exI e)), hp') ∧ DrawOk hp' ∧ Fm two hp hp' ∧ exFit n vars e = true ∧ depP e ≤ max d 1
  | 0, _, _, _, h, _ => absurd h (by omega)
  | m + 1, d, hp, hd, _, W => by
    obtain ⟨k, hp1, e0, W1, F1, hk⟩ := draw_n W (m := 8) (by omega) (by omega)
    have e0' : f__law_draw.run [.ref 1, .dat (.int 8)] hp = some (.av (iv k), hp1) := e0
    by_cases hc : d ≤ 1 ∨ k < 3
    · obtain ⟨e, hp', q1, q2, q3, q4, q5⟩ := expr_leaf (n := n) (vars := vars) (d := d) (m := m) W1 hv hc e0'
      exact ⟨e, hp', q1, q2, F1.trans q3, q4, by omega⟩
    have ed : ((d - 1 : Nat) : Int) = (d : Int) - 1 := by omega
    have hc0 : ev true (.or (.cmp .le (.var 3) (.lit (.int 1))) (.cmp .lt (.var 4) (.lit (.int 3)))) ⟨[.av (.ref 1), .av (.dat (.list n.l)), .av (iv vars), .av (iv d), .av (iv k), .emp, .emp, .emp, .emp, .emp], hp1⟩ = some (.av (.dat (.bool false)), ⟨[.av (.ref 1), .av (.dat (.list n.l)), .av (iv vars), .av (iv d), .av (iv k), .emp, .emp, .emp, .emp, .emp], hp1⟩) := by
      have c1 : ¬ (d : Int) ≤ 1 := by omega
      have c2 : ¬ (k : Int) < 3 := by omega
      simp [c1, c2]
    have ce := cmp_eq (d := .int (k : Int)) (e := .int 5) (by simp) (by simp)
    rw [eqq_int] at ce
    by_cases h5 : k = 5
    · -- not, sum
      obtain ⟨v, hp2, e2, W2, F2, hv2⟩ := draw_n W1 (m := 2) (by omega) (by omega)
      have e2' : f__law_draw.run [.ref 1, .dat (.int 2)] hp1 = some (.av (iv v), hp2) := e2
      obtain ⟨x, hp3, e3, W3, F3, f3, d3⟩ := expr_run (n := n) hv m (d - 1) hp2 (by omega) (by omega) W2
      rw [ed] at e3
      have c4 : ¬ (k : Int) < 5 := by omega
      rw [decide_eq_true (by omega)] at ce
      obtain ⟨e, s, he, hs, hf, hdp⟩ : ∃ (e : Ex) (s : Str), atD ([.str tNot, .str tSum] : List PyData) (v : Int) = some (.str s) ∧ exI e = .tuple [.str s, exI x] ∧ exFit n vars e = exFit n vars x ∧ depP e = depP x + 1 := by
        match v, hv2 with
        | 0, _ => exact ⟨.not x, tNot, by simp, rfl, rfl, rfl⟩
        | 1, _ => exact ⟨.sum x, tSum, by simp, rfl, rfl, rfl⟩
      refine ⟨e, hp3, ?_, W3, (F1.trans F2).trans F3, by rw [hf]; exact f3, by omega⟩
      rw [hs]
      simp only [r__law_expr, runB, ss__law_expr]
      simp [e0', hc0, c4, ce, e2', he, e3]
    obtain ⟨x, hp3, e3, W3, F3, f3, d3⟩ := expr_run (n := n) hv m (d - 1) hp1 (by omega) (by omega) W1
    rw [ed] at e3
    by_cases h4 : k < 5
    · obtain ⟨y, hp4, e4, W4, F4, f4, d4⟩ := expr_run (n := n) hv m (d - 1) hp3 (by omega) (by omega) W3
      rw [ed] at e4
      have c4 : (k : Int) < 5 := by omega
      refine ⟨.read x y, hp4, ?_, W4, (F1.trans F3).trans F4, by simp [exFit, f3, f4], by simp [depP]; omega⟩
      simp only [r__law_expr, runB, ss__law_expr]
      simp [e0', hc0, c4, e3, e4, exI]
    · obtain ⟨v, hp2, e2, W2, F2, hv2⟩ := draw_n W3 (m := 7) (by omega) (by omega)
      have e2' : f__law_draw.run [.ref 1, .dat (.int 7)] hp3 = some (.av (iv v), hp2) := e2
      obtain ⟨y, hp4, e4, W4, F4, f4, d4⟩ := expr_run (n := n) hv m (d - 1) hp2 (by omega) (by omega) W2
      rw [ed] at e4
      have c4 : ¬ (k : Int) < 5 := by omega
      rw [decide_eq_false (by omega)] at ce
      obtain ⟨o, ho⟩ : ∃ o : Bop, atD ([.str ⟨#[43]⟩, .str ⟨#[45]⟩, .str ⟨#[42]⟩, .str ⟨#[61, 61]⟩, .str ⟨#[60]⟩, .str ⟨#[97, 110, 100]⟩, .str ⟨#[111, 114]⟩] : List PyData) (v : Int) = some (.str o.t) := by
        match v, hv2 with
        | 0, _ => exact ⟨.add, by simp [Bop.t]⟩
        | 1, _ => exact ⟨.sub, by simp [Bop.t]⟩
        | 2, _ => exact ⟨.mul, by simp [Bop.t]⟩
        | 3, _ => exact ⟨.eq, by simp [Bop.t]⟩
        | 4, _ => exact ⟨.lt, by simp [Bop.t]⟩
        | 5, _ => exact ⟨.and, by simp [Bop.t]⟩
        | 6, _ => exact ⟨.or, by simp [Bop.t]⟩
      refine ⟨.op o x y, hp4, ?_, W4, ((F1.trans F3).trans F2).trans F4, by simp [exFit, f3, f4], by simp [depP]; omega⟩
      simp only [r__law_expr, runB, ss__law_expr]
      simp [e0', hc0, c4, ce, e3, e2', ho, e4, exI]
theorem stFits_iff {n : Names} {vars width : Nat} {wr : Bool} : ∀ {l : List St}, stFits n vars width wr l = true ↔ ∀ s ∈ l, stFit n vars width wr s = true
  | [] => by simp [stFits]
  | s :: l => by simp [stFits, stFits_iff (l := l)]
theorem cntM_app : ∀ (a b : List St), cntM (a ++ b) = cntM a + cntM b
  | [], b => by simp [cntM]
  | s :: a, b => by simp [cntM, cntM_app a b]; omega
theorem cntD_le {d : Nat} : ∀ {l : List St}, cntD l ≤ d ↔ ∀ s ∈ l, (cntS s).2.1 ≤ d
  | [] => by simp [cntD]
  | s :: l => by simp [cntD, ← cntD_le (l := l), Nat.max_le]
theorem cntL_le {d : Nat} : ∀ {l : List St}, cntL l ≤ d ↔ ∀ s ∈ l, (cntS s).2.2 ≤ d
  | [] => by simp [cntL]
  | s :: l => by simp [cntL, ← cntL_le (l := l), Nat.max_le]
theorem cntM_le {d : Nat} : ∀ {l : List St}, (∀ s ∈ l, (cntS s).1 ≤ d) → cntM l ≤ l.length * d
  | [], _ => by simp [cntM]
  | s :: l, h => by
    have h1 := h s (List.mem_cons_self ..)
    have h2 := cntM_le (l := l) fun x hx => h x (List.mem_cons_of_mem _ hx)
    simp only [cntM, List.length_cons, Nat.add_mul]
    omega
/-- the greatest number of statements of a drawn body -/
def NB : Nat → Nat
  | 0 => 2
  | d + 1 => 2 * (1 + 2 * NB d)
/-- a drawn body -/
structure BodyB (n : Names) (vars width : Nat) (wr : Bool) (d : Nat) (b : List St) : Prop where
  fit : stFits n vars width wr b = true
  len : b.length ≤ 2
  many : cntM b ≤ NB d
  deep : cntD b ≤ d + 1
  loops : cntL b ≤ d
structure StB (n : Names) (vars width : Nat) (wr : Bool) (d : Nat) (s : St) : Prop where
  fit : stFit n vars width wr s = true
  many : (cntS s).1 * 2 ≤ NB d
  deep : (cntS s).2.1 ≤ d + 1
  loops : (cntS s).2.2 ≤ d
theorem NB_two (d : Nat) : 2 ≤ NB d := by cases d <;> simp [NB]; omega
theorem BodyB.of {n : Names} {vars width : Nat} {wr : Bool} {d : Nat} {b : List St} (h : ∀ s ∈ b, StB n vars width wr d s) (hl : b.length ≤ 2) : BodyB n vars width wr d b := by
  refine ⟨stFits_iff.mpr fun s hs => (h s hs).fit, hl, ?_, cntD_le.mpr fun s hs => (h s hs).deep, cntL_le.mpr fun s hs => (h s hs).loops⟩
  match b, hl with
  | [], _ => simp [cntM]
  | [s], _ =>
    have := (h s (by simp)).many
    simp [cntM]; omega
  | [s, t], _ =>
    have h1 := (h s (by simp)).many
    have h2 := (h t (by simp)).many
    simp [cntM]; omega
def stSt (n : Names) (width vars : Nat) (wr : Bool) (d : Nat) (c5 c6 c7 c8 c9 c10 c11 : Slot) (hp : List AO) : MS := ⟨[.av (.ref 1), .av (.dat (.list [.int width, .int vars])), .av (.dat (.list n.l)), .av (.dat (.bool wr)), .av (iv d), c5, c6, c7, c8, c9, c10, c11], hp⟩
/-- [_law_expr(state, names, variables, 2) for k in range(width)] -/
theorem words_draw {n : Names} {width vars : Nat} {wr : Bool} {d : Nat} {c5 c7 c10 c11 : Slot} {hp : List AO} (W : DrawOk hp) (hv : vars ≤ 1000) (hw : width ≤ 100) :
    ∃ (ws : List Ex) (hp' : List AO), ex (.setC 8 (.call (f__law_expr 12) (.cons (.var 0) (.cons (.var 2) (.cons (.var 6) (.cons (.lit (.int 2)) .nil))))) [9] (.range1 (.var 5)) .nil) (stSt n width vars wr d (.av (iv width)) (.av (iv vars)) c7 .emp .emp c10 c11 hp) = some (.nx, stSt n width vars wr d (.av (iv width)) (.av (iv vars)) c7 (.own (ws.map exI)) .emp c10 c11 hp') ∧
      DrawOk hp' ∧ Fm two hp hp' ∧ ws.length = width ∧ ∀ e ∈ ws, exFit n vars e = true ∧ depP e ≤ 2 := by
  obtain ⟨ws, hp', e, ⟨W', F'⟩, hl, hr⟩ := compL_relT (tg := [9]) (elt := ev false (.call (f__law_expr 12) (.cons (.var 0) (.cons (.var 2) (.cons (.var 6) (.cons (.lit (.int 2)) .nil)))))) (fun j : Nat => PyData.int (j : Int)) exI (rho0 := (stSt n width vars wr d (.av (iv width)) (.av (iv vars)) c7 .emp .emp c10 c11 hp).rho)
    (fun h => DrawOk h ∧ Fm two hp h) (fun _ e => exFit n vars e = true ∧ depP e ≤ 2) (List.range width) [] hp ⟨W, .refl⟩ (fun x hx h ⟨W, F⟩ => by
      obtain ⟨e, h', q1, q2, q3, q4, q5⟩ := expr_run (n := n) hv 12 2 h (by omega) (by omega) W
      have q1' : r__law_expr 12 [.ref 1, .dat (.list n.l), .dat (.int vars), .dat (.int 2)] h = some (.av (.dat (exI e)), h') := q1
      exact ⟨[.av (.ref 1), .av (.dat (.list [.int width, .int vars])), .av (.dat (.list n.l)), .av (.dat (.bool wr)), .av (iv d), .av (iv width), .av (iv vars), c7, .emp, .av (.dat (.int x)), c10, c11], .av (.dat (exI e)), e, h', by simp [stSt], by simp [q1'], rfl, ⟨q4, q5⟩, ⟨q2, F.trans q3⟩, rfl, rfl⟩) (by simp; omega)
  refine ⟨ws, hp', ?_, W', F', by simpa using hl, fun e he => by
    obtain ⟨_, _, h⟩ := hr e he
    exact h⟩
  have i1 := range1_same (e := .var 5) (ms := stSt n width vars wr d (.av (iv width)) (.av (iv vars)) c7 .emp .emp c10 c11 hp) width (by simp [stSt]) (by omega)
  rw [List.nil_append] at e
  unfold stSt at *
  simp [i1, plainAt, wipeR, back, e]
def BodySpec (n : Names) (vars width : Nat) (wr : Bool) (m d : Nat) : Prop := ∀ hp, DrawOk hp → ∃ b hp', r__law_body m [.ref 1, .dat (.list [.int width, .int vars]), .dat (.list n.l), .dat (.bool wr), .dat (.int d)] hp = some (.lst (b.map stJ), hp') ∧ DrawOk hp' ∧ Fm two hp hp' ∧ BodyB n vars width wr d b
def StSpec (n : Names) (vars width : Nat) (wr : Bool) (m d : Nat) : Prop := ∀ hp, DrawOk hp → ∃ s hp', r__law_statement m [.ref 1, .dat (.list [.int width, .int vars]), .dat (.list n.l), .dat (.bool wr), .dat (.int d)] hp = some (.av (.dat (stJ s)), hp') ∧ DrawOk hp' ∧ Fm two hp hp' ∧ StB n vars width wr d s
theorem stmt_step {n : Names} {vars width : Nat} {wr : Bool} {m d : Nat} (hv : vars ≤ 1000) (hw : width ≤ 100) (ih : ∀ d', d = d' + 1 → BodySpec n vars width wr m d') : StSpec n vars width wr (m + 1) d := by
  intro hp W
  obtain ⟨k, hp1, e0, W1, F1, hk⟩ := draw_n W (m := 9) (by omega) (by omega)
  have e0' : f__law_draw.run [.ref 1, .dat (.int 9)] hp = some (.av (iv k), hp1) := e0
  have nb := NB_two d
  have ce4 := cmp_eq (d := .int (k : Int)) (e := .int 4) (by simp) (by simp)
  have ce5 := cmp_eq (d := .int (k : Int)) (e := .int 5) (by simp) (by simp)
  rw [eqq_int] at ce4 ce5
  have EX : ∀ dd : Nat, dd ≤ 12 → 1 ≤ dd → ∀ hp, DrawOk hp → ∃ (e : Ex) (hp' : List AO), r__law_expr 12 [.ref 1, .dat (.list n.l), .dat (.int vars), .dat (.int dd)] hp = some (.av (.dat (exI e)), hp') ∧ DrawOk hp' ∧ Fm two hp hp' ∧ exFit n vars e = true ∧ depP e ≤ dd := fun dd h1 h2 hp W => by
    obtain ⟨e, hp', q1, q2, q3, q4, q5⟩ := expr_run (n := n) hv 12 dd hp h1 (by omega) W
    exact ⟨e, hp', q1, q2, q3, q4, by omega⟩
  have c0 : ∀ x y : Int, bindT [5, 6] (.list [.int x, .int y]) [Slot.av (.ref 1), .av (.dat (.list [.int x, .int y])), .av (.dat (.list n.l)), .av (.dat (.bool wr)), .av (iv d), .emp, .emp, .emp, .emp, .emp, .emp, .emp] = some [Slot.av (.ref 1), .av (.dat (.list [.int x, .int y])), .av (.dat (.list n.l)), .av (.dat (.bool wr)), .av (iv d), .av (iv x), .av (iv y), .emp, .emp, .emp, .emp, .emp] := fun x y => rfl
  by_cases hA : k < 4 ∧ wr = true
  · -- a write
    obtain ⟨hA, rfl⟩ := hA
    obtain ⟨ws, hp2, e2, W2, F2, lw, fw⟩ := words_draw (n := n) (vars := vars) (width := width) (wr := true) (d := d) (c5 := .emp) (c7 := .av (iv k)) (c10 := .emp) (c11 := .emp) W1 hv hw
    obtain ⟨s, hp3, e3, W3, F3, f3, d3⟩ := EX 2 (by omega) (by omega) hp2 W2
    have e3' : r__law_expr 12 [.ref 1, .dat (.list n.l), .dat (.int vars), .dat (.int 2)] hp2 = some (.av (.dat (exI s)), hp3) := e3
    have c1 : (k : Int) < 4 := by omega
    refine ⟨.write s ws, hp3, ?_, W3, (F1.trans F2).trans F3, ⟨?_, by simp [cntS]; exact nb, by simp [cntS], by simp [cntS]⟩⟩
    · unfold stSt at e2
      simp only [r__law_statement, runB, ss__law_statement]
      simp [c0, e0', c1, -exe_1, e2, e3', stJ]
    · simp only [stFit, Bool.and_eq_true, decide_eq_true_eq, List.all_eq_true]
      exact ⟨trivial, ⟨f3, by omega⟩, lw, fun e he => ⟨(fw e he).1, by have := (fw e he).2; omega⟩⟩
  have cA : ∀ hp (c8 c9 c10 c11 : Slot), ev true (.and (.cmp .lt (.var 7) (.lit (.int 4))) (.var 3)) ⟨[.av (.ref 1), .av (.dat (.list [.int width, .int vars])), .av (.dat (.list n.l)), .av (.dat (.bool wr)), .av (iv d), .av (iv width), .av (iv vars), .av (iv k), c8, c9, c10, c11], hp⟩ = some (.av (.dat (.bool false)), ⟨[.av (.ref 1), .av (.dat (.list [.int width, .int vars])), .av (.dat (.list n.l)), .av (.dat (.bool wr)), .av (iv d), .av (iv width), .av (iv vars), .av (iv k), c8, c9, c10, c11], hp⟩) := fun hp c8 c9 c10 c11 => by
    by_cases c : (k : Int) < 4
    · have : wr = false := by
        cases wr
        · rfl
        · exact absurd ⟨by omega, rfl⟩ hA
      subst this
      simp [c]
    · simp [c]
  by_cases hB : k = 4 ∧ wr = true
  · -- a barrier
    obtain ⟨hB, rfl⟩ := hB
    rw [decide_eq_true (by omega)] at ce4
    refine ⟨.barrier, hp1, ?_, W1, F1, ⟨by simp [stFit], by simp [cntS]; exact nb, by simp [cntS], by simp [cntS]⟩⟩
    simp only [r__law_statement, runB, ss__law_statement]
    simp [c0, e0', cA, ce4, stJ]
  have cB : ∀ hp (c8 c9 c10 c11 : Slot), ev true (.and (.cmp .eq (.var 7) (.lit (.int 4))) (.var 3)) ⟨[.av (.ref 1), .av (.dat (.list [.int width, .int vars])), .av (.dat (.list n.l)), .av (.dat (.bool wr)), .av (iv d), .av (iv width), .av (iv vars), .av (iv k), c8, c9, c10, c11], hp⟩ = some (.av (.dat (.bool false)), ⟨[.av (.ref 1), .av (.dat (.list [.int width, .int vars])), .av (.dat (.list n.l)), .av (.dat (.bool wr)), .av (iv d), .av (iv width), .av (iv vars), .av (iv k), c8, c9, c10, c11], hp⟩) := fun hp c8 c9 c10 c11 => by
    by_cases c : k = 4
    · have : wr = false := by
        cases wr
        · rfl
        · exact absurd ⟨c, rfl⟩ hB
      subst this
      rw [decide_eq_true (by omega)] at ce4
      simp [ce4]
    · rw [decide_eq_false (by omega)] at ce4
      simp [ce4]
  by_cases hC : k = 5 ∧ 0 < vars ∧ 0 < d
  · -- a loop
    obtain ⟨hC, hv0, hd0⟩ := hC
    obtain ⟨d', hd⟩ : ∃ d', d = d' + 1 := ⟨d - 1, by omega⟩
    obtain ⟨b, hp2, e2, W2, F2, B⟩ := ih d' hd hp1 W1
    obtain ⟨v, hp3, e3, W3, F3, hv3⟩ := draw_n W2 (m := vars) hv0 (by omega)
    obtain ⟨r, hp4, e4, W4, F4, hr4⟩ := draw_n W3 (m := 3) (by omega) (by omega)
    have e4' : f__law_draw.run [.ref 1, .dat (.int 3)] hp3 = some (.av (iv r), hp4) := e4
    rw [decide_eq_true (by omega)] at ce5
    have er : (1 : Int) + (r : Int) = ((r + 1 : Nat) : Int) := by omega
    have ed : (d' : Int) = (d : Int) - 1 := by omega
    rw [ed] at e2
    have hb1 := B.many
    have hb2 := B.deep
    have hb3 := B.loops
    refine ⟨.loop v (r + 1) b, hp4, ?_, W4, ((F1.trans F2).trans F3).trans F4, ⟨?_, by rw [hd]; simp [cntS, NB]; omega, by simp [cntS]; omega, by simp [cntS]; omega⟩⟩
    · rw [stJ, stIs_eq, ← er]
      simp only [r__law_statement, runB, ss__law_statement]
      simp [c0, e0', cA, cB, ce5, hv0, hd0, e2, e3, e4']
    · simp only [stFit, Bool.and_eq_true, decide_eq_true_eq]
      exact ⟨hv3, by omega, B.fit⟩
  have cC : ∀ hp (c8 c9 c10 c11 : Slot), ev true (.and (.cmp .eq (.var 7) (.lit (.int 5))) (.and (.cmp .gt (.var 6) (.lit (.int 0))) (.cmp .gt (.var 4) (.lit (.int 0))))) ⟨[.av (.ref 1), .av (.dat (.list [.int width, .int vars])), .av (.dat (.list n.l)), .av (.dat (.bool wr)), .av (iv d), .av (iv width), .av (iv vars), .av (iv k), c8, c9, c10, c11], hp⟩ = some (.av (.dat (.bool false)), ⟨[.av (.ref 1), .av (.dat (.list [.int width, .int vars])), .av (.dat (.list n.l)), .av (.dat (.bool wr)), .av (iv d), .av (iv width), .av (iv vars), .av (iv k), c8, c9, c10, c11], hp⟩) := fun hp c8 c9 c10 c11 => by
    by_cases c : k = 5
    · rw [decide_eq_true (by omega)] at ce5
      by_cases c2 : 0 < vars
      · have c3 : ¬ 0 < d := by omega
        simp [ce5, c2, c3]
      · simp [ce5, c2]
    · rw [decide_eq_false (by omega)] at ce5
      simp [ce5]
  by_cases hD : k < 8 ∧ 0 < vars
  · -- a set
    obtain ⟨hD, hv0⟩ := hD
    obtain ⟨v, hp2, e2, W2, F2, hv2⟩ := draw_n W1 (m := vars) hv0 (by omega)
    obtain ⟨s, hp3, e3, W3, F3, f3, d3⟩ := EX 3 (by omega) (by omega) hp2 W2
    have e3' : r__law_expr 12 [.ref 1, .dat (.list n.l), .dat (.int vars), .dat (.int 3)] hp2 = some (.av (.dat (exI s)), hp3) := e3
    have c1 : (k : Int) < 8 := by omega
    refine ⟨.set v s, hp3, ?_, W3, (F1.trans F2).trans F3, ⟨?_, by simp [cntS]; exact nb, by simp [cntS], by simp [cntS]⟩⟩
    · simp only [r__law_statement, runB, ss__law_statement]
      simp [c0, e0', cA, cB, cC, c1, hv0, e2, e3', stJ]
    · simp only [stFit, Bool.and_eq_true, decide_eq_true_eq]
      exact ⟨hv2, f3, by omega⟩
  have cD : ∀ hp (c8 c9 c10 c11 : Slot), ev true (.and (.cmp .lt (.var 7) (.lit (.int 8))) (.cmp .gt (.var 6) (.lit (.int 0)))) ⟨[.av (.ref 1), .av (.dat (.list [.int width, .int vars])), .av (.dat (.list n.l)), .av (.dat (.bool wr)), .av (iv d), .av (iv width), .av (iv vars), .av (iv k), c8, c9, c10, c11], hp⟩ = some (.av (.dat (.bool false)), ⟨[.av (.ref 1), .av (.dat (.list [.int width, .int vars])), .av (.dat (.list n.l)), .av (.dat (.bool wr)), .av (iv d), .av (iv width), .av (iv vars), .av (iv k), c8, c9, c10, c11], hp⟩) := fun hp c8 c9 c10 c11 => by
    by_cases c : (k : Int) < 8
    · have c2 : ¬ 0 < vars := by omega
      simp [c, c2]
    · simp [c]
  by_cases hE : 0 < d
  · -- an if with bodies
    obtain ⟨d', hd⟩ : ∃ d', d = d' + 1 := ⟨d - 1, by omega⟩
    obtain ⟨a, hp2, e2, W2, F2, A⟩ := ih d' hd hp1 W1
    obtain ⟨b, hp3, e3, W3, F3, B⟩ := ih d' hd hp2 W2
    obtain ⟨s, hp4, e4, W4, F4, f4, d4⟩ := EX 2 (by omega) (by omega) hp3 W3
    have e4' : r__law_expr 12 [.ref 1, .dat (.list n.l), .dat (.int vars), .dat (.int 2)] hp3 = some (.av (.dat (exI s)), hp4) := e4
    have ed : (d' : Int) = (d : Int) - 1 := by omega
    rw [ed] at e2 e3
    have a1 := A.many
    have a2 := A.deep
    have a3 := A.loops
    have b1 := B.many
    have b2 := B.deep
    have b3 := B.loops
    have rg : (List.range 2).map (fun j : Nat => PyData.int (j : Int)) = [.int 0, .int 1] := rfl
    refine ⟨.ite s a b, hp4, ?_, W4, ((F1.trans F2).trans F3).trans F4, ⟨?_, by rw [hd]; simp [cntS, NB]; omega, by simp [cntS]; omega, by simp [cntS]; omega⟩⟩
    · rw [stJ, stIs_eq, stIs_eq]
      have i1 := range1_same (e := .lit (.int 2)) (ms := ⟨[.av (.ref 1), .av (.dat (.list [.int width, .int vars])), .av (.dat (.list n.l)), .av (.dat (.bool wr)), .av (iv d), .av (iv width), .av (iv vars), .av (iv k), .emp, .emp, .emp, .own [.list [], .list []]], hp1⟩) 2 (by simp) (by omega)
      rw [rg] at i1
      simp only [r__law_statement, runB, ss__law_statement]
      simp [c0, e0', cA, cB, cC, cD, hE, i1, plainAt, wipeR, back, compL, e2, e3, e4']
    · simp only [stFit, Bool.and_eq_true, decide_eq_true_eq]
      exact ⟨⟨f4, by omega⟩, A.fit, B.fit⟩
  · -- an if without
    obtain ⟨s, hp4, e4, W4, F4, f4, d4⟩ := EX 2 (by omega) (by omega) hp1 W1
    have e4' : r__law_expr 12 [.ref 1, .dat (.list n.l), .dat (.int vars), .dat (.int 2)] hp1 = some (.av (.dat (exI s)), hp4) := e4
    refine ⟨.ite s [] [], hp4, ?_, W4, F1.trans F4, ⟨?_, by simp [cntS, cntM]; exact nb, by simp [cntS, cntD], by simp [cntS, cntL]⟩⟩
    · rw [stJ, stIs_eq]
      simp only [r__law_statement, runB, ss__law_statement]
      simp [c0, e0', cA, cB, cC, cD, hE, e4']
    · simp only [stFit, stFits, Bool.and_eq_true, decide_eq_true_eq]
      exact ⟨⟨f4, by omega⟩, trivial, trivial⟩
theorem body_step {n : Names} {vars width : Nat} {wr : Bool} {m d : Nat} (ih : StSpec n vars width wr m d) : BodySpec n vars width wr (m + 1) d := by
  intro hp W
  obtain ⟨k, hp1, e0, W1, F1, hk⟩ := draw_n W (m := 3) (by omega) (by omega)
  have e0' : f__law_draw.run [.ref 1, .dat (.int 3)] hp = some (.av (iv k), hp1) := e0
  obtain ⟨b, hp', e, ⟨W', F'⟩, hl, hr⟩ := compL_relT (tg := [5]) (elt := ev false (.call ⟨⟨#[95, 108, 97, 119, 95, 115, 116, 97, 116, 101, 109, 101, 110, 116]⟩, r__law_statement m⟩ (.cons (.var 0) (.cons (.var 1) (.cons (.var 2) (.cons (.var 3) (.cons (.var 4) .nil))))))) (fun j : Nat => PyData.int (j : Int)) stJ
    (rho0 := [.av (.ref 1), .av (.dat (.list [.int width, .int vars])), .av (.dat (.list n.l)), .av (.dat (.bool wr)), .av (iv d), .emp])
    (fun h => DrawOk h ∧ Fm two hp1 h) (fun _ s => StB n vars width wr d s) (List.range k) [] hp1 ⟨W1, .refl⟩ (fun x hx h ⟨W, F⟩ => by
      obtain ⟨s, h', q1, q2, q3, q4⟩ := ih h W
      exact ⟨[.av (.ref 1), .av (.dat (.list [.int width, .int vars])), .av (.dat (.list n.l)), .av (.dat (.bool wr)), .av (iv d), .av (.dat (.int x))], .av (.dat (stJ s)), s, h', by simp, by simp [q1], rfl, q4, ⟨q2, F.trans q3⟩, rfl, rfl⟩) (by simp; omega)
  refine ⟨b, hp', ?_, W', F1.trans F', BodyB.of (fun s hs => by
    obtain ⟨_, _, h⟩ := hr s hs
    exact h) (by rw [hl, List.length_range]; omega)⟩
  have i1 : evI (.range1 (.call f__law_draw (.cons (.var 0) (.cons (.lit (.int 3)) .nil)))) ⟨[.av (.ref 1), .av (.dat (.list [.int width, .int vars])), .av (.dat (.list n.l)), .av (.dat (.bool wr)), .av (iv d), .emp], hp⟩ = _ := range1_nat (n := k) (ms1 := ⟨[.av (.ref 1), .av (.dat (.list [.int width, .int vars])), .av (.dat (.list n.l)), .av (.dat (.bool wr)), .av (iv d), .emp], hp1⟩) (by simp [e0']) (by omega)
  rw [List.nil_append] at e
  simp only [r__law_body, runB, ss__law_body]
  simp [i1, plainAt, wipeR, back, e]
theorem body_run {n : Names} {vars width : Nat} {wr : Bool} (hv : vars ≤ 1000) (hw : width ≤ 100) : ∀ (d m : Nat), 2 * d + 2 ≤ m → BodySpec n vars width wr m d
  | 0, 0, h | 0, 1, h => absurd h (by omega)
  | 0, m + 2, _ => body_step (stmt_step hv hw fun d' h => absurd h (by omega))
  | d + 1, 0, h | d + 1, 1, h => absurd h (by omega)
  | d + 1, m + 2, h => body_step (stmt_step hv hw fun d' e => by
    obtain rfl : d' = d := by omega
    exact body_run hv hw d' m (by omega))
theorem okStr {x : Str} (h : x.cps.toList.all (fun c => decide (c < 1114112)) = true) : dep (.str x) = 0 := dep_str h
theorem cmp_str {x y : Str} (hx : x.cps.toList.all (fun c => decide (c < 1114112)) = true) (hy : y.cps.toList.all (fun c => decide (c < 1114112)) = true) : cmpV .eq (.av (.dat (.str x))) (.av (.dat (.str y))) = some (decide (x = y)) := by
  rw [cmp_eq (by rw [dep_str hx]; omega) (by rw [dep_str hy]; omega), eqq_str]
def mwF (a b : Int) : Int := mxI false a b
mutual
def mwS : St → Int
  | .loop _ n b => n * mwM b
  | .ite _ a b => mwF (mwM a) (mwM b)
  | .write _ _ => 1
  | _ => 0
def mwM : List St → Int
  | [] => 0
  | s :: l => mwS s + mwM l
end
theorem mwM_snoc : ∀ (l : List St) (s : St), mwM (l ++ [s]) = mwM l + mwS s
  | [], s => by simp [mwM]
  | x :: l, s => by
    simp only [List.cons_append, mwM, mwM_snoc l s]
    omega
theorem sub_tup1 {hp : List AO} {a : PyData} {r : List PyData} : subV hp (.av (.dat (.tuple (a :: r)))) (.av (.dat (.int 0))) = some (.dat a) := by simp
theorem mw_run {n : Names} {vars width : Nat} {wr : Bool} : ∀ (m : Nat) (b : List St), cntD b < m → stFits n vars width wr b = true → r__law_most_writes m [.dat (bodyI b)] [] = some (.av (.dat (.int (mwM b))), [])
  | 0, _, h, _ => absurd h (Nat.not_lt_zero _)
  | m + 1, b, hd, hf => by
    have k1 : cmpV .eq (.av (.dat (.str tIf))) (.av (.dat (.str tLoop))) = some false := by rw [cmp_str (by decide) (by decide)]; rfl
    have k2 : cmpV .eq (.av (.dat (.str tLoop))) (.av (.dat (.str tLoop))) = some true := by rw [cmp_str (by decide) (by decide)]; rfl
    have k3 : cmpV .eq (.av (.dat (.str tIf))) (.av (.dat (.str tIf))) = some true := by rw [cmp_str (by decide) (by decide)]; rfl
    have k4 : ∀ x ∈ [tSet, tWrite, tBarrier], cmpV .eq (.av (.dat (.str x))) (.av (.dat (.str tLoop))) = some false ∧ cmpV .eq (.av (.dat (.str x))) (.av (.dat (.str tIf))) = some false ∧ cmpV .eq (.av (.dat (.str x))) (.av (.dat (.str tWrite))) = some (decide (x = tWrite)) := by
      intro x hx
      simp only [List.mem_cons, List.not_mem_nil, or_false] at hx
      rcases hx with rfl | rfl | rfl <;> refine ⟨?_, ?_, ?_⟩ <;> rw [cmp_str (by decide) (by decide)] <;> rfl
    obtain ⟨ms', h1, c2, rfl⟩ := forL_T (tg := [2]) (body := exs (lb__law_most_writes_0 (r__law_most_writes m))) stJ b
      (fun pre ms => ∃ c2, ms = ⟨[.av (.dat (bodyI b)), .av (iv (mwM pre)), c2], []⟩) (ms := ⟨[.av (.dat (bodyI b)), .av (iv 0), .emp], []⟩) ⟨_, rfl⟩ (fun pre s post ms hj ⟨c2, e⟩ => by
        subst e
        have hs : s ∈ b := by rw [hj]; simp
        have fs := stFits_iff.mp hf s hs
        have ds := cntD_le.mp (Nat.le_refl (cntD b)) s hs
        refine ⟨[.av (.dat (bodyI b)), .av (iv (mwM pre)), .av (.dat (stJ s))], ⟨[.av (.dat (bodyI b)), .av (iv (mwM (pre ++ [s]))), .av (.dat (stJ s))], []⟩, by simp, ?_, _, rfl⟩
        rw [mwM_snoc]
        cases s with
        | set v e =>
          obtain ⟨q1, q2, q3⟩ := k4 tSet (by simp)
          simp [lb__law_most_writes_0, stJ, q1, q2, q3, mwS]
        | ite c x y =>
          simp only [stFit, Bool.and_eq_true] at fs
          simp only [cntS] at ds
          have r1 := mw_run m x (by omega) fs.2.1
          have r2 := mw_run m y (by omega) fs.2.2
          unfold bodyI at r1 r2
          rw [stJ, stIs_eq, stIs_eq]
          simp [lb__law_most_writes_0, k1, k3, r1, r2, mwS, mwF]
        | loop v k x =>
          simp only [stFit, Bool.and_eq_true, decide_eq_true_eq] at fs
          simp only [cntS] at ds
          have r1 := mw_run m x (by omega) fs.2.2
          unfold bodyI at r1
          have bm := bin_mul (i := (k : Int)) (j := mwM x) (.inl (by omega))
          rw [stJ, stIs_eq]
          simp [lb__law_most_writes_0, k2, r1, bm, mwS]
        | write e ws =>
          obtain ⟨q1, q2, q3⟩ := k4 tWrite (by simp)
          simp [lb__law_most_writes_0, stJ, q1, q2, q3, mwS]
        | barrier =>
          obtain ⟨q1, q2, q3⟩ := k4 tBarrier (by simp)
          simp [lb__law_most_writes_0, stJ, q1, q2, q3, mwS])
    unfold bodyI at h1
    simp only [r__law_most_writes, runB, ss__law_most_writes]
    simp [bodyI, h1]
abbrev eDraw (m : E) : E := .call f__law_draw (.cons (.var 0) (.cons m .nil))
/-- _law_draw(state, m) == 0 -/
theorem draw_is0 {hp : List AO} (W : DrawOk hp) {m : Nat} {i : Int} (hi : i = (m : Int)) (h0 : 0 < m) (h1 : m < 1000000) : ∃ (c : Bool) (hp' : List AO), DrawOk hp' ∧ Fm two hp hp' ∧ ∀ (b : Bool) (rho : List Slot), rho[0]? = some (.av (.ref 1)) → ev b (.cmp .eq (.call f__law_draw (.cons (.var 0) (.cons (.lit (.int i)) .nil))) (.lit (.int 0))) ⟨rho, hp⟩ = some (.av (.dat (.bool c)), ⟨rho, hp'⟩) := by
  obtain ⟨v, hp', e, W', F, hv⟩ := draw_n W h0 (by omega)
  have e' : f__law_draw.run [.ref 1, .dat (.int m)] hp = some (.av (iv v), hp') := e
  have ce := cmp_eq (d := .int (v : Int)) (e := .int 0) (by simp) (by simp)
  rw [eqq_int] at ce
  subst hi
  exact ⟨decide ((v : Int) = 0), hp', W', F, fun b rho h => by simp [h, e', ce]⟩
/-- the text of a body's call gives a body -/
theorem body_call {n : Names} {vars width : Nat} {wr : Bool} {d : Nat} (hv : vars ≤ 1000) (hw : width ≤ 100) (hd : d ≤ 5) {hp : List AO} (W : DrawOk hp) : ∃ (b : List St) (hp' : List AO), r__law_body 12 [.ref 1, .dat (.list [.int width, .int vars]), .dat (.list n.l), .dat (.bool wr), .dat (.int d)] hp = some (.lst (b.map stJ), hp') ∧ DrawOk hp' ∧ Fm two hp hp' ∧ BodyB n vars width wr d b := body_run hv hw d 12 (by omega) hp W
theorem BodyB.ok {n : Names} {vars width : Nat} {wr : Bool} {d : Nat} {b : List St} (h : BodyB n vars width wr d b) (hd : d ≤ 2) : BdyOk n vars width wr b := by
  have h1 := h.many
  have h2 := h.deep
  have h3 := h.loops
  refine ⟨h.fit, ?_, by omega, by omega⟩
  match d, hd with
  | 0, _ => simp [NB] at h1; omega
  | 1, _ => simp [NB] at h1; omega
  | 2, _ => simp [NB] at h1; omega
theorem barrier_ok {n : Names} {vars width : Nat} : BdyOk n vars width true [.barrier] := ⟨by simp [stFits, stFit], by simp [cntM, cntS], by simp [cntD, cntS], by simp [cntL, cntS]⟩
/-- the write that each put ends with -/
def lastW (width : Nat) : St := .write .key (.value :: List.replicate (width - 1) (.num 0))
theorem lastW_fit {vars width : Nat} (hw : 1 ≤ width) : stFit ⟨true, true⟩ vars width true (lastW width) = true := by
  simp only [lastW, stFit, Bool.and_eq_true, decide_eq_true_eq, List.all_eq_true]
  refine ⟨trivial, ⟨by simp [exFit], by simp [depP]⟩, by simp; omega, fun e he => ?_⟩
  rcases List.mem_cons.mp he with rfl | he
  · exact ⟨by simp [exFit], by simp [depP]⟩
  · obtain ⟨_, rfl⟩ := List.mem_replicate.mp he
    exact ⟨by simp [exFit], by simp [depP]⟩
theorem put_ok {vars width : Nat} {d : Nat} {b c : List St} (h : BodyB ⟨true, true⟩ vars width true d b) (hd : d ≤ 2) (hw : 1 ≤ width) (hc : c = [] ∨ c = [.barrier]) : BdyOk ⟨true, true⟩ vars width true (b ++ [lastW width] ++ c) := by
  have h1 := (h.ok hd)
  have hm : cntM b ≤ 42 := by
    have h1 := h.many
    match d, hd with
    | 0, _ => simp [NB] at h1; omega
    | 1, _ => simp [NB] at h1; omega
    | 2, _ => simp [NB] at h1; omega
  have hlw : (cntS (lastW width)) = (1, 0, 0) := rfl
  refine ⟨stFits_iff.mpr fun s hs => ?_, ?_, ?_, ?_⟩
  · rcases List.mem_append.mp hs with hs | hs
    · rcases List.mem_append.mp hs with hs | hs
      · exact stFits_iff.mp h.fit s hs
      · simp at hs; subst hs; exact lastW_fit hw
    · rcases hc with rfl | rfl
      · simp at hs
      · simp at hs; subst hs; simp [stFit]
  · rw [cntM_app, cntM_app]
    rcases hc with rfl | rfl <;> simp [cntM, hlw, cntS] <;> omega
  · have : cntD (b ++ [lastW width] ++ c) ≤ cntD b := cntD_le.mpr fun s hs => by
      rcases List.mem_append.mp hs with hs | hs
      · rcases List.mem_append.mp hs with hs | hs
        · exact cntD_le.mp (Nat.le_refl _) s hs
        · simp at hs; subst hs; simp [hlw]
      · rcases hc with rfl | rfl
        · simp at hs
        · simp at hs; subst hs; simp [cntS]
    have := h1.deep
    omega
  · have : cntL (b ++ [lastW width] ++ c) ≤ cntL b := cntL_le.mpr fun s hs => by
      rcases List.mem_append.mp hs with hs | hs
      · rcases List.mem_append.mp hs with hs | hs
        · exact cntL_le.mp (Nat.le_refl _) s hs
        · simp at hs; subst hs; simp [hlw]
      · rcases hc with rfl | rfl
        · simp at hs
        · simp at hs; subst hs; simp [cntS]
    have := h1.loops
    omega
theorem lastW_I (width : Nat) : stJ (lastW width) = .tuple [.str tWrite, .tuple [.str tKey], .list (.tuple [.str tValue] :: List.replicate (width - 1) (.tuple [.str tNum, .int 0]))] := by
  simp [lastW, stJ, exI, List.map_replicate]
theorem cut_last {α : Type} (ys : List α) (y : α) : cutD (ys ++ [y]) (some (-1)) none = [y] := by
  unfold cutD clipD
  simp only []
  rw [if_pos (by omega)]
  have e : ((-1 : Int) + ((ys ++ [y]).length : Nat)).toNat = ys.length := by simp; omega
  rw [e]
  simp
theorem mx3 (a b c : Int) : intsD [.int a, .int b, .int c] = some [a, b, c] := rfl
theorem one_ok {n : Names} {vars width : Nat} {s : St} (h : stFit n vars width true s = true) (hc : cntS s = (1, 0, 0)) : BdyOk n vars width true [s] := ⟨by simp [stFits, h], by simp [cntM, hc], by simp [cntD, hc], by simp [cntL, hc]⟩
@[simp] theorem f_law_body_run (n : Nat) : (f__law_body n).run = r__law_body n := rfl
@[simp] theorem f_law_mw_run (n : Nat) : (f__law_most_writes n).run = r__law_most_writes n := rfl
/-- a drawn store is small -/
structure Small (s : Store) : Prop where
  sec : s.sectors ≤ 3
  wid : s.width ≤ 2
  one : s.sectors = 3 → s.width = 1
  var : s.vars ≤ 2
  put : mwM s.put ≤ 6
  sync : mwM s.sync ≤ 6
  rcv : mwM s.recover ≤ 6
theorem mx3_le {a b c : Int} (h : ¬ (6 < mxIs false [a, b, c])) : a ≤ 6 ∧ b ≤ 6 ∧ c ≤ 6 := by
  simp only [mxIs, mxI] at h
  simp only [Bool.false_eq_true, if_false] at h
  repeat' split at h
  all_goals omega
theorem store_draw {hp : List AO} (W : DrawOk hp) : ∃ (s : Store) (hp' : List AO), f__law_store.run [.ref 1] hp = some (.av (.dat (storeI s)), hp') ∧ DrawOk hp' ∧ Fm two hp hp' ∧ StoreOk s ∧ Small s := by
  obtain ⟨a, hp1, e1, W1, F1, ha⟩ := draw_n W (m := 3) (by omega) (by omega)
  have e1' : f__law_draw.run [.ref 1, .dat (.int 3)] hp = some (.av (iv a), hp1) := e1
  obtain ⟨sec, hsec⟩ : ∃ sec : Nat, (1 : Int) + (a : Int) = (sec : Int) := ⟨a + 1, by omega⟩
  obtain ⟨q, hq1, hq2, hq3⟩ : ∃ q : Nat, atD ([.int 2, .int 1] : List PyData) ((sec : Int) / 3) = some (.int (q : Int)) ∧ (q = 1 ∨ q = 2) ∧ (sec = 3 → q = 1) := by
    rcases Nat.lt_or_ge sec 3 with g | g
    · have : (sec : Int) / 3 = 0 := by omega
      rw [this]
      exact ⟨2, by simp, .inr rfl, fun h => by omega⟩
    · have : (sec : Int) / 3 = 1 := by omega
      rw [this]
      exact ⟨1, by simp, .inl rfl, fun _ => rfl⟩
  obtain ⟨b, hp2, e2, W2, F2, hb⟩ := draw_n W1 (m := q) (by omega) (by omega)
  obtain ⟨wid, hwid⟩ : ∃ wid : Nat, (1 : Int) + (b : Int) = (wid : Int) := ⟨b + 1, by omega⟩
  obtain ⟨c0, hp3, e3, W3, F3, hc0⟩ := draw_n W2 (m := 3) (by omega) (by omega)
  have e3' : f__law_draw.run [.ref 1, .dat (.int 3)] hp2 = some (.av (iv c0), hp3) := e3
  obtain ⟨r, hr1, hr2⟩ : ∃ r : Nat, atD ([.int 2, .int 2, .int 3] : List PyData) (c0 : Int) = some (.int (r : Int)) ∧ (r = 2 ∨ r = 3) := by
    match c0, hc0 with
    | 0, _ => exact ⟨2, by simp, .inl rfl⟩
    | 1, _ => exact ⟨2, by simp, .inl rfl⟩
    | 2, _ => exact ⟨3, by simp, .inr rfl⟩
  obtain ⟨c, hp4, e4, W4, F4, hc⟩ := draw_n W3 (m := r) (by omega) (by omega)
  obtain ⟨key, hkey⟩ : ∃ key : Nat, (1 : Int) + (c : Int) = (key : Int) := ⟨c + 1, by omega⟩
  obtain ⟨vars, hp5, e5, W5, F5, hv⟩ := draw_n W4 (m := 3) (by omega) (by omega)
  have e5' : f__law_draw.run [.ref 1, .dat (.int 3)] hp4 = some (.av (iv vars), hp5) := e5
  obtain ⟨dc, hp6, W6, F6, e6⟩ := draw_is0 W5 (m := 8) (i := 8) rfl (by omega) (by omega)
  obtain ⟨deep, hdeep, hdp⟩ : ∃ deep : Nat, (1 : Int) + (if dc = true then 1 else 0) = (deep : Int) ∧ (deep = 1 ∨ deep = 2) := by
    cases dc
    · exact ⟨1, by simp, .inl rfl⟩
    · exact ⟨2, by simp, .inr rfl⟩
  -- the numbers
  have s0 : ex st__law_store_0 ⟨[.av (.ref 1), .emp, .emp, .emp, .emp, .emp, .emp, .emp, .emp, .emp, .emp, .emp], hp⟩ = some (.nx, ⟨[.av (.ref 1), .av (iv sec), .emp, .emp, .emp, .emp, .emp, .emp, .emp, .emp, .emp, .emp], hp1⟩) := by
    simp [st__law_store_0, e1', hsec]
  have s1 : ex st__law_store_1 ⟨[.av (.ref 1), .av (iv sec), .emp, .emp, .emp, .emp, .emp, .emp, .emp, .emp, .emp, .emp], hp1⟩ = some (.nx, ⟨[.av (.ref 1), .av (iv sec), .av (iv wid), .emp, .emp, .emp, .emp, .emp, .emp, .emp, .emp, .emp], hp2⟩) := by
    simp [st__law_store_1, hq1, e2, hwid]
  have s2 : ex st__law_store_2 ⟨[.av (.ref 1), .av (iv sec), .av (iv wid), .emp, .emp, .emp, .emp, .emp, .emp, .emp, .emp, .emp], hp2⟩ = some (.nx, ⟨[.av (.ref 1), .av (iv sec), .av (iv wid), .av (iv key), .emp, .emp, .emp, .emp, .emp, .emp, .emp, .emp], hp4⟩) := by
    simp [st__law_store_2, e3', hr1, e4, hkey]
  have s3 : ex st__law_store_3 ⟨[.av (.ref 1), .av (iv sec), .av (iv wid), .av (iv key), .emp, .emp, .emp, .emp, .emp, .emp, .emp, .emp], hp4⟩ = some (.nx, ⟨[.av (.ref 1), .av (iv sec), .av (iv wid), .av (iv key), .av (iv vars), .emp, .emp, .emp, .emp, .emp, .emp, .emp], hp5⟩) := by
    simp [st__law_store_3, e5']
  have s4 : ex st__law_store_4 ⟨[.av (.ref 1), .av (iv sec), .av (iv wid), .av (iv key), .av (iv vars), .emp, .emp, .emp, .emp, .emp, .emp, .emp], hp5⟩ = some (.nx, ⟨[.av (.ref 1), .av (iv sec), .av (iv wid), .av (iv key), .av (iv vars), .av (iv deep), .emp, .emp, .emp, .emp, .emp, .emp], hp6⟩) := by
    have := e6 true [.av (.ref 1), .av (iv sec), .av (iv wid), .av (iv key), .av (iv vars), .emp, .emp, .emp, .emp, .emp, .emp, .emp] rfl
    unfold st__law_store_4
    rw [exe_0]
    have h2 : ev false (.bin .add (.lit (.int 1)) (.b1 .int (.cmp .eq (.call f__law_draw (.cons (.var 0) (.cons (.lit (.int 8)) .nil))) (.lit (.int 0))))) ⟨[.av (.ref 1), .av (iv sec), .av (iv wid), .av (iv key), .av (iv vars), .emp, .emp, .emp, .emp, .emp, .emp, .emp], hp5⟩ = some (.av (iv deep), ⟨[.av (.ref 1), .av (iv sec), .av (iv wid), .av (iv key), .av (iv vars), .emp, .emp, .emp, .emp, .emp, .emp, .emp], hp6⟩) := by
      rw [eve_5]
      simp only [eve_0, eve_16]
      rw [this]
      simp [hdeep]
    rw [h2]
    simp
  have s5 : ex st__law_store_5 ⟨[.av (.ref 1), .av (iv sec), .av (iv wid), .av (iv key), .av (iv vars), .av (iv deep), .emp, .emp, .emp, .emp, .emp, .emp], hp6⟩ = some (.nx, ⟨[.av (.ref 1), .av (iv sec), .av (iv wid), .av (iv key), .av (iv vars), .av (iv deep), .own [.int wid, .int vars], .emp, .emp, .emp, .emp, .emp], hp6⟩) := by
    simp [st__law_store_5]
  -- put
  obtain ⟨p, hp7, e7, W7, F7, B7⟩ := body_call (n := ⟨true, true⟩) (vars := vars) (width := wid) (wr := true) (d := deep) (by omega) (by omega) (by omega) W6
  have e7' : r__law_body 12 [.ref 1, .dat (.list [.int wid, .int vars]), .dat (.list [.str tKey, .str tValue]), .dat (.bool true), .dat (.int deep)] hp6 = some (.lst (p.map stJ), hp7) := e7
  have s6 : ex st__law_store_6 ⟨[.av (.ref 1), .av (iv sec), .av (iv wid), .av (iv key), .av (iv vars), .av (iv deep), .own [.int wid, .int vars], .emp, .emp, .emp, .emp, .emp], hp6⟩ = some (.nx, ⟨[.av (.ref 1), .av (iv sec), .av (iv wid), .av (iv key), .av (iv vars), .av (iv deep), .av (.dat (.list [.int wid, .int vars])), .own (p.map stJ), .emp, .emp, .emp, .emp], hp7⟩) := by
    simp [st__law_store_6, e7']
  have s7 : ex st__law_store_7 ⟨[.av (.ref 1), .av (iv sec), .av (iv wid), .av (iv key), .av (iv vars), .av (iv deep), .av (.dat (.list [.int wid, .int vars])), .own (p.map stJ), .emp, .emp, .emp, .emp], hp7⟩ = some (.nx, ⟨[.av (.ref 1), .av (iv sec), .av (iv wid), .av (iv key), .av (iv vars), .av (iv deep), .av (.dat (.list [.int wid, .int vars])), .own ((p ++ [lastW wid]).map stJ), .emp, .emp, .emp, .emp], hp7⟩) := by
    have m1 := bin_mulL1 (xs := [PyData.tuple [.str tNum, .int 0]]) (k := (wid : Int) - 1) ⟨by omega, by omega, by simp; omega⟩
    have m2 : (List.replicate ((wid : Int) - 1).toNat [PyData.tuple [.str tNum, .int 0]]).flatten = List.replicate (wid - 1) (PyData.tuple [.str tNum, .int 0]) := by
      have : ((wid : Int) - 1).toNat = wid - 1 := by omega
      rw [this]
      induction wid - 1 with
      | zero => rfl
      | succ n ih => rw [List.replicate_succ, List.flatten_cons, ih, List.replicate_succ]; rfl
    rw [m2] at m1
    have m3 := bin_addL1 (xs := [PyData.tuple [.str tValue]]) (ys := List.replicate (wid - 1) (PyData.tuple [.str tNum, .int 0])) (by simp; omega)
    have m4 := bin_addL1 (xs := p.map stJ) (ys := [stJ (lastW wid)]) (by have := B7.len; simp; omega)
    have m5 : p.map stJ ++ [stJ (lastW wid)] = (p ++ [lastW wid]).map stJ := by simp
    rw [m5] at m4
    rw [lastW_I] at m4
    generalize (p ++ [lastW wid]).map stJ = P at m4 ⊢
    generalize p.map stJ = P0 at m4 ⊢
    have m6 : [PyData.tuple [.str tValue]] ++ List.replicate (wid - 1) (PyData.tuple [.str tNum, .int 0]) = PyData.tuple [.str tValue] :: List.replicate (wid - 1) (PyData.tuple [.str tNum, .int 0]) := rfl
    rw [m6] at m3
    generalize List.replicate (wid - 1) (PyData.tuple [.str tNum, .int 0]) = R at *
    simp [st__law_store_7, m1, m3, m4]
  obtain ⟨c8, hp8, W8, F8, e8⟩ := draw_is0 W7 (m := 2) (i := 2) rfl (by omega) (by omega)
  obtain ⟨tl, htl⟩ : ∃ tl : List St, tl = if c8 = true then [.barrier] else [] := ⟨_, rfl⟩
  have s8 : ex st__law_store_8 ⟨[.av (.ref 1), .av (iv sec), .av (iv wid), .av (iv key), .av (iv vars), .av (iv deep), .av (.dat (.list [.int wid, .int vars])), .own ((p ++ [lastW wid]).map stJ), .emp, .emp, .emp, .emp], hp7⟩ = some (.nx, ⟨[.av (.ref 1), .av (iv sec), .av (iv wid), .av (iv key), .av (iv vars), .av (iv deep), .av (.dat (.list [.int wid, .int vars])), .own ((p ++ [lastW wid] ++ tl).map stJ), .emp, .emp, .emp, .emp], hp8⟩) := by
    have := e8 true [.av (.ref 1), .av (iv sec), .av (iv wid), .av (iv key), .av (iv vars), .av (iv deep), .av (.dat (.list [.int wid, .int vars])), .own ((p ++ [lastW wid]).map stJ), .emp, .emp, .emp, .emp] rfl
    have m4 := bin_addL1 (xs := (p ++ [lastW wid]).map stJ) (ys := [.tuple [.str tBarrier]]) (by have := B7.len; simp; omega)
    unfold st__law_store_8
    rw [exe_11, this]
    cases c8 with
    | false =>
      subst htl
      simp
    | true =>
      have m5 : (p ++ [lastW wid]).map stJ ++ [.tuple [.str tBarrier]] = (p ++ [lastW wid] ++ tl).map stJ := by rw [htl]; simp [stJ]
      rw [m5] at m4
      generalize (p ++ [lastW wid]).map stJ = P0 at m4 ⊢
      generalize (p ++ [lastW wid] ++ tl).map stJ = P1 at m4 ⊢
      simp [m4]
  -- sync
  have s9 : ex st__law_store_9 ⟨[.av (.ref 1), .av (iv sec), .av (iv wid), .av (iv key), .av (iv vars), .av (iv deep), .av (.dat (.list [.int wid, .int vars])), .own ((p ++ [lastW wid] ++ tl).map stJ), .emp, .emp, .emp, .emp], hp8⟩ = some (.nx, ⟨[.av (.ref 1), .av (iv sec), .av (iv wid), .av (iv key), .av (iv vars), .av (iv deep), .av (.dat (.list [.int wid, .int vars])), .own ((p ++ [lastW wid] ++ tl).map stJ), .own [stJ .barrier], .emp, .emp, .emp], hp8⟩) := by
    simp [st__law_store_9, stJ]
  obtain ⟨c10, hp9, W9, F9, e10⟩ := draw_is0 W8 (m := 4) (i := 4) rfl (by omega) (by omega)
  obtain ⟨sb, hp10, e11, W10, F10, B10⟩ := body_call (n := ⟨false, false⟩) (vars := vars) (width := wid) (wr := true) (d := 1) (by omega) (by omega) (by omega) W9
  have e11' : r__law_body 12 [.ref 1, .dat (.list [.int wid, .int vars]), .dat (.list []), .dat (.bool true), .dat (.int 1)] hp9 = some (.lst (sb.map stJ), hp10) := e11
  obtain ⟨sy, hp11, W11, F11, hsy, s10⟩ : ∃ (sy : List St) (hp11 : List AO), DrawOk hp11 ∧ Fm two hp8 hp11 ∧ BdyOk ⟨false, false⟩ vars wid true sy ∧ ex st__law_store_10 ⟨[.av (.ref 1), .av (iv sec), .av (iv wid), .av (iv key), .av (iv vars), .av (iv deep), .av (.dat (.list [.int wid, .int vars])), .own ((p ++ [lastW wid] ++ tl).map stJ), .own [stJ .barrier], .emp, .emp, .emp], hp8⟩ = some (.nx, ⟨[.av (.ref 1), .av (iv sec), .av (iv wid), .av (iv key), .av (iv vars), .av (iv deep), .av (.dat (.list [.int wid, .int vars])), .own ((p ++ [lastW wid] ++ tl).map stJ), .own (sy.map stJ), .emp, .emp, .emp], hp11⟩) := by
    have := e10 true ([.av (.ref 1), .av (iv sec), .av (iv wid), .av (iv key), .av (iv vars), .av (iv deep), .av (.dat (.list [.int wid, .int vars])), .own ((p ++ [lastW wid] ++ tl).map stJ), .own [stJ .barrier], .emp, .emp, .emp]) rfl
    generalize (p ++ [lastW wid] ++ tl).map stJ = P at *
    cases c10 with
    | false =>
      refine ⟨[.barrier], hp9, W9, F9, barrier_ok, ?_⟩
      unfold st__law_store_10
      rw [exe_11, this]
      simp
    | true =>
      refine ⟨sb, hp10, W10, F9.trans F10, B10.ok (by omega), ?_⟩
      unfold st__law_store_10
      rw [exe_11, this]
      simp [e11']
  -- recover
  obtain ⟨rb, hp12, e12, W12, F12, B12⟩ := body_call (n := ⟨false, false⟩) (vars := vars) (width := wid) (wr := true) (d := deep) (by omega) (by omega) (by omega) W11
  have e12' : r__law_body 12 [.ref 1, .dat (.list [.int wid, .int vars]), .dat (.list []), .dat (.bool true), .dat (.int deep)] hp11 = some (.lst (rb.map stJ), hp12) := e12
  have s11 : ex st__law_store_11 ⟨[.av (.ref 1), .av (iv sec), .av (iv wid), .av (iv key), .av (iv vars), .av (iv deep), .av (.dat (.list [.int wid, .int vars])), .own ((p ++ [lastW wid] ++ tl).map stJ), .own (sy.map stJ), .emp, .emp, .emp], hp11⟩ = some (.nx, ⟨[.av (.ref 1), .av (iv sec), .av (iv wid), .av (iv key), .av (iv vars), .av (iv deep), .av (.dat (.list [.int wid, .int vars])), .own ((p ++ [lastW wid] ++ tl).map stJ), .own (sy.map stJ), .own (rb.map stJ), .emp, .emp], hp12⟩) := by
    generalize (p ++ [lastW wid] ++ tl).map stJ = P at *
    simp [st__law_store_11, e12']
  obtain ⟨c12, hp13, W13, F13, e13⟩ := draw_is0 W12 (m := 2) (i := 2) rfl (by omega) (by omega)
  obtain ⟨rc, hrc, s12⟩ : ∃ rc : List St, BdyOk ⟨false, false⟩ vars wid true rc ∧ ex st__law_store_12 ⟨[.av (.ref 1), .av (iv sec), .av (iv wid), .av (iv key), .av (iv vars), .av (iv deep), .av (.dat (.list [.int wid, .int vars])), .own ((p ++ [lastW wid] ++ tl).map stJ), .own (sy.map stJ), .own (rb.map stJ), .emp, .emp], hp12⟩ = some (.nx, ⟨[.av (.ref 1), .av (iv sec), .av (iv wid), .av (iv key), .av (iv vars), .av (iv deep), .av (.dat (.list [.int wid, .int vars])), .own ((p ++ [lastW wid] ++ tl).map stJ), .own (sy.map stJ), .own (rc.map stJ), .emp, .emp], hp13⟩) := by
    have := e13 true ([.av (.ref 1), .av (iv sec), .av (iv wid), .av (iv key), .av (iv vars), .av (iv deep), .av (.dat (.list [.int wid, .int vars])), .own ((p ++ [lastW wid] ++ tl).map stJ), .own (sy.map stJ), .own (rb.map stJ), .emp, .emp]) rfl
    generalize (p ++ [lastW wid] ++ tl).map stJ = P at *
    cases c12 with
    | false =>
      refine ⟨rb, B12.ok (by omega), ?_⟩
      unfold st__law_store_12
      rw [exe_11, this]
      simp
    | true =>
      refine ⟨[.barrier], barrier_ok, ?_⟩
      unfold st__law_store_12
      rw [exe_11, this]
      simp [stJ]
  -- get
  obtain ⟨gb, hp14, e14, W14, F14, B14⟩ := body_call (n := ⟨true, false⟩) (vars := vars) (width := wid) (wr := false) (d := 1) (by omega) (by omega) (by omega) W13
  have e14' : r__law_body 12 [.ref 1, .dat (.list [.int wid, .int vars]), .dat (.list [.str tKey]), .dat (.bool false), .dat (.int 1)] hp13 = some (.lst (gb.map stJ), hp14) := e14
  have s13 : ex st__law_store_13 ⟨[.av (.ref 1), .av (iv sec), .av (iv wid), .av (iv key), .av (iv vars), .av (iv deep), .av (.dat (.list [.int wid, .int vars])), .own ((p ++ [lastW wid] ++ tl).map stJ), .own (sy.map stJ), .own (rc.map stJ), .emp, .emp], hp13⟩ = some (.nx, ⟨[.av (.ref 1), .av (iv sec), .av (iv wid), .av (iv key), .av (iv vars), .av (iv deep), .av (.dat (.list [.int wid, .int vars])), .own ((p ++ [lastW wid] ++ tl).map stJ), .own (sy.map stJ), .own (rc.map stJ), .av (.dat (.tuple [bodyI gb, exI (.read .key (.num 0))])), .emp], hp14⟩) := by
    generalize (p ++ [lastW wid] ++ tl).map stJ = P at *
    simp [st__law_store_13, e14', bodyI, exI]
  obtain ⟨c14, hp15, W15, F15, e15⟩ := draw_is0 W14 (m := 5) (i := 5) rfl (by omega) (by omega)
  obtain ⟨ge, hp16, e16, W16, F16, f16, d16⟩ := expr_run (n := ⟨true, false⟩) (vars := vars) (by omega) 12 3 hp15 (by omega) (by omega) W15
  have e16' : r__law_expr 12 [.ref 1, .dat (.list [.str tKey]), .dat (.int vars), .dat (.int 3)] hp15 = some (.av (.dat (exI ge)), hp16) := e16
  obtain ⟨g, gx, hp17, W17, F17, hg, hgx, hgd, s14⟩ : ∃ (g : List St) (gx : Ex) (hp17 : List AO), DrawOk hp17 ∧ Fm two hp14 hp17 ∧ BdyOk ⟨true, false⟩ vars wid false g ∧ exFit ⟨true, false⟩ vars gx = true ∧ depP gx ≤ 5 ∧ ex st__law_store_14 ⟨[.av (.ref 1), .av (iv sec), .av (iv wid), .av (iv key), .av (iv vars), .av (iv deep), .av (.dat (.list [.int wid, .int vars])), .own ((p ++ [lastW wid] ++ tl).map stJ), .own (sy.map stJ), .own (rc.map stJ), .av (.dat (.tuple [bodyI gb, exI (.read .key (.num 0))])), .emp], hp14⟩ = some (.nx, ⟨[.av (.ref 1), .av (iv sec), .av (iv wid), .av (iv key), .av (iv vars), .av (iv deep), .av (.dat (.list [.int wid, .int vars])), .own ((p ++ [lastW wid] ++ tl).map stJ), .own (sy.map stJ), .own (rc.map stJ), .av (.dat (.tuple [bodyI g, exI gx])), .emp], hp17⟩) := by
    have := e15 true ([.av (.ref 1), .av (iv sec), .av (iv wid), .av (iv key), .av (iv vars), .av (iv deep), .av (.dat (.list [.int wid, .int vars])), .own ((p ++ [lastW wid] ++ tl).map stJ), .own (sy.map stJ), .own (rc.map stJ), .av (.dat (.tuple [bodyI gb, exI (.read .key (.num 0))])), .emp]) rfl
    generalize (p ++ [lastW wid] ++ tl).map stJ = P at *
    cases c14 with
    | false =>
      refine ⟨gb, .read .key (.num 0), hp15, W15, F15, B14.ok (by omega), by simp [exFit], by simp [depP], ?_⟩
      unfold st__law_store_14
      rw [exe_11, this]
      simp
    | true =>
      refine ⟨[], ge, hp16, W16, F15.trans F16, ⟨by simp [stFits], by simp [cntM], by simp [cntD], by simp [cntL]⟩, f16, by omega, ?_⟩
      unfold st__law_store_14
      rw [exe_11, this]
      simp [e16', bodyI]
  -- not too many writes
  have hput : BdyOk ⟨true, true⟩ vars wid true (p ++ [lastW wid] ++ tl) := put_ok B7 (by omega) (by omega) (by rw [htl]; cases c8 <;> simp)
  obtain ⟨ys, y, hy, hyf, hyc, hym⟩ : ∃ (ys : List St) (y : St), p ++ [lastW wid] ++ tl = ys ++ [y] ∧ stFit ⟨true, true⟩ vars wid true y = true ∧ cntS y = (1, 0, 0) ∧ mwM [y] ≤ 6 := by
    cases c8 with
    | false => exact ⟨p, lastW wid, by rw [htl]; simp, lastW_fit (by omega), rfl, by simp [mwM, mwS, lastW]⟩
    | true => exact ⟨p ++ [lastW wid], .barrier, by rw [htl]; simp, by simp [stFit], rfl, by simp [mwM, mwS]⟩
  generalize p ++ [lastW wid] ++ tl = pu at *
  have w1 := mw_run (n := ⟨true, true⟩) (vars := vars) (width := wid) (wr := true) 12 pu (by have := hput.deep; omega) hput.fit
  have w2 := mw_run (n := ⟨false, false⟩) (vars := vars) (width := wid) (wr := true) 12 sy (by have := hsy.deep; omega) hsy.fit
  have w3 := mw_run (n := ⟨false, false⟩) (vars := vars) (width := wid) (wr := true) 12 rc (by have := hrc.deep; omega) hrc.fit
  obtain ⟨c15, hc15, t15⟩ : ∃ c15 : Bool, c15 = decide (6 < mxIs false [mwM pu, mwM sy, mwM rc]) ∧ ev true (.cmp .gt (.mxL false (.comp (.callP (f__law_most_writes 12) (.cons (.var 11) .nil)) [11] (.seq (.lst (.cons (.var 7) (.cons (.var 8) (.cons (.var 9) .nil))))) .nil)) (.lit (.int 6))) ⟨[.av (.ref 1), .av (iv sec), .av (iv wid), .av (iv key), .av (iv vars), .av (iv deep), .av (.dat (.list [.int wid, .int vars])), .own (pu.map stJ), .own (sy.map stJ), .own (rc.map stJ), .av (.dat (.tuple [bodyI g, exI gx])), .emp], hp17⟩ =
      some (.av (.dat (.bool c15)), ⟨[.av (.ref 1), .av (iv sec), .av (iv wid), .av (iv key), .av (iv vars), .av (iv deep), .av (.dat (.list [.int wid, .int vars])), .av (.dat (bodyI pu)), .av (.dat (bodyI sy)), .av (.dat (bodyI rc)), .av (.dat (.tuple [bodyI g, exI gx])), .emp], hp17⟩) := by
    refine ⟨decide (6 < mxIs false [mwM pu, mwM sy, mwM rc]), rfl, ?_⟩
    have q1 : PyData.list (pu.map stJ) = bodyI pu := rfl
    have q2 : PyData.list (sy.map stJ) = bodyI sy := rfl
    have q3 : PyData.list (rc.map stJ) = bodyI rc := rfl
    simp [q1, q2, q3, plainAt, wipeR, back, compL, w1, w2, w3, mx3]
  obtain ⟨p3, s3', r3, hm3, hp3', hs3, hr3, s15⟩ : ∃ (p3 s3' r3 : List St), (mwM p3 ≤ 6 ∧ mwM s3' ≤ 6 ∧ mwM r3 ≤ 6) ∧ BdyOk ⟨true, true⟩ vars wid true p3 ∧ BdyOk ⟨false, false⟩ vars wid true s3' ∧ BdyOk ⟨false, false⟩ vars wid true r3 ∧ ex st__law_store_15 ⟨[.av (.ref 1), .av (iv sec), .av (iv wid), .av (iv key), .av (iv vars), .av (iv deep), .av (.dat (.list [.int wid, .int vars])), .own (pu.map stJ), .own (sy.map stJ), .own (rc.map stJ), .av (.dat (.tuple [bodyI g, exI gx])), .emp], hp17⟩ =
      some (.nx, ⟨[.av (.ref 1), .av (iv sec), .av (iv wid), .av (iv key), .av (iv vars), .av (iv deep), .av (.dat (.list [.int wid, .int vars])), .av (.dat (bodyI p3)), .av (.dat (bodyI s3')), .av (.dat (bodyI r3)), .av (.dat (.tuple [bodyI g, exI gx])), .emp], hp17⟩) := by
    cases c15 with
    | false =>
      refine ⟨pu, sy, rc, mx3_le (of_decide_eq_false hc15.symm), hput, hsy, hrc, ?_⟩
      unfold st__law_store_15
      rw [exe_11, t15]
      simp
    | true =>
      refine ⟨[y], [.barrier], [.barrier], ⟨hym, by simp [mwM, mwS], by simp [mwM, mwS]⟩, one_ok hyf hyc, barrier_ok, barrier_ok, ?_⟩
      unfold st__law_store_15
      rw [exe_11, t15]
      have sl : sliceV (.av (.dat (bodyI pu))) (some (-1)) none = some (.lst [stJ y]) := by
        have e : bodyI pu = .list (ys.map stJ ++ [stJ y]) := by rw [hy]; simp [bodyI]
        rw [e]
        show some (RV.lst (cutD (ys.map stJ ++ [stJ y]) (some (-1)) none)) = _
        rw [cut_last]
      generalize bodyI pu = Pu at *
      simp [sl, bodyI, bindV, stJ]
  have hrun : f__law_store.run [.ref 1] hp = some (.av (.dat (storeI ⟨sec, wid, key, vars, p3, s3', r3, g, gx⟩)), hp17) := by
    simp only [f__law_store, runB, ss__law_store]
    simp only [exse_1, List.length_cons, List.length_nil, List.map_cons, List.map_nil, List.cons_append, List.nil_append, List.replicate, Nat.reduceAdd, Nat.reduceSub, if_true, s0, s1, s2, s3, s4, s5, s6, s7, s8, s9, s10, s11, s12, s13, s14, s15]
    simp [st__law_store_16, storeI]
  refine ⟨_, hp17, hrun, W17, ((((((((((((F1.trans F2).trans F3).trans F4).trans F5).trans F6).trans F7).trans F8).trans F11).trans F12).trans F13).trans F14).trans F17), ⟨by simp; omega, by simp; omega, by simp; omega, by simp; omega, hp3', hs3, hr3, hg, hgx, hgd⟩, ⟨by simp; omega, by simp; omega, fun h => by simp at h ⊢; have := hq3 h; omega, by simp; omega, hm3.1, hm3.2.1, hm3.2.2⟩⟩
end Sv

/-! Sv: the rules of stores (texts printed by gen3.py): a valid store passes. -/
namespace Sv
open Sv PySem
/-- require(holds, rule): 0 holds 1 rule -/
def ss_require : Ss := (.cons (.ite (.not (.var 0)) (.cons .never
  .nil) .nil)
  .nil)
def f_require : Fn := ⟨⟨#[114, 101, 113, 117, 105, 114, 101]⟩, runB 2 2 ss_require⟩
/-- Rules.__init__(self, width, variables): 0 self 1 width 2 variables -/
def ss_Rules_init : Ss := (.cons (.setAttr ⟨#[82, 117, 108, 101, 115]⟩ (.var 0) ⟨#[119, 105, 100, 116, 104]⟩ (.var 1))
  (.cons (.setAttr ⟨#[82, 117, 108, 101, 115]⟩ (.var 0) ⟨#[118, 97, 114, 105, 97, 98, 108, 101, 115]⟩ (.var 2))
  .nil))
def f_Rules_init : Fn := ⟨⟨#[95, 95, 105, 110, 105, 116, 95, 95]⟩, runB 3 3 ss_Rules_init⟩
/-- count(body): 0 body 1 many 2 deep 3 loops 4 statement 5 inner 6 own 7 row 8 found -/
def lb_count_0 (r_count : List AV → List AO → Option (RV × List AO)) : Ss := (.cons (.set 8 (.callP ⟨⟨#[99, 111, 117, 110, 116]⟩, r_count⟩ (.cons (.var 7) .nil)))
  (.cons (.set 1 (.bin .add (.var 1) (.sub (.var 8) (.lit (.int 0)))))
  (.cons (.set 2 (.mx false (.var 2) (.sub (.var 8) (.lit (.int 1)))))
  (.cons (.set 3 (.mx false (.var 3) (.bin .add (.var 6) (.sub (.var 8) (.lit (.int 2))))))
  .nil))))
def lb_count_1 (r_count : List AV → List AO → Option (RV × List AO)) : Ss := (.cons (.set 5 (.lst .nil))
  (.cons (.set 6 (.lit (.int 0)))
  (.cons (.ite (.cmp .eq (.sub (.var 4) (.lit (.int 0))) (.lit (.str ⟨#[105, 102]⟩))) (.cons (.set 5 (.lst (.cons (.sub (.var 4) (.lit (.int 2))) (.cons (.sub (.var 4) (.lit (.int 3))) .nil))))
  .nil) (.cons (.ite (.cmp .eq (.sub (.var 4) (.lit (.int 0))) (.lit (.str ⟨#[108, 111, 111, 112]⟩))) (.cons (.set 5 (.lst (.cons (.sub (.var 4) (.lit (.int 3))) .nil)))
  (.cons (.set 6 (.lit (.int 1)))
  .nil)) .nil)
  .nil))
  (.cons (.for_ [7] (.seq (.var 5)) (lb_count_0 r_count))
  .nil))))
def ss_count (r_count : List AV → List AO → Option (RV × List AO)) : Ss := (.cons (.set 1 (.b1 .len (.var 0)))
  (.cons (.set 2 (.lit (.int 0)))
  (.cons (.set 3 (.lit (.int 0)))
  (.cons (.for_ [4] (.seq (.var 0)) (lb_count_1 r_count))
  (.cons (.ret (.tup (.cons (.var 1) (.cons (.bin .add (.lit (.int 1)) (.var 2)) (.cons (.var 3) .nil)))))
  .nil)))))
def r_count : Nat → List AV → List AO → Option (RV × List AO)
  | 0 => fun _ _ => none
  | n + 1 => runB 9 1 (ss_count (r_count n))
def f_count (n : Nat) : Fn := ⟨⟨#[99, 111, 117, 110, 116]⟩, r_count n⟩
/-- parts(e): 0 e -/
def ss_parts : Ss := (.cons (.ite (.isin false (.sub (.var 0) (.lit (.int 0))) (.tup (.cons (.lit (.str ⟨#[110, 117, 109]⟩)) (.cons (.lit (.str ⟨#[118, 97, 114]⟩)) (.cons (.lit (.str ⟨#[107, 101, 121]⟩)) (.cons (.lit (.str ⟨#[118, 97, 108, 117, 101]⟩)) .nil)))))) (.cons (.ret (.lst .nil))
  .nil) .nil)
  (.cons (.ite (.isin false (.sub (.var 0) (.lit (.int 0))) (.tup (.cons (.lit (.str ⟨#[110, 111, 116]⟩)) (.cons (.lit (.str ⟨#[115, 117, 109]⟩)) .nil)))) (.cons (.ret (.lst (.cons (.sub (.var 0) (.lit (.int 1))) .nil)))
  .nil) .nil)
  (.cons (.ret (.lst (.cons (.sub (.var 0) (.lit (.int 1))) (.cons (.sub (.var 0) (.lit (.int 2))) .nil))))
  .nil)))
def f_parts : Fn := ⟨⟨#[112, 97, 114, 116, 115]⟩, runB 1 1 ss_parts⟩
/-- depth(e): 0 e 1 part -/
def ss_depth (r_depth : List AV → List AO → Option (RV × List AO)) : Ss := (.cons (.ret (.bin .add (.lit (.int 1)) (.mxD (.comp (.callP ⟨⟨#[100, 101, 112, 116, 104]⟩, r_depth⟩ (.cons (.var 1) .nil)) [1] (.seq (.callP f_parts (.cons (.var 0) .nil))) .nil) (.lit (.int 0)))))
  .nil)
def r_depth : Nat → List AV → List AO → Option (RV × List AO)
  | 0 => fun _ _ => none
  | n + 1 => runB 2 1 (ss_depth (r_depth n))
def f_depth (n : Nat) : Fn := ⟨⟨#[100, 101, 112, 116, 104]⟩, r_depth n⟩
/-- expression_right(e, names, variables): 0 e 1 names 2 variables 3 part -/
def lb_expression_right_0 (r_expression_right : List AV → List AO → Option (RV × List AO)) : Ss := (.cons (.expr (.callP ⟨⟨#[101, 120, 112, 114, 101, 115, 115, 105, 111, 110, 95, 114, 105, 103, 104, 116]⟩, r_expression_right⟩ (.cons (.var 3) (.cons (.var 1) (.cons (.var 2) .nil)))))
  .nil)
def ss_expression_right (r_expression_right : List AV → List AO → Option (RV × List AO)) : Ss := (.cons (.ite (.cmp .eq (.sub (.var 0) (.lit (.int 0))) (.lit (.str ⟨#[110, 117, 109]⟩))) (.cons (.expr (.callP f_require (.cons (.chain .le .le (.lit (.int 0)) (.sub (.var 0) (.lit (.int 1))) (.lit (.int 15))) (.cons (.lit (.str ⟨#[119, 111, 114, 100]⟩)) .nil))))
  .nil) (.cons (.ite (.cmp .eq (.sub (.var 0) (.lit (.int 0))) (.lit (.str ⟨#[118, 97, 114]⟩))) (.cons (.expr (.callP f_require (.cons (.chain .le .lt (.lit (.int 0)) (.sub (.var 0) (.lit (.int 1))) (.var 2)) (.cons (.lit (.str ⟨#[118, 97, 114, 105, 97, 98, 108, 101]⟩)) .nil))))
  .nil) (.cons (.ite (.isin false (.sub (.var 0) (.lit (.int 0))) (.tup (.cons (.lit (.str ⟨#[107, 101, 121]⟩)) (.cons (.lit (.str ⟨#[118, 97, 108, 117, 101]⟩)) .nil)))) (.cons (.expr (.callP f_require (.cons (.isin false (.sub (.var 0) (.lit (.int 0))) (.var 1)) (.cons (.lit (.str ⟨#[97, 114, 103, 117, 109, 101, 110, 116]⟩)) .nil))))
  .nil) .nil)
  .nil))
  .nil))
  (.cons (.for_ [3] (.seq (.callP f_parts (.cons (.var 0) .nil))) (lb_expression_right_0 r_expression_right))
  .nil))
def r_expression_right : Nat → List AV → List AO → Option (RV × List AO)
  | 0 => fun _ _ => none
  | n + 1 => runB 4 3 (ss_expression_right (r_expression_right n))
def f_expression_right (n : Nat) : Fn := ⟨⟨#[101, 120, 112, 114, 101, 115, 115, 105, 111, 110, 95, 114, 105, 103, 104, 116]⟩, r_expression_right n⟩
/-- check_expression(e, names, variables): 0 e 1 names 2 variables -/
def ss_check_expression : Ss := (.cons (.expr (.callP f_require (.cons (.cmp .le (.callP (f_depth 12) (.cons (.var 0) .nil)) (.glob ⟨#[68, 69, 69, 80, 69, 83, 84, 95, 69, 88, 80, 82, 69, 83, 83, 73, 79, 78]⟩ (.int 5))) (.cons (.lit (.str ⟨#[115, 105, 122, 101]⟩)) .nil))))
  (.cons (.expr (.callP (f_expression_right 12) (.cons (.var 0) (.cons (.var 1) (.cons (.var 2) .nil)))))
  .nil))
def f_check_expression : Fn := ⟨⟨#[99, 104, 101, 99, 107, 95, 101, 120, 112, 114, 101, 115, 115, 105, 111, 110]⟩, runB 3 3 ss_check_expression⟩
/-- Rules.effect(self, statement, names): 0 self 1 statement 2 names 3 e -/
def lb_Rules_effect_0 : Ss := (.cons (.expr (.callP f_check_expression (.cons (.var 3) (.cons (.var 2) (.cons (.attr ⟨#[82, 117, 108, 101, 115]⟩ (.var 0) ⟨#[118, 97, 114, 105, 97, 98, 108, 101, 115]⟩) .nil)))))
  .nil)
def ss_Rules_effect : Ss := (.cons (.ite (.cmp .eq (.sub (.var 1) (.lit (.int 0))) (.lit (.str ⟨#[119, 114, 105, 116, 101]⟩))) (.cons (.expr (.callP f_check_expression (.cons (.sub (.var 1) (.lit (.int 1))) (.cons (.var 2) (.cons (.attr ⟨#[82, 117, 108, 101, 115]⟩ (.var 0) ⟨#[118, 97, 114, 105, 97, 98, 108, 101, 115]⟩) .nil)))))
  (.cons (.expr (.callP f_require (.cons (.cmpH .eq (.b1 .len (.sub (.var 1) (.lit (.int 2)))) (.attr ⟨#[82, 117, 108, 101, 115]⟩ (.var 0) ⟨#[119, 105, 100, 116, 104]⟩)) (.cons (.lit (.str ⟨#[119, 105, 100, 116, 104]⟩)) .nil))))
  (.cons (.for_ [3] (.seq (.sub (.var 1) (.lit (.int 2)))) lb_Rules_effect_0)
  .nil))) .nil)
  .nil)
def f_Rules_effect : Fn := ⟨⟨#[101, 102, 102, 101, 99, 116]⟩, runB 4 3 ss_Rules_effect⟩
/-- Rules.statements(self, body, names, writes): 0 self 1 body 2 names 3 writes 4 statement 5 kind -/
def lb_Rules_statements_0 (r_Rules_statements : List AV → List AO → Option (RV × List AO)) : Ss := (.cons (.set 5 (.sub (.var 4) (.lit (.int 0))))
  (.cons (.ite (.cmp .eq (.var 5) (.lit (.str ⟨#[115, 101, 116]⟩))) (.cons (.expr (.callP f_require (.cons (.chain .le .lt (.lit (.int 0)) (.sub (.var 4) (.lit (.int 1))) (.attr ⟨#[82, 117, 108, 101, 115]⟩ (.var 0) ⟨#[118, 97, 114, 105, 97, 98, 108, 101, 115]⟩)) (.cons (.lit (.str ⟨#[118, 97, 114, 105, 97, 98, 108, 101]⟩)) .nil))))
  (.cons (.expr (.callP f_check_expression (.cons (.sub (.var 4) (.lit (.int 2))) (.cons (.var 2) (.cons (.attr ⟨#[82, 117, 108, 101, 115]⟩ (.var 0) ⟨#[118, 97, 114, 105, 97, 98, 108, 101, 115]⟩) .nil)))))
  .nil)) (.cons (.ite (.cmp .eq (.var 5) (.lit (.str ⟨#[105, 102]⟩))) (.cons (.expr (.callP f_check_expression (.cons (.sub (.var 4) (.lit (.int 1))) (.cons (.var 2) (.cons (.attr ⟨#[82, 117, 108, 101, 115]⟩ (.var 0) ⟨#[118, 97, 114, 105, 97, 98, 108, 101, 115]⟩) .nil)))))
  (.cons (.expr (.meth ⟨#[82, 117, 108, 101, 115]⟩ ⟨⟨#[115, 116, 97, 116, 101, 109, 101, 110, 116, 115]⟩, r_Rules_statements⟩ (.var 0) (.cons (.sub (.var 4) (.lit (.int 2))) (.cons (.var 2) (.cons (.var 3) .nil)))))
  (.cons (.expr (.meth ⟨#[82, 117, 108, 101, 115]⟩ ⟨⟨#[115, 116, 97, 116, 101, 109, 101, 110, 116, 115]⟩, r_Rules_statements⟩ (.var 0) (.cons (.sub (.var 4) (.lit (.int 3))) (.cons (.var 2) (.cons (.var 3) .nil)))))
  .nil))) (.cons (.ite (.cmp .eq (.var 5) (.lit (.str ⟨#[108, 111, 111, 112]⟩))) (.cons (.expr (.callP f_require (.cons (.chain .le .lt (.lit (.int 0)) (.sub (.var 4) (.lit (.int 1))) (.attr ⟨#[82, 117, 108, 101, 115]⟩ (.var 0) ⟨#[118, 97, 114, 105, 97, 98, 108, 101, 115]⟩)) (.cons (.lit (.str ⟨#[118, 97, 114, 105, 97, 98, 108, 101]⟩)) .nil))))
  (.cons (.expr (.callP f_require (.cons (.chain .le .le (.lit (.int 1)) (.sub (.var 4) (.lit (.int 2))) (.glob ⟨#[77, 79, 83, 84, 95, 82, 79, 85, 78, 68, 83]⟩ (.int 8))) (.cons (.lit (.str ⟨#[115, 105, 122, 101]⟩)) .nil))))
  (.cons (.expr (.meth ⟨#[82, 117, 108, 101, 115]⟩ ⟨⟨#[115, 116, 97, 116, 101, 109, 101, 110, 116, 115]⟩, r_Rules_statements⟩ (.var 0) (.cons (.sub (.var 4) (.lit (.int 3))) (.cons (.var 2) (.cons (.var 3) .nil)))))
  .nil))) (.cons (.expr (.callP f_require (.cons (.var 3) (.cons (.lit (.str ⟨#[119, 114, 105, 116, 101]⟩)) .nil))))
  (.cons (.expr (.meth ⟨#[82, 117, 108, 101, 115]⟩ f_Rules_effect (.var 0) (.cons (.var 4) (.cons (.var 2) .nil))))
  .nil)))
  .nil))
  .nil))
  .nil))
def ss_Rules_statements (r_Rules_statements : List AV → List AO → Option (RV × List AO)) : Ss := (.cons (.for_ [4] (.seq (.var 1)) (lb_Rules_statements_0 r_Rules_statements))
  .nil)
def r_Rules_statements : Nat → List AV → List AO → Option (RV × List AO)
  | 0 => fun _ _ => none
  | n + 1 => runB 6 4 (ss_Rules_statements (r_Rules_statements n))
def f_Rules_statements (n : Nat) : Fn := ⟨⟨#[115, 116, 97, 116, 101, 109, 101, 110, 116, 115]⟩, r_Rules_statements n⟩
/-- Rules.body(self, body, names, writes): 0 self 1 body 2 names 3 writes 4 many 5 deep 6 loops -/
def ss_Rules_body : Ss := (.cons (.setT [4, 5, 6] (.callP (f_count 12) (.cons (.var 1) .nil)))
  (.cons (.expr (.callP f_require (.cons (.and (.cmp .le (.var 4) (.glob ⟨#[77, 79, 83, 84, 95, 83, 84, 65, 84, 69, 77, 69, 78, 84, 83]⟩ (.int 60))) (.and (.cmp .le (.var 5) (.glob ⟨#[68, 69, 69, 80, 69, 83, 84, 95, 66, 79, 68, 89]⟩ (.int 4))) (.cmp .le (.var 6) (.glob ⟨#[77, 79, 83, 84, 95, 76, 79, 79, 80, 83]⟩ (.int 2))))) (.cons (.lit (.str ⟨#[115, 105, 122, 101]⟩)) .nil))))
  (.cons (.expr (.meth ⟨#[82, 117, 108, 101, 115]⟩ (f_Rules_statements 12) (.var 0) (.cons (.var 1) (.cons (.var 2) (.cons (.var 3) .nil)))))
  .nil)))
def f_Rules_body : Fn := ⟨⟨#[98, 111, 100, 121]⟩, runB 7 4 ss_Rules_body⟩
/-- check(store): 0 store 1 _ 2 sectors 3 width 4 keys 5 variables 6 put 7 sync 8 recover 9 get 10 rules -/
def ss_check : Ss := (.cons (.setT [1, 2, 3, 4, 5, 6, 7, 8, 9] (.var 0))
  (.cons (.expr (.callP f_require (.cons (.chain .le .le (.lit (.int 1)) (.var 2) (.lit (.int 6))) (.cons (.lit (.str ⟨#[115, 101, 99, 116, 111, 114, 115]⟩)) .nil))))
  (.cons (.expr (.callP f_require (.cons (.chain .le .le (.lit (.int 1)) (.var 3) (.lit (.int 4))) (.cons (.lit (.str ⟨#[119, 105, 100, 116, 104]⟩)) .nil))))
  (.cons (.expr (.callP f_require (.cons (.chain .le .le (.lit (.int 1)) (.var 4) (.lit (.int 3))) (.cons (.lit (.str ⟨#[107, 101, 121, 115]⟩)) .nil))))
  (.cons (.expr (.callP f_require (.cons (.chain .le .le (.lit (.int 0)) (.var 5) (.lit (.int 8))) (.cons (.lit (.str ⟨#[118, 97, 114, 105, 97, 98, 108, 101, 115]⟩)) .nil))))
  (.cons (.set 10 (.new ⟨#[82, 117, 108, 101, 115]⟩ f_Rules_init (.cons (.var 3) (.cons (.var 5) .nil))))
  (.cons (.expr (.meth ⟨#[82, 117, 108, 101, 115]⟩ f_Rules_body (.var 10) (.cons (.var 6) (.cons (.tup (.cons (.lit (.str ⟨#[107, 101, 121]⟩)) (.cons (.lit (.str ⟨#[118, 97, 108, 117, 101]⟩)) .nil))) (.cons (.lit (.bool true)) .nil)))))
  (.cons (.expr (.meth ⟨#[82, 117, 108, 101, 115]⟩ f_Rules_body (.var 10) (.cons (.var 7) (.cons (.tup .nil) (.cons (.lit (.bool true)) .nil)))))
  (.cons (.expr (.meth ⟨#[82, 117, 108, 101, 115]⟩ f_Rules_body (.var 10) (.cons (.var 8) (.cons (.tup .nil) (.cons (.lit (.bool true)) .nil)))))
  (.cons (.expr (.meth ⟨#[82, 117, 108, 101, 115]⟩ f_Rules_body (.var 10) (.cons (.sub (.var 9) (.lit (.int 0))) (.cons (.tup (.cons (.lit (.str ⟨#[107, 101, 121]⟩)) .nil)) (.cons (.lit (.bool false)) .nil)))))
  (.cons (.expr (.callP f_check_expression (.cons (.sub (.var 9) (.lit (.int 1))) (.cons (.tup (.cons (.lit (.str ⟨#[107, 101, 121]⟩)) .nil)) (.cons (.var 5) .nil)))))
  .nil)))))))))))
def f_check : Fn := ⟨⟨#[99, 104, 101, 99, 107]⟩, runB 11 1 ss_check⟩
end Sv
namespace Sv
open PySem
/-! ### texts -/
def okTx (x : Str) : Prop := x.cps.toList.all (fun c => decide (c < 1114112)) = true
theorem eqStr : EqOk okTx PyData.str 0 := ⟨fun a b _ _ => by rw [eqq_str], fun a ha => by rw [dep_str ha]; omega⟩
theorem in_strs {k : Str} {ks : List Str} (hk : okTx k) (hks : ∀ x ∈ ks, okTx x) : inV (.av (.dat (.str k))) (.av (.dat (.tuple (ks.map .str)))) = some (decide (k ∈ ks)) := by
  rw [eqStr.inT (a := k) (bs := ks) rfl rfl hk hks (by omega)]
def kindT : Ex → Str
  | .num _ => tNum
  | .var _ => tVar
  | .key => tKey
  | .value => tValue
  | .not _ => tNot
  | .sum _ => tSum
  | .read _ _ => tRead
  | .op o _ _ => o.t
def restI : Ex → List PyData
  | .num n => [.int n]
  | .var i => [.int i]
  | .key => []
  | .value => []
  | .not a => [exI a]
  | .sum a => [exI a]
  | .read a b => [exI a, exI b]
  | .op _ a b => [exI a, exI b]
theorem exI_eq (e : Ex) : exI e = .tuple (.str (kindT e) :: restI e) := by cases e <;> rfl
theorem okKind (e : Ex) : okTx (kindT e) := by
  unfold okTx
  cases e <;> first | rfl | (rename_i o _ _; cases o <;> rfl)
def leafK : Ex → Bool
  | .num _ => true
  | .var _ => true
  | .key => true
  | .value => true
  | _ => false
def unK : Ex → Bool
  | .not _ => true
  | .sum _ => true
  | _ => false
theorem in_leaf (e : Ex) : inV (.av (.dat (.str (kindT e)))) (.av (.dat (.tuple [.str tNum, .str tVar, .str tKey, .str tValue]))) = some (leafK e) := by
  have := in_strs (k := kindT e) (ks := [tNum, tVar, tKey, tValue]) (okKind e) (by intro x hx; simp only [List.mem_cons, List.not_mem_nil, or_false] at hx; unfold okTx; rcases hx with rfl | rfl | rfl | rfl <;> rfl)
  refine Eq.trans this ?_
  cases e <;> first | rfl | (rename_i o _ _; cases o <;> rfl)
theorem in_un (e : Ex) : inV (.av (.dat (.str (kindT e)))) (.av (.dat (.tuple [.str tNot, .str tSum]))) = some (unK e) := by
  have := in_strs (k := kindT e) (ks := [tNot, tSum]) (okKind e) (by intro x hx; simp only [List.mem_cons, List.not_mem_nil, or_false] at hx; unfold okTx; rcases hx with rfl | rfl <;> rfl)
  refine Eq.trans this ?_
  cases e <;> first | rfl | (rename_i o _ _; cases o <;> rfl)
def partsP : Ex → List Ex
  | .not a => [a]
  | .sum a => [a]
  | .read a b => [a, b]
  | .op _ a b => [a, b]
  | _ => []
theorem parts_run (e : Ex) : f_parts.run [.dat (exI e)] [] = some (.lst ((partsP e).map exI), []) := by
  have h1 := in_leaf e
  have h2 := in_un e
  have h3 : subV [] (.av (.dat (exI e))) (.av (.dat (.int 0))) = some (.dat (.str (kindT e))) := by rw [exI_eq]; simp
  have h4 : ∀ x, (restI e)[0]? = some x → subV [] (.av (.dat (exI e))) (.av (.dat (.int 1))) = some (.dat x) := fun x hx => by
    rw [exI_eq]
    have : atD (PyData.str (kindT e) :: restI e) 1 = some x := atD_lit (n := 1) (by simpa using hx)
    simp [this]
  have h5 : ∀ x, (restI e)[1]? = some x → subV [] (.av (.dat (exI e))) (.av (.dat (.int 2))) = some (.dat x) := fun x hx => by
    rw [exI_eq]
    have : atD (PyData.str (kindT e) :: restI e) 2 = some x := atD_lit (n := 2) (by simpa using hx)
    simp [this]
  cases e with
  | num n => simp [f_parts, runB, ss_parts, h3, h1, leafK, partsP]
  | var n => simp [f_parts, runB, ss_parts, h3, h1, leafK, partsP]
  | key => simp [f_parts, runB, ss_parts, h3, h1, leafK, partsP]
  | value => simp [f_parts, runB, ss_parts, h3, h1, leafK, partsP]
  | not a =>
    have h6 := h4 (exI a) rfl
    simp [f_parts, runB, ss_parts, h3, h1, h2, h6, leafK, unK, partsP]
  | sum a =>
    have h6 := h4 (exI a) rfl
    simp [f_parts, runB, ss_parts, h3, h1, h2, h6, leafK, unK, partsP]
  | read a b =>
    have h6 := h4 (exI a) rfl
    have h7 := h5 (exI b) rfl
    simp [f_parts, runB, ss_parts, h3, h1, h2, h6, h7, leafK, unK, partsP]
  | op o a b =>
    have h6 := h4 (exI a) rfl
    have h7 := h5 (exI b) rfl
    simp [f_parts, runB, ss_parts, h3, h1, h2, h6, h7, leafK, unK, partsP]
theorem depP_parts (e : Ex) : depP e = 1 + ((partsP e).map depP).foldr max 0 := by
  cases e <;> simp [depP, partsP] <;> omega
theorem depP_mem {e x : Ex} (h : x ∈ partsP e) : depP x < depP e := by
  cases e <;> simp [partsP] at h <;> simp [depP] <;> first | (subst h; omega) | (rcases h with rfl | rfl <;> omega)
theorem intsD_nat : ∀ xs : List Nat, intsD (xs.map fun n : Nat => PyData.int (n : Int)) = some (xs.map fun n : Nat => (n : Int))
  | [] => rfl
  | x :: xs => by
    show (intsD (xs.map fun n : Nat => PyData.int (n : Int))).map ((x : Int) :: ·) = _
    rw [intsD_nat xs]
    rfl
theorem mxIs_nat : ∀ xs : List Nat, mxIs false (xs.map fun n : Nat => (n : Int)) = ((xs.foldr max 0 : Nat) : Int)
  | [] => rfl
  | [x] => by simp [mxIs]
  | x :: y :: r => by
    have ih := mxIs_nat (y :: r)
    show mxI false (x : Int) (mxIs false ((y :: r).map fun n : Nat => (n : Int))) = _
    rw [ih]
    simp only [List.foldr_cons]
    generalize max y (r.foldr max 0) = q
    unfold mxI
    rw [if_neg Bool.false_ne_true]
    by_cases c : (q : Int) > (x : Int)
    · rw [if_pos c]; omega
    · rw [if_neg c]; omega
theorem depth_run : ∀ (m : Nat) (e : Ex), depP e ≤ m → r_depth m [.dat (exI e)] [] = some (.av (.dat (.int (depP e : Nat))), [])
  | 0, e, h => by cases e <;> simp [depP] at h
  | m + 1, e, h => by
    have p := parts_run e
    have c := compL_all (tg := [1]) (elt := ev false (.callP ⟨⟨#[100, 101, 112, 116, 104]⟩, r_depth m⟩ (.cons (.var 1) .nil))) exI (fun x => .int (depP x : Nat)) ⟨[.av (.dat (exI e)), .emp], []⟩ (partsP e) (fun x hx => by
      have r := depth_run m x (by have := depP_mem hx; omega)
      exact ⟨[.av (.dat (exI e)), .av (.dat (exI x))], by simp, ⟨.av (.dat (.int (depP x : Nat))), by simp [r], rfl⟩, rfl, rfl⟩) (by cases e <;> simp [partsP])
    have i := intsD_nat ((partsP e).map depP)
    rw [List.map_map] at i
    have i' : intsD ((partsP e).map fun x => .int (depP x : Nat)) = some (((partsP e).map depP).map fun n : Nat => (n : Int)) := i
    have mx := mxIs_nat ((partsP e).map depP)
    have d := depP_parts e
    have e0 : (if (((partsP e).map depP).map fun n : Nat => (n : Int)).isEmpty = true then (0 : Int) else mxIs false (((partsP e).map depP).map fun n : Nat => (n : Int))) = ((((partsP e).map depP).foldr max 0 : Nat) : Int) := by
      split
      · rename_i h
        have : partsP e = [] := by simpa using h
        rw [this]
        rfl
      · exact mx
    generalize ((partsP e).map depP).map (fun n : Nat => (n : Int)) = L at *
    generalize (partsP e).map exI = A at *
    generalize (partsP e).map (fun x => PyData.int (depP x : Nat)) = B at *
    generalize hq : ((partsP e).map depP).foldr max 0 = q at *
    generalize exI e = E0 at *
    have d' : (1 : Int) + (q : Int) = ((depP e : Nat) : Int) := by omega
    simp only [r_depth, runB, ss_depth]
    simp [p, plainAt, wipeR, back, c, i']
    simp at e0
    rw [e0, d']
/-! ### what passes -/
theorem req_run {r : Str} : f_require.run [.dat (.bool true), .dat (.str r)] [] = some (.av (.dat .none), []) := by
  simp [f_require, runB, ss_require]
/-- what stands for the names, as a tuple -/
def Names.t (n : Names) : PyData := .tuple n.l
theorem in_kv (e : Ex) : inV (.av (.dat (.str (kindT e)))) (.av (.dat (.tuple [.str tKey, .str tValue]))) = some (match e with | .key => true | .value => true | _ => false) := by
  have := in_strs (k := kindT e) (ks := [tKey, tValue]) (okKind e) (by intro x hx; simp only [List.mem_cons, List.not_mem_nil, or_false] at hx; unfold okTx; rcases hx with rfl | rfl <;> rfl)
  refine Eq.trans this ?_
  cases e <;> first | rfl | (rename_i o _ _; cases o <;> rfl)
theorem in_key {n : Names} (h : n.key = true) : inV (.av (.dat (.str tKey))) (.av (.dat n.t)) = some true := by
  obtain ⟨k, v⟩ := n
  subst h
  cases v
  · exact (in_strs (k := tKey) (ks := [tKey]) rfl (by intro x hx; simp at hx; subst hx; rfl)).trans rfl
  · exact (in_strs (k := tKey) (ks := [tKey, tValue]) rfl (by intro x hx; simp only [List.mem_cons, List.not_mem_nil, or_false] at hx; unfold okTx; rcases hx with rfl | rfl <;> rfl)).trans rfl
theorem in_value {n : Names} (h : n.value = true) : inV (.av (.dat (.str tValue))) (.av (.dat n.t)) = some true := by
  obtain ⟨k, v⟩ := n
  subst h
  cases k
  · exact (in_strs (k := tValue) (ks := [tValue]) rfl (by intro x hx; simp at hx; subst hx; rfl)).trans rfl
  · exact (in_strs (k := tValue) (ks := [tKey, tValue]) rfl (by intro x hx; simp only [List.mem_cons, List.not_mem_nil, or_false] at hx; unfold okTx; rcases hx with rfl | rfl <;> rfl)).trans rfl
theorem kind_num (e : Ex) : cmpV .eq (.av (.dat (.str (kindT e)))) (.av (.dat (.str tNum))) = some (match e with | .num _ => true | _ => false) := by
  rw [cmp_str (okKind e) rfl]
  cases e <;> first | rfl | (rename_i o _ _; cases o <;> rfl)
theorem kind_var (e : Ex) : cmpV .eq (.av (.dat (.str (kindT e)))) (.av (.dat (.str tVar))) = some (match e with | .var _ => true | _ => false) := by
  rw [cmp_str (okKind e) rfl]
  cases e <;> first | rfl | (rename_i o _ _; cases o <;> rfl)
theorem parts_fit {n : Names} {vars : Nat} {e x : Ex} (h : exFit n vars e = true) (hx : x ∈ partsP e) : exFit n vars x = true := by
  cases e <;> simp [partsP] at hx <;> simp only [exFit, Bool.and_eq_true] at h <;> first | (subst hx; exact h) | (rcases hx with rfl | rfl; exact h.1; exact h.2)
theorem right_run {n : Names} {vars : Nat} : ∀ (m : Nat) (e : Ex), depP e ≤ m → exFit n vars e = true → r_expression_right m [.dat (exI e), .dat n.t, .dat (.int vars)] [] = some (.av (.dat .none), [])
  | 0, e, h, _ => by cases e <;> simp [depP] at h
  | m + 1, e, h, hf => by
    have p := parts_run e
    obtain ⟨ms', lp, c3, rfl⟩ := forL_T (tg := [3]) (body := exs (lb_expression_right_0 (r_expression_right m))) exI (partsP e)
      (fun pre ms => ∃ c3, ms = ⟨[.av (.dat (exI e)), .av (.dat n.t), .av (iv vars), c3], []⟩) (ms := ⟨[.av (.dat (exI e)), .av (.dat n.t), .av (iv vars), .emp], []⟩) ⟨_, rfl⟩ (fun pre x post ms hj ⟨c3, q⟩ => by
        subst q
        have hx : x ∈ partsP e := by rw [hj]; simp
        have r := right_run m x (by have := depP_mem hx; omega) (parts_fit hf hx)
        exact ⟨[.av (.dat (exI e)), .av (.dat n.t), .av (iv vars), .av (.dat (exI x))], ⟨[.av (.dat (exI e)), .av (.dat n.t), .av (iv vars), .av (.dat (exI x))], []⟩, by simp, by simp [lb_expression_right_0, r], _, rfl⟩)
    have h3 : subV [] (.av (.dat (exI e))) (.av (.dat (.int 0))) = some (.dat (.str (kindT e))) := by rw [exI_eq]; simp
    have h4 : ∀ x, (restI e)[0]? = some x → subV [] (.av (.dat (exI e))) (.av (.dat (.int 1))) = some (.dat x) := fun x hx => by
      rw [exI_eq]
      have : atD (PyData.str (kindT e) :: restI e) 1 = some x := atD_lit (n := 1) (by simpa using hx)
      simp [this]
    have k1 := kind_num e
    have k2 := kind_var e
    have k3 := in_kv e
    have rq : ∀ r : Str, f_require.run [.dat (.bool true), .dat (.str r)] [] = some (.av (.dat .none), []) := fun r => req_run
    simp only [r_expression_right, runB, ss_expression_right]
    cases e with
    | num i =>
      simp only [exFit, decide_eq_true_eq] at hf
      have h5 := h4 _ rfl
      have c1 : (i : Int) ≤ 15 := by omega
      generalize exI (.num i) = E0 at *
      generalize (partsP (.num i)).map exI = A at *
      simp [h3, k1, h5, cmpI, c1, rq, p, lp]
    | var i =>
      simp only [exFit, decide_eq_true_eq] at hf
      have h5 := h4 _ rfl
      have c1 : (i : Int) < (vars : Int) := by omega
      generalize exI (.var i) = E0 at *
      generalize (partsP (.var i)).map exI = A at *
      simp [h3, k1, k2, h5, cmpI, hf, rq, p, lp]
    | key =>
      have h6 := in_key (n := n) hf
      generalize exI .key = E0 at *
      generalize (partsP .key).map exI = A at *
      have kk : kindT .key = tKey := rfl
      rw [kk] at h3 k1 k2 k3
      generalize n.t = N at *
      simp [h3, k1, k2, k3, h6, rq, p, lp]
    | value =>
      have h6 := in_value (n := n) hf
      generalize exI .value = E0 at *
      generalize (partsP .value).map exI = A at *
      have kk : kindT .value = tValue := rfl
      rw [kk] at h3 k1 k2 k3
      generalize n.t = N at *
      simp [h3, k1, k2, k3, h6, rq, p, lp]
    | not a =>
      generalize exI (.not a) = E0 at *
      generalize (partsP (.not a)).map exI = A at *
      simp [h3, k1, k2, k3, p, lp]
    | sum a =>
      generalize exI (.sum a) = E0 at *
      generalize (partsP (.sum a)).map exI = A at *
      simp [h3, k1, k2, k3, p, lp]
    | read a b =>
      generalize exI (.read a b) = E0 at *
      generalize (partsP (.read a b)).map exI = A at *
      simp [h3, k1, k2, k3, p, lp]
    | op o a b =>
      generalize exI (.op o a b) = E0 at *
      generalize (partsP (.op o a b)).map exI = A at *
      simp [h3, k1, k2, k3, p, lp]
@[simp] theorem f_depth_run (n : Nat) : (f_depth n).run = r_depth n := rfl
@[simp] theorem f_right_run (n : Nat) : (f_expression_right n).run = r_expression_right n := rfl
@[simp] theorem f_count_run (n : Nat) : (f_count n).run = r_count n := rfl
@[simp] theorem f_stmts_run (n : Nat) : (f_Rules_statements n).run = r_Rules_statements n := rfl
theorem check_expr {n : Names} {vars : Nat} {e : Ex} (h : exFit n vars e = true) (hd : depP e ≤ 5) : f_check_expression.run [.dat (exI e), .dat n.t, .dat (.int vars)] [] = some (.av (.dat .none), []) := by
  have h1 := depth_run 12 e (by omega)
  have h2 := right_run (n := n) (vars := vars) 12 e (by omega) h
  have c : ((depP e : Nat) : Int) ≤ 5 := by omega
  have rq : ∀ r : Str, f_require.run [.dat (.bool true), .dat (.str r)] [] = some (.av (.dat .none), []) := fun r => req_run
  generalize exI e = E0 at *
  generalize n.t = N at *
  generalize depP e = d at *
  simp [f_check_expression, runB, ss_check_expression, h1, h2, c, rq]
theorem mxI_nat (a b : Nat) : mxI false (a : Int) (b : Int) = ((max a b : Nat) : Int) := by
  unfold mxI
  rw [if_neg Bool.false_ne_true]
  by_cases c : (b : Int) > (a : Int)
  · rw [if_pos c]; omega
  · rw [if_neg c]; omega
def sumM (ls : List (List St)) : Nat := (ls.map cntM).sum
def maxD (ls : List (List St)) : Nat := (ls.map fun l => 1 + cntD l).foldr max 0
def maxL (own : Nat) (ls : List (List St)) : Nat := (ls.map fun l => own + cntL l).foldr max 0
def cntI3 (l : List St) : PyData := .tuple [.int (cntM l : Nat), .int ((1 + cntD l : Nat) : Int), .int (cntL l : Nat)]
def ctSt (b : List St) (many deep loops own : Nat) (c4 c5 c7 c8 : Slot) : MS := ⟨[.av (.dat (bodyI b)), .av (iv many), .av (iv deep), .av (iv loops), c4, c5, .av (iv own), c7, c8], []⟩
theorem count_inner {m : Nat} {b : List St} {ls : List (List St)} {many deep loops own : Nat} {c4 c5 c7 c8 : Slot} (ih : ∀ l ∈ ls, r_count m [.dat (bodyI l)] [] = some (.av (.dat (cntI3 l)), [])) :
    ∃ c7' c8', forL [7] (exs (lb_count_0 (r_count m))) (ls.map bodyI) (ctSt b many deep loops own c4 c5 c7 c8) = some (.nx, ctSt b (many + sumM ls) (max deep (maxD ls)) (max loops (maxL own ls)) own c4 c5 c7' c8') := by
  obtain ⟨ms', h, c7', c8', rfl⟩ := forL_T (tg := [7]) (body := exs (lb_count_0 (r_count m))) bodyI ls
    (fun pre ms => ∃ c7' c8', ms = ctSt b (many + sumM pre) (max deep (maxD pre)) (max loops (maxL own pre)) own c4 c5 c7' c8') (ms := ctSt b many deep loops own c4 c5 c7 c8) ⟨c7, c8, by simp [sumM, maxD, maxL]⟩ (fun pre l post ms hj ⟨c7', c8', e⟩ => by
      subst e
      have hl : l ∈ ls := by rw [hj]; simp
      have r := ih l hl
      have e1 : sumM (pre ++ [l]) = sumM pre + cntM l := by simp [sumM]
      have fm : ∀ (xs : List Nat) (x : Nat), (xs ++ [x]).foldr max 0 = max (xs.foldr max 0) x := by
        intro xs x
        induction xs with
        | nil => simp
        | cons a xs ih => simp only [List.cons_append, List.foldr_cons, ih]; omega
      have e2 : maxD (pre ++ [l]) = max (maxD pre) (1 + cntD l) := by unfold maxD; rw [List.map_append, List.map_singleton, fm]
      have e3 : maxL own (pre ++ [l]) = max (maxL own pre) (own + cntL l) := by unfold maxL; rw [List.map_append, List.map_singleton, fm]
      have m1 := mxI_nat (max deep (maxD pre)) (1 + cntD l)
      have m2 := mxI_nat (max loops (maxL own pre)) (own + cntL l)
      refine ⟨(ctSt b (many + sumM pre) (max deep (maxD pre)) (max loops (maxL own pre)) own c4 c5 (.av (.dat (bodyI l))) c8').rho, ctSt b (many + sumM (pre ++ [l])) (max deep (maxD (pre ++ [l]))) (max loops (maxL own (pre ++ [l]))) own c4 c5 (.av (.dat (bodyI l))) (.av (.dat (cntI3 l))), by simp [ctSt], ?_, _, _, rfl⟩
      rw [e1, e2, e3]
      have g1 : max deep (max (maxD pre) (1 + cntD l)) = max (max deep (maxD pre)) (1 + cntD l) := by omega
      have g2 : max loops (max (maxL own pre) (own + cntL l)) = max (max loops (maxL own pre)) (own + cntL l) := by omega
      rw [g1, g2, ← Nat.add_assoc]
      generalize max deep (maxD pre) = D at *
      generalize max loops (maxL own pre) = Lp at *
      generalize many + sumM pre = M at *
      have q0 : subV [] (.av (.dat (cntI3 l))) (.av (.dat (.int 0))) = some (.dat (.int (cntM l : Nat))) := by simp [cntI3]
      have q1 : subV [] (.av (.dat (cntI3 l))) (.av (.dat (.int 1))) = some (.dat (.int ((1 + cntD l : Nat) : Int))) := by simp [cntI3]
      have q2 : subV [] (.av (.dat (cntI3 l))) (.av (.dat (.int 2))) = some (.dat (.int (cntL l : Nat))) := by simp [cntI3]
      have a1 : (M : Int) + (cntM l : Int) = ((M + cntM l : Nat) : Int) := by omega
      have a2 : (own : Int) + (cntL l : Int) = ((own + cntL l : Nat) : Int) := by omega
      generalize bodyI l = Bl at *
      generalize bodyI b = Bb at *
      generalize cntI3 l = C3 at *
      generalize 1 + cntD l = d1 at *
      generalize hM : M + cntM l = M2 at *
      generalize hL : own + cntL l = L2 at *
      generalize hD3 : max D d1 = D3 at *
      generalize hL3 : max Lp L2 = L3 at *
      unfold ctSt
      simp [lb_count_0, r, q0, q1, q2, a1, a2, m1, m2])
  exact ⟨c7', c8', h⟩
def innerS : St → List (List St)
  | .ite _ a b => [a, b]
  | .loop _ _ b => [b]
  | _ => []
def ownS : St → Nat
  | .loop _ _ _ => 1
  | _ => 0
def kindS : St → Str
  | .set _ _ => tSet
  | .ite _ _ _ => tIf
  | .loop _ _ _ => tLoop
  | .write _ _ => tWrite
  | .barrier => tBarrier
theorem cntS_eq (s : St) : cntS s = (1 + sumM (innerS s), maxD (innerS s), maxL (ownS s) (innerS s)) := by
  cases s <;> simp [cntS, innerS, ownS, sumM, maxD, maxL] <;> omega
theorem st_kind (s : St) : subV [] (.av (.dat (stJ s))) (.av (.dat (.int 0))) = some (.dat (.str (kindS s))) := by cases s <;> simp [stJ, kindS]
theorem okKindS (s : St) : okTx (kindS s) := by cases s <;> rfl
theorem kind_if (s : St) : cmpV .eq (.av (.dat (.str (kindS s)))) (.av (.dat (.str tIf))) = some (match s with | .ite _ _ _ => true | _ => false) := by
  rw [cmp_str (okKindS s) rfl]
  cases s <;> rfl
theorem kind_loop (s : St) : cmpV .eq (.av (.dat (.str (kindS s)))) (.av (.dat (.str tLoop))) = some (match s with | .loop _ _ _ => true | _ => false) := by
  rw [cmp_str (okKindS s) rfl]
  cases s <;> rfl
theorem kind_set (s : St) : cmpV .eq (.av (.dat (.str (kindS s)))) (.av (.dat (.str tSet))) = some (match s with | .set _ _ => true | _ => false) := by
  rw [cmp_str (okKindS s) rfl]
  cases s <;> rfl
theorem kind_write (s : St) : cmpV .eq (.av (.dat (.str (kindS s)))) (.av (.dat (.str tWrite))) = some (match s with | .write _ _ => true | _ => false) := by
  rw [cmp_str (okKindS s) rfl]
  cases s <;> rfl
theorem count_body {m : Nat} {b : List St} {s : St} {many deep loops own : Nat} {c5 c7 c8 : Slot} {c6 : Slot} (ih : ∀ l ∈ innerS s, r_count m [.dat (bodyI l)] [] = some (.av (.dat (cntI3 l)), [])) :
    ∃ c5' c7' c8', exs (lb_count_1 (r_count m)) ⟨[.av (.dat (bodyI b)), .av (iv many), .av (iv deep), .av (iv loops), .av (.dat (stJ s)), c5, c6, c7, c8], []⟩ = some (.nx, ctSt b (many + sumM (innerS s)) (max deep (maxD (innerS s))) (max loops (maxL (ownS s) (innerS s))) (ownS s) (.av (.dat (stJ s))) c5' c7' c8') := by
  obtain ⟨c7', c8', h⟩ := count_inner (m := m) (b := b) (ls := innerS s) (many := many) (deep := deep) (loops := loops) (own := ownS s) (c4 := .av (.dat (stJ s))) (c5 := .av (.dat (.list ((innerS s).map bodyI)))) (c7 := c7) (c8 := c8) ih
  refine ⟨.av (.dat (.list ((innerS s).map bodyI))), c7', c8', ?_⟩
  have k0 := st_kind s
  have k1 := kind_if s
  have k2 := kind_loop s
  have sb : ∀ (x : List PyData) (k : Nat) (d : PyData), stJ s = .tuple x → x[k]? = some d → subV [] (.av (.dat (stJ s))) (.av (.dat (.int (k : Int)))) = some (.dat d) := fun x k d h1 h2 => by
    rw [h1]
    have := atD_lit h2
    simp [this]
  generalize ctSt b (many + sumM (innerS s)) (max deep (maxD (innerS s))) (max loops (maxL (ownS s) (innerS s))) (ownS s) (.av (.dat (stJ s))) (.av (.dat (.list ((innerS s).map bodyI)))) c7' c8' = FIN at *
  unfold ctSt at h
  cases s with
  | ite c x y =>
    have q1 : subV [] (.av (.dat (stJ (.ite c x y)))) (.av (.dat (.int 2))) = some (.dat (bodyI x)) := sb _ 2 _ rfl (by rw [stIs_eq]; rfl)
    have q2 : subV [] (.av (.dat (stJ (.ite c x y)))) (.av (.dat (.int 3))) = some (.dat (bodyI y)) := sb _ 3 _ rfl (by rw [stIs_eq, stIs_eq]; rfl)
    simp only [innerS, ownS, List.map_cons, List.map_nil] at h
    generalize stJ (.ite c x y) = S0 at *
    generalize bodyI b = Bb at *
    generalize bodyI x = Bx at *
    generalize bodyI y = By at *
    simp at h
    simp [lb_count_1, k0, k1, q1, q2, h]
  | loop v k x =>
    have q1 : subV [] (.av (.dat (stJ (.loop v k x)))) (.av (.dat (.int 3))) = some (.dat (bodyI x)) := sb _ 3 _ rfl (by rw [stIs_eq]; rfl)
    simp only [innerS, ownS, List.map_cons, List.map_nil] at h
    generalize stJ (.loop v k x) = S0 at *
    generalize bodyI b = Bb at *
    generalize bodyI x = Bx at *
    simp at h
    simp [lb_count_1, k0, k1, k2, q1, h]
  | set v e =>
    simp only [innerS, ownS, List.map_nil] at h
    generalize stJ (.set v e) = S0 at *
    generalize bodyI b = Bb at *
    simp at h
    simp [lb_count_1, k0, k1, k2, h]
  | write e ws =>
    simp only [innerS, ownS, List.map_nil] at h
    generalize stJ (.write e ws) = S0 at *
    generalize bodyI b = Bb at *
    simp at h
    simp [lb_count_1, k0, k1, k2, h]
  | barrier =>
    simp only [innerS, ownS, List.map_nil] at h
    generalize stJ .barrier = S0 at *
    generalize bodyI b = Bb at *
    simp at h
    simp [lb_count_1, k0, k1, k2, h]
theorem cntD_snoc (l : List St) (s : St) : cntD (l ++ [s]) = max (cntD l) (cntS s).2.1 := by
  induction l with
  | nil => simp [cntD]
  | cons x l ih => simp only [List.cons_append, cntD, ih]; omega
theorem cntL_snoc (l : List St) (s : St) : cntL (l ++ [s]) = max (cntL l) (cntS s).2.2 := by
  induction l with
  | nil => simp [cntL]
  | cons x l ih => simp only [List.cons_append, cntL, ih]; omega
theorem inner_deep {s : St} {l : List St} (h : l ∈ innerS s) : cntD l < (cntS s).2.1 := by
  cases s <;> simp [innerS] at h <;> simp [cntS] <;> first | (subst h; omega) | (rcases h with rfl | rfl <;> omega)
def innM (l : List St) : Nat := (l.map fun s => sumM (innerS s)).sum
theorem cntM_inn (l : List St) : cntM l = l.length + innM l := by
  induction l with
  | nil => rfl
  | cons s l ih => simp only [cntM, ih, cntS_eq s, innM, List.map_cons, List.sum_cons, List.length_cons]; omega
theorem count_run : ∀ (m : Nat) (b : List St), cntD b < m → r_count m [.dat (bodyI b)] [] = some (.av (.dat (cntI3 b)), [])
  | 0, _, h => absurd h (Nat.not_lt_zero _)
  | m + 1, b, hd => by
    obtain ⟨ms', lp, own, c4, c5, c7, c8, rfl⟩ := forL_T (tg := [4]) (body := exs (lb_count_1 (r_count m))) stJ b
      (fun pre ms => ∃ (own : Slot) (c4 c5 c7 c8 : Slot), ms = ⟨[.av (.dat (bodyI b)), .av (iv (b.length + innM pre : Nat)), .av (iv (cntD pre : Nat)), .av (iv (cntL pre : Nat)), c4, c5, own, c7, c8], []⟩) (ms := ⟨[.av (.dat (bodyI b)), .av (iv (b.length : Nat)), .av (iv 0), .av (iv 0), .emp, .emp, .emp, .emp, .emp], []⟩) ⟨.emp, .emp, .emp, .emp, .emp, rfl⟩ (fun pre s post ms hj ⟨own, c4, c5, c7, c8, e⟩ => by
        subst e
        have hs : s ∈ b := by rw [hj]; simp
        have ds := cntD_le.mp (Nat.le_refl (cntD b)) s hs
        obtain ⟨c5', c7', c8', h⟩ := count_body (m := m) (b := b) (s := s) (many := b.length + innM pre) (deep := cntD pre) (loops := cntL pre) (own := 0) (c5 := c5) (c6 := own) (c7 := c7) (c8 := c8) (fun l hl => count_run m l (by have := inner_deep hl; omega))
        have e1 : b.length + innM pre + sumM (innerS s) = b.length + innM (pre ++ [s]) := by simp [innM]; omega
        have e2 : max (cntD pre) (maxD (innerS s)) = cntD (pre ++ [s]) := by rw [cntD_snoc, cntS_eq]
        have e3 : max (cntL pre) (maxL (ownS s) (innerS s)) = cntL (pre ++ [s]) := by rw [cntL_snoc, cntS_eq]
        rw [e1, e2, e3] at h
        exact ⟨[.av (.dat (bodyI b)), .av (iv (b.length + innM pre : Nat)), .av (iv (cntD pre : Nat)), .av (iv (cntL pre : Nat)), .av (.dat (stJ s)), c5, own, c7, c8], _, by simp, h, _, _, _, _, _, rfl⟩)
    have e0 : (b.length + innM b : Nat) = cntM b := (cntM_inn b).symm
    rw [e0] at lp
    have hb : bodyI b = .list (b.map stJ) := rfl
    have bl : b1V [] .len (.av (.dat (bodyI b))) = some (.av (iv (b.length : Nat))) := by simp [bodyI]
    have c3 : cntI3 b = .tuple [.int (cntM b : Nat), .int (1 + (cntD b : Int)), .int (cntL b : Nat)] := by simp [cntI3]
    have it : evI (.seq (.var 0)) ⟨[.av (.dat (bodyI b)), .av (iv (b.length : Nat)), .av (iv 0), .av (iv 0), .emp, .emp, .emp, .emp, .emp], []⟩ = some (.fix (b.map stJ), ⟨[.av (.dat (bodyI b)), .av (iv (b.length : Nat)), .av (iv 0), .av (iv 0), .emp, .emp, .emp, .emp, .emp], []⟩) := by simp [bodyI]
    rw [c3]
    generalize bodyI b = Bb at *
    generalize b.length = n at *
    simp only [r_count, runB, ss_count]
    simp [bl, -evIe_0, it, lp]
abbrev cRules : Str := ⟨#[82, 117, 108, 101, 115]⟩
abbrev aWid : Str := ⟨#[119, 105, 100, 116, 104]⟩
abbrev aVars : Str := ⟨#[118, 97, 114, 105, 97, 98, 108, 101, 115]⟩
def RulesAt (hp : List AO) (r w v : Nat) : Prop := hp[r]? = some (.ins cRules [(aWid, iv w), (aVars, iv v)])
theorem rl_no {a b : AV} {m : Str} (h1 : (m == aWid) = false) (h2 : (m == aVars) = false) : [(aWid, a), (aVars, b)].lookup m = none := by simp [List.lookup, h1, h2]
theorem rl_wid {a b : AV} : [(aWid, a), (aVars, b)].lookup aWid = some a := by simp [List.lookup]
theorem rl_var {a b : AV} : [(aWid, a), (aVars, b)].lookup aVars = some b := by
  have : (aVars == aWid) = false := by decide
  simp [List.lookup, this]
theorem effect_write {n : Names} {vars width r : Nat} {hp : List AO} (R : RulesAt hp r width vars) {e : Ex} {ws : List Ex} (h1 : exFit n vars e = true) (h2 : depP e ≤ 5) (h3 : ws.length = width) (h4 : ∀ e ∈ ws, exFit n vars e = true ∧ depP e ≤ 5) :
    f_Rules_effect.run [.ref r, .dat (stJ (.write e ws)), .dat n.t] hp = some (.av (.dat .none), hp) := by
  unfold RulesAt at R
  have k0 := st_kind (.write e ws)
  have k1 := kind_write (.write e ws)
  have c := check_expr h1 h2
  have rq : ∀ r : Str, f_require.run [.dat (.bool true), .dat (.str r)] [] = some (.av (.dat .none), []) := fun r => req_run
  have q1 : subV hp (.av (.dat (stJ (.write e ws)))) (.av (.dat (.int 1))) = some (.dat (exI e)) := by simp [stJ]
  have q2 : subV hp (.av (.dat (stJ (.write e ws)))) (.av (.dat (.int 2))) = some (.dat (.list (ws.map exI))) := by simp [stJ]
  have k0' : subV hp (.av (.dat (stJ (.write e ws)))) (.av (.dat (.int 0))) = some (.dat (.str (kindS (.write e ws)))) := by simp [stJ, kindS]
  obtain ⟨ms', lp, c3, rfl⟩ := forL_T (tg := [3]) (body := exs lb_Rules_effect_0) exI ws
    (fun pre ms => ∃ c3, ms = ⟨[.av (.ref r), .av (.dat (stJ (.write e ws))), .av (.dat n.t), c3], hp⟩) (ms := ⟨[.av (.ref r), .av (.dat (stJ (.write e ws))), .av (.dat n.t), .emp], hp⟩) ⟨_, rfl⟩ (fun pre x post ms hj ⟨c3, q⟩ => by
      subst q
      have hx : x ∈ ws := by rw [hj]; simp
      have cx := check_expr (h4 x hx).1 (h4 x hx).2
      refine ⟨[.av (.ref r), .av (.dat (stJ (.write e ws))), .av (.dat n.t), .av (.dat (exI x))], ⟨[.av (.ref r), .av (.dat (stJ (.write e ws))), .av (.dat n.t), .av (.dat (exI x))], hp⟩, by simp, ?_, _, rfl⟩
      generalize stJ (.write e ws) = S0 at *
      generalize exI x = X0 at *
      generalize n.t = N at *
      simp [lb_Rules_effect_0, R, rl_var, cx])
  have hw : ((ws.map exI).length : Int) = (width : Int) := by simp [h3]
  have ce : cmpHV .eq hp (.av (.dat (.int (width : Int)))) (.av (.dat (.int (width : Int)))) = some true := by simp [cmpHV, RV.dh]
  generalize hL : ws.map exI = L at *
  generalize stJ (.write e ws) = S0 at *
  generalize exI e = E0 at *
  generalize n.t = N at *
  simp only [f_Rules_effect, runB, ss_Rules_effect]
  simp [k0', k1, q1, q2, R, rl_var, rl_wid, c, hw, ce, rq, lp]
theorem effect_barrier {n : Names} {r : Nat} {hp : List AO} : f_Rules_effect.run [.ref r, .dat (stJ .barrier), .dat n.t] hp = some (.av (.dat .none), hp) := by
  have k1 := kind_write .barrier
  have k0' : subV hp (.av (.dat (stJ .barrier))) (.av (.dat (.int 0))) = some (.dat (.str (kindS .barrier))) := by simp [stJ, kindS]
  generalize stJ .barrier = S0 at *
  generalize n.t = N at *
  simp only [f_Rules_effect, runB, ss_Rules_effect]
  simp [k0', k1]
theorem stmts_run {n : Names} {vars width r : Nat} {wr : Bool} {hp : List AO} (R : RulesAt hp r width vars) : ∀ (m : Nat) (b : List St), cntD b < m → stFits n vars width wr b = true →
    r_Rules_statements m [.ref r, .dat (bodyI b), .dat n.t, .dat (.bool wr)] hp = some (.av (.dat .none), hp)
  | 0, _, h, _ => absurd h (Nat.not_lt_zero _)
  | m + 1, b, hd, hf => by
    have rq : ∀ r : Str, f_require.run [.dat (.bool true), .dat (.str r)] [] = some (.av (.dat .none), []) := fun r => req_run
    have no1 : [(aWid, iv width), (aVars, iv vars)].lookup ⟨#[115, 116, 97, 116, 101, 109, 101, 110, 116, 115]⟩ = none := rl_no (by decide) (by decide)
    have no2 : [(aWid, iv width), (aVars, iv vars)].lookup f_Rules_effect.name = none := rl_no (by decide) (by decide)
    obtain ⟨ms', lp, c4, c5, rfl⟩ := forL_T (tg := [4]) (body := exs (lb_Rules_statements_0 (r_Rules_statements m))) stJ b
      (fun pre ms => ∃ c4 c5, ms = ⟨[.av (.ref r), .av (.dat (bodyI b)), .av (.dat n.t), .av (.dat (.bool wr)), c4, c5], hp⟩) (ms := ⟨[.av (.ref r), .av (.dat (bodyI b)), .av (.dat n.t), .av (.dat (.bool wr)), .emp, .emp], hp⟩) ⟨_, _, rfl⟩ (fun pre s post ms hj ⟨c4, c5, q⟩ => by
        subst q
        have hs : s ∈ b := by rw [hj]; simp
        have fs := stFits_iff.mp hf s hs
        have ds := cntD_le.mp (Nat.le_refl (cntD b)) s hs
        have k0' : subV hp (.av (.dat (stJ s))) (.av (.dat (.int 0))) = some (.dat (.str (kindS s))) := by cases s <;> simp [stJ, kindS]
        have k1 := kind_if s
        have k2 := kind_loop s
        have k3 := kind_set s
        refine ⟨[.av (.ref r), .av (.dat (bodyI b)), .av (.dat n.t), .av (.dat (.bool wr)), .av (.dat (stJ s)), c5], ⟨[.av (.ref r), .av (.dat (bodyI b)), .av (.dat n.t), .av (.dat (.bool wr)), .av (.dat (stJ s)), .av (.dat (.str (kindS s)))], hp⟩, by simp, ?_, _, _, rfl⟩
        unfold RulesAt at R
        cases s with
        | set v e =>
          simp only [stFit, Bool.and_eq_true, decide_eq_true_eq] at fs
          have c := check_expr fs.2.1 fs.2.2
          have q1 : subV hp (.av (.dat (stJ (.set v e)))) (.av (.dat (.int 1))) = some (.dat (.int v)) := by simp [stJ]
          have q2 : subV hp (.av (.dat (stJ (.set v e)))) (.av (.dat (.int 2))) = some (.dat (exI e)) := by simp [stJ]
          have hv := fs.1
          generalize stJ (.set v e) = S0 at *
          generalize exI e = E0 at *
          generalize bodyI b = Bb at *
          generalize n.t = N at *
          simp [lb_Rules_statements_0, k0', k3, q1, q2, R, rl_var, c, cmpI, hv, rq]
        | ite e x y =>
          simp only [stFit, Bool.and_eq_true, decide_eq_true_eq] at fs
          simp only [cntS] at ds
          have c := check_expr fs.1.1 fs.1.2
          have r1 := stmts_run (r := r) R m x (by omega) fs.2.1
          have r2 := stmts_run (r := r) R m y (by omega) fs.2.2
          have q1 : subV hp (.av (.dat (stJ (.ite e x y)))) (.av (.dat (.int 1))) = some (.dat (exI e)) := by simp [stJ]
          have q2 : subV hp (.av (.dat (stJ (.ite e x y)))) (.av (.dat (.int 2))) = some (.dat (bodyI x)) := by simp [stJ, stIs_eq, bodyI]
          have q3 : subV hp (.av (.dat (stJ (.ite e x y)))) (.av (.dat (.int 3))) = some (.dat (bodyI y)) := by simp [stJ, stIs_eq, bodyI]
          generalize stJ (.ite e x y) = S0 at *
          generalize exI e = E0 at *
          generalize bodyI x = Bx at *
          generalize bodyI y = By at *
          generalize bodyI b = Bb at *
          generalize n.t = N at *
          simp [lb_Rules_statements_0, k0', k1, k3, q1, q2, q3, R, rl_var, c, no1, r1, r2]
        | loop v k x =>
          simp only [stFit, Bool.and_eq_true, decide_eq_true_eq] at fs
          simp only [cntS] at ds
          have r1 := stmts_run (r := r) R m x (by omega) fs.2.2
          have q1 : subV hp (.av (.dat (stJ (.loop v k x)))) (.av (.dat (.int 1))) = some (.dat (.int v)) := by simp [stJ]
          have q2 : subV hp (.av (.dat (stJ (.loop v k x)))) (.av (.dat (.int 2))) = some (.dat (.int k)) := by simp [stJ]
          have q3 : subV hp (.av (.dat (stJ (.loop v k x)))) (.av (.dat (.int 3))) = some (.dat (bodyI x)) := by simp [stJ, stIs_eq, bodyI]
          have hv := fs.1
          have c1 : (1 : Int) ≤ (k : Int) := by omega
          have c2 : (k : Int) ≤ 8 := by omega
          have c1' : 0 < k := by omega
          generalize stJ (.loop v k x) = S0 at *
          generalize bodyI x = Bx at *
          generalize bodyI b = Bb at *
          generalize n.t = N at *
          simp [lb_Rules_statements_0, k0', k1, k2, k3, q1, q2, q3, R, rl_var, cmpI, hv, c1, c1', c2, rq, no1, r1]
        | write e ws =>
          simp only [stFit, Bool.and_eq_true, decide_eq_true_eq, List.all_eq_true] at fs
          have ef := effect_write (n := n) (r := r) R (e := e) (ws := ws) fs.2.1.1 fs.2.1.2 fs.2.2.1 fs.2.2.2
          have hwr := fs.1
          subst hwr
          generalize stJ (.write e ws) = S0 at *
          generalize bodyI b = Bb at *
          generalize n.t = N at *
          simp [lb_Rules_statements_0, k0', k1, k2, k3, R, rq, no2, ef]
        | barrier =>
          simp only [stFit] at fs
          have ef := effect_barrier (n := n) (r := r) (hp := hp)
          subst fs
          generalize stJ .barrier = S0 at *
          generalize bodyI b = Bb at *
          generalize n.t = N at *
          simp [lb_Rules_statements_0, k0', k1, k2, k3, R, rq, no2, ef])
    have it : evI (.seq (.var 1)) ⟨[.av (.ref r), .av (.dat (bodyI b)), .av (.dat n.t), .av (.dat (.bool wr)), .emp, .emp], hp⟩ = some (.fix (b.map stJ), ⟨[.av (.ref r), .av (.dat (bodyI b)), .av (.dat n.t), .av (.dat (.bool wr)), .emp, .emp], hp⟩) := by simp [bodyI]
    generalize bodyI b = Bb at *
    generalize n.t = N at *
    simp only [r_Rules_statements, runB, ss_Rules_statements]
    simp [-evIe_0, it, lp]
theorem rules_body {n : Names} {vars width r : Nat} {wr : Bool} {hp : List AO} {b : List St} (R : RulesAt hp r width vars) (h : BdyOk n vars width wr b) : f_Rules_body.run [.ref r, .dat (bodyI b), .dat n.t, .dat (.bool wr)] hp = some (.av (.dat .none), hp) := by
  have rq : ∀ r : Str, f_require.run [.dat (.bool true), .dat (.str r)] [] = some (.av (.dat .none), []) := fun r => req_run
  have c := count_run 12 b (by have := h.deep; omega)
  have s := stmts_run (n := n) (wr := wr) (r := r) R 12 b (by have := h.deep; omega) h.fit
  have no1 : [(aWid, iv width), (aVars, iv vars)].lookup ⟨#[115, 116, 97, 116, 101, 109, 101, 110, 116, 115]⟩ = none := rl_no (by decide) (by decide)
  have no2 : ∀ k, [(aWid, iv width), (aVars, iv vars)].lookup (f_Rules_statements k).name = none := fun k => no1
  have hm := h.many
  have hd := h.deep
  have hl := h.loops
  unfold RulesAt at R
  have c3 : cntI3 b = .tuple [.int (cntM b : Nat), .int ((1 + cntD b : Nat) : Int), .int (cntL b : Nat)] := rfl
  rw [c3] at c
  generalize hdd : 1 + cntD b = d1 at *
  generalize cntM b = M at *
  generalize cntL b = Lp at *
  have c1 : (M : Int) ≤ 60 := by omega
  have c2 : (d1 : Int) ≤ 4 := by omega
  have c4 : (Lp : Int) ≤ 2 := by omega
  generalize bodyI b = Bb at *
  generalize n.t = N at *
  simp only [f_Rules_body, runB, ss_Rules_body]
  simp [c, c1, c2, c4, rq, R, no2, s]
theorem check_run {s : Store} (h : StoreOk s) : ∃ hp, f_check.run [.dat (storeI s)] [] = some (.av (.dat .none), hp) := by
  have rq : ∀ r : Str, f_require.run [.dat (.bool true), .dat (.str r)] [] = some (.av (.dat .none), []) := fun r => req_run
  refine ⟨[.ins cRules [(aWid, iv s.width), (aVars, iv s.vars)]], ?_⟩
  have R : RulesAt [.ins cRules [(aWid, iv s.width), (aVars, iv s.vars)]] 0 s.width s.vars := rfl
  have b1 := rules_body R h.put
  have b2 := rules_body R h.sync
  have b3 := rules_body R h.rcv
  have b4 := rules_body R h.get
  have ce := check_expr h.gfit h.gdep
  have n1 : Names.t ⟨true, true⟩ = .tuple [.str tKey, .str tValue] := rfl
  have n2 : Names.t ⟨false, false⟩ = .tuple [] := rfl
  have n3 : Names.t ⟨true, false⟩ = .tuple [.str tKey] := rfl
  rw [n1] at b1
  rw [n2] at b2 b3
  rw [n3] at b4 ce
  have no : [(aWid, iv s.width), (aVars, iv s.vars)].lookup f_Rules_body.name = none := rl_no (by decide) (by decide)
  have h1 := h.sec
  have h2 := h.wid
  have h3 := h.key
  have h4 := h.var
  have st : storeI s = .tuple [.str tStore, .int s.sectors, .int s.width, .int s.keys, .int s.vars, bodyI s.put, bodyI s.sync, bodyI s.recover, .tuple [bodyI s.get, exI s.gexp]] := rfl
  rw [st]
  generalize s.sectors = a1 at *
  generalize s.width = a2 at *
  generalize s.keys = a3 at *
  generalize s.vars = a4 at *
  generalize bodyI s.put = B1 at *
  generalize bodyI s.sync = B2 at *
  generalize bodyI s.recover = B3 at *
  generalize bodyI s.get = B4 at *
  generalize exI s.gexp = E5 at *
  have i1 : f_Rules_init.run [.ref 0, .dat (.int a2), .dat (.int a4)] [.ins cRules []] = some (.av (.dat .none), [.ins cRules [(aWid, iv a2), (aVars, iv a4)]]) := by
    simp [f_Rules_init, runB, ss_Rules_init, putA]
  have p1 : (1 : Int) ≤ (a1 : Int) ∧ (a1 : Int) ≤ 6 := by omega
  have p2 : (1 : Int) ≤ (a2 : Int) ∧ (a2 : Int) ≤ 4 := by omega
  have p3 : (1 : Int) ≤ (a3 : Int) ∧ (a3 : Int) ≤ 3 := by omega
  have p4 : (a4 : Int) ≤ 8 := by omega
  have bt : bindT [1, 2, 3, 4, 5, 6, 7, 8, 9] (.tuple [.str tStore, .int a1, .int a2, .int a3, .int a4, B1, B2, B3, .tuple [B4, E5]]) [.av (.dat (.tuple [.str tStore, .int a1, .int a2, .int a3, .int a4, B1, B2, B3, .tuple [B4, E5]])), .emp, .emp, .emp, .emp, .emp, .emp, .emp, .emp, .emp, .emp] = some [.av (.dat (.tuple [.str tStore, .int a1, .int a2, .int a3, .int a4, B1, B2, B3, .tuple [B4, E5]])), .av (.dat (.str tStore)), .av (iv a1), .av (iv a2), .av (iv a3), .av (iv a4), .av (.dat B1), .av (.dat B2), .av (.dat B3), .av (.dat (.tuple [B4, E5])), .emp] := rfl
  simp only [f_check, runB, ss_check]
  simp [bt, cmpI, p1, p2, p3, p4, rq, i1, no, b1, b2, b3, b4, ce]
end Sv

/-! Sv: how long the repr of data is. -/
namespace Sv
open PySem
/-- data whose repr is short: w bounds the text, k the depth -/
structure Shw (w k : Nat) (d : PyData) : Prop where
  sm : Sm w d.shown
  able : d.showable = true
  nod : d.hasDict = false
  dep : dep d ≤ k
theorem Shw.mono {w k w' k' : Nat} {d : PyData} (h : Shw w k d) (a : w ≤ w') (b : k ≤ k') : Shw w' k' d := ⟨h.sm.le a, h.able, h.nod, Nat.le_trans h.dep b⟩
inductive ShwL (k : Nat) : Nat → List PyData → Prop
  | nil : ShwL k 0 []
  | cons {w v : Nat} {d : PyData} {ds : List PyData} : Shw w k d → ShwL k v ds → ShwL k (w + 2 + v) (d :: ds)
theorem shownAll_eq : ∀ xs : List PyData, PyData.shownAll xs = xs.map PyData.shown
  | [] => rfl
  | x :: xs => by simp [PyData.shownAll, shownAll_eq xs]
theorem ableAll : ∀ {xs : List PyData}, (∀ x ∈ xs, x.showable = true) → PyData.showableAll xs = true
  | [], _ => rfl
  | x :: xs, h => by simp [PyData.showableAll, h x (List.mem_cons_self ..), ableAll fun y hy => h y (List.mem_cons_of_mem _ hy)]
theorem nodAll : ∀ {xs : List PyData}, (∀ x ∈ xs, x.hasDict = false) → PyData.hasDictAll xs = false
  | [], _ => rfl
  | x :: xs, h => by simp [PyData.hasDictAll, h x (List.mem_cons_self ..), nodAll fun y hy => h y (List.mem_cons_of_mem _ hy)]
theorem ShwL.mono {k v v' : Nat} {ds : List PyData} (h : ShwL k v ds) (a : v = v') : ShwL k v' ds := a ▸ h
theorem ShwL.facts {k v : Nat} {ds : List PyData} (h : ShwL k v ds) : PyData.showableAll ds = true ∧ PyData.hasDictAll ds = false ∧ Sv.deps ds ≤ k := by
  induction h with
  | nil => exact ⟨rfl, rfl, Nat.zero_le _⟩
  | cons p _ ih => exact ⟨by simp [PyData.showableAll, p.able, ih.1], by simp [PyData.hasDictAll, p.nod, ih.2.1], by rw [deps_cons]; exact Nat.max_le.mpr ⟨p.dep, ih.2.2⟩⟩
theorem ShwL.from {k v : Nat} {ds : List PyData} (h : ShwL k v ds) : ∀ {a j : Nat} {acc : Str}, Sm a acc → Sm (a + v) (textFrom j acc (PyData.shownAll ds)) := by
  induction h with
  | nil => intro a j acc h; exact h
  | @cons w v d ds p _ ih =>
    intro a j acc h
    have sep : Sm 2 (((if j > 0 then ", " else "" : String) : Str)) := by split <;> exact ⟨by decide, by decide⟩
    have h1 := (h.app sep).app p.sm
    have h2 := ih (j := j + 1) h1
    exact Sm.le (n := a + 2 + w + v) h2 (by omega)
theorem ShwL.join {k v : Nat} {ds : List PyData} (h : ShwL k v ds) : Sm v (Str.join ", " (PyData.shownAll ds)) := by
  induction h with
  | nil => exact ⟨by decide, by decide⟩
  | @cons w v d ds p q ih =>
    cases q with
    | nil => exact p.sm.le (by omega)
    | @cons w2 v2 d2 ds2 p2 q2 =>
      have sep : Sm 2 (((", " : String) : Str)) := ⟨by decide, by decide⟩
      have h1 := (p.sm.app sep).app ih
      exact Sm.le (n := w + 2 + (w2 + 2 + v2)) h1 (by omega)
theorem Shw.list {k v : Nat} {ds : List PyData} (h : ShwL k v ds) : Shw (v + 2) (k + 1) (.list ds) := by
  obtain ⟨f1, f2, f3⟩ := h.facts
  refine ⟨?_, by simp only [PyData.showable]; exact f1, by simp only [PyData.hasDict]; exact f2, by rw [dep_list]; omega⟩
  have o : Sm 1 (("[" : String) : Str) := ⟨by decide, by decide⟩
  have c : Sm 1 (("]" : String) : Str) := ⟨by decide, by decide⟩
  have := (h.from (j := 0) o).app c
  simp only [PyData.shown, listText]
  exact this.le (by omega)
theorem Shw.tuple {k v : Nat} {ds : List PyData} (h : ShwL k v ds) : Shw (v + 3) (k + 1) (.tuple ds) := by
  obtain ⟨f1, f2, f3⟩ := h.facts
  refine ⟨?_, by simp only [PyData.showable]; exact f1, by simp only [PyData.hasDict]; exact f2, by rw [dep_tuple]; omega⟩
  have o : Sm 1 (("(" : String) : Str) := ⟨by decide, by decide⟩
  have c : ∀ b : Bool, Sm 2 (((if b then ",)" else ")" : String) : Str)) := fun b => by cases b <;> exact ⟨by decide, by decide⟩
  have := (o.app h.join).app (c ((PyData.shownAll ds).length == 1))
  simp only [PyData.shown, tupleText]
  exact this.le (by omega)
theorem ShwL.map {α : Type} {e : α → PyData} {w k : Nat} : ∀ {xs : List α}, (∀ x ∈ xs, Shw w k (e x)) → ShwL k (xs.length * (w + 2)) (xs.map e)
  | [], _ => ShwL.nil.mono (by simp)
  | x :: xs, h => (ShwL.cons (h x (List.mem_cons_self ..)) (ShwL.map fun y hy => h y (List.mem_cons_of_mem _ hy))).mono (by rw [List.length_cons, Nat.add_mul]; omega)
theorem Shw.int {n k : Nat} (h : n < 256) : Shw 3 k (.int n) := by
  refine ⟨?_, ?_, rfl, by simp⟩
  · have := istr_sm (i := (n : Int)) (by omega) (by omega)
    exact this
  · simp only [PyData.showable, decide_eq_true_eq]
    have : (n : Int).natAbs.log2 ≤ n := by
      simp only [Int.natAbs_natCast]
      exact Nat.log2_le_self n
    omega
theorem Shw.str {x : Str} {k : Nat} (h : Sm 9 (reprText x)) (h2 : x.cps.toList.all (fun c => decide (c < 1114112)) = true) : Shw 9 k (.str x) := by
  refine ⟨by simp only [PyData.shown]; exact h, by simp only [PyData.showable], rfl, by rw [dep_str h2]; omega⟩
theorem shw_kinds {k : Nat} : ∀ x ∈ [tNum, tVar, tKey, tValue, tNot, tSum, tRead, tSet, tIf, tLoop, tWrite, tBarrier, tStore], Shw 9 k (.str x) := by
  intro x hx
  simp only [List.mem_cons, List.not_mem_nil, or_false] at hx
  rcases hx with rfl | rfl | rfl | rfl | rfl | rfl | rfl | rfl | rfl | rfl | rfl | rfl | rfl <;> exact Shw.str ⟨by decide +kernel, by decide +kernel⟩ (by decide)
theorem shw_op {k : Nat} (o : Bop) : Shw 9 k (.str o.t) := by cases o <;> exact Shw.str ⟨by decide +kernel, by decide +kernel⟩ (by decide)
/-- a bound for an expression of depth d -/
def exW : Nat → Nat
  | 0 => 19
  | d + 1 => 2 * exW d + 18
theorem exW_mono : ∀ {a b : Nat}, a ≤ b → exW a ≤ exW b
  | 0, 0, _ => Nat.le_refl _
  | a + 1, 0, h => absurd h (by omega)
  | 0, b + 1, _ => by
    have := exW_mono (a := 0) (b := b) (Nat.zero_le _)
    simp only [exW] at this ⊢
    omega
  | a + 1, b + 1, h => by
    have := exW_mono (a := a) (b := b) (by omega)
    simp only [exW]
    omega
theorem depP_pos (e : Ex) : 1 ≤ depP e := by cases e <;> simp [depP]
theorem exW_succ {d : Nat} (h : 1 ≤ d) : exW d = 2 * exW (d - 1) + 18 := by
  obtain ⟨k, rfl⟩ : ∃ k, d = k + 1 := ⟨d - 1, by omega⟩
  rfl
theorem shw_ex {n : Names} {vars : Nat} (hv : vars ≤ 256) : ∀ (e : Ex), exFit n vars e = true → Shw (exW (depP e - 1)) (depP e) (exI e)
  | .num i, h => by
    simp only [exFit, decide_eq_true_eq] at h
    exact (Shw.tuple ((ShwL.cons (shw_kinds (k := 0) tNum (by simp)) (.cons (.int (by omega)) .nil)))).mono (by simp [depP, exW]) (by simp [depP])
  | .var i, h => by
    simp only [exFit, decide_eq_true_eq] at h
    exact (Shw.tuple ((ShwL.cons (shw_kinds (k := 0) tVar (by simp)) (.cons (.int (by omega)) .nil)))).mono (by simp [depP, exW]) (by simp [depP])
  | .key, h => (Shw.tuple (ShwL.cons (shw_kinds (k := 0) tKey (by simp)) .nil)).mono (by simp [depP, exW]) (by simp [depP])
  | .value, h => (Shw.tuple (ShwL.cons (shw_kinds (k := 0) tValue (by simp)) .nil)).mono (by simp [depP, exW]) (by simp [depP])
  | .not a, h => by
    have ha := shw_ex hv a h
    have hp := exW_succ (depP_pos a)
    exact (Shw.tuple (ShwL.cons (shw_kinds (k := depP a) tNot (by simp)) (.cons ha .nil))).mono (by simp only [depP, Nat.add_sub_cancel]; omega) (by simp [depP])
  | .sum a, h => by
    have ha := shw_ex hv a h
    have hp := exW_succ (depP_pos a)
    exact (Shw.tuple (ShwL.cons (shw_kinds (k := depP a) tSum (by simp)) (.cons ha .nil))).mono (by simp only [depP, Nat.add_sub_cancel]; omega) (by simp [depP])
  | .read a b, h => by
    simp only [exFit, Bool.and_eq_true] at h
    have l1 := depP_pos a
    have hp := exW_succ (d := max (depP a) (depP b)) (by omega)
    have ha := (shw_ex hv a h.1).mono (exW_mono (show depP a - 1 ≤ max (depP a) (depP b) - 1 by omega)) (Nat.le_max_left _ (depP b))
    have hb := (shw_ex hv b h.2).mono (exW_mono (show depP b - 1 ≤ max (depP a) (depP b) - 1 by omega)) (Nat.le_max_right (depP a) _)
    exact (Shw.tuple (ShwL.cons (shw_kinds (k := max (depP a) (depP b)) tRead (by simp)) (.cons ha (.cons hb .nil)))).mono (by simp only [depP, Nat.add_sub_cancel]; omega) (by simp [depP])
  | .op o a b, h => by
    simp only [exFit, Bool.and_eq_true] at h
    have l1 := depP_pos a
    have hp := exW_succ (d := max (depP a) (depP b)) (by omega)
    have ha := (shw_ex hv a h.1).mono (exW_mono (show depP a - 1 ≤ max (depP a) (depP b) - 1 by omega)) (Nat.le_max_left _ (depP b))
    have hb := (shw_ex hv b h.2).mono (exW_mono (show depP b - 1 ≤ max (depP a) (depP b) - 1 by omega)) (Nat.le_max_right (depP a) _)
    exact (Shw.tuple (ShwL.cons (shw_op (k := max (depP a) (depP b)) o) (.cons ha (.cons hb .nil)))).mono (by simp only [depP, Nat.add_sub_cancel]; omega) (by simp [depP])
theorem shw_ex5 {n : Names} {vars : Nat} {e : Ex} (hv : vars ≤ 256) (h : exFit n vars e = true) (hd : depP e ≤ 5) : Shw 574 5 (exI e) := (shw_ex hv e h).mono (Nat.le_trans (exW_mono (show depP e - 1 ≤ 4 by omega)) (by decide)) hd
theorem ShwL.deep {k k' v : Nat} {ds : List PyData} (h : ShwL k v ds) (a : k ≤ k') : ShwL k' v ds := by
  induction h with
  | nil => exact .nil
  | cons p _ ih => exact .cons (p.mono (Nat.le_refl _) a) ih
mutual
theorem shw_st {n : Names} {vars width : Nat} {wr : Bool} (hv : vars ≤ 256) (hw : width ≤ 4) : ∀ s : St, stFit n vars width wr s = true → ∃ w, w + 2 ≤ 2952 * (cntS s).1 ∧ Shw w (2 * (cntS s).2.1 + 7) (stJ s)
  | .set v e, h => by
    simp only [stFit, Bool.and_eq_true, decide_eq_true_eq] at h
    exact ⟨2950, by simp [cntS], (Shw.tuple (ShwL.cons (shw_kinds (k := 5) tSet (by simp)) (.cons (.int (by omega)) (.cons (shw_ex5 hv h.2.1 h.2.2) .nil)))).mono (by simp) (by simp [cntS])⟩
  | .ite c a b, h => by
    simp only [stFit, Bool.and_eq_true, decide_eq_true_eq] at h
    obtain ⟨va, la, ha⟩ := shw_sts hv hw a h.2.1
    obtain ⟨vb, lb, hb⟩ := shw_sts hv hw b h.2.2
    have h1 := Shw.list (ha.deep (show 2 * cntD a + 7 ≤ 2 * max (cntD a) (cntD b) + 7 by omega))
    have h2 := Shw.list (hb.deep (show 2 * cntD b + 7 ≤ 2 * max (cntD a) (cntD b) + 7 by omega))
    rw [stJ]
    exact ⟨_, by simp only [cntS]; omega, (Shw.tuple (ShwL.cons (shw_kinds (k := 2 * max (cntD a) (cntD b) + 7 + 1) tIf (by simp)) (.cons ((shw_ex5 hv h.1.1 h.1.2).mono (Nat.le_refl _) (by omega)) (.cons h1 (.cons h2 .nil))))).mono (Nat.le_refl _) (by simp only [cntS]; omega)⟩
  | .loop v k b, h => by
    simp only [stFit, Bool.and_eq_true, decide_eq_true_eq] at h
    obtain ⟨vb, lb, hb⟩ := shw_sts hv hw b h.2.2
    have h2 := Shw.list hb
    rw [stJ]
    exact ⟨_, by simp only [cntS]; omega, (Shw.tuple (ShwL.cons (shw_kinds (k := 2 * cntD b + 7 + 1) tLoop (by simp)) (.cons (.int (by omega)) (.cons (.int (by omega)) (.cons h2 .nil))))).mono (Nat.le_refl _) (by simp only [cntS]; omega)⟩
  | .write e ws, h => by
    simp only [stFit, Bool.and_eq_true, decide_eq_true_eq, List.all_eq_true] at h
    have h1 := Shw.list (ShwL.map (e := exI) (w := 574) (k := 5) (xs := ws) fun x hx => shw_ex5 hv (h.2.2.2 x hx).1 (h.2.2.2 x hx).2)
    have h2 : ws.length * (574 + 2) ≤ 4 * (574 + 2) := Nat.mul_le_mul_right _ (by omega)
    rw [stJ]
    exact ⟨_, by simp only [cntS]; omega, (Shw.tuple (ShwL.cons (shw_kinds (k := 6) tWrite (by simp)) (.cons ((shw_ex5 hv h.2.1.1 h.2.1.2).mono (Nat.le_refl _) (by omega)) (.cons h1 .nil)))).mono (Nat.le_refl _) (by simp [cntS])⟩
  | .barrier, h => ⟨2950, by simp [cntS], (Shw.tuple (ShwL.cons (shw_kinds (k := 0) tBarrier (by simp)) .nil)).mono (by simp) (by simp [cntS])⟩
theorem shw_sts {n : Names} {vars width : Nat} {wr : Bool} (hv : vars ≤ 256) (hw : width ≤ 4) : ∀ l : List St, stFits n vars width wr l = true → ∃ v, v ≤ 2952 * cntM l ∧ ShwL (2 * cntD l + 7) v (stIs l)
  | [], _ => ⟨0, Nat.zero_le _, .nil⟩
  | s :: l, h => by
    simp only [stFits, Bool.and_eq_true] at h
    obtain ⟨w, lw, hs⟩ := shw_st hv hw s h.1
    obtain ⟨v, lv, hl⟩ := shw_sts hv hw l h.2
    exact ⟨w + 2 + v, by simp only [cntM]; omega, .cons (hs.mono (Nat.le_refl _) (by simp only [cntD]; omega)) (hl.deep (by simp only [cntD]; omega))⟩
end
theorem shw_body {n : Names} {vars width : Nat} {wr : Bool} {b : List St} (hv : vars ≤ 256) (hw : width ≤ 4) (h : BdyOk n vars width wr b) : Shw 177122 14 (bodyI b) := by
  obtain ⟨v, lv, hl⟩ := shw_sts hv hw b h.fit
  have hm := h.many
  have hd := h.deep
  have := Shw.list hl
  rw [stIs_eq] at this
  exact this.mono (by omega) (by omega)
theorem shw_store {s : Store} (h : StoreOk s) : Shw 800000 20 (storeI s) := by
  have hv := h.var
  have hw := h.wid
  have hs := h.sec
  have hk := h.key
  have b1 := shw_body (by omega) (by omega) h.put
  have b2 := shw_body (by omega) (by omega) h.sync
  have b3 := shw_body (by omega) (by omega) h.rcv
  have b4 := shw_body (by omega) (by omega) h.get
  have e5 := (shw_ex5 (by omega) h.gfit h.gdep).mono (Nat.le_refl _) (show 5 ≤ 14 by omega)
  have g := Shw.tuple (ShwL.cons b4 (.cons e5 .nil))
  exact (Shw.tuple (ShwL.cons (shw_kinds (k := 15) tStore (by simp)) (.cons (.int (by omega)) (.cons (.int (by omega)) (.cons (.int (by omega)) (.cons (.int (by omega)) (.cons (b1.mono (Nat.le_refl _) (by omega)) (.cons (b2.mono (Nat.le_refl _) (by omega)) (.cons (b3.mono (Nat.le_refl _) (by omega)) (.cons g .nil)))))))))).mono (by omega) (by omega)
theorem repr_store {s : Store} (h : StoreOk s) : reprV (.av (.dat (storeI s))) = some (.av (.dat (.str (storeI s).shown))) := by
  obtain ⟨h1, h2, h3, h4⟩ := shw_store h
  have h5 := h1.1
  exact if_pos ⟨rfl, h2, by omega, h3, by omega⟩
theorem repr_same {s : Store} (h : StoreOk s) : cmpV .ne (.av (.dat (.str (storeI s).shown))) (.av (.dat (.str (storeI s).shown))) = some false := by
  obtain ⟨h1, h2, h3, h4⟩ := shw_store h
  have d := h1.dep
  rw [cmp_ne (by omega) (by omega), eqq_str, decide_eq_true rfl]
  rfl
end Sv

namespace K02
open Sv PySem
/-- _law_large(state): 0 state 1 e 2 k 3 inner 4 put 5 many -/
def lb__law_large_0 : Ss := (.cons (.set 1 (.sub (.lst (.cons (.tup (.cons (.lit (.str ⟨#[110, 111, 116]⟩)) (.cons (.var 1) .nil))) (.cons (.tup (.cons (.lit (.str ⟨#[115, 117, 109]⟩)) (.cons (.var 1) .nil))) (.cons (.tup (.cons (.lit (.str ⟨#[43]⟩)) (.cons (.var 1) (.cons (.tup (.cons (.lit (.str ⟨#[118, 97, 114]⟩)) (.cons (.lit (.int 7)) .nil))) .nil)))) (.cons (.tup (.cons (.lit (.str ⟨#[114, 101, 97, 100]⟩)) (.cons (.tup (.cons (.lit (.str ⟨#[110, 117, 109]⟩)) (.cons (.lit (.int 3)) .nil))) (.cons (.var 1) .nil)))) .nil))))) (.call f__law_draw (.cons (.var 0) (.cons (.lit (.int 4)) .nil)))))
  .nil)
def ss__law_large : Ss := (.cons (.set 1 (.tup (.cons (.lit (.str ⟨#[110, 117, 109]⟩)) (.cons (.lit (.int 15)) .nil))))
  (.cons (.for_ [2] (.range1 (.lit (.int 4))) lb__law_large_0)
  (.cons (.set 3 (.lst (.cons (.tup (.cons (.lit (.str ⟨#[108, 111, 111, 112]⟩)) (.cons (.lit (.int 7)) (.cons (.lit (.int 8)) (.cons (.lst (.cons (.tup (.cons (.lit (.str ⟨#[119, 114, 105, 116, 101]⟩)) (.cons (.var 1) (.cons (.lst (.cons (.var 1) (.cons (.tup (.cons (.lit (.str ⟨#[110, 117, 109]⟩)) (.cons (.lit (.int 0)) .nil))) (.cons (.tup (.cons (.lit (.str ⟨#[110, 117, 109]⟩)) (.cons (.lit (.int 1)) .nil))) (.cons (.var 1) .nil))))) .nil)))) .nil)) .nil))))) .nil)))
  (.cons (.set 4 (.lst (.cons (.tup (.cons (.lit (.str ⟨#[105, 102]⟩)) (.cons (.tup (.cons (.lit (.str ⟨#[110, 117, 109]⟩)) (.cons (.lit (.int 1)) .nil))) (.cons (.lst (.cons (.tup (.cons (.lit (.str ⟨#[108, 111, 111, 112]⟩)) (.cons (.lit (.int 0)) (.cons (.lit (.int 8)) (.cons (.var 3) .nil))))) .nil)) (.cons (.lst (.cons (.tup (.cons (.lit (.str ⟨#[98, 97, 114, 114, 105, 101, 114]⟩)) .nil)) .nil)) .nil))))) .nil)))
  (.cons (.set 5 (.bin .sub (.lit (.int 60)) (.lit (.int 5))))
  (.cons (.set 4 (.bin .add (.var 4) (.comp (.tup (.cons (.lit (.str ⟨#[115, 101, 116]⟩)) (.cons (.call f__law_draw (.cons (.var 0) (.cons (.lit (.int 8)) .nil))) (.cons (.tup (.cons (.lit (.str ⟨#[118, 97, 108, 117, 101]⟩)) .nil)) .nil)))) [2] (.range1 (.var 5)) .nil)))
  (.cons (.ret (.tup (.cons (.lit (.str ⟨#[115, 116, 111, 114, 101]⟩)) (.cons (.lit (.int 6)) (.cons (.lit (.int 4)) (.cons (.lit (.int 3)) (.cons (.lit (.int 8)) (.cons (.var 4) (.cons (.bin .mul (.lst (.cons (.tup (.cons (.lit (.str ⟨#[98, 97, 114, 114, 105, 101, 114]⟩)) .nil)) .nil)) (.lit (.int 60))) (.cons (.lst .nil) (.cons (.tup (.cons (.lst (.cons (.tup (.cons (.lit (.str ⟨#[105, 102]⟩)) (.cons (.var 1) (.cons (.lst .nil) (.cons (.lst .nil) .nil))))) .nil)) (.cons (.var 1) .nil))) .nil)))))))))))
  .nil)))))))
def f__law_large : Fn := ⟨⟨#[95, 108, 97, 119, 95, 108, 97, 114, 103, 101]⟩, runB 6 1 ss__law_large⟩
/-- _law_depth(e): 0 e 1 deepest 2 part -/
def lb__law_depth_0 (r__law_depth : List AV → List AO → Option (RV × List AO)) : Ss := (.cons (.ite (.isi (.var 2) ⟨#[116, 117, 112, 108, 101]⟩) (.cons (.set 1 (.mx false (.var 1) (.callP ⟨⟨#[95, 108, 97, 119, 95, 100, 101, 112, 116, 104]⟩, r__law_depth⟩ (.cons (.var 2) .nil))))
  .nil) .nil)
  .nil)
def ss__law_depth (r__law_depth : List AV → List AO → Option (RV × List AO)) : Ss := (.cons (.set 1 (.lit (.int 0)))
  (.cons (.for_ [2] (.seq (.slice (.var 0) (.cons (.lit (.int 1)) .nil) .nil)) (lb__law_depth_0 r__law_depth))
  (.cons (.ret (.bin .add (.lit (.int 1)) (.var 1)))
  .nil)))
def r__law_depth : Nat → List AV → List AO → Option (RV × List AO)
  | 0 => fun _ _ => none
  | n + 1 => runB 3 1 (ss__law_depth (r__law_depth n))
def f__law_depth (n : Nat) : Fn := ⟨⟨#[95, 108, 97, 119, 95, 100, 101, 112, 116, 104]⟩, r__law_depth n⟩
/-- law(script): 0 script 1 state 2 store 3 kept 4 e 5 told -/
def st_law_0 : S := (.set 1 (.call f__law_state (.cons (.var 0) .nil)))
def st_law_1 : S := (.set 2 (.call f__law_store (.cons (.var 1) .nil)))
def st_law_2 : S := (.ite (.cmp .eq (.call f__law_draw (.cons (.var 1) (.cons (.lit (.int 3)) .nil))) (.lit (.int 0))) (.cons (.set 2 (.call f__law_large (.cons (.var 1) .nil)))
  .nil) .nil)
def st_law_3 : S := (.set 3 (.repr (.var 2)))
def st_law_4 : S := (.ite (.or (.isnone true (.callP f_check (.cons (.var 2) .nil))) (.cmp .ne (.repr (.var 2)) (.var 3))) (.cons (.ret (.lit (.bool false)))
  .nil) .nil)
def st_law_5 : S := (.set 4 (.call (f__law_expr 12) (.cons (.var 1) (.cons (.lst (.cons (.lit (.str ⟨#[107, 101, 121]⟩)) .nil)) (.cons (.lit (.int 3)) (.cons (.bin .add (.lit (.int 1)) (.call f__law_draw (.cons (.var 1) (.cons (.lit (.int 6)) .nil)))) .nil))))))
def st_law_6 : S := (.set 5 (.callP (f_depth 12) (.cons (.var 4) .nil)))
def st_law_7 : S := (.ret (.and (.isi (.var 5) ⟨#[105, 110, 116]⟩) (.and (.not (.isi (.var 5) ⟨#[98, 111, 111, 108]⟩)) (.cmp .eq (.var 5) (.callP (f__law_depth 12) (.cons (.var 4) .nil))))))
def ss_law : Ss := (.cons st_law_0 (.cons st_law_1 (.cons st_law_2 (.cons st_law_3 (.cons st_law_4 (.cons st_law_5 (.cons st_law_6 (.cons st_law_7 .nil))))))))
def f_law : Fn := ⟨⟨#[108, 97, 119]⟩, runB 6 1 ss_law⟩
end K02

namespace K02
open Sv PySem
theorem isi_tup {xs : List PyData} : isiV (.av (.dat (.tuple xs))) ⟨#[116, 117, 112, 108, 101]⟩ = some true := isi_of (d := .tuple xs) rfl (.inr (.inr (.inr (.inl rfl)))) (by show (decide ((⟨#[116, 117, 112, 108, 101]⟩ : Str) = ⟨#[116, 117, 112, 108, 101]⟩) || _) = true; simp)
theorem isi_int_tup {i : Int} : isiV (.av (.dat (.int i))) ⟨#[116, 117, 112, 108, 101]⟩ = some false := isi_of (d := .int i) rfl (.inr (.inr (.inr (.inl rfl)))) (by show (decide ((⟨#[105, 110, 116]⟩ : Str) = ⟨#[116, 117, 112, 108, 101]⟩) || (decide ((⟨#[116, 117, 112, 108, 101]⟩ : Str) = sInt) && decide ((⟨#[105, 110, 116]⟩ : Str) = sBool))) = false; decide)
theorem isi_ex (e : Ex) : isiV (.av (.dat (exI e))) ⟨#[116, 117, 112, 108, 101]⟩ = some true := by rw [exI_eq]; exact isi_tup
theorem cut_tail (k : Str) (r : List PyData) : sliceV (.av (.dat (.tuple (.str k :: r)))) (some 1) none = some (.av (.dat (.tuple r))) := by
  have := cut_drop (PyData.str k :: r) 1
  show some (RV.av (.dat (.tuple (cutD (PyData.str k :: r) (some 1) none)))) = _
  have e : ((1 : Nat) : Int) = 1 := rfl
  rw [e] at this
  rw [this]
  rfl
theorem law_depth_run : ∀ (m : Nat) (e : Ex), depP e ≤ m → r__law_depth m [.dat (exI e)] [] = some (.av (.dat (.int (depP e : Nat))), [])
  | 0, e, h => by cases e <;> simp [depP] at h
  | m + 1, e, h => by
    have sl : sliceV (.av (.dat (exI e))) (some 1) none = some (.av (.dat (.tuple (restI e)))) := by rw [exI_eq]; exact cut_tail _ _
    have ih : ∀ x ∈ partsP e, r__law_depth m [.dat (exI x)] [] = some (.av (.dat (.int (depP x : Nat))), []) := fun x hx => law_depth_run m x (by have := depP_mem hx; omega)
    have two : ∀ a b : Ex, mxI false (mxI false 0 (depP a : Nat)) (depP b : Nat) = ((max (depP a) (depP b) : Nat) : Int) := fun a b => by
      rw [show (0 : Int) = ((0 : Nat) : Int) from rfl, mxI_nat, mxI_nat]
      congr 1
      try omega
    have one : ∀ a : Ex, mxI false 0 (depP a : Nat) = ((depP a : Nat) : Int) := fun a => by
      rw [show (0 : Int) = ((0 : Nat) : Int) from rfl, mxI_nat]
      congr 1
      try omega
    simp only [r__law_depth, runB, ss__law_depth]
    cases e with
    | num i => generalize exI (.num i) = E0 at *; simp [sl, restI, forL_cons, lb__law_depth_0, isi_int_tup, depP]
    | var i => generalize exI (.var i) = E0 at *; simp [sl, restI, forL_cons, lb__law_depth_0, isi_int_tup, depP]
    | key => generalize exI .key = E0 at *; simp [sl, restI, depP]
    | value => generalize exI .value = E0 at *; simp [sl, restI, depP]
    | not a =>
      have r1 := ih a (by simp [partsP])
      have i1 := isi_ex a
      generalize exI (.not a) = E0 at *
      generalize hA : exI a = A at *
      simp [sl, restI, hA, forL_cons, lb__law_depth_0, i1, r1, one, depP]
      try omega
    | sum a =>
      have r1 := ih a (by simp [partsP])
      have i1 := isi_ex a
      generalize exI (.sum a) = E0 at *
      generalize hA : exI a = A at *
      simp [sl, restI, hA, forL_cons, lb__law_depth_0, i1, r1, one, depP]
      try omega
    | read a b =>
      have r1 := ih a (by simp [partsP])
      have r2 := ih b (by simp [partsP])
      have i1 := isi_ex a
      have i2 := isi_ex b
      have t := two a b
      generalize exI (.read a b) = E0 at *
      generalize hA : exI a = A at *
      generalize hB : exI b = B at *
      simp [sl, restI, hA, hB, forL_cons, lb__law_depth_0, i1, i2, r1, r2, t, depP]
      try omega
    | op o a b =>
      have r1 := ih a (by simp [partsP])
      have r2 := ih b (by simp [partsP])
      have i1 := isi_ex a
      have i2 := isi_ex b
      have t := two a b
      generalize exI (.op o a b) = E0 at *
      generalize hA : exI a = A at *
      generalize hB : exI b = B at *
      simp [sl, restI, hA, hB, forL_cons, lb__law_depth_0, i1, i2, r1, r2, t, depP]
      try omega
end K02

namespace K02
open Sv PySem
def largeOk (d : Nat) (e : Ex) : Prop := exFit ⟨true, true⟩ 8 e = true ∧ exFit ⟨true, false⟩ 8 e = true ∧ depP e = d
theorem large_loop {hp : List AO} (W : DrawOk hp) : ∃ e c2 hp', forL [2] (exs lb__law_large_0) ((List.range 4).map fun k : Nat => PyData.int (k : Int)) ⟨[.av (.ref 1), .av (.dat (exI (.num 15))), .emp, .emp, .emp, .emp], hp⟩ = some (.nx, ⟨[.av (.ref 1), .av (.dat (exI e)), c2, .emp, .emp, .emp], hp'⟩) ∧ DrawOk hp' ∧ largeOk 5 e ∧ ∀ ys, c2 ≠ .own ys := by
  obtain ⟨ms', h, e, c2, hp', rfl, W', ok, hc⟩ := forL_T (tg := [2]) (body := exs lb__law_large_0) (fun k : Nat => PyData.int (k : Int)) (List.range 4)
    (fun pre ms => ∃ e c2 hp', ms = ⟨[.av (.ref 1), .av (.dat (exI e)), c2, .emp, .emp, .emp], hp'⟩ ∧ DrawOk hp' ∧ largeOk (pre.length + 1) e ∧ ∀ ys, c2 ≠ .own ys) (ms := ⟨[.av (.ref 1), .av (.dat (exI (.num 15))), .emp, .emp, .emp, .emp], hp⟩) ⟨.num 15, .emp, hp, rfl, W, ⟨rfl, rfl, rfl⟩, fun _ z => by cases z⟩ (fun pre k post ms hj ⟨e, c2, hp', q, W, ⟨o1, o2, o3⟩, _⟩ => by
      subst q
      obtain ⟨v, hp2, e2, W2, F2, hv⟩ := draw_n W (m := 4) (by omega) (by omega)
      have e2' : f__law_draw.run [.ref 1, .dat (.int 4)] hp' = some (.av (iv v), hp2) := e2
      obtain ⟨x, hx, ox⟩ : ∃ x : Ex, atD ([.tuple [.str tNot, exI e], .tuple [.str tSum, exI e], .tuple [.str ⟨#[43]⟩, exI e, .tuple [.str tVar, .int 7]], .tuple [.str tRead, .tuple [.str tNum, .int 3], exI e]] : List PyData) (v : Int) = some (exI x) ∧ largeOk (pre.length + 1 + 1) x := by
        match v, hv with
        | 0, _ => exact ⟨.not e, by simp [exI], by simpa [exFit] using o1, by simpa [exFit] using o2, by simp [depP, o3]⟩
        | 1, _ => exact ⟨.sum e, by simp [exI], by simpa [exFit] using o1, by simpa [exFit] using o2, by simp [depP, o3]⟩
        | 2, _ => exact ⟨.op .add e (.var 7), by simp [exI, Bop.t], by simpa [exFit] using o1, by simpa [exFit] using o2, by simp [depP, o3]⟩
        | 3, _ => exact ⟨.read (.num 3) e, by simp [exI], by simpa [exFit] using o1, by simpa [exFit] using o2, by simp [depP, o3]⟩
      refine ⟨[.av (.ref 1), .av (.dat (exI e)), .av (.dat (.int k)), .emp, .emp, .emp], ⟨[.av (.ref 1), .av (.dat (exI x)), .av (.dat (.int k)), .emp, .emp, .emp], hp2⟩, by simp, ?_, x, _, hp2, rfl, W2, by simpa using ox, fun _ z => by cases z⟩
      generalize exI x = X at *
      generalize exI e = E0 at *
      simp [lb__law_large_0, e2', hx])
  exact ⟨e, c2, hp', h, W', ok, hc⟩
def setsP (vs : List Nat) : List St := vs.map fun v => .set v .value
def largeS (e : Ex) (vs : List Nat) : Store := ⟨6, 4, 3, 8, .ite (.num 1) [.loop 0 8 [.loop 7 8 [.write e [e, .num 0, .num 1, e]]]] [.barrier] :: setsP vs, List.replicate 60 .barrier, [], [.ite e [] []], e⟩
theorem sets_cnt (vs : List Nat) : cntM (setsP vs) = vs.length ∧ cntD (setsP vs) = 0 ∧ cntL (setsP vs) = 0 := by
  induction vs with
  | nil => exact ⟨rfl, rfl, rfl⟩
  | cons v vs ih =>
    obtain ⟨h1, h2, h3⟩ := ih
    unfold setsP at *
    simp only [List.map_cons, cntM, cntD, cntL, cntS, h1, h2, h3, List.length_cons]
    refine ⟨by omega, by simp, by simp⟩
theorem large_ok {e : Ex} {vs : List Nat} (h : largeOk 5 e) (hv : ∀ v ∈ vs, v < 8) (hl : vs.length = 55) : StoreOk (largeS e vs) := by
  obtain ⟨h1, h2, h3⟩ := h
  obtain ⟨s1, s2, s3⟩ := sets_cnt vs
  have hd : depP e ≤ 5 := by omega
  refine ⟨by simp [largeS], by simp [largeS], by simp [largeS], by simp [largeS], ⟨?_, ?_, ?_, ?_⟩, ⟨?_, ?_, ?_, ?_⟩, ⟨by simp [largeS, stFits], by simp [largeS, cntM], by simp [largeS, cntD], by simp [largeS, cntL]⟩, ⟨?_, ?_, ?_, ?_⟩, h2, hd⟩
  · refine stFits_iff.mpr fun s hs => ?_
    rcases List.mem_cons.mp hs with rfl | hs
    · simp [largeS, stFit, stFits, exFit, depP, h1, hd]
    · unfold setsP at hs
      obtain ⟨v, hv', rfl⟩ := List.mem_map.mp hs
      have := hv v hv'
      simp [largeS, stFit, exFit, depP, this]
  · simp [largeS, cntM, cntS, s1]; omega
  · simp [largeS, cntD, cntS, s2]
  · simp [largeS, cntL, cntS, s3]
  · refine stFits_iff.mpr fun s hs => ?_
    obtain ⟨_, rfl⟩ := List.mem_replicate.mp hs
    rfl
  · have := cntM_le (l := List.replicate 60 St.barrier) (d := 1) fun s hs => by
      obtain ⟨_, rfl⟩ := List.mem_replicate.mp hs
      simp [cntS]
    simpa [largeS] using this
  · have : cntD (List.replicate 60 St.barrier) ≤ 0 := cntD_le.mpr fun s hs => by
      obtain ⟨_, rfl⟩ := List.mem_replicate.mp hs
      simp [cntS]
    show cntD (List.replicate 60 St.barrier) + 1 ≤ 4
    omega
  · have : cntL (List.replicate 60 St.barrier) ≤ 0 := cntL_le.mpr fun s hs => by
      obtain ⟨_, rfl⟩ := List.mem_replicate.mp hs
      simp [cntS]
    show cntL (List.replicate 60 St.barrier) ≤ 2
    omega
  · simp [largeS, stFits, stFit, h2, hd]
  · simp [largeS, cntM, cntS]
  · simp [largeS, cntD, cntS]
  · simp [largeS, cntL, cntS]
end K02

namespace K02
open Sv PySem
theorem large_run {hp : List AO} (W : DrawOk hp) : ∃ (s : Store) (hp' : List AO), f__law_large.run [.ref 1] hp = some (.av (.dat (storeI s)), hp') ∧ DrawOk hp' ∧ StoreOk s := by
  obtain ⟨e, c2, hp1, h1, W1, ok, hc⟩ := large_loop W
  obtain ⟨vs, hp2, h2, W2, hl, hv⟩ := compL_relT (tg := [2]) (elt := ev false (.tup (.cons (.lit (.str tSet)) (.cons (.call f__law_draw (.cons (.var 0) (.cons (.lit (.int 8)) .nil))) (.cons (.tup (.cons (.lit (.str tValue)) .nil)) .nil))))) (fun j : Nat => PyData.int (j : Int)) (fun v : Nat => stJ (.set v .value))
    (rho0 := [.av (.ref 1), .av (.dat (exI e)), .emp, .av (.dat (.list [stJ (.loop 7 8 [.write e [e, .num 0, .num 1, e]])])), .own [stJ (.ite (.num 1) [.loop 0 8 [.loop 7 8 [.write e [e, .num 0, .num 1, e]]]] [.barrier])], .av (iv 55)])
    DrawOk (fun _ v => v < 8) (List.range 55) [] hp1 W1 (fun x hx h W => by
      obtain ⟨v, h', q1, q2, q3, q4⟩ := draw_n W (m := 8) (by omega) (by omega)
      have q1' : f__law_draw.run [.ref 1, .dat (.int 8)] h = some (.av (iv v), h') := q1
      refine ⟨[.av (.ref 1), .av (.dat (exI e)), .av (.dat (.int x)), .av (.dat (.list [stJ (.loop 7 8 [.write e [e, .num 0, .num 1, e]])])), .own [stJ (.ite (.num 1) [.loop 0 8 [.loop 7 8 [.write e [e, .num 0, .num 1, e]]]] [.barrier])], .av (iv 55)], .av (.dat (stJ (.set v .value))), v, h', by simp, ?_, rfl, q4, q2, rfl, rfl⟩
      simp [q1', stJ, exI]) (by simp)
  rw [List.length_range] at hl
  refine ⟨largeS e vs, hp2, ?_, W2, large_ok ok (fun v hv' => by
    obtain ⟨_, _, h⟩ := hv v hv'
    exact h) hl⟩
  have i1 : evI (.range1 (.lit (.int 4))) ⟨[.av (.ref 1), .av (.dat (exI (.num 15))), .emp, .emp, .emp, .emp], hp⟩ = _ := range1_same 4 (by simp) (by omega)
  have i2 : evI (.range1 (.var 5)) ⟨[.av (.ref 1), .av (.dat (exI e)), c2, .av (.dat (.list [stJ (.loop 7 8 [.write e [e, .num 0, .num 1, e]])])), .own [stJ (.ite (.num 1) [.loop 0 8 [.loop 7 8 [.write e [e, .num 0, .num 1, e]]]] [.barrier])], .av (iv 55)], hp1⟩ = _ := range1_same 55 (by simp) (by omega)
  have e1 : stJ (.loop 7 8 [.write e [e, .num 0, .num 1, e]]) = .tuple [.str tLoop, .int 7, .int 8, .list [.tuple [.str tWrite, exI e, .list [exI e, .tuple [.str tNum, .int 0], .tuple [.str tNum, .int 1], exI e]]]] := by simp [stJ, stIs, exI]
  have e2 : stJ (.ite (.num 1) [.loop 0 8 [.loop 7 8 [.write e [e, .num 0, .num 1, e]]]] [.barrier]) = .tuple [.str tIf, .tuple [.str tNum, .int 1], .list [.tuple [.str tLoop, .int 0, .int 8, .list [stJ (.loop 7 8 [.write e [e, .num 0, .num 1, e]])]]], .list [.tuple [.str tBarrier]]] := by simp [stJ, stIs, exI]
  have e3 : storeI (largeS e vs) = .tuple [.str tStore, .int 6, .int 4, .int 3, .int 8, .list (stJ (.ite (.num 1) [.loop 0 8 [.loop 7 8 [.write e [e, .num 0, .num 1, e]]]] [.barrier]) :: vs.map fun v => stJ (.set v .value)), .list (List.replicate 60 (.tuple [.str tBarrier])), .list [], .tuple [.list [.tuple [.str tIf, exI e, .list [], .list []]], exI e]] := by
    have r : storeI (largeS e vs) = .tuple [.str tStore, .int 6, .int 4, .int 3, .int 8, .list (stJ (.ite (.num 1) [.loop 0 8 [.loop 7 8 [.write e [e, .num 0, .num 1, e]]]] [.barrier]) :: (setsP vs).map stJ), .list ((List.replicate 60 St.barrier).map stJ), .list [], .tuple [.list [stJ (.ite e [] [])], exI e]] := rfl
    have r2 : (setsP vs).map stJ = vs.map fun v => stJ (.set v .value) := by unfold setsP; rw [List.map_map]; rfl
    have r3 : (List.replicate 60 St.barrier).map stJ = List.replicate 60 (PyData.tuple [.str tBarrier]) := by rw [List.map_replicate]; rfl
    have r4 : stJ (.ite e [] []) = .tuple [.str tIf, exI e, .list [], .list []] := rfl
    rw [r, r2, r3, r4]
  have e4 : exI (.num 15) = .tuple [.str tNum, .int 15] := rfl
  have m1 := bin_mulL1 (xs := [PyData.tuple [.str tBarrier]]) (k := 60) ⟨by omega, by omega, by simp⟩
  have m2 : (List.replicate (60 : Int).toNat [PyData.tuple [.str tBarrier]]).flatten = List.replicate 60 (PyData.tuple [.str tBarrier]) := rfl
  rw [m2] at m1
  have b1 := bin_addL1 (xs := [stJ (.ite (.num 1) [.loop 0 8 [.loop 7 8 [.write e [e, .num 0, .num 1, e]]]] [.barrier])]) (ys := vs.map fun v => stJ (.set v .value)) (by simp; omega)
  rw [List.singleton_append] at b1
  have pl : plainAt [2] [.av (.ref 1), .av (.dat (exI e)), c2, .av (.dat (.list [stJ (.loop 7 8 [.write e [e, .num 0, .num 1, e]])])), .own [stJ (.ite (.num 1) [.loop 0 8 [.loop 7 8 [.write e [e, .num 0, .num 1, e]]]] [.barrier])], .av (iv 55)] = true := by
    cases c2 with
    | own ys => exact absurd rfl (hc ys)
    | _ => rfl
  rw [List.nil_append] at h2
  rw [e3]
  rw [e4] at i1 h1
  generalize hS2 : stJ (.ite (.num 1) [.loop 0 8 [.loop 7 8 [.write e [e, .num 0, .num 1, e]]]] [.barrier]) = S2 at *
  generalize hS1 : stJ (.loop 7 8 [.write e [e, .num 0, .num 1, e]]) = S1 at *
  generalize (vs.map fun v => stJ (.set v .value)) = VS at *
  generalize List.replicate 60 (PyData.tuple [.str tBarrier]) = RB at *
  generalize exI e = E0 at *
  subst e2
  subst e1
  simp only [f__law_large, runB, ss__law_large]
  simp [-bin_mulL1, i1, h1]
  simp [-bin_mulL1, i2, pl, wipeR, h2, back, b1, m1]
end K02

namespace K02
open Sv PySem
@[simp] theorem f_law_depth_run (n : Nat) : (f__law_depth n).run = r__law_depth n := rfl
theorem law_plain (ns : List Int) (h : ns.length ≤ 63) : ∃ hp, f_law.run [.scr ns] [] = some (.av (.dat (.bool true)), hp) := by
  obtain ⟨hp0, e0, D0⟩ := state_run ns h
  obtain ⟨W0, _⟩ := draw_of D0
  obtain ⟨s1, hp1, e1, W1, _, ok1, _⟩ := store_draw W0
  obtain ⟨c, hp2, W2, F2, e2⟩ := draw_is0 W1 (m := 3) (i := 3) rfl (by omega) (by omega)
  obtain ⟨s2, hp2', e3, W2', ok2⟩ := large_run W2
  have z0 : ex st_law_0 ⟨[.av (.scr ns), .emp, .emp, .emp, .emp, .emp], []⟩ = some (.nx, ⟨[.av (.scr ns), .av (.ref 1), .emp, .emp, .emp, .emp], hp0⟩) := by simp [st_law_0, e0]
  have z1 : ex st_law_1 ⟨[.av (.scr ns), .av (.ref 1), .emp, .emp, .emp, .emp], hp0⟩ = some (.nx, ⟨[.av (.scr ns), .av (.ref 1), .av (.dat (storeI s1)), .emp, .emp, .emp], hp1⟩) := by simp [st_law_1, e1]
  obtain ⟨s, hp3, W3, ok, z2⟩ : ∃ (s : Store) (hp3 : List AO), DrawOk hp3 ∧ StoreOk s ∧ ex st_law_2 ⟨[.av (.scr ns), .av (.ref 1), .av (.dat (storeI s1)), .emp, .emp, .emp], hp1⟩ = some (.nx, ⟨[.av (.scr ns), .av (.ref 1), .av (.dat (storeI s)), .emp, .emp, .emp], hp3⟩) := by
    obtain ⟨v, hp2, q, W2, F2, hv⟩ := draw_n W1 (m := 3) (by omega) (by omega)
    obtain ⟨s2, hp2', e3, W2', ok2⟩ := large_run W2
    have q' : f__law_draw.run [.ref 1, .dat (.int 3)] hp1 = some (.av (iv v), hp2) := q
    have ce := cmp_eq (d := .int (v : Int)) (e := .int 0) (by simp) (by simp)
    rw [eqq_int] at ce
    by_cases c : (v : Int) = 0
    · rw [decide_eq_true c] at ce
      exact ⟨s2, hp2', W2', ok2, by simp [st_law_2, q', ce, e3]⟩
    · rw [decide_eq_false c] at ce
      exact ⟨s1, hp2, W2, ok1, by simp [st_law_2, q', ce]⟩
  have r1 := repr_store ok
  have r2 := repr_same ok
  obtain ⟨hpc, r3⟩ := check_run ok
  generalize storeI s = S at *
  generalize S.shown = T at *
  have z3 : ex st_law_3 ⟨[.av (.scr ns), .av (.ref 1), .av (.dat S), .emp, .emp, .emp], hp3⟩ = some (.nx, ⟨[.av (.scr ns), .av (.ref 1), .av (.dat S), .av (.dat (.str T)), .emp, .emp], hp3⟩) := by simp [st_law_3, r1]
  have z4 : ex st_law_4 ⟨[.av (.scr ns), .av (.ref 1), .av (.dat S), .av (.dat (.str T)), .emp, .emp], hp3⟩ = some (.nx, ⟨[.av (.scr ns), .av (.ref 1), .av (.dat S), .av (.dat (.str T)), .emp, .emp], hp3⟩) := by simp [st_law_4, r1, r2, r3]
  obtain ⟨d', hp4, e4, W4, _, hd⟩ := draw_n W3 (m := 6) (by omega) (by omega)
  have e4' : f__law_draw.run [.ref 1, .dat (.int 6)] hp3 = some (.av (iv d'), hp4) := e4
  obtain ⟨d, hdd⟩ : ∃ d : Nat, (1 : Int) + (d' : Int) = (d : Int) := ⟨d' + 1, by omega⟩
  obtain ⟨e, hp5, e5, W5, _, f5, d5⟩ := expr_run (n := ⟨true, false⟩) (vars := 3) (by omega) 12 d hp4 (by omega) (by omega) W4
  have e5' : r__law_expr 12 [.ref 1, .dat (.list [.str tKey]), .dat (.int 3), .dat (.int d)] hp4 = some (.av (.dat (exI e)), hp5) := e5
  have t1 := depth_run 12 e (by omega)
  have t2 := law_depth_run 12 e (by omega)
  have ce := cmp_eq (d := .int ((depP e : Nat) : Int)) (e := .int ((depP e : Nat) : Int)) (by simp) (by simp)
  rw [eqq_int, decide_eq_true rfl] at ce
  generalize exI e = E0 at *
  generalize depP e = dp at *
  have z5 : ex st_law_5 ⟨[.av (.scr ns), .av (.ref 1), .av (.dat S), .av (.dat (.str T)), .emp, .emp], hp3⟩ = some (.nx, ⟨[.av (.scr ns), .av (.ref 1), .av (.dat S), .av (.dat (.str T)), .av (.dat E0), .emp], hp5⟩) := by simp [st_law_5, e4', hdd, e5']
  have z6 : ex st_law_6 ⟨[.av (.scr ns), .av (.ref 1), .av (.dat S), .av (.dat (.str T)), .av (.dat E0), .emp], hp5⟩ = some (.nx, ⟨[.av (.scr ns), .av (.ref 1), .av (.dat S), .av (.dat (.str T)), .av (.dat E0), .av (iv dp)], hp5⟩) := by simp [st_law_6, t1]
  refine ⟨hp5, ?_⟩
  simp only [f_law, runB, ss_law]
  simp [z0, z1, z2, z3, z4, z5, z6]
  simp [st_law_7, t2, ce]
end K02

namespace K02
open PySem PySem.Spec PyProof.Rows L2 Sv
def top (i : Nat) : Stmt := PySem.Challenge.pw_salvor_k02_valid_stores.main.body.getD i (.Pass ⟨0, 0, 0, 0⟩)
def sub (i j : Nat) : Stmt := (C8.clsBody (top i)).getD j (.Pass ⟨0, 0, 0, 0⟩)
theorem m__law_state : mSs [⟨#[115, 99, 114, 105, 112, 116]⟩, ⟨#[115, 101, 101, 100]⟩, ⟨#[99, 101, 108, 108]⟩] (defScope (top 18)) ss__law_state (defBody (top 18)) = true := by kernel_rfl
theorem c__law_state : FnScope [⟨#[115, 99, 114, 105, 112, 116]⟩, ⟨#[115, 101, 101, 100]⟩, ⟨#[99, 101, 108, 108]⟩] [⟨#[115, 99, 114, 105, 112, 116]⟩] (defScope (top 18)) := C8.fnScope_by (by kernel_rfl)
theorem m__law_draw : mSs [⟨#[115, 116, 97, 116, 101]⟩, ⟨#[109, 97, 110, 121]⟩, ⟨#[99, 101, 108, 108, 115]⟩, ⟨#[118, 97, 108, 117, 101]⟩, ⟨#[109, 105, 120, 101, 100]⟩] (defScope (top 19)) ss__law_draw (defBody (top 19)) = true := by kernel_rfl
theorem c__law_draw : FnScope [⟨#[115, 116, 97, 116, 101]⟩, ⟨#[109, 97, 110, 121]⟩, ⟨#[99, 101, 108, 108, 115]⟩, ⟨#[118, 97, 108, 117, 101]⟩, ⟨#[109, 105, 120, 101, 100]⟩] [⟨#[115, 116, 97, 116, 101]⟩, ⟨#[109, 97, 110, 121]⟩] (defScope (top 19)) := C8.fnScope_by (by kernel_rfl)
theorem m__law_expr (r__law_expr : List AV → List AO → Option (RV × List AO)) : mSs [⟨#[115, 116, 97, 116, 101]⟩, ⟨#[110, 97, 109, 101, 115]⟩, ⟨#[118, 97, 114, 105, 97, 98, 108, 101, 115]⟩, ⟨#[100, 101, 101, 112]⟩, ⟨#[107, 105, 110, 100]⟩, ⟨#[114, 111, 119]⟩, ⟨#[110, 97, 109, 101]⟩, ⟨#[118]⟩, ⟨#[102, 105, 114, 115, 116]⟩, ⟨#[111, 112, 101, 114, 97, 116, 111, 114]⟩] (defScope (top 20)) (ss__law_expr r__law_expr) (defBody (top 20)) = true := by kernel_rfl
theorem c__law_expr : FnScope [⟨#[115, 116, 97, 116, 101]⟩, ⟨#[110, 97, 109, 101, 115]⟩, ⟨#[118, 97, 114, 105, 97, 98, 108, 101, 115]⟩, ⟨#[100, 101, 101, 112]⟩, ⟨#[107, 105, 110, 100]⟩, ⟨#[114, 111, 119]⟩, ⟨#[110, 97, 109, 101]⟩, ⟨#[118]⟩, ⟨#[102, 105, 114, 115, 116]⟩, ⟨#[111, 112, 101, 114, 97, 116, 111, 114]⟩] [⟨#[115, 116, 97, 116, 101]⟩, ⟨#[110, 97, 109, 101, 115]⟩, ⟨#[118, 97, 114, 105, 97, 98, 108, 101, 115]⟩, ⟨#[100, 101, 101, 112]⟩] (defScope (top 20)) := C8.fnScope_by (by kernel_rfl)
theorem m__law_body (r__law_body : List AV → List AO → Option (RV × List AO)) (r__law_statement : List AV → List AO → Option (RV × List AO)) : mSs [⟨#[115, 116, 97, 116, 101]⟩, ⟨#[115, 104, 97, 112, 101]⟩, ⟨#[110, 97, 109, 101, 115]⟩, ⟨#[119, 114, 105, 116, 101, 115]⟩, ⟨#[110, 101, 115, 116, 101, 100]⟩, ⟨#[107]⟩] (defScope (top 22)) (ss__law_body r__law_body r__law_statement) (defBody (top 22)) = true := by kernel_rfl
theorem c__law_body : FnScope [⟨#[115, 116, 97, 116, 101]⟩, ⟨#[115, 104, 97, 112, 101]⟩, ⟨#[110, 97, 109, 101, 115]⟩, ⟨#[119, 114, 105, 116, 101, 115]⟩, ⟨#[110, 101, 115, 116, 101, 100]⟩, ⟨#[107]⟩] [⟨#[115, 116, 97, 116, 101]⟩, ⟨#[115, 104, 97, 112, 101]⟩, ⟨#[110, 97, 109, 101, 115]⟩, ⟨#[119, 114, 105, 116, 101, 115]⟩, ⟨#[110, 101, 115, 116, 101, 100]⟩] (defScope (top 22)) := C8.fnScope_by (by kernel_rfl)
theorem m__law_statement (r__law_body : List AV → List AO → Option (RV × List AO)) (r__law_statement : List AV → List AO → Option (RV × List AO)) : mSs [⟨#[115, 116, 97, 116, 101]⟩, ⟨#[115, 104, 97, 112, 101]⟩, ⟨#[110, 97, 109, 101, 115]⟩, ⟨#[119, 114, 105, 116, 101, 115]⟩, ⟨#[110, 101, 115, 116, 101, 100]⟩, ⟨#[119, 105, 100, 116, 104]⟩, ⟨#[118, 97, 114, 105, 97, 98, 108, 101, 115]⟩, ⟨#[107, 105, 110, 100]⟩, ⟨#[119, 111, 114, 100, 115]⟩, ⟨#[107]⟩, ⟨#[98, 111, 100, 121]⟩, ⟨#[98, 111, 100, 105, 101, 115]⟩] (defScope (top 21)) (ss__law_statement r__law_body r__law_statement) (defBody (top 21)) = true := by kernel_rfl
theorem c__law_statement : FnScope [⟨#[115, 116, 97, 116, 101]⟩, ⟨#[115, 104, 97, 112, 101]⟩, ⟨#[110, 97, 109, 101, 115]⟩, ⟨#[119, 114, 105, 116, 101, 115]⟩, ⟨#[110, 101, 115, 116, 101, 100]⟩, ⟨#[119, 105, 100, 116, 104]⟩, ⟨#[118, 97, 114, 105, 97, 98, 108, 101, 115]⟩, ⟨#[107, 105, 110, 100]⟩, ⟨#[119, 111, 114, 100, 115]⟩, ⟨#[107]⟩, ⟨#[98, 111, 100, 121]⟩, ⟨#[98, 111, 100, 105, 101, 115]⟩] [⟨#[115, 116, 97, 116, 101]⟩, ⟨#[115, 104, 97, 112, 101]⟩, ⟨#[110, 97, 109, 101, 115]⟩, ⟨#[119, 114, 105, 116, 101, 115]⟩, ⟨#[110, 101, 115, 116, 101, 100]⟩] (defScope (top 21)) := C8.fnScope_by (by kernel_rfl)
theorem m__law_most_writes (r__law_most_writes : List AV → List AO → Option (RV × List AO)) : mSs [⟨#[98, 111, 100, 121]⟩, ⟨#[116, 111, 116, 97, 108]⟩, ⟨#[111, 110, 101]⟩] (defScope (top 23)) (ss__law_most_writes r__law_most_writes) (defBody (top 23)) = true := by kernel_rfl
theorem c__law_most_writes : FnScope [⟨#[98, 111, 100, 121]⟩, ⟨#[116, 111, 116, 97, 108]⟩, ⟨#[111, 110, 101]⟩] [⟨#[98, 111, 100, 121]⟩] (defScope (top 23)) := C8.fnScope_by (by kernel_rfl)
theorem m__law_store : mSs [⟨#[115, 116, 97, 116, 101]⟩, ⟨#[115, 101, 99, 116, 111, 114, 115]⟩, ⟨#[119, 105, 100, 116, 104]⟩, ⟨#[107, 101, 121, 115]⟩, ⟨#[118, 97, 114, 105, 97, 98, 108, 101, 115]⟩, ⟨#[100, 101, 101, 112]⟩, ⟨#[115, 104, 97, 112, 101]⟩, ⟨#[112, 117, 116]⟩, ⟨#[115, 121, 110, 99]⟩, ⟨#[114, 101, 99, 111, 118, 101, 114]⟩, ⟨#[103, 101, 116]⟩, ⟨#[98, 111, 100, 121]⟩] (defScope (top 24)) ss__law_store (defBody (top 24)) = true := by kernel_rfl
theorem c__law_store : FnScope [⟨#[115, 116, 97, 116, 101]⟩, ⟨#[115, 101, 99, 116, 111, 114, 115]⟩, ⟨#[119, 105, 100, 116, 104]⟩, ⟨#[107, 101, 121, 115]⟩, ⟨#[118, 97, 114, 105, 97, 98, 108, 101, 115]⟩, ⟨#[100, 101, 101, 112]⟩, ⟨#[115, 104, 97, 112, 101]⟩, ⟨#[112, 117, 116]⟩, ⟨#[115, 121, 110, 99]⟩, ⟨#[114, 101, 99, 111, 118, 101, 114]⟩, ⟨#[103, 101, 116]⟩, ⟨#[98, 111, 100, 121]⟩] [⟨#[115, 116, 97, 116, 101]⟩] (defScope (top 24)) := C8.fnScope_by (by kernel_rfl)
theorem m__law_large : mSs [⟨#[115, 116, 97, 116, 101]⟩, ⟨#[101]⟩, ⟨#[107]⟩, ⟨#[105, 110, 110, 101, 114]⟩, ⟨#[112, 117, 116]⟩, ⟨#[109, 97, 110, 121]⟩] (defScope (top 26)) ss__law_large (defBody (top 26)) = true := by kernel_rfl
theorem c__law_large : FnScope [⟨#[115, 116, 97, 116, 101]⟩, ⟨#[101]⟩, ⟨#[107]⟩, ⟨#[105, 110, 110, 101, 114]⟩, ⟨#[112, 117, 116]⟩, ⟨#[109, 97, 110, 121]⟩] [⟨#[115, 116, 97, 116, 101]⟩] (defScope (top 26)) := C8.fnScope_by (by kernel_rfl)
theorem m_require : mSs [⟨#[104, 111, 108, 100, 115]⟩, ⟨#[114, 117, 108, 101]⟩] (defScope (top 9)) ss_require (defBody (top 9)) = true := by kernel_rfl
theorem c_require : FnScope [⟨#[104, 111, 108, 100, 115]⟩, ⟨#[114, 117, 108, 101]⟩] [⟨#[104, 111, 108, 100, 115]⟩, ⟨#[114, 117, 108, 101]⟩] (defScope (top 9)) := C8.fnScope_by (by kernel_rfl)
theorem m_Rules_init : mSs [⟨#[115, 101, 108, 102]⟩, ⟨#[119, 105, 100, 116, 104]⟩, ⟨#[118, 97, 114, 105, 97, 98, 108, 101, 115]⟩] (defScope (sub 15 0)) ss_Rules_init (defBody (sub 15 0)) = true := by kernel_rfl
theorem c_Rules_init : FnScope [⟨#[115, 101, 108, 102]⟩, ⟨#[119, 105, 100, 116, 104]⟩, ⟨#[118, 97, 114, 105, 97, 98, 108, 101, 115]⟩] [⟨#[115, 101, 108, 102]⟩, ⟨#[119, 105, 100, 116, 104]⟩, ⟨#[118, 97, 114, 105, 97, 98, 108, 101, 115]⟩] (defScope (sub 15 0)) := C8.fnScope_by (by kernel_rfl)
theorem m_count (r_count : List AV → List AO → Option (RV × List AO)) : mSs [⟨#[98, 111, 100, 121]⟩, ⟨#[109, 97, 110, 121]⟩, ⟨#[100, 101, 101, 112]⟩, ⟨#[108, 111, 111, 112, 115]⟩, ⟨#[115, 116, 97, 116, 101, 109, 101, 110, 116]⟩, ⟨#[105, 110, 110, 101, 114]⟩, ⟨#[111, 119, 110]⟩, ⟨#[114, 111, 119]⟩, ⟨#[102, 111, 117, 110, 100]⟩] (defScope (top 14)) (ss_count r_count) (defBody (top 14)) = true := by kernel_rfl
theorem c_count : FnScope [⟨#[98, 111, 100, 121]⟩, ⟨#[109, 97, 110, 121]⟩, ⟨#[100, 101, 101, 112]⟩, ⟨#[108, 111, 111, 112, 115]⟩, ⟨#[115, 116, 97, 116, 101, 109, 101, 110, 116]⟩, ⟨#[105, 110, 110, 101, 114]⟩, ⟨#[111, 119, 110]⟩, ⟨#[114, 111, 119]⟩, ⟨#[102, 111, 117, 110, 100]⟩] [⟨#[98, 111, 100, 121]⟩] (defScope (top 14)) := C8.fnScope_by (by kernel_rfl)
theorem m_parts : mSs [⟨#[101]⟩] (defScope (top 10)) ss_parts (defBody (top 10)) = true := by kernel_rfl
theorem c_parts : FnScope [⟨#[101]⟩] [⟨#[101]⟩] (defScope (top 10)) := C8.fnScope_by (by kernel_rfl)
theorem m_depth (r_depth : List AV → List AO → Option (RV × List AO)) : mSs [⟨#[101]⟩, ⟨#[112, 97, 114, 116]⟩] (defScope (top 11)) (ss_depth r_depth) (defBody (top 11)) = true := by kernel_rfl
theorem c_depth : FnScope [⟨#[101]⟩, ⟨#[112, 97, 114, 116]⟩] [⟨#[101]⟩] (defScope (top 11)) := C8.fnScope_by (by kernel_rfl)
theorem m_expression_right (r_expression_right : List AV → List AO → Option (RV × List AO)) : mSs [⟨#[101]⟩, ⟨#[110, 97, 109, 101, 115]⟩, ⟨#[118, 97, 114, 105, 97, 98, 108, 101, 115]⟩, ⟨#[112, 97, 114, 116]⟩] (defScope (top 12)) (ss_expression_right r_expression_right) (defBody (top 12)) = true := by kernel_rfl
theorem c_expression_right : FnScope [⟨#[101]⟩, ⟨#[110, 97, 109, 101, 115]⟩, ⟨#[118, 97, 114, 105, 97, 98, 108, 101, 115]⟩, ⟨#[112, 97, 114, 116]⟩] [⟨#[101]⟩, ⟨#[110, 97, 109, 101, 115]⟩, ⟨#[118, 97, 114, 105, 97, 98, 108, 101, 115]⟩] (defScope (top 12)) := C8.fnScope_by (by kernel_rfl)
theorem m_check_expression : mSs [⟨#[101]⟩, ⟨#[110, 97, 109, 101, 115]⟩, ⟨#[118, 97, 114, 105, 97, 98, 108, 101, 115]⟩] (defScope (top 13)) ss_check_expression (defBody (top 13)) = true := by kernel_rfl
theorem c_check_expression : FnScope [⟨#[101]⟩, ⟨#[110, 97, 109, 101, 115]⟩, ⟨#[118, 97, 114, 105, 97, 98, 108, 101, 115]⟩] [⟨#[101]⟩, ⟨#[110, 97, 109, 101, 115]⟩, ⟨#[118, 97, 114, 105, 97, 98, 108, 101, 115]⟩] (defScope (top 13)) := C8.fnScope_by (by kernel_rfl)
theorem m_Rules_effect : mSs [⟨#[115, 101, 108, 102]⟩, ⟨#[115, 116, 97, 116, 101, 109, 101, 110, 116]⟩, ⟨#[110, 97, 109, 101, 115]⟩, ⟨#[101]⟩] (defScope (sub 15 3)) ss_Rules_effect (defBody (sub 15 3)) = true := by kernel_rfl
theorem c_Rules_effect : FnScope [⟨#[115, 101, 108, 102]⟩, ⟨#[115, 116, 97, 116, 101, 109, 101, 110, 116]⟩, ⟨#[110, 97, 109, 101, 115]⟩, ⟨#[101]⟩] [⟨#[115, 101, 108, 102]⟩, ⟨#[115, 116, 97, 116, 101, 109, 101, 110, 116]⟩, ⟨#[110, 97, 109, 101, 115]⟩] (defScope (sub 15 3)) := C8.fnScope_by (by kernel_rfl)
theorem m_Rules_statements (r_Rules_statements : List AV → List AO → Option (RV × List AO)) : mSs [⟨#[115, 101, 108, 102]⟩, ⟨#[98, 111, 100, 121]⟩, ⟨#[110, 97, 109, 101, 115]⟩, ⟨#[119, 114, 105, 116, 101, 115]⟩, ⟨#[115, 116, 97, 116, 101, 109, 101, 110, 116]⟩, ⟨#[107, 105, 110, 100]⟩] (defScope (sub 15 2)) (ss_Rules_statements r_Rules_statements) (defBody (sub 15 2)) = true := by kernel_rfl
theorem c_Rules_statements : FnScope [⟨#[115, 101, 108, 102]⟩, ⟨#[98, 111, 100, 121]⟩, ⟨#[110, 97, 109, 101, 115]⟩, ⟨#[119, 114, 105, 116, 101, 115]⟩, ⟨#[115, 116, 97, 116, 101, 109, 101, 110, 116]⟩, ⟨#[107, 105, 110, 100]⟩] [⟨#[115, 101, 108, 102]⟩, ⟨#[98, 111, 100, 121]⟩, ⟨#[110, 97, 109, 101, 115]⟩, ⟨#[119, 114, 105, 116, 101, 115]⟩] (defScope (sub 15 2)) := C8.fnScope_by (by kernel_rfl)
theorem m_Rules_body : mSs [⟨#[115, 101, 108, 102]⟩, ⟨#[98, 111, 100, 121]⟩, ⟨#[110, 97, 109, 101, 115]⟩, ⟨#[119, 114, 105, 116, 101, 115]⟩, ⟨#[109, 97, 110, 121]⟩, ⟨#[100, 101, 101, 112]⟩, ⟨#[108, 111, 111, 112, 115]⟩] (defScope (sub 15 1)) ss_Rules_body (defBody (sub 15 1)) = true := by kernel_rfl
theorem c_Rules_body : FnScope [⟨#[115, 101, 108, 102]⟩, ⟨#[98, 111, 100, 121]⟩, ⟨#[110, 97, 109, 101, 115]⟩, ⟨#[119, 114, 105, 116, 101, 115]⟩, ⟨#[109, 97, 110, 121]⟩, ⟨#[100, 101, 101, 112]⟩, ⟨#[108, 111, 111, 112, 115]⟩] [⟨#[115, 101, 108, 102]⟩, ⟨#[98, 111, 100, 121]⟩, ⟨#[110, 97, 109, 101, 115]⟩, ⟨#[119, 114, 105, 116, 101, 115]⟩] (defScope (sub 15 1)) := C8.fnScope_by (by kernel_rfl)
theorem m_check : mSs [⟨#[115, 116, 111, 114, 101]⟩, ⟨#[95]⟩, ⟨#[115, 101, 99, 116, 111, 114, 115]⟩, ⟨#[119, 105, 100, 116, 104]⟩, ⟨#[107, 101, 121, 115]⟩, ⟨#[118, 97, 114, 105, 97, 98, 108, 101, 115]⟩, ⟨#[112, 117, 116]⟩, ⟨#[115, 121, 110, 99]⟩, ⟨#[114, 101, 99, 111, 118, 101, 114]⟩, ⟨#[103, 101, 116]⟩, ⟨#[114, 117, 108, 101, 115]⟩] (defScope (top 16)) ss_check (defBody (top 16)) = true := by kernel_rfl
theorem c_check : FnScope [⟨#[115, 116, 111, 114, 101]⟩, ⟨#[95]⟩, ⟨#[115, 101, 99, 116, 111, 114, 115]⟩, ⟨#[119, 105, 100, 116, 104]⟩, ⟨#[107, 101, 121, 115]⟩, ⟨#[118, 97, 114, 105, 97, 98, 108, 101, 115]⟩, ⟨#[112, 117, 116]⟩, ⟨#[115, 121, 110, 99]⟩, ⟨#[114, 101, 99, 111, 118, 101, 114]⟩, ⟨#[103, 101, 116]⟩, ⟨#[114, 117, 108, 101, 115]⟩] [⟨#[115, 116, 111, 114, 101]⟩] (defScope (top 16)) := C8.fnScope_by (by kernel_rfl)
theorem m__law_depth (r__law_depth : List AV → List AO → Option (RV × List AO)) : mSs [⟨#[101]⟩, ⟨#[100, 101, 101, 112, 101, 115, 116]⟩, ⟨#[112, 97, 114, 116]⟩] (defScope (top 25)) (ss__law_depth r__law_depth) (defBody (top 25)) = true := by kernel_rfl
theorem c__law_depth : FnScope [⟨#[101]⟩, ⟨#[100, 101, 101, 112, 101, 115, 116]⟩, ⟨#[112, 97, 114, 116]⟩] [⟨#[101]⟩] (defScope (top 25)) := C8.fnScope_by (by kernel_rfl)
theorem m_law : mSs [⟨#[115, 99, 114, 105, 112, 116]⟩, ⟨#[115, 116, 97, 116, 101]⟩, ⟨#[115, 116, 111, 114, 101]⟩, ⟨#[107, 101, 112, 116]⟩, ⟨#[101]⟩, ⟨#[116, 111, 108, 100]⟩] (defScope (top 27)) ss_law (defBody (top 27)) = true := by kernel_rfl
theorem c_law : FnScope [⟨#[115, 99, 114, 105, 112, 116]⟩, ⟨#[115, 116, 97, 116, 101]⟩, ⟨#[115, 116, 111, 114, 101]⟩, ⟨#[107, 101, 112, 116]⟩, ⟨#[101]⟩, ⟨#[116, 111, 108, 100]⟩] [⟨#[115, 99, 114, 105, 112, 116]⟩] (defScope (top 27)) := C8.fnScope_by (by kernel_rfl)
def d__law_state : He.DefD := ⟨(⟨#[95, 108, 97, 119, 95, 115, 116, 97, 116, 101]⟩, none), ⟨#[95, 108, 97, 119, 95, 115, 116, 97, 116, 101]⟩, ⟨#[95, 108, 97, 119, 95, 115, 116, 97, 116, 101]⟩, defArgs (top 18), defBody (top 18), defScope (top 18), [], []⟩
def d__law_draw : He.DefD := ⟨(⟨#[95, 108, 97, 119, 95, 100, 114, 97, 119]⟩, none), ⟨#[95, 108, 97, 119, 95, 100, 114, 97, 119]⟩, ⟨#[95, 108, 97, 119, 95, 100, 114, 97, 119]⟩, defArgs (top 19), defBody (top 19), defScope (top 19), [], []⟩
def d__law_expr : He.DefD := ⟨(⟨#[95, 108, 97, 119, 95, 101, 120, 112, 114]⟩, none), ⟨#[95, 108, 97, 119, 95, 101, 120, 112, 114]⟩, ⟨#[95, 108, 97, 119, 95, 101, 120, 112, 114]⟩, defArgs (top 20), defBody (top 20), defScope (top 20), [], []⟩
def d__law_body : He.DefD := ⟨(⟨#[95, 108, 97, 119, 95, 98, 111, 100, 121]⟩, none), ⟨#[95, 108, 97, 119, 95, 98, 111, 100, 121]⟩, ⟨#[95, 108, 97, 119, 95, 98, 111, 100, 121]⟩, defArgs (top 22), defBody (top 22), defScope (top 22), [], []⟩
def d__law_statement : He.DefD := ⟨(⟨#[95, 108, 97, 119, 95, 115, 116, 97, 116, 101, 109, 101, 110, 116]⟩, none), ⟨#[95, 108, 97, 119, 95, 115, 116, 97, 116, 101, 109, 101, 110, 116]⟩, ⟨#[95, 108, 97, 119, 95, 115, 116, 97, 116, 101, 109, 101, 110, 116]⟩, defArgs (top 21), defBody (top 21), defScope (top 21), [], []⟩
def d__law_most_writes : He.DefD := ⟨(⟨#[95, 108, 97, 119, 95, 109, 111, 115, 116, 95, 119, 114, 105, 116, 101, 115]⟩, none), ⟨#[95, 108, 97, 119, 95, 109, 111, 115, 116, 95, 119, 114, 105, 116, 101, 115]⟩, ⟨#[95, 108, 97, 119, 95, 109, 111, 115, 116, 95, 119, 114, 105, 116, 101, 115]⟩, defArgs (top 23), defBody (top 23), defScope (top 23), [], []⟩
def d__law_store : He.DefD := ⟨(⟨#[95, 108, 97, 119, 95, 115, 116, 111, 114, 101]⟩, none), ⟨#[95, 108, 97, 119, 95, 115, 116, 111, 114, 101]⟩, ⟨#[95, 108, 97, 119, 95, 115, 116, 111, 114, 101]⟩, defArgs (top 24), defBody (top 24), defScope (top 24), [], []⟩
def d__law_large : He.DefD := ⟨(⟨#[95, 108, 97, 119, 95, 108, 97, 114, 103, 101]⟩, none), ⟨#[95, 108, 97, 119, 95, 108, 97, 114, 103, 101]⟩, ⟨#[95, 108, 97, 119, 95, 108, 97, 114, 103, 101]⟩, defArgs (top 26), defBody (top 26), defScope (top 26), [], []⟩
def d_require : He.DefD := ⟨(⟨#[114, 101, 113, 117, 105, 114, 101]⟩, none), ⟨#[114, 101, 113, 117, 105, 114, 101]⟩, ⟨#[114, 101, 113, 117, 105, 114, 101]⟩, defArgs (top 9), defBody (top 9), defScope (top 9), [], []⟩
def d_Rules_init : He.DefD := ⟨(⟨#[82, 117, 108, 101, 115]⟩, some ⟨#[95, 95, 105, 110, 105, 116, 95, 95]⟩), ⟨#[95, 95, 105, 110, 105, 116, 95, 95]⟩, ⟨#[82, 117, 108, 101, 115, 46, 95, 95, 105, 110, 105, 116, 95, 95]⟩, defArgs (sub 15 0), defBody (sub 15 0), defScope (sub 15 0), [], []⟩
def d_count : He.DefD := ⟨(⟨#[99, 111, 117, 110, 116]⟩, none), ⟨#[99, 111, 117, 110, 116]⟩, ⟨#[99, 111, 117, 110, 116]⟩, defArgs (top 14), defBody (top 14), defScope (top 14), [], []⟩
def d_parts : He.DefD := ⟨(⟨#[112, 97, 114, 116, 115]⟩, none), ⟨#[112, 97, 114, 116, 115]⟩, ⟨#[112, 97, 114, 116, 115]⟩, defArgs (top 10), defBody (top 10), defScope (top 10), [], []⟩
def d_depth : He.DefD := ⟨(⟨#[100, 101, 112, 116, 104]⟩, none), ⟨#[100, 101, 112, 116, 104]⟩, ⟨#[100, 101, 112, 116, 104]⟩, defArgs (top 11), defBody (top 11), defScope (top 11), [], []⟩
def d_expression_right : He.DefD := ⟨(⟨#[101, 120, 112, 114, 101, 115, 115, 105, 111, 110, 95, 114, 105, 103, 104, 116]⟩, none), ⟨#[101, 120, 112, 114, 101, 115, 115, 105, 111, 110, 95, 114, 105, 103, 104, 116]⟩, ⟨#[101, 120, 112, 114, 101, 115, 115, 105, 111, 110, 95, 114, 105, 103, 104, 116]⟩, defArgs (top 12), defBody (top 12), defScope (top 12), [], []⟩
def d_check_expression : He.DefD := ⟨(⟨#[99, 104, 101, 99, 107, 95, 101, 120, 112, 114, 101, 115, 115, 105, 111, 110]⟩, none), ⟨#[99, 104, 101, 99, 107, 95, 101, 120, 112, 114, 101, 115, 115, 105, 111, 110]⟩, ⟨#[99, 104, 101, 99, 107, 95, 101, 120, 112, 114, 101, 115, 115, 105, 111, 110]⟩, defArgs (top 13), defBody (top 13), defScope (top 13), [], []⟩
def d_Rules_effect : He.DefD := ⟨(⟨#[82, 117, 108, 101, 115]⟩, some ⟨#[101, 102, 102, 101, 99, 116]⟩), ⟨#[101, 102, 102, 101, 99, 116]⟩, ⟨#[82, 117, 108, 101, 115, 46, 101, 102, 102, 101, 99, 116]⟩, defArgs (sub 15 3), defBody (sub 15 3), defScope (sub 15 3), [], []⟩
def d_Rules_statements : He.DefD := ⟨(⟨#[82, 117, 108, 101, 115]⟩, some ⟨#[115, 116, 97, 116, 101, 109, 101, 110, 116, 115]⟩), ⟨#[115, 116, 97, 116, 101, 109, 101, 110, 116, 115]⟩, ⟨#[82, 117, 108, 101, 115, 46, 115, 116, 97, 116, 101, 109, 101, 110, 116, 115]⟩, defArgs (sub 15 2), defBody (sub 15 2), defScope (sub 15 2), [], []⟩
def d_Rules_body : He.DefD := ⟨(⟨#[82, 117, 108, 101, 115]⟩, some ⟨#[98, 111, 100, 121]⟩), ⟨#[98, 111, 100, 121]⟩, ⟨#[82, 117, 108, 101, 115, 46, 98, 111, 100, 121]⟩, defArgs (sub 15 1), defBody (sub 15 1), defScope (sub 15 1), [], []⟩
def d_check : He.DefD := ⟨(⟨#[99, 104, 101, 99, 107]⟩, none), ⟨#[99, 104, 101, 99, 107]⟩, ⟨#[99, 104, 101, 99, 107]⟩, defArgs (top 16), defBody (top 16), defScope (top 16), [], []⟩
def d__law_depth : He.DefD := ⟨(⟨#[95, 108, 97, 119, 95, 100, 101, 112, 116, 104]⟩, none), ⟨#[95, 108, 97, 119, 95, 100, 101, 112, 116, 104]⟩, ⟨#[95, 108, 97, 119, 95, 100, 101, 112, 116, 104]⟩, defArgs (top 25), defBody (top 25), defScope (top 25), [], []⟩
def d_law : He.DefD := ⟨(⟨#[108, 97, 119]⟩, none), ⟨#[108, 97, 119]⟩, ⟨#[108, 97, 119]⟩, defArgs (top 27), defBody (top 27), defScope (top 27), [], []⟩
def fn : List He.DefD := [d__law_state, d__law_draw, d__law_expr, d__law_body, d__law_statement, d__law_most_writes, d__law_store, d__law_large, d_require, d_Rules_init, d_count, d_parts, d_depth, d_expression_right, d_check_expression, d_Rules_effect, d_Rules_statements, d_Rules_body, d_check, d__law_depth, d_law]
def gloL : List Str := [⟨#[95, 108, 97, 119, 95, 115, 116, 97, 116, 101]⟩, ⟨#[95, 108, 97, 119, 95, 100, 114, 97, 119]⟩, ⟨#[95, 108, 97, 119, 95, 101, 120, 112, 114]⟩, ⟨#[95, 108, 97, 119, 95, 98, 111, 100, 121]⟩, ⟨#[95, 108, 97, 119, 95, 115, 116, 97, 116, 101, 109, 101, 110, 116]⟩, ⟨#[95, 108, 97, 119, 95, 109, 111, 115, 116, 95, 119, 114, 105, 116, 101, 115]⟩, ⟨#[95, 108, 97, 119, 95, 115, 116, 111, 114, 101]⟩, ⟨#[95, 108, 97, 119, 95, 108, 97, 114, 103, 101]⟩, ⟨#[114, 101, 113, 117, 105, 114, 101]⟩, ⟨#[99, 111, 117, 110, 116]⟩, ⟨#[112, 97, 114, 116, 115]⟩, ⟨#[100, 101, 112, 116, 104]⟩, ⟨#[101, 120, 112, 114, 101, 115, 115, 105, 111, 110, 95, 114, 105, 103, 104, 116]⟩, ⟨#[99, 104, 101, 99, 107, 95, 101, 120, 112, 114, 101, 115, 115, 105, 111, 110]⟩, ⟨#[99, 104, 101, 99, 107]⟩, ⟨#[95, 108, 97, 119, 95, 100, 101, 112, 116, 104]⟩, ⟨#[108, 97, 119]⟩, ⟨#[82, 117, 108, 101, 115]⟩]
def clsL : List Str := [⟨#[82, 117, 108, 101, 115]⟩]
def noatL : List (Str × Str) := [(⟨#[82, 117, 108, 101, 115]⟩, ⟨#[118, 97, 114, 105, 97, 98, 108, 101, 115]⟩), (⟨#[82, 117, 108, 101, 115]⟩, ⟨#[119, 105, 100, 116, 104]⟩)]
def methL : List (Str × Str) := [(⟨#[82, 117, 108, 101, 115]⟩, ⟨#[101, 102, 102, 101, 99, 116]⟩), (⟨#[82, 117, 108, 101, 115]⟩, ⟨#[115, 116, 97, 116, 101, 109, 101, 110, 116, 115]⟩), (⟨#[82, 117, 108, 101, 115]⟩, ⟨#[98, 111, 100, 121]⟩)]
def mkrL : List Str := [⟨#[82, 117, 108, 101, 115]⟩]
def intL : List (Str × Int) := [(⟨#[68, 69, 69, 80, 69, 83, 84, 95, 66, 79, 68, 89]⟩, 4), (⟨#[68, 69, 69, 80, 69, 83, 84, 95, 69, 88, 80, 82, 69, 83, 83, 73, 79, 78]⟩, 5), (⟨#[77, 79, 83, 84, 95, 76, 79, 79, 80, 83]⟩, 2), (⟨#[77, 79, 83, 84, 95, 82, 79, 85, 78, 68, 83]⟩, 8), (⟨#[77, 79, 83, 84, 95, 83, 84, 65, 84, 69, 77, 69, 78, 84, 83]⟩, 60)]
def strL : List (Str × Str) := []
def fa : List He.Fa := gloL.map (fun x => He.Fa.glo x) ++ (clsL.map (fun x => He.Fa.cls x) ++ (noatL.map (fun x => He.Fa.noat x.1 x.2) ++ (methL.map (fun x => He.Fa.meth x.1 x.2) ++ (mkrL.map (fun x => He.Fa.mkr x) ++ (intL.map (fun x => He.Fa.int x.1 x.2) ++ (strL.map (fun x => He.Fa.str x.1 x.2) ++ (freeNames.map He.Fa.free)))))))
def ex (K : PySem.W.Frag) : Bool := true
section
variable {P : Program} {w : World} {K : PySem.W.Frag} {mg : Str → Option Value} {base : Heap}
theorem ok__law_state (free : ∀ n ∈ freeNames, mg n = none) : ∀ X : Cx, X.K = K → X.mg = mg → X.prog = P → X.w = w → X.base = base → Room 0 X.A → okSs (prX X) ss__law_state := by
  intro X e1 e2 e3 e4 e5 hr
  subst e1 e2 e3 e4 e5
  simp only [ss__law_state, okSs, okS, okE, okEs, okI, and_true, true_and]
  repeat' (first | exact trivial | apply And.intro)
theorem ok__law_draw (free : ∀ n ∈ freeNames, mg n = none) : ∀ X : Cx, X.K = K → X.mg = mg → X.prog = P → X.w = w → X.base = base → Room 0 X.A → okSs (prX X) ss__law_draw := by
  intro X e1 e2 e3 e4 e5 hr
  subst e1 e2 e3 e4 e5
  simp only [ss__law_draw, okSs, okS, okE, okEs, okI, and_true, true_and]
  repeat' (first | exact trivial | apply And.intro)
theorem ok__law_expr (free : ∀ n ∈ freeNames, mg n = none) (n : Nat) (g__law_expr : Good P w K mg base (2 + n) (f__law_expr n)) (g__law_draw : Good P w K mg base 1 f__law_draw) : ∀ X : Cx, X.K = K → X.mg = mg → X.prog = P → X.w = w → X.base = base → Room (2 + n) X.A → okSs (prX X) (ss__law_expr (r__law_expr n)) := by
  intro X e1 e2 e3 e4 e5 hr
  subst e1 e2 e3 e4 e5
  simp only [ss__law_expr, okSs, okS, okE, okEs, okI, and_true, true_and]
  repeat' (first | exact trivial | exact g__law_expr.ok hr (by omega) | exact g__law_draw.ok hr (by omega) | apply And.intro)
theorem ok__law_body (free : ∀ n ∈ freeNames, mg n = none) (n : Nat) (g__law_statement : Good P w K mg base (15 + n) (f__law_statement n)) (g__law_draw : Good P w K mg base 1 f__law_draw) : ∀ X : Cx, X.K = K → X.mg = mg → X.prog = P → X.w = w → X.base = base → Room (15 + n) X.A → okSs (prX X) (ss__law_body (r__law_body n) (r__law_statement n)) := by
  intro X e1 e2 e3 e4 e5 hr
  subst e1 e2 e3 e4 e5
  simp only [ss__law_body, okSs, okS, okE, okEs, okI, and_true, true_and]
  repeat' (first | exact trivial | exact g__law_statement.ok hr (by omega) | exact g__law_draw.ok hr (by omega) | apply And.intro)
theorem ok__law_statement (free : ∀ n ∈ freeNames, mg n = none) (n : Nat) (g__law_expr : Good P w K mg base 14 (f__law_expr 12)) (g__law_body : Good P w K mg base (15 + n) (f__law_body n)) (g__law_draw : Good P w K mg base 1 f__law_draw) : ∀ X : Cx, X.K = K → X.mg = mg → X.prog = P → X.w = w → X.base = base → Room (15 + n) X.A → okSs (prX X) (ss__law_statement (r__law_body n) (r__law_statement n)) := by
  intro X e1 e2 e3 e4 e5 hr
  subst e1 e2 e3 e4 e5
  simp only [ss__law_statement, okSs, okS, okE, okEs, okI, and_true, true_and]
  repeat' (first | exact trivial | exact g__law_expr.ok hr (by omega) | exact g__law_body.ok hr (by omega) | exact g__law_draw.ok hr (by omega) | apply And.intro)
theorem ok__law_most_writes (free : ∀ n ∈ freeNames, mg n = none) (n : Nat) (g__law_most_writes : Good P w K mg base (1 + n) (f__law_most_writes n)) : ∀ X : Cx, X.K = K → X.mg = mg → X.prog = P → X.w = w → X.base = base → Room (1 + n) X.A → okSs (prX X) (ss__law_most_writes (r__law_most_writes n)) := by
  intro X e1 e2 e3 e4 e5 hr
  subst e1 e2 e3 e4 e5
  simp only [ss__law_most_writes, lb__law_most_writes_0, okSs, okS, okE, okEs, okI, and_true, true_and]
  repeat' (first | exact trivial | exact g__law_most_writes.ok hr (by omega) | apply And.intro)
theorem ok__law_store (free : ∀ n ∈ freeNames, mg n = none) (g__law_draw : Good P w K mg base 1 f__law_draw) (g__law_body : Good P w K mg base 27 (f__law_body 12)) (g__law_expr : Good P w K mg base 14 (f__law_expr 12)) (g__law_most_writes : Good P w K mg base 13 (f__law_most_writes 12)) : ∀ X : Cx, X.K = K → X.mg = mg → X.prog = P → X.w = w → X.base = base → Room 27 X.A → okSs (prX X) ss__law_store := by
  intro X e1 e2 e3 e4 e5 hr
  subst e1 e2 e3 e4 e5
  simp only [ss__law_store, st__law_store_0, st__law_store_1, st__law_store_2, st__law_store_3, st__law_store_4, st__law_store_5, st__law_store_6, st__law_store_7, st__law_store_8, st__law_store_9, st__law_store_10, st__law_store_11, st__law_store_12, st__law_store_13, st__law_store_14, st__law_store_15, st__law_store_16, okSs, okS, okE, okEs, okI, and_true, true_and]
  repeat' (first | exact trivial | exact g__law_draw.ok hr (by decide) | exact g__law_body.ok hr (by decide) | exact g__law_expr.ok hr (by decide) | exact g__law_most_writes.ok hr (by decide) | apply And.intro)
theorem ok__law_large (free : ∀ n ∈ freeNames, mg n = none) (g__law_draw : Good P w K mg base 1 f__law_draw) : ∀ X : Cx, X.K = K → X.mg = mg → X.prog = P → X.w = w → X.base = base → Room 1 X.A → okSs (prX X) ss__law_large := by
  intro X e1 e2 e3 e4 e5 hr
  subst e1 e2 e3 e4 e5
  simp only [ss__law_large, lb__law_large_0, okSs, okS, okE, okEs, okI, and_true, true_and]
  repeat' (first | exact trivial | exact g__law_draw.ok hr (by decide) | apply And.intro)
theorem ok_require (free : ∀ n ∈ freeNames, mg n = none) : ∀ X : Cx, X.K = K → X.mg = mg → X.prog = P → X.w = w → X.base = base → Room 0 X.A → okSs (prX X) ss_require := by
  intro X e1 e2 e3 e4 e5 hr
  subst e1 e2 e3 e4 e5
  simp only [ss_require, okSs, okS, okE, okEs, okI, and_true, true_and]
  repeat' (first | exact trivial | apply And.intro)
theorem ok_Rules_init (free : ∀ n ∈ freeNames, mg n = none) (a_Rules_variables : GoodAt K mg ⟨#[82, 117, 108, 101, 115]⟩ ⟨#[118, 97, 114, 105, 97, 98, 108, 101, 115]⟩) (a_Rules_width : GoodAt K mg ⟨#[82, 117, 108, 101, 115]⟩ ⟨#[119, 105, 100, 116, 104]⟩) : ∀ X : Cx, X.K = K → X.mg = mg → X.prog = P → X.w = w → X.base = base → Room 0 X.A → okSs (prX X) ss_Rules_init := by
  intro X e1 e2 e3 e4 e5 hr
  subst e1 e2 e3 e4 e5
  simp only [ss_Rules_init, okSs, okS, okE, okEs, okI, and_true, true_and]
  repeat' (first | exact trivial | exact a_Rules_variables | exact a_Rules_width | apply And.intro)
theorem ok_count (free : ∀ n ∈ freeNames, mg n = none) (n : Nat) (g_count : Good P w K mg base (1 + n) (f_count n)) : ∀ X : Cx, X.K = K → X.mg = mg → X.prog = P → X.w = w → X.base = base → Room (1 + n) X.A → okSs (prX X) (ss_count (r_count n)) := by
  intro X e1 e2 e3 e4 e5 hr
  subst e1 e2 e3 e4 e5
  simp only [ss_count, lb_count_0, lb_count_1, okSs, okS, okE, okEs, okI, and_true, true_and]
  repeat' (first | exact trivial | exact g_count.ok hr (by omega) | apply And.intro)
theorem ok_parts (free : ∀ n ∈ freeNames, mg n = none) : ∀ X : Cx, X.K = K → X.mg = mg → X.prog = P → X.w = w → X.base = base → Room 0 X.A → okSs (prX X) ss_parts := by
  intro X e1 e2 e3 e4 e5 hr
  subst e1 e2 e3 e4 e5
  simp only [ss_parts, okSs, okS, okE, okEs, okI, and_true, true_and]
  repeat' (first | exact trivial | apply And.intro)
theorem ok_depth (free : ∀ n ∈ freeNames, mg n = none) (n : Nat) (g_depth : Good P w K mg base (2 + n) (f_depth n)) (g_parts : Good P w K mg base 1 f_parts) : ∀ X : Cx, X.K = K → X.mg = mg → X.prog = P → X.w = w → X.base = base → Room (2 + n) X.A → okSs (prX X) (ss_depth (r_depth n)) := by
  intro X e1 e2 e3 e4 e5 hr
  subst e1 e2 e3 e4 e5
  simp only [ss_depth, okSs, okS, okE, okEs, okI, and_true, true_and]
  repeat' (first | exact trivial | exact g_depth.ok hr (by omega) | exact g_parts.ok hr (by omega) | apply And.intro)
theorem ok_expression_right (free : ∀ n ∈ freeNames, mg n = none) (n : Nat) (g_parts : Good P w K mg base 1 f_parts) (g_expression_right : Good P w K mg base (2 + n) (f_expression_right n)) (g_require : Good P w K mg base 1 f_require) : ∀ X : Cx, X.K = K → X.mg = mg → X.prog = P → X.w = w → X.base = base → Room (2 + n) X.A → okSs (prX X) (ss_expression_right (r_expression_right n)) := by
  intro X e1 e2 e3 e4 e5 hr
  subst e1 e2 e3 e4 e5
  simp only [ss_expression_right, lb_expression_right_0, okSs, okS, okE, okEs, okI, and_true, true_and]
  repeat' (first | exact trivial | exact g_parts.ok hr (by omega) | exact g_expression_right.ok hr (by omega) | exact g_require.ok hr (by omega) | apply And.intro)
theorem ok_check_expression (free : ∀ n ∈ freeNames, mg n = none) (g_expression_right : Good P w K mg base 14 (f_expression_right 12)) (g_depth : Good P w K mg base 14 (f_depth 12)) (g_require : Good P w K mg base 1 f_require) (o_DEEPEST_EXPRESSION : GoodGl K mg ⟨#[68, 69, 69, 80, 69, 83, 84, 95, 69, 88, 80, 82, 69, 83, 83, 73, 79, 78]⟩ (.int 5)) : ∀ X : Cx, X.K = K → X.mg = mg → X.prog = P → X.w = w → X.base = base → Room 14 X.A → okSs (prX X) ss_check_expression := by
  intro X e1 e2 e3 e4 e5 hr
  subst e1 e2 e3 e4 e5
  simp only [ss_check_expression, okSs, okS, okE, okEs, okI, and_true, true_and]
  repeat' (first | exact trivial | exact g_expression_right.ok hr (by decide) | exact g_depth.ok hr (by decide) | exact g_require.ok hr (by decide) | exact o_DEEPEST_EXPRESSION | apply And.intro)
theorem ok_Rules_effect (free : ∀ n ∈ freeNames, mg n = none) (g_check_expression : Good P w K mg base 15 f_check_expression) (g_require : Good P w K mg base 1 f_require) (a_Rules_variables : GoodAt K mg ⟨#[82, 117, 108, 101, 115]⟩ ⟨#[118, 97, 114, 105, 97, 98, 108, 101, 115]⟩) (a_Rules_width : GoodAt K mg ⟨#[82, 117, 108, 101, 115]⟩ ⟨#[119, 105, 100, 116, 104]⟩) : ∀ X : Cx, X.K = K → X.mg = mg → X.prog = P → X.w = w → X.base = base → Room 15 X.A → okSs (prX X) ss_Rules_effect := by
  intro X e1 e2 e3 e4 e5 hr
  subst e1 e2 e3 e4 e5
  simp only [ss_Rules_effect, lb_Rules_effect_0, okSs, okS, okE, okEs, okI, and_true, true_and]
  repeat' (first | exact trivial | exact g_check_expression.ok hr (by decide) | exact g_require.ok hr (by decide) | exact a_Rules_variables | exact a_Rules_width | apply And.intro)
theorem ok_Rules_statements (free : ∀ n ∈ freeNames, mg n = none) (n : Nat) (g_check_expression : Good P w K mg base 15 f_check_expression) (g_require : Good P w K mg base 1 f_require) (g_Rules_statements : GoodMe P w K mg base (17 + n) ⟨#[82, 117, 108, 101, 115]⟩ (f_Rules_statements n)) (g_Rules_effect : GoodMe P w K mg base 16 ⟨#[82, 117, 108, 101, 115]⟩ f_Rules_effect) (o_MOST_ROUNDS : GoodGl K mg ⟨#[77, 79, 83, 84, 95, 82, 79, 85, 78, 68, 83]⟩ (.int 8)) (a_Rules_variables : GoodAt K mg ⟨#[82, 117, 108, 101, 115]⟩ ⟨#[118, 97, 114, 105, 97, 98, 108, 101, 115]⟩) : ∀ X : Cx, X.K = K → X.mg = mg → X.prog = P → X.w = w → X.base = base → Room (17 + n) X.A → okSs (prX X) (ss_Rules_statements (r_Rules_statements n)) := by
  intro X e1 e2 e3 e4 e5 hr
  subst e1 e2 e3 e4 e5
  simp only [ss_Rules_statements, lb_Rules_statements_0, okSs, okS, okE, okEs, okI, and_true, true_and]
  repeat' (first | exact trivial | exact g_check_expression.ok hr (by omega) | exact g_require.ok hr (by omega) | exact g_Rules_statements.ok hr (by omega) | exact g_Rules_effect.ok hr (by omega) | exact o_MOST_ROUNDS | exact a_Rules_variables | apply And.intro)
theorem ok_Rules_body (free : ∀ n ∈ freeNames, mg n = none) (g_Rules_statements : GoodMe P w K mg base 29 ⟨#[82, 117, 108, 101, 115]⟩ (f_Rules_statements 12)) (g_require : Good P w K mg base 1 f_require) (g_count : Good P w K mg base 13 (f_count 12)) (o_MOST_LOOPS : GoodGl K mg ⟨#[77, 79, 83, 84, 95, 76, 79, 79, 80, 83]⟩ (.int 2)) (o_DEEPEST_BODY : GoodGl K mg ⟨#[68, 69, 69, 80, 69, 83, 84, 95, 66, 79, 68, 89]⟩ (.int 4)) (o_MOST_STATEMENTS : GoodGl K mg ⟨#[77, 79, 83, 84, 95, 83, 84, 65, 84, 69, 77, 69, 78, 84, 83]⟩ (.int 60)) : ∀ X : Cx, X.K = K → X.mg = mg → X.prog = P → X.w = w → X.base = base → Room 29 X.A → okSs (prX X) ss_Rules_body := by
  intro X e1 e2 e3 e4 e5 hr
  subst e1 e2 e3 e4 e5
  simp only [ss_Rules_body, okSs, okS, okE, okEs, okI, and_true, true_and]
  repeat' (first | exact trivial | exact g_Rules_statements.ok hr (by decide) | exact g_require.ok hr (by decide) | exact g_count.ok hr (by decide) | exact o_MOST_LOOPS | exact o_DEEPEST_BODY | exact o_MOST_STATEMENTS | apply And.intro)
theorem ok_check (free : ∀ n ∈ freeNames, mg n = none) (g_check_expression : Good P w K mg base 15 f_check_expression) (g_Rules_body : GoodMe P w K mg base 30 ⟨#[82, 117, 108, 101, 115]⟩ f_Rules_body) (g_Rules_init : GoodMk P w K mg base 1 ⟨#[82, 117, 108, 101, 115]⟩ f_Rules_init) (g_require : Good P w K mg base 1 f_require) : ∀ X : Cx, X.K = K → X.mg = mg → X.prog = P → X.w = w → X.base = base → Room 30 X.A → okSs (prX X) ss_check := by
  intro X e1 e2 e3 e4 e5 hr
  subst e1 e2 e3 e4 e5
  simp only [ss_check, okSs, okS, okE, okEs, okI, and_true, true_and]
  repeat' (first | exact trivial | exact g_check_expression.ok hr (by decide) | exact g_Rules_body.ok hr (by decide) | exact g_Rules_init.ok hr (by decide) | exact g_require.ok hr (by decide) | apply And.intro)
theorem ok__law_depth (free : ∀ n ∈ freeNames, mg n = none) (n : Nat) (g__law_depth : Good P w K mg base (1 + n) (f__law_depth n)) : ∀ X : Cx, X.K = K → X.mg = mg → X.prog = P → X.w = w → X.base = base → Room (1 + n) X.A → okSs (prX X) (ss__law_depth (r__law_depth n)) := by
  intro X e1 e2 e3 e4 e5 hr
  subst e1 e2 e3 e4 e5
  simp only [ss__law_depth, lb__law_depth_0, okSs, okS, okE, okEs, okI, and_true, true_and]
  repeat' (first | exact trivial | exact g__law_depth.ok hr (by omega) | apply And.intro)
theorem ok_law (free : ∀ n ∈ freeNames, mg n = none) (g__law_state : Good P w K mg base 1 f__law_state) (g__law_store : Good P w K mg base 28 f__law_store) (g__law_draw : Good P w K mg base 1 f__law_draw) (g__law_large : Good P w K mg base 2 f__law_large) (g_check : Good P w K mg base 31 f_check) (g__law_expr : Good P w K mg base 14 (f__law_expr 12)) (g_depth : Good P w K mg base 14 (f_depth 12)) (g__law_depth : Good P w K mg base 13 (f__law_depth 12)) : ∀ X : Cx, X.K = K → X.mg = mg → X.prog = P → X.w = w → X.base = base → Room 31 X.A → X.A.guards = some [] → okSs (prX X) ss_law := by
  intro X e1 e2 e3 e4 e5 hr hgd
  subst e1 e2 e3 e4 e5
  simp only [ss_law, st_law_0, st_law_1, st_law_2, st_law_3, st_law_4, st_law_5, st_law_6, st_law_7, okSs, okS, okE, okEs, okI, and_true, true_and]
  repeat' (first | exact trivial | exact g__law_state.ok hr (by decide) | exact g__law_store.ok hr (by decide) | exact g__law_draw.ok hr (by decide) | exact g__law_large.ok hr (by decide) | exact g_check.ok hr (by decide) | exact g__law_expr.ok hr (by decide) | exact g_depth.ok hr (by decide) | exact g__law_depth.ok hr (by decide) | exact hgd | apply And.intro)
theorem facts {h : Heap} (X : K.In h) (G : h.Ns mainGlobals mg) (c : He.SaysD fa fn K) (ce : ex K = true) : mg f_law.name = some (.ref (He.ga K f_law.name)) ∧
    ∀ base : Heap, K.In base → base.Ns mainGlobals mg → LawAt P w K mg base (He.ga K f_law.name) (spF K mg w f_law.run) := by
  have free : ∀ n ∈ freeNames, mg n = none := fun n hn => says_free X G c (List.mem_append_right _ (List.mem_append_right _ (List.mem_append_right _ (List.mem_append_right _ (List.mem_append_right _ (List.mem_append_right _ (List.mem_append_right _ (List.mem_map_of_mem hn))))))))
  have o_DEEPEST_BODY : GoodGl K mg ⟨#[68, 69, 69, 80, 69, 83, 84, 95, 66, 79, 68, 89]⟩ (.int 4) := says_int X G c (x := ⟨#[68, 69, 69, 80, 69, 83, 84, 95, 66, 79, 68, 89]⟩) (i := 4) (List.mem_append_right _ (List.mem_append_right _ (List.mem_append_right _ (List.mem_append_right _ (List.mem_append_right _ (List.mem_append_left _ (List.mem_map_of_mem (f := fun x => He.Fa.int x.1 x.2) (List.mem_of_getElem? (i := 0) (a := ((⟨#[68, 69, 69, 80, 69, 83, 84, 95, 66, 79, 68, 89]⟩, 4) : Str × Int)) rfl))))))))
  have o_DEEPEST_EXPRESSION : GoodGl K mg ⟨#[68, 69, 69, 80, 69, 83, 84, 95, 69, 88, 80, 82, 69, 83, 83, 73, 79, 78]⟩ (.int 5) := says_int X G c (x := ⟨#[68, 69, 69, 80, 69, 83, 84, 95, 69, 88, 80, 82, 69, 83, 83, 73, 79, 78]⟩) (i := 5) (List.mem_append_right _ (List.mem_append_right _ (List.mem_append_right _ (List.mem_append_right _ (List.mem_append_right _ (List.mem_append_left _ (List.mem_map_of_mem (f := fun x => He.Fa.int x.1 x.2) (List.mem_of_getElem? (i := 1) (a := ((⟨#[68, 69, 69, 80, 69, 83, 84, 95, 69, 88, 80, 82, 69, 83, 83, 73, 79, 78]⟩, 5) : Str × Int)) rfl))))))))
  have o_MOST_LOOPS : GoodGl K mg ⟨#[77, 79, 83, 84, 95, 76, 79, 79, 80, 83]⟩ (.int 2) := says_int X G c (x := ⟨#[77, 79, 83, 84, 95, 76, 79, 79, 80, 83]⟩) (i := 2) (List.mem_append_right _ (List.mem_append_right _ (List.mem_append_right _ (List.mem_append_right _ (List.mem_append_right _ (List.mem_append_left _ (List.mem_map_of_mem (f := fun x => He.Fa.int x.1 x.2) (List.mem_of_getElem? (i := 2) (a := ((⟨#[77, 79, 83, 84, 95, 76, 79, 79, 80, 83]⟩, 2) : Str × Int)) rfl))))))))
  have o_MOST_ROUNDS : GoodGl K mg ⟨#[77, 79, 83, 84, 95, 82, 79, 85, 78, 68, 83]⟩ (.int 8) := says_int X G c (x := ⟨#[77, 79, 83, 84, 95, 82, 79, 85, 78, 68, 83]⟩) (i := 8) (List.mem_append_right _ (List.mem_append_right _ (List.mem_append_right _ (List.mem_append_right _ (List.mem_append_right _ (List.mem_append_left _ (List.mem_map_of_mem (f := fun x => He.Fa.int x.1 x.2) (List.mem_of_getElem? (i := 3) (a := ((⟨#[77, 79, 83, 84, 95, 82, 79, 85, 78, 68, 83]⟩, 8) : Str × Int)) rfl))))))))
  have o_MOST_STATEMENTS : GoodGl K mg ⟨#[77, 79, 83, 84, 95, 83, 84, 65, 84, 69, 77, 69, 78, 84, 83]⟩ (.int 60) := says_int X G c (x := ⟨#[77, 79, 83, 84, 95, 83, 84, 65, 84, 69, 77, 69, 78, 84, 83]⟩) (i := 60) (List.mem_append_right _ (List.mem_append_right _ (List.mem_append_right _ (List.mem_append_right _ (List.mem_append_right _ (List.mem_append_left _ (List.mem_map_of_mem (f := fun x => He.Fa.int x.1 x.2) (List.mem_of_getElem? (i := 4) (a := ((⟨#[77, 79, 83, 84, 95, 83, 84, 65, 84, 69, 77, 69, 78, 84, 83]⟩, 60) : Str × Int)) rfl))))))))
  have n__law_state : mg ⟨#[95, 108, 97, 119, 95, 115, 116, 97, 116, 101]⟩ = some (.ref (He.ga K ⟨#[95, 108, 97, 119, 95, 115, 116, 97, 116, 101]⟩)) := says_glo X G c (List.mem_append_left _ (List.mem_map_of_mem (f := fun x => He.Fa.glo x) (List.mem_of_getElem? (i := 0) (a := (⟨#[95, 108, 97, 119, 95, 115, 116, 97, 116, 101]⟩ : Str)) rfl)))
  have n__law_draw : mg ⟨#[95, 108, 97, 119, 95, 100, 114, 97, 119]⟩ = some (.ref (He.ga K ⟨#[95, 108, 97, 119, 95, 100, 114, 97, 119]⟩)) := says_glo X G c (List.mem_append_left _ (List.mem_map_of_mem (f := fun x => He.Fa.glo x) (List.mem_of_getElem? (i := 1) (a := (⟨#[95, 108, 97, 119, 95, 100, 114, 97, 119]⟩ : Str)) rfl)))
  have n__law_expr : mg ⟨#[95, 108, 97, 119, 95, 101, 120, 112, 114]⟩ = some (.ref (He.ga K ⟨#[95, 108, 97, 119, 95, 101, 120, 112, 114]⟩)) := says_glo X G c (List.mem_append_left _ (List.mem_map_of_mem (f := fun x => He.Fa.glo x) (List.mem_of_getElem? (i := 2) (a := (⟨#[95, 108, 97, 119, 95, 101, 120, 112, 114]⟩ : Str)) rfl)))
  have n__law_body : mg ⟨#[95, 108, 97, 119, 95, 98, 111, 100, 121]⟩ = some (.ref (He.ga K ⟨#[95, 108, 97, 119, 95, 98, 111, 100, 121]⟩)) := says_glo X G c (List.mem_append_left _ (List.mem_map_of_mem (f := fun x => He.Fa.glo x) (List.mem_of_getElem? (i := 3) (a := (⟨#[95, 108, 97, 119, 95, 98, 111, 100, 121]⟩ : Str)) rfl)))
  have n__law_statement : mg ⟨#[95, 108, 97, 119, 95, 115, 116, 97, 116, 101, 109, 101, 110, 116]⟩ = some (.ref (He.ga K ⟨#[95, 108, 97, 119, 95, 115, 116, 97, 116, 101, 109, 101, 110, 116]⟩)) := says_glo X G c (List.mem_append_left _ (List.mem_map_of_mem (f := fun x => He.Fa.glo x) (List.mem_of_getElem? (i := 4) (a := (⟨#[95, 108, 97, 119, 95, 115, 116, 97, 116, 101, 109, 101, 110, 116]⟩ : Str)) rfl)))
  have n__law_most_writes : mg ⟨#[95, 108, 97, 119, 95, 109, 111, 115, 116, 95, 119, 114, 105, 116, 101, 115]⟩ = some (.ref (He.ga K ⟨#[95, 108, 97, 119, 95, 109, 111, 115, 116, 95, 119, 114, 105, 116, 101, 115]⟩)) := says_glo X G c (List.mem_append_left _ (List.mem_map_of_mem (f := fun x => He.Fa.glo x) (List.mem_of_getElem? (i := 5) (a := (⟨#[95, 108, 97, 119, 95, 109, 111, 115, 116, 95, 119, 114, 105, 116, 101, 115]⟩ : Str)) rfl)))
  have n__law_store : mg ⟨#[95, 108, 97, 119, 95, 115, 116, 111, 114, 101]⟩ = some (.ref (He.ga K ⟨#[95, 108, 97, 119, 95, 115, 116, 111, 114, 101]⟩)) := says_glo X G c (List.mem_append_left _ (List.mem_map_of_mem (f := fun x => He.Fa.glo x) (List.mem_of_getElem? (i := 6) (a := (⟨#[95, 108, 97, 119, 95, 115, 116, 111, 114, 101]⟩ : Str)) rfl)))
  have n__law_large : mg ⟨#[95, 108, 97, 119, 95, 108, 97, 114, 103, 101]⟩ = some (.ref (He.ga K ⟨#[95, 108, 97, 119, 95, 108, 97, 114, 103, 101]⟩)) := says_glo X G c (List.mem_append_left _ (List.mem_map_of_mem (f := fun x => He.Fa.glo x) (List.mem_of_getElem? (i := 7) (a := (⟨#[95, 108, 97, 119, 95, 108, 97, 114, 103, 101]⟩ : Str)) rfl)))
  have n_require : mg ⟨#[114, 101, 113, 117, 105, 114, 101]⟩ = some (.ref (He.ga K ⟨#[114, 101, 113, 117, 105, 114, 101]⟩)) := says_glo X G c (List.mem_append_left _ (List.mem_map_of_mem (f := fun x => He.Fa.glo x) (List.mem_of_getElem? (i := 8) (a := (⟨#[114, 101, 113, 117, 105, 114, 101]⟩ : Str)) rfl)))
  have n_count : mg ⟨#[99, 111, 117, 110, 116]⟩ = some (.ref (He.ga K ⟨#[99, 111, 117, 110, 116]⟩)) := says_glo X G c (List.mem_append_left _ (List.mem_map_of_mem (f := fun x => He.Fa.glo x) (List.mem_of_getElem? (i := 9) (a := (⟨#[99, 111, 117, 110, 116]⟩ : Str)) rfl)))
  have n_parts : mg ⟨#[112, 97, 114, 116, 115]⟩ = some (.ref (He.ga K ⟨#[112, 97, 114, 116, 115]⟩)) := says_glo X G c (List.mem_append_left _ (List.mem_map_of_mem (f := fun x => He.Fa.glo x) (List.mem_of_getElem? (i := 10) (a := (⟨#[112, 97, 114, 116, 115]⟩ : Str)) rfl)))
  have n_depth : mg ⟨#[100, 101, 112, 116, 104]⟩ = some (.ref (He.ga K ⟨#[100, 101, 112, 116, 104]⟩)) := says_glo X G c (List.mem_append_left _ (List.mem_map_of_mem (f := fun x => He.Fa.glo x) (List.mem_of_getElem? (i := 11) (a := (⟨#[100, 101, 112, 116, 104]⟩ : Str)) rfl)))
  have n_expression_right : mg ⟨#[101, 120, 112, 114, 101, 115, 115, 105, 111, 110, 95, 114, 105, 103, 104, 116]⟩ = some (.ref (He.ga K ⟨#[101, 120, 112, 114, 101, 115, 115, 105, 111, 110, 95, 114, 105, 103, 104, 116]⟩)) := says_glo X G c (List.mem_append_left _ (List.mem_map_of_mem (f := fun x => He.Fa.glo x) (List.mem_of_getElem? (i := 12) (a := (⟨#[101, 120, 112, 114, 101, 115, 115, 105, 111, 110, 95, 114, 105, 103, 104, 116]⟩ : Str)) rfl)))
  have n_check_expression : mg ⟨#[99, 104, 101, 99, 107, 95, 101, 120, 112, 114, 101, 115, 115, 105, 111, 110]⟩ = some (.ref (He.ga K ⟨#[99, 104, 101, 99, 107, 95, 101, 120, 112, 114, 101, 115, 115, 105, 111, 110]⟩)) := says_glo X G c (List.mem_append_left _ (List.mem_map_of_mem (f := fun x => He.Fa.glo x) (List.mem_of_getElem? (i := 13) (a := (⟨#[99, 104, 101, 99, 107, 95, 101, 120, 112, 114, 101, 115, 115, 105, 111, 110]⟩ : Str)) rfl)))
  have n_check : mg ⟨#[99, 104, 101, 99, 107]⟩ = some (.ref (He.ga K ⟨#[99, 104, 101, 99, 107]⟩)) := says_glo X G c (List.mem_append_left _ (List.mem_map_of_mem (f := fun x => He.Fa.glo x) (List.mem_of_getElem? (i := 14) (a := (⟨#[99, 104, 101, 99, 107]⟩ : Str)) rfl)))
  have n__law_depth : mg ⟨#[95, 108, 97, 119, 95, 100, 101, 112, 116, 104]⟩ = some (.ref (He.ga K ⟨#[95, 108, 97, 119, 95, 100, 101, 112, 116, 104]⟩)) := says_glo X G c (List.mem_append_left _ (List.mem_map_of_mem (f := fun x => He.Fa.glo x) (List.mem_of_getElem? (i := 15) (a := (⟨#[95, 108, 97, 119, 95, 100, 101, 112, 116, 104]⟩ : Str)) rfl)))
  have n_law : mg ⟨#[108, 97, 119]⟩ = some (.ref (He.ga K ⟨#[108, 97, 119]⟩)) := says_glo X G c (List.mem_append_left _ (List.mem_map_of_mem (f := fun x => He.Fa.glo x) (List.mem_of_getElem? (i := 16) (a := (⟨#[108, 97, 119]⟩ : Str)) rfl)))
  have n_Rules : mg ⟨#[82, 117, 108, 101, 115]⟩ = some (.ref (He.ga K ⟨#[82, 117, 108, 101, 115]⟩)) := says_glo X G c (List.mem_append_left _ (List.mem_map_of_mem (f := fun x => He.Fa.glo x) (List.mem_of_getElem? (i := 17) (a := (⟨#[82, 117, 108, 101, 115]⟩ : Str)) rfl)))
  have l_Rules := says_cls c (x := ⟨#[82, 117, 108, 101, 115]⟩) (List.mem_append_right _ (List.mem_append_left _ (List.mem_map_of_mem (f := fun x => He.Fa.cls x) (List.mem_of_getElem? (i := 0) (a := (⟨#[82, 117, 108, 101, 115]⟩ : Str)) rfl))))
  have a_Rules_variables : GoodAt K mg ⟨#[82, 117, 108, 101, 115]⟩ ⟨#[118, 97, 114, 105, 97, 98, 108, 101, 115]⟩ := ⟨_, n_Rules, l_Rules, says_noat c (List.mem_append_right _ (List.mem_append_right _ (List.mem_append_left _ (List.mem_map_of_mem (f := fun x => He.Fa.noat x.1 x.2) (List.mem_of_getElem? (i := 0) (a := ((⟨#[82, 117, 108, 101, 115]⟩, ⟨#[118, 97, 114, 105, 97, 98, 108, 101, 115]⟩) : Str × Str)) rfl)))))⟩
  have a_Rules_width : GoodAt K mg ⟨#[82, 117, 108, 101, 115]⟩ ⟨#[119, 105, 100, 116, 104]⟩ := ⟨_, n_Rules, l_Rules, says_noat c (List.mem_append_right _ (List.mem_append_right _ (List.mem_append_left _ (List.mem_map_of_mem (f := fun x => He.Fa.noat x.1 x.2) (List.mem_of_getElem? (i := 1) (a := ((⟨#[82, 117, 108, 101, 115]⟩, ⟨#[119, 105, 100, 116, 104]⟩) : Str × Str)) rfl)))))⟩
  have e_Rules_effect := says_meth c (x := ⟨#[82, 117, 108, 101, 115]⟩) (m := ⟨#[101, 102, 102, 101, 99, 116]⟩) (List.mem_append_right _ (List.mem_append_right _ (List.mem_append_right _ (List.mem_append_left _ (List.mem_map_of_mem (f := fun x => He.Fa.meth x.1 x.2) (List.mem_of_getElem? (i := 0) (a := ((⟨#[82, 117, 108, 101, 115]⟩, ⟨#[101, 102, 102, 101, 99, 116]⟩) : Str × Str)) rfl))))))
  have e_Rules_statements := says_meth c (x := ⟨#[82, 117, 108, 101, 115]⟩) (m := ⟨#[115, 116, 97, 116, 101, 109, 101, 110, 116, 115]⟩) (List.mem_append_right _ (List.mem_append_right _ (List.mem_append_right _ (List.mem_append_left _ (List.mem_map_of_mem (f := fun x => He.Fa.meth x.1 x.2) (List.mem_of_getElem? (i := 1) (a := ((⟨#[82, 117, 108, 101, 115]⟩, ⟨#[115, 116, 97, 116, 101, 109, 101, 110, 116, 115]⟩) : Str × Str)) rfl))))))
  have e_Rules_body := says_meth c (x := ⟨#[82, 117, 108, 101, 115]⟩) (m := ⟨#[98, 111, 100, 121]⟩) (List.mem_append_right _ (List.mem_append_right _ (List.mem_append_right _ (List.mem_append_left _ (List.mem_map_of_mem (f := fun x => He.Fa.meth x.1 x.2) (List.mem_of_getElem? (i := 2) (a := ((⟨#[82, 117, 108, 101, 115]⟩, ⟨#[98, 111, 100, 121]⟩) : Str × Str)) rfl))))))
  have k_Rules := says_mkr c (x := ⟨#[82, 117, 108, 101, 115]⟩) (List.mem_append_right _ (List.mem_append_right _ (List.mem_append_right _ (List.mem_append_right _ (List.mem_append_left _ (List.mem_map_of_mem (f := fun x => He.Fa.mkr x) (List.mem_of_getElem? (i := 0) (a := (⟨#[82, 117, 108, 101, 115]⟩ : Str)) rfl)))))))
  obtain ⟨fd__law_state, FD__law_state⟩ := c.def_ 0 (d := d__law_state) rfl
  obtain ⟨fd__law_draw, FD__law_draw⟩ := c.def_ 1 (d := d__law_draw) rfl
  obtain ⟨fd__law_expr, FD__law_expr⟩ := c.def_ 2 (d := d__law_expr) rfl
  obtain ⟨fd__law_body, FD__law_body⟩ := c.def_ 3 (d := d__law_body) rfl
  obtain ⟨fd__law_statement, FD__law_statement⟩ := c.def_ 4 (d := d__law_statement) rfl
  obtain ⟨fd__law_most_writes, FD__law_most_writes⟩ := c.def_ 5 (d := d__law_most_writes) rfl
  obtain ⟨fd__law_store, FD__law_store⟩ := c.def_ 6 (d := d__law_store) rfl
  obtain ⟨fd__law_large, FD__law_large⟩ := c.def_ 7 (d := d__law_large) rfl
  obtain ⟨fd_require, FD_require⟩ := c.def_ 8 (d := d_require) rfl
  obtain ⟨fd_Rules_init, FD_Rules_init⟩ := c.def_ 9 (d := d_Rules_init) rfl
  obtain ⟨fd_count, FD_count⟩ := c.def_ 10 (d := d_count) rfl
  obtain ⟨fd_parts, FD_parts⟩ := c.def_ 11 (d := d_parts) rfl
  obtain ⟨fd_depth, FD_depth⟩ := c.def_ 12 (d := d_depth) rfl
  obtain ⟨fd_expression_right, FD_expression_right⟩ := c.def_ 13 (d := d_expression_right) rfl
  obtain ⟨fd_check_expression, FD_check_expression⟩ := c.def_ 14 (d := d_check_expression) rfl
  obtain ⟨fd_Rules_effect, FD_Rules_effect⟩ := c.def_ 15 (d := d_Rules_effect) rfl
  obtain ⟨fd_Rules_statements, FD_Rules_statements⟩ := c.def_ 16 (d := d_Rules_statements) rfl
  obtain ⟨fd_Rules_body, FD_Rules_body⟩ := c.def_ 17 (d := d_Rules_body) rfl
  obtain ⟨fd_check, FD_check⟩ := c.def_ 18 (d := d_check) rfl
  obtain ⟨fd__law_depth, FD__law_depth⟩ := c.def_ 19 (d := d__law_depth) rfl
  obtain ⟨fd_law, FD_law⟩ := c.def_ 20 (d := d_law) rfl
  refine ⟨n_law, fun base KB GB => ?_⟩
  have g__law_state : Good P w K mg base 1 f__law_state := good_of FD__law_state c__law_state m__law_state free n__law_state (fun _ _ _ _ _ _ us hl => match us, hl with | [_], _ => rfl) (ok__law_state free)
  have g__law_draw : Good P w K mg base 1 f__law_draw := good_of FD__law_draw c__law_draw m__law_draw free n__law_draw (fun _ _ _ _ _ _ us hl => match us, hl with | [_, _], _ => rfl) (ok__law_draw free)
  have gs__law_expr : ∀ n : Nat, (Good P w K mg base (2 + n) (f__law_expr n)) := by
    intro n
    induction n with
    | zero => exact good_zero (ps := [⟨#[115, 116, 97, 116, 101]⟩, ⟨#[110, 97, 109, 101, 115]⟩, ⟨#[118, 97, 114, 105, 97, 98, 108, 101, 115]⟩, ⟨#[100, 101, 101, 112]⟩]) FD__law_expr n__law_expr (fun _ _ _ _ _ _ us hl => match us, hl with | [_, _, _, _], _ => rfl)
    | succ n ih =>
      have ih__law_expr := ih
      exact good_of FD__law_expr c__law_expr (m__law_expr (r__law_expr n)) free n__law_expr (fun _ _ _ _ _ _ us hl => match us, hl with | [_, _, _, _], _ => rfl) (ok__law_expr free n ih__law_expr g__law_draw)
  have g__law_expr : Good P w K mg base 14 (f__law_expr 12) := (gs__law_expr 12)
  have gs__law_body : ∀ n : Nat, (Good P w K mg base (15 + n) (f__law_body n)) ∧ (Good P w K mg base (15 + n) (f__law_statement n)) := by
    intro n
    induction n with
    | zero => exact ⟨good_zero (ps := [⟨#[115, 116, 97, 116, 101]⟩, ⟨#[115, 104, 97, 112, 101]⟩, ⟨#[110, 97, 109, 101, 115]⟩, ⟨#[119, 114, 105, 116, 101, 115]⟩, ⟨#[110, 101, 115, 116, 101, 100]⟩]) FD__law_body n__law_body (fun _ _ _ _ _ _ us hl => match us, hl with | [_, _, _, _, _], _ => rfl), good_zero (ps := [⟨#[115, 116, 97, 116, 101]⟩, ⟨#[115, 104, 97, 112, 101]⟩, ⟨#[110, 97, 109, 101, 115]⟩, ⟨#[119, 114, 105, 116, 101, 115]⟩, ⟨#[110, 101, 115, 116, 101, 100]⟩]) FD__law_statement n__law_statement (fun _ _ _ _ _ _ us hl => match us, hl with | [_, _, _, _, _], _ => rfl)⟩
    | succ n ih =>
      obtain ⟨ih__law_body, ih__law_statement⟩ := ih
      exact ⟨good_of FD__law_body c__law_body (m__law_body (r__law_body n) (r__law_statement n)) free n__law_body (fun _ _ _ _ _ _ us hl => match us, hl with | [_, _, _, _, _], _ => rfl) (ok__law_body free n ih__law_statement g__law_draw), good_of FD__law_statement c__law_statement (m__law_statement (r__law_body n) (r__law_statement n)) free n__law_statement (fun _ _ _ _ _ _ us hl => match us, hl with | [_, _, _, _, _], _ => rfl) (ok__law_statement free n g__law_expr ih__law_body g__law_draw)⟩
  have g__law_body : Good P w K mg base 27 (f__law_body 12) := (gs__law_body 12).1
  have g__law_statement : Good P w K mg base 27 (f__law_statement 12) := (gs__law_body 12).2
  have gs__law_most_writes : ∀ n : Nat, (Good P w K mg base (1 + n) (f__law_most_writes n)) := by
    intro n
    induction n with
    | zero => exact good_zero (ps := [⟨#[98, 111, 100, 121]⟩]) FD__law_most_writes n__law_most_writes (fun _ _ _ _ _ _ us hl => match us, hl with | [_], _ => rfl)
    | succ n ih =>
      have ih__law_most_writes := ih
      exact good_of FD__law_most_writes c__law_most_writes (m__law_most_writes (r__law_most_writes n)) free n__law_most_writes (fun _ _ _ _ _ _ us hl => match us, hl with | [_], _ => rfl) (ok__law_most_writes free n ih__law_most_writes)
  have g__law_most_writes : Good P w K mg base 13 (f__law_most_writes 12) := (gs__law_most_writes 12)
  have g__law_store : Good P w K mg base 28 f__law_store := good_of FD__law_store c__law_store m__law_store free n__law_store (fun _ _ _ _ _ _ us hl => match us, hl with | [_], _ => rfl) (ok__law_store free g__law_draw g__law_body g__law_expr g__law_most_writes)
  have g__law_large : Good P w K mg base 2 f__law_large := good_of FD__law_large c__law_large m__law_large free n__law_large (fun _ _ _ _ _ _ us hl => match us, hl with | [_], _ => rfl) (ok__law_large free g__law_draw)
  have g_require : Good P w K mg base 1 f_require := good_of FD_require c_require m_require free n_require (fun _ _ _ _ _ _ us hl => match us, hl with | [_, _], _ => rfl) (ok_require free)
  have g_Rules_init : GoodMk P w K mg base 1 ⟨#[82, 117, 108, 101, 115]⟩ f_Rules_init := mk_of FD_Rules_init c_Rules_init m_Rules_init free n_Rules k_Rules (fun _ _ _ _ _ _ us hl => match us, hl with | [_, _, _], _ => rfl) (ok_Rules_init free a_Rules_variables a_Rules_width)
  have gs_count : ∀ n : Nat, (Good P w K mg base (1 + n) (f_count n)) := by
    intro n
    induction n with
    | zero => exact good_zero (ps := [⟨#[98, 111, 100, 121]⟩]) FD_count n_count (fun _ _ _ _ _ _ us hl => match us, hl with | [_], _ => rfl)
    | succ n ih =>
      have ih_count := ih
      exact good_of FD_count c_count (m_count (r_count n)) free n_count (fun _ _ _ _ _ _ us hl => match us, hl with | [_], _ => rfl) (ok_count free n ih_count)
  have g_count : Good P w K mg base 13 (f_count 12) := (gs_count 12)
  have g_parts : Good P w K mg base 1 f_parts := good_of FD_parts c_parts m_parts free n_parts (fun _ _ _ _ _ _ us hl => match us, hl with | [_], _ => rfl) (ok_parts free)
  have gs_depth : ∀ n : Nat, (Good P w K mg base (2 + n) (f_depth n)) := by
    intro n
    induction n with
    | zero => exact good_zero (ps := [⟨#[101]⟩]) FD_depth n_depth (fun _ _ _ _ _ _ us hl => match us, hl with | [_], _ => rfl)
    | succ n ih =>
      have ih_depth := ih
      exact good_of FD_depth c_depth (m_depth (r_depth n)) free n_depth (fun _ _ _ _ _ _ us hl => match us, hl with | [_], _ => rfl) (ok_depth free n ih_depth g_parts)
  have g_depth : Good P w K mg base 14 (f_depth 12) := (gs_depth 12)
  have gs_expression_right : ∀ n : Nat, (Good P w K mg base (2 + n) (f_expression_right n)) := by
    intro n
    induction n with
    | zero => exact good_zero (ps := [⟨#[101]⟩, ⟨#[110, 97, 109, 101, 115]⟩, ⟨#[118, 97, 114, 105, 97, 98, 108, 101, 115]⟩]) FD_expression_right n_expression_right (fun _ _ _ _ _ _ us hl => match us, hl with | [_, _, _], _ => rfl)
    | succ n ih =>
      have ih_expression_right := ih
      exact good_of FD_expression_right c_expression_right (m_expression_right (r_expression_right n)) free n_expression_right (fun _ _ _ _ _ _ us hl => match us, hl with | [_, _, _], _ => rfl) (ok_expression_right free n g_parts ih_expression_right g_require)
  have g_expression_right : Good P w K mg base 14 (f_expression_right 12) := (gs_expression_right 12)
  have g_check_expression : Good P w K mg base 15 f_check_expression := good_of FD_check_expression c_check_expression m_check_expression free n_check_expression (fun _ _ _ _ _ _ us hl => match us, hl with | [_, _, _], _ => rfl) (ok_check_expression free g_expression_right g_depth g_require o_DEEPEST_EXPRESSION)
  have g_Rules_effect : GoodMe P w K mg base 16 ⟨#[82, 117, 108, 101, 115]⟩ f_Rules_effect := me_of FD_Rules_effect c_Rules_effect m_Rules_effect free n_Rules l_Rules e_Rules_effect (fun _ _ _ _ _ _ us hl => match us, hl with | [_, _, _], _ => rfl) (ok_Rules_effect free g_check_expression g_require a_Rules_variables a_Rules_width)
  have gs_Rules_statements : ∀ n : Nat, (GoodMe P w K mg base (17 + n) ⟨#[82, 117, 108, 101, 115]⟩ (f_Rules_statements n)) := by
    intro n
    induction n with
    | zero => exact me_zero (ps := [⟨#[115, 101, 108, 102]⟩, ⟨#[98, 111, 100, 121]⟩, ⟨#[110, 97, 109, 101, 115]⟩, ⟨#[119, 114, 105, 116, 101, 115]⟩]) FD_Rules_statements n_Rules l_Rules e_Rules_statements (fun _ _ _ _ _ _ us hl => match us, hl with | [_, _, _, _], _ => rfl)
    | succ n ih =>
      have ih_Rules_statements := ih
      exact me_of FD_Rules_statements c_Rules_statements (m_Rules_statements (r_Rules_statements n)) free n_Rules l_Rules e_Rules_statements (fun _ _ _ _ _ _ us hl => match us, hl with | [_, _, _, _], _ => rfl) (ok_Rules_statements free n g_check_expression g_require ih_Rules_statements g_Rules_effect o_MOST_ROUNDS a_Rules_variables)
  have g_Rules_statements : GoodMe P w K mg base 29 ⟨#[82, 117, 108, 101, 115]⟩ (f_Rules_statements 12) := (gs_Rules_statements 12)
  have g_Rules_body : GoodMe P w K mg base 30 ⟨#[82, 117, 108, 101, 115]⟩ f_Rules_body := me_of FD_Rules_body c_Rules_body m_Rules_body free n_Rules l_Rules e_Rules_body (fun _ _ _ _ _ _ us hl => match us, hl with | [_, _, _, _], _ => rfl) (ok_Rules_body free g_Rules_statements g_require g_count o_MOST_LOOPS o_DEEPEST_BODY o_MOST_STATEMENTS)
  have g_check : Good P w K mg base 31 f_check := good_of FD_check c_check m_check free n_check (fun _ _ _ _ _ _ us hl => match us, hl with | [_], _ => rfl) (ok_check free g_check_expression g_Rules_body g_Rules_init g_require)
  have gs__law_depth : ∀ n : Nat, (Good P w K mg base (1 + n) (f__law_depth n)) := by
    intro n
    induction n with
    | zero => exact good_zero (ps := [⟨#[101]⟩]) FD__law_depth n__law_depth (fun _ _ _ _ _ _ us hl => match us, hl with | [_], _ => rfl)
    | succ n ih =>
      have ih__law_depth := ih
      exact good_of FD__law_depth c__law_depth (m__law_depth (r__law_depth n)) free n__law_depth (fun _ _ _ _ _ _ us hl => match us, hl with | [_], _ => rfl) (ok__law_depth free n ih__law_depth)
  have g__law_depth : Good P w K mg base 13 (f__law_depth 12) := (gs__law_depth 12)
  exact def_law FD_law c_law m_law free ⟨rfl, by decide, by decide⟩ (fun s u => FunD.bindsA (ps := [⟨#[115, 99, 114, 105, 112, 116]⟩]) FD_law (fun _ _ _ _ _ _ us hl => match us, hl with | [_], _ => rfl) s [u] rfl) (k := 31) (ok_law free g__law_state g__law_store g__law_draw g__law_large g_check g__law_expr g_depth g__law_depth)
end
abbrev R : PySem.W.OpenRow := PySem.W.OpenLaw.row PySem.Challenge.rw_salvor_k02_valid_stores
abbrev hk : PySem.W.Hook := He.hookX 6 fa fn [] [] ex
def ob (s : PySem.W.SharedT) : He.AlX := He.obsX 6 fa fn [] [] ex (HandSHeadRun.getT s)
theorem ob_eq (s : PySem.W.SharedT) : ob s = hk.obs s.abs := He.obsX_eq (HandSHeadRun.getT_eq s)
def loose : List PySem.Str := ([⟨#[68, 69, 69, 80, 69, 83, 84, 95, 66, 79, 68, 89]⟩, ⟨#[68, 69, 69, 80, 69, 83, 84, 95, 69, 88, 80, 82, 69, 83, 83, 73, 79, 78]⟩, ⟨#[77, 79, 83, 84, 95, 76, 79, 79, 80, 83]⟩, ⟨#[77, 79, 83, 84, 95, 82, 79, 85, 78, 68, 83]⟩, ⟨#[77, 79, 83, 84, 95, 83, 84, 65, 84, 69, 77, 69, 78, 84, 83]⟩, ⟨#[82, 117, 108, 101, 115]⟩, ⟨#[83, 97, 108, 118, 111, 114, 69, 114, 114, 111, 114]⟩, ⟨#[83, 116, 111, 114, 101, 69, 114, 114, 111, 114]⟩, ⟨#[95, 108, 97, 119, 95, 98, 111, 100, 121]⟩, ⟨#[95, 108, 97, 119, 95, 100, 101, 112, 116, 104]⟩, ⟨#[95, 108, 97, 119, 95, 100, 114, 97, 119]⟩, ⟨#[95, 108, 97, 119, 95, 101, 120, 112, 114]⟩, ⟨#[95, 108, 97, 119, 95, 108, 97, 114, 103, 101]⟩, ⟨#[95, 108, 97, 119, 95, 109, 111, 115, 116, 95, 119, 114, 105, 116, 101, 115]⟩, ⟨#[95, 108, 97, 119, 95, 115, 116, 97, 116, 101]⟩, ⟨#[95, 108, 97, 119, 95, 115, 116, 97, 116, 101, 109, 101, 110, 116]⟩, ⟨#[95, 108, 97, 119, 95, 115, 116, 111, 114, 101]⟩, ⟨#[99, 104, 101, 99, 107]⟩, ⟨#[99, 104, 101, 99, 107, 95, 101, 120, 112, 114, 101, 115, 115, 105, 111, 110]⟩, ⟨#[99, 111, 117, 110, 116]⟩, ⟨#[100, 101, 112, 116, 104]⟩, ⟨#[101, 120, 112, 114, 101, 115, 115, 105, 111, 110, 95, 114, 105, 103, 104, 116]⟩, ⟨#[112, 97, 114, 116, 115]⟩, ⟨#[114, 101, 113, 117, 105, 114, 101]⟩] : List PySem.Str)
theorem run (w : World) : HandSHeadRun.RunEq R (PySem.W.view R.prog [27]) hk ob 3000 loose w := by
  intro os
  kernel_rfl
end K02
open PySem PySem.W PySem.Calls PyProof.Rows
theorem PySem.Challenge.cw_salvor_k02_valid_stores_holds : PySem.Challenge.rw_salvor_k02_valid_stores.Holds := by
  w_on; o_law
  refine HandSHeadRun.head_any (r := OpenLaw.row PySem.Challenge.rw_salvor_k02_valid_stores) (q := view (OpenLaw.row PySem.Challenge.rw_salvor_k02_valid_stores).prog [27]) (H := K02.hk) (ob := K02.ob) (M := 3000) (loose := K02.loose) (d := HandSHeadRun.topDef (OpenLaw.row PySem.Challenge.rw_salvor_k02_valid_stores).prog 27) (kwd := []) K02.ob_eq
    (by kernel_rfl) (fun s => by kernel_rfl) K02.run (by kernel_rfl) (by kernel_rfl) (by kernel_rfl) (by rfl) (by first | assumption | decide +kernel) (by decide +kernel) ⟨rfl, rfl, rfl, rfl, rfl, by decide +kernel⟩ ?hw ?hc
  case hw => w_witness2
  case hc => exact Sv.law_endG (l := PySem.Challenge.rw_salvor_k02_valid_stores) (n := 63) (x := ⟨#[115, 99, 114, 105, 112, 116]⟩) (f := K02.f_law) rfl (by decide) (by kernel_rfl) (by kernel_rfl) K02.law_plain fun w mg h K X G c ce => K02.facts X G c ce

