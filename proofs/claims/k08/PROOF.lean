import PyProof.Rows.All
import Wide.All
import OpenK.AllK
import Wide.FinOn
import KE.KStateDown
import HandS.ForMost
import HandS.More
import HandS.Defaults
import HandS.IsInst
import HandS.Deep
import HandS.TupAny
import HandS.TupMul
import HandS.TupSets
import HandS.SortInts
import HandS.Flow
import HandS.Rev
import HandS.Zip
import HandS.Conv
import PySem.Syntax
import PyProof.ListMulRoad
import PyProof.FactsAll.tuple_2
import HandS.Comp
import HandS.Style
import PyProof.TupleOfSeq
import HandS.HeadHook4
import HandS.List
import HandS.SortRule
import PyProof.EqKinds
import HandS.Iter
import PyProof.EnumMake
import KE.GoesMore
import KE.GoesEnum
import HandS.SetFor
import HandS.Star
import HandS.HeadEnd
import HandS.HeadHook1
import HandS.HeadHook2
import HandS.Head0
import HandS.Head1
import HandS.Head2
import PySem.Challenge.RW_wholetruths_k08_whole_keeping_and_breach
section
set_option linter.all false
set_option autoImplicit false
/-! A small deterministic interpreter over plain values, and the checker that a text of it is the erasure of a def. -/
namespace WT
open PySem

/-- plain values; `loc n`: the n-th object of the small heap; `exc c v`: an error of the class c -/
inductive PV where
  | non | bl (b : Bool) | int (i : Int) | str (s : Str)
  | tup (xs : List PV) | lst (xs : List PV) | dic (ks vs : List PV) | set (xs : List PV)
  | loc (n : Nat) | exc (c : Nat) (v : PV) | sc (xs : List PV)
  deriving Inhabited

/-- what a slot or an expression holds: a shared value; a list (a dict) that this slot alone holds; b: borrowed from a slot -/
inductive RV where
  | v (x : PV)
  | L (b : Bool) (xs : List PV)
  | D (b : Bool) (ks vs : List PV)
  deriving Inhabited

inductive HObj where
  | l (xs : List PV) | d (ks vs : List PV)
  deriving Inhabited
abbrev AH := List HObj
abbrev Env := List (Option RV)

inductive Out (α : Type) where
  | ok (a : α) (h : AH)
  | exc (c : Nat) (v : PV) (h : AH)
  | bad
@[inline] def Out.bind {α β : Type} (o : Out α) (k : α → AH → Out β) : Out β := match o with
  | .ok a h => k a h
  | .exc c v h => .exc c v h
  | .bad => .bad
def Out.ofOpt {α : Type} (o : Option α) (h : AH) : Out α := match o with
  | some a => .ok a h
  | none => .bad

/-- the longest sequence -/
def SZ : Nat := 16777216

/-! ### values -/
def slot : Env → Nat → Option RV
  | [], _ => none
  | x :: _, 0 => x
  | _ :: r, n + 1 => slot r n
def hget : AH → Nat → Option HObj
  | [], _ => none
  | x :: _, 0 => some x
  | _ :: r, n + 1 => hget r n

/-- shared from now on -/
def RV.toPV : RV → Option PV
  | .v x => some x
  | .L false xs => some (.lst xs)
  | .D false ks vs => some (.dic ks vs)
  | _ => none
def toPVs : List RV → Option (List PV)
  | [] => some []
  | r :: rs => match r.toPV, toPVs rs with
    | some x, some xs => some (x :: xs)
    | _, _ => none
/-- as it is looked at -/
def RV.see : RV → PV
  | .v x => x
  | .L _ xs => .lst xs
  | .D _ ks vs => .dic ks vs
/-- the items of a list or a tuple -/
def RV.seq (h : AH) : RV → Option (List PV)
  | .v (.tup xs) => some xs
  | .v (.lst xs) => some xs
  | .v (.sc xs) => some xs
  | .L _ xs => some xs
  | .v (.loc n) => match hget h n with
    | some (.l xs) => some xs
    | _ => none
  | _ => none
/-- the items of a list -/
def RV.lst? (h : AH) : RV → Option (List PV)
  | .v (.lst xs) => some xs
  | .L _ xs => some xs
  | .v (.loc n) => match hget h n with
    | some (.l xs) => some xs
    | _ => none
  | _ => none
def RV.dic? (h : AH) : RV → Option (List PV × List PV)
  | .v (.dic ks vs) => some (ks, vs)
  | .D _ ks vs => some (ks, vs)
  | .v (.loc n) => match hget h n with
    | some (.d ks vs) => some (ks, vs)
    | _ => none
  | _ => none

/-! ### equality, order -/
mutual
def pyEq : PV → PV → Bool
  | .non, .non => true
  | .bl a, .bl b => a == b
  | .bl a, .int j => (if a then 1 else 0) == j
  | .int i, .bl b => i == (if b then 1 else 0)
  | .int i, .int j => i == j
  | .str x, .str y => x == y
  | .lst xs, .lst ys => pyEqs xs ys
  | .tup xs, .tup ys => pyEqs xs ys
  | _, _ => false
def pyEqs : List PV → List PV → Bool
  | [], [] => true
  | x :: xs, y :: ys => pyEq x y && pyEqs xs ys
  | _, _ => false
end
/-! data that can be compared: no deeper than n -/
mutual
def flat : Nat → PV → Bool
  | _, .non => true
  | _, .bl _ => true
  | _, .int _ => true
  | _, .str s => s.cps.all (· < 0x110000)
  | n + 1, .tup xs => flats n xs
  | n + 1, .lst xs => flats n xs
  | _, _ => false
def flats : Nat → List PV → Bool
  | _, [] => true
  | n, x :: xs => flat n x && flats n xs
end
def okEq (x : PV) : Bool := flat 60 x

/-- the place that an index of any sign means -/
def place (n : Nat) (i : Int) : Option Nat := if 0 ≤ i then (if i < n then some i.toNat else none) else if -(n : Int) ≤ i then some (i + n).toNat else none
def pick {α : Type} (xs : List α) (i : Int) : Option α := (place xs.length i).bind fun j => xs[j]?
def cutAt (n d : Nat) : Option Int → Nat
  | none => d
  | some v => if v < 0 then (v + (n : Int)).toNat else min v.toNat n
def cut {α : Type} (xs : List α) (lo hi : Option Int) : List α := (xs.drop (cutAt xs.length 0 lo)).take (cutAt xs.length xs.length hi - cutAt xs.length 0 lo)

def truth : PV → Option Bool
  | .non => some false
  | .bl b => some b
  | .int i => some (i != 0)
  | .str s => if s.length ≤ SZ then some ((s.length : Int) != 0) else none
  | .tup xs => some (!xs.isEmpty)
  | .lst xs => some (!xs.isEmpty)
  | _ => none
def RV.truth (h : AH) : RV → Option Bool
  | .v (.loc n) => match hget h n with
    | some (.l xs) => some (!xs.isEmpty)
    | _ => none
  | r => WT.truth r.see

def pInts : List PV → Option (List Int)
  | [] => some []
  | .int i :: r => (pInts r).map (i :: ·)
  | _ => none
/-- x < y of two tuples of ints -/
def lexL : List Int → List Int → Bool
  | [], [] => false
  | [], _ :: _ => true
  | _ :: _, [] => false
  | x :: xs, y :: ys => if x = y then lexL xs ys else decide (x < y)
def insK {α : Type} (k : α → List Int) (y : α) : List α → List α
  | [] => [y]
  | x :: xs => if lexL (k y) (k x) = true then y :: x :: xs else x :: insK k y xs
def isortK {α : Type} (k : α → List Int) (l : List α) : List α := l.foldl (fun S y => insK k y S) []
def keyT : PV → List Int
  | .tup ys => (pInts ys).getD []
  | _ => []
def okT : PV → Bool
  | .tup ys => (pInts ys).isSome
  | _ => false
/-- pairs of an int and a tuple of ints -/
def keyP : PV → List Int
  | .tup [.int n, .tup ys] => n :: (pInts ys).getD []
  | _ => []
def okP : PV → Bool
  | .tup [.int _, .tup ys] => (pInts ys).isSome
  | _ => false
def pBools : List PV → Option (List Bool)
  | [] => some []
  | .bl b :: r => (pBools r).map (b :: ·)
  | _ => none
def lexLt : List Int → List Int → Bool
  | [], [] => false
  | [], _ :: _ => true
  | _ :: _, [] => false
  | x :: xs, y :: ys => if x = y then lexLt xs ys else decide (x < y)
def sumI : List Int → Int
  | [] => 0
  | x :: xs => x + sumI xs
/-- sorted by insertion, stable -/
def ins (x : Int) : List Int → List Int
  | [] => [x]
  | y :: ys => if x ≤ y then x :: y :: ys else y :: ins x ys
def isort : List Int → List Int
  | [] => []
  | x :: xs => ins x (isort xs)
def maxI : Int → List Int → Int
  | m, [] => m
  | m, x :: xs => maxI (if x > m then x else m) xs
def minI : Int → List Int → Int
  | m, [] => m
  | m, x :: xs => minI (if x < m then x else m) xs

/-! ### operations -/
inductive BinO where
  | add | sub | mul | fdiv | mod | pow | shl | shr | band | bor | bxor
  deriving DecidableEq
inductive CmpO where
  | eq | ne | lt | le | gt | ge | isin | notin | isnone | notnone
  deriving DecidableEq
inductive Ty where
  | int | bool | str | list | tuple | dict
  deriving DecidableEq
inductive Op where
  | bin (o : BinO) | cmp (o : CmpO) | neg | not
  | ix | sl (lo hi : Bool) | rev
  | slStep
  | tup | lst
  | len | abs | min2 | max2 | sum | all | any | toInt | toTup | toLst | sortedI | minL | maxL | sortedT | index | sortedP | sortSet
  | isi (ts : List Ty)
  | toStr | lenSetI | lstRange1 | lstRange2 | isN (neg : Bool)
  deriving DecidableEq

def bnot (x : Int) : Int := -x - 1
def band (x y : Int) : Int :=
  match decide (0 ≤ x), decide (0 ≤ y) with
  | true, true => ((x.toNat &&& y.toNat : Nat) : Int)
  | true, false => x - ((x.toNat &&& (bnot y).toNat : Nat) : Int)
  | false, true => y - ((y.toNat &&& (bnot x).toNat : Nat) : Int)
  | false, false => bnot (((bnot x).toNat ||| (bnot y).toNat : Nat) : Int)
def bor (x y : Int) : Int := bnot (band (bnot x) (bnot y))
def bxor (x y : Int) : Int := bor x y - band x y

def small (i : Int) : Bool := decide (i.natAbs < 18446744073709551616)
def binInt (o : BinO) (i j : Int) : Option Int := match o with
  | .add => some (i + j)
  | .sub => some (i - j)
  | .mul => if small i || small j then some (i * j) else none
  | .fdiv => if 0 < j ∧ j < 1073741824 then some (i / j) else none
  | .mod => if 0 < j then some (i % j) else none
  | .pow => if 0 ≤ j ∧ ((j ≤ 1000000 ∧ small i = true) ∨ (j ≤ 16 ∧ i.natAbs < 2 ^ 256)) then some (i ^ j.toNat) else none
  | .shl => if 0 ≤ j ∧ j ≤ 1000000 ∧ small i = true then some (i * 2 ^ j.toNat) else none
  | .shr => if 0 ≤ j then some (i / 2 ^ j.toNat) else none
  | .band => some (band i j)
  | .bor => some (bor i j)
  | .bxor => some (bxor i j)
def rep {α : Type} (n : Nat) (xs : List α) : List α := (List.replicate n xs).flatten
def catL (h : AH) (a b : RV) : Option RV := match a.lst? h, b.lst? h with
  | some xs, some ys => if xs.length + ys.length ≤ SZ then some (.L false (xs ++ ys)) else none
  | _, _ => none
def repL (h : AH) (a : RV) (k : Int) : Option RV := match a.lst? h with
  | some xs => if -1000 ≤ k ∧ k ≤ 1000000 ∧ xs.length * k.toNat ≤ SZ then some (.L false (rep k.toNat xs)) else none
  | none => none
def addSeq (h : AH) (a b : RV) : Option RV := match a, b with
  | .v (.tup xs), .v (.tup ys) => if xs.length + ys.length ≤ SZ then some (.v (.tup (xs ++ ys))) else none
  | .v (.str x), .v (.str y) => if x.length + y.length ≤ SZ then some (.v (.str (x ++ y))) else none
  | .v (.int i), .v (.bl b) => some (.v (.int (i + if b = true then 1 else 0)))
  | .v (.bl b), .v (.int i) => some (.v (.int ((if b = true then 1 else 0) + i)))
  | _, _ => catL h a b
def mulSeq (h : AH) (a b : RV) : Option RV := match a, b with
  | .v (.tup xs), .v (.int k) => if -1000 ≤ k ∧ k ≤ 1000 ∧ xs.length ≤ 1000 then some (.v (.tup (rep k.toNat xs))) else none
  | _, .v (.int k) => repL h a k
  | _, _ => none
/-- two values of which at least one is no int -/
def binSeq (h : AH) (o : BinO) (a b : RV) : Option RV := match o with
  | .add => addSeq h a b
  | .mul => mulSeq h a b
  | _ => none
def binSem (h : AH) (o : BinO) (a b : RV) : Option RV := match a, b with
  | .v (.int i), .v (.int j) => (binInt o i j).map fun k => .v (.int k)
  | _, _ => binSeq h o a b
def memP (x : PV) : List PV → Bool
  | [] => false
  | y :: ys => pyEq y x || memP x ys
/-- the first place of an equal one -/
def idxP (x : PV) : List PV → Option Nat
  | [] => none
  | y :: ys => if pyEq y x = true then some 0 else (idxP x ys).map (· + 1)
def idxSem (xs : List PV) (b : RV) : Option RV := if okEq (.lst xs) && okEq b.see then (idxP b.see xs).map fun i => .v (.int (i : Int)) else none
def idxS : RV → RV → Option RV
  | .v (.lst xs), b => idxSem xs b
  | .L _ xs, b => idxSem xs b
  | _, _ => none
def inSem (h : AH) (a b : RV) : Option Bool := match b.seq h with
  | some ys => if okEq a.see && flats 60 ys then some (memP a.see ys) else none
  | none => none
def cmpI (p : Int → Int → Bool) (a b : RV) : Option Bool := match a, b with
  | .v (.int i), .v (.int j) => some (p i j)
  | _, _ => none
def ltSem (a b : RV) : Option Bool := match a, b with
  | .v (.int i), .v (.int j) => some (decide (i < j))
  | .v (.tup xs), .v (.tup ys) => (match pInts xs, pInts ys with
    | some ns, some ms => some (lexLt ns ms)
    | _, _ => none)
  | _, _ => none
def noneSem (a : RV) : Option Bool := match a with
  | .v .non => some true
  | .v (.exc _ _) => none
  | _ => some false
def eqSem (a b : RV) : Option Bool := if okEq a.see && okEq b.see then some (pyEq a.see b.see) else none
/-- a list of the small heap as it stands -/
def RV.deref (h : AH) : RV → RV
  | .v (.loc n) => match hget h n with
    | some (.l xs) => .L true xs
    | _ => .v (.loc n)
  | r => r
def cmpSem (h : AH) (o : CmpO) (a b : RV) : Option Bool := match o with
  | .eq => eqSem (a.deref h) b
  | .ne => (eqSem (a.deref h) b).map (!·)
  | .isin => inSem h a b
  | .notin => (inSem h a b).map (!·)
  | .isnone => noneSem a
  | .notnone => (noneSem a).map (!·)
  | .lt => ltSem a b
  | .le => cmpI (fun i j => decide (i ≤ j)) a b
  | .gt => cmpI (fun i j => decide (j < i)) a b
  | .ge => cmpI (fun i j => decide (j ≤ i)) a b
def tyOf (h : AH) : RV → Option Ty
  | .v (.bl _) => some .bool
  | .v (.int _) => some .int
  | .v (.str _) => some .str
  | .v (.tup _) => some .tuple
  | .v (.lst _) => some .list
  | .v (.dic _ _) => some .dict
  | .L _ _ => some .list
  | .D _ _ _ => some .dict
  | .v (.loc n) => match hget h n with
    | some (.l _) => some .list
    | some (.d _ _) => some .dict
    | none => none
  | _ => none
def isTy (t : Option Ty) (u : Ty) : Bool := t == some u || (t == some .bool && u == .int)
/-- whether a value is of none of the classes that we know of, but still of some sort (None) -/
def isiSem (h : AH) (a : RV) (ts : List Ty) : Option Bool := match a with
  | .v .non => some false
  | .v (.exc _ _) => none
  | .v (.set _) => none
  | _ => match tyOf h a with
    | some t => some (ts.any fun u => isTy (some t) u)
    | none => none
def oneInt : RV → Option Int
  | .v (.int i) => some i
  | _ => none
def ixSem (h : AH) (a i : RV) : Option RV := match a.seq h, i with
  | some xs, .v (.int k) => (pick xs k).map .v
  | _, _ => none
def slSem (h : AH) (a : RV) (lo hi : Option Int) : Option RV := match a with
  | .v (.tup xs) => some (.v (.tup (cut xs lo hi)))
  | _ => match a.lst? h with
    | some xs => some (.L false (cut xs lo hi))
    | none => none
def B (o : Option Bool) : Option RV := o.map fun b => .v (.bl b)
def N (o : Option Int) : Option RV := o.map fun i => .v (.int i)
/-- the unlike ones, as they come first -/
def dedupI (ns : List Int) : List Int := ns.foldl (fun acc x => if acc.any (· == x) then acc else acc ++ [x]) []
def dedupL (ns : List (List Int)) : List (List Int) := ns.foldl (fun acc x => if acc.any (· == x) then acc else acc ++ [x]) []
/-- sorted(set(xs)), ints or tuples of ints -/
def sortSetV (xs : List PV) : Option (List PV) := if xs.length < 64 then (match pInts xs with
    | some ns => some ((isort (dedupI ns)).map .int)
    | none => if xs.all okT = true then some ((isortK (fun ns => ns) (dedupL (xs.map keyT))).map fun ns => .tup (ns.map .int)) else none) else none
def rangeL (lo : Int) : Nat → List PV
  | 0 => []
  | n + 1 => .int lo :: rangeL (lo + 1) n
/-- the places from i on, every s-th -/
def stepIx (i s n : Nat) : List Nat := if i < n then (List.range ((n - i + s - 1) / s)).map fun k => i + k * s else []
def stepCut {α : Type} (xs : List α) (i s : Nat) : List α := (stepIx i s xs.length).filterMap fun k => xs[k]?
def okInt (n : Int) : Bool := decide (n < 1073741824) && decide (-1073741824 < n)
def opSem (h : AH) (o : Op) (rs : List RV) : Option RV := match o, rs with
  | .bin o, [a, b] => binSem h o a b
  | .cmp o, [a, b] => B (cmpSem h o a b)
  | .neg, [.v (.int i)] => some (.v (.int (-i)))
  | .not, [a] => B ((a.truth h).map (!·))
  | .ix, [a, i] => ixSem h a i
  | .sl false false, [a] => slSem h a none none
  | .sl true false, [a, .v (.int i)] => slSem h a (some i) none
  | .sl false true, [a, .v (.int j)] => slSem h a none (some j)
  | .sl true true, [a, .v (.int i), .v (.int j)] => slSem h a (some i) (some j)
  | .slStep, [.v (.sc xs), .v (.int i), .v (.int s)] => if 0 ≤ i ∧ 0 < s then some (.L false (stepCut xs i.toNat s.toNat)) else none
  | .rev, [a] => (match a with
    | .v (.tup xs) => some (.v (.tup xs.reverse))
    | _ => (a.lst? h).map fun xs => .L false xs.reverse)
  | .tup, rs => (toPVs rs).map fun xs => .v (.tup xs)
  | .lst, rs => (toPVs rs).map fun xs => .L false xs
  | .len, [a] => N ((a.seq h).map fun xs => (xs.length : Int))
  | .abs, [.v (.int i)] => some (.v (.int (if i < 0 then -i else i)))
  | .min2, [.v (.int i), .v (.int j)] => some (.v (.int (if j < i then j else i)))
  | .max2, [.v (.int i), .v (.int j)] => some (.v (.int (if j > i then j else i)))
  | .sum, [a] => N ((a.seq h).bind fun xs => (pInts xs).map sumI)
  | .all, [a] => B ((a.lst? h).bind fun xs => (pBools xs).map fun bs => bs.all id)
  | .any, [a] => B ((a.lst? h).bind fun xs => (pBools xs).map fun bs => bs.any id)
  | .toInt, [.v (.int i)] => some (.v (.int i))
  | .toInt, [.v (.bl b)] => some (.v (.int (if b then 1 else 0)))
  | .toTup, [a] => (a.seq h).map fun xs => .v (.tup xs)
  | .toLst, [a] => (a.seq h).map fun xs => .L false xs
  | .sortedI, [a] => (a.seq h).bind fun xs => (pInts xs).map fun ns => .L false ((isort ns).map .int)
  | .sortedT, [a] => (a.seq h).bind fun xs => if xs.all okT = true then some (.L false (isortK keyT xs)) else none
  | .sortSet, [a] => (a.seq h).bind fun xs => (sortSetV xs).map fun ys => .L false ys
  | .sortedP, [a] => (a.seq h).bind fun xs => if xs.all okP = true then some (.L false (isortK keyP xs)) else none
  | .minL, [a] => (a.seq h).bind fun xs => (pInts xs).bind fun ns => match ns with
    | [] => none
    | n :: r => some (.v (.int (minI n r)))
  | .maxL, [a] => (a.seq h).bind fun xs => (pInts xs).bind fun ns => match ns with
    | [] => none
    | n :: r => some (.v (.int (maxI n r)))
  | .index, [a, b] => idxS a b
  | .isi ts, [a] => B (isiSem h a ts)
  | .isN n, [a] => B (if n then (noneSem a).map (!·) else noneSem a)
  | .toStr, [.v (.int i)] => if i.natAbs < 1000000000000000000 then some (.v (.str (toString i))) else none
  | .lenSetI, [a] => N ((a.lst? h).bind fun xs => if xs.length < 4000 then (pInts xs).map fun ns => ((dedupI ns).length : Int) else none)
  | .lstRange1, [.v (.int n)] => if okInt n && decide (n < 10000) then some (.L false (rangeL 0 n.toNat)) else none
  | .lstRange2, [.v (.int m), .v (.int n)] => if okInt m && okInt n && decide (n - m < 10000) then some (.L false (rangeL m (n - m).toNat)) else none
  | _, _ => none

/-- a key of a written dict -/
abbrev DKey := Int ⊕ Str
def lookD : List DKey → List PV → DKey → Option PV
  | k :: ks, v :: vs, x => if k = x then some v else lookD ks vs x
  | _, _, _ => none
def dlookS (ks : List DKey) (vs : List PV) : RV → Option RV
  | .v (.int i) => (lookD ks vs (.inl i)).map .v
  | .v (.str s) => (lookD ks vs (.inr s)).map .v
  | _ => none
/-! ### the text -/
inductive Tg where
  | var (i : Nat) | tup (is : List Nat)
mutual
inductive E where
  | var (i : Nat)
  | cst (c : PV)
  | gl (g : Nat)
  | op (o : Op) (es : Es)
  | and (a b : E)
  | or (a b : E)
  | ite (c a b : E)
  | chain (o1 o2 : CmpO) (a b c : E)
  | call (f : Nat) (ps : List Nat) (es : Es)
  | dlook (ks : List DKey) (vs : List PV) (e : E)
  | lc (own : List Nat) (elt : E) (t : Tg) (i : It) (ifs : Es) (gs : Gs)
inductive Es where
  | nil | cons (e : E) (es : Es)
inductive It where
  | val (e : E) | range1 (a : E) | range2 (a b : E) | zip (es : Es) | zipS (e : E) | enum (e : E)
inductive Gs where
  | nil | cons (own : List Nat) (t : Tg) (i : It) (ifs : Es) (gs : Gs)
end
inductive S where
  | expr (e : E)
  | asg (t : Tg) (e : E)
  | par (is : List (Nat × Bool)) (es : Es)
  | own (i : Nat) (e : E)
  | newl (i : Nat) (e : E)
  | mv (i j : Nat)
  | frz (i : Nat)
  | mkloc (i : Nat)
  | setpop (i : Nat) (k j : Int)
  | aug (i : Nat) (o : BinO) (e : E)
  | app (i : Nat) (e : E)
  | ext (i : Nat) (e : E)
  | setix (i : Nat) (k e : E)
  | swapix (i : Nat) (k l : E) (es : Es)
  | augix (i : Nat) (k : E) (o : BinO) (e : E)
  | ret (e : E) | retN
  | ite (c : E) (a b : List S)
  | for_ (t : Tg) (i : It) (b : List S)
  | while_ (c : E) (b : List S)
  | brk | cont | pass
  | raise_ (c : Nat) (e : E)

/-! ### running -/
/-- a walked value: its items; c: a slot's list too -/
def itV (c : Bool) : RV → Option (List PV)
  | .v (.tup xs) => some xs
  | .v (.lst xs) => some xs
  | .L b xs => if c || !b then some xs else none
  | _ => none
def itVs (c : Bool) : List RV → Option (List (List PV))
  | [] => some []
  | r :: rs => match itV c r, itVs c rs with
    | some x, some xs => some (x :: xs)
    | _, _ => none
def rg1 (r : RV) : Option (List PV) := match r with
  | .v (.int n) => if okInt n then some (rangeL 0 n.toNat) else none
  | _ => none
def rg2 (r s : RV) : Option (List PV) := match r, s with
  | .v (.int m), .v (.int n) => if okInt m && okInt n then some (rangeL m (n - m).toNat) else none
  | _, _ => none
def enumL (n : Int) : List PV → List PV
  | [] => []
  | x :: xs => .tup [.int n, x] :: enumL (n + 1) xs
/-- the length of the shortest -/
def minLen : List (List PV) → Nat
  | [] => 0
  | [r] => r.length
  | r :: rs => min r.length (minLen rs)
/-- zip of rows -/
def zipAll (rs : List (List PV)) : List PV := (List.range (minLen rs)).map fun i => .tup (rs.map fun r => r.getD i .non)
def setSlot (ρ : Env) (i : Nat) (r : Option RV) : Env := ρ.set i r
def setSlots : Env → List Nat → List PV → Option Env
  | ρ, [], [] => some ρ
  | ρ, i :: is, x :: xs => setSlots (setSlot ρ i (some (.v x))) is xs
  | _, _, _ => none
def bindTg (t : Tg) (x : PV) (ρ : Env) : Option Env := match t with
  | .var i => some (setSlot ρ i (some (.v x)))
  | .tup is => match x with
    | .tup xs => setSlots ρ is xs
    | _ => none
def wipe (ρ : Env) : List Nat → Env
  | [] => ρ
  | i :: is => setSlot (wipe ρ is) i none
def permute {α : Type} (rs : List α) : List Nat → Option (List α)
  | [] => some []
  | p :: ps => match rs[p]?, permute rs ps with
    | some r, some q => some (r :: q)
    | _, _ => none
/-- a fold over items -/
def loopL {α : Type} (step : PV → AH → α → Out α) : List PV → AH → α → Out α
  | [], h, a => .ok a h
  | x :: xs, h, a => (step x h a).bind fun a h => loopL step xs h a

abbrev CF := Nat → List PV → AH → Out RV
abbrev FE := Env → AH → Out RV
abbrev FEs := Env → AH → Out (List RV)
abbrev FI := Env → AH → Out (List PV)
abbrev FTs := Env → AH → Out Bool
abbrev FG := Env → AH → List PV → Out (List PV)
/-- the truth of an answer -/
def truthE (f : FE) : FTs := fun ρ h => (f ρ h).bind fun r h => match r.truth h with
  | some b => .ok b h
  | none => .bad
/-- the item of a turn -/
def appF (fe : FE) : FG := fun ρ h acc => (fe ρ h).bind fun r h => match r.toPV with
  | some y => if acc.length < SZ then .ok (acc ++ [y]) h else .bad
  | none => .bad
/-- a turn of a clause -/
def turnF (own : List Nat) (t : Tg) (fc : FTs) (fg : FG) (ρ : Env) : PV → AH → List PV → Out (List PV) := fun x h acc => match bindTg t x (wipe ρ own) with
  | some ρ => (fc ρ h).bind fun ok h => if ok then fg ρ h acc else .ok acc h
  | none => .bad
def genF (own : List Nat) (t : Tg) (fi : FI) (fc : FTs) (fg : FG) : FG := fun ρ h acc => (fi ρ h).bind fun xs h => loopL (turnF own t fc fg ρ) xs h acc
def lcF (g : FG) : FE := fun ρ h => (g ρ h []).bind fun acc h => .ok (.L false acc) h
def yesF : FTs := fun _ h => .ok true h
def andF (f g : FTs) : FTs := fun ρ h => (f ρ h).bind fun b h => if b then g ρ h else .ok false h
section
variable (cf : CF) (G : Nat → Option PV)
mutual
def evalE : E → Env → AH → Out RV
  | .var i, ρ, h => match slot ρ i with
    | some (.v x) => .ok (.v x) h
    | some (.L _ xs) => .ok (.L true xs) h
    | some (.D _ ks vs) => .ok (.D true ks vs) h
    | none => .bad
  | .cst c, _, h => .ok (.v c) h
  | .gl g, _, h => .ofOpt ((G g).map .v) h
  | .op o es, ρ, h => (evalEs es ρ h).bind fun rs h => .ofOpt (opSem h o rs) h
  | .and a b, ρ, h => (evalE a ρ h).bind fun r h => match r.truth h with
    | some true => evalE b ρ h
    | some false => .ok r h
    | none => .bad
  | .or a b, ρ, h => (evalE a ρ h).bind fun r h => match r.truth h with
    | some true => .ok r h
    | some false => evalE b ρ h
    | none => .bad
  | .ite c a b, ρ, h => (evalE c ρ h).bind fun r h => match r.truth h with
    | some true => evalE a ρ h
    | some false => evalE b ρ h
    | none => .bad
  | .chain o1 o2 a b c, ρ, h => (evalE a ρ h).bind fun x h => (evalE b ρ h).bind fun y h => match cmpSem h o1 x y with
    | some true => (evalE c ρ h).bind fun z h => .ofOpt (B (cmpSem h o2 y z)) h
    | some false => .ok (.v (.bl false)) h
    | none => .bad
  | .call f ps es, ρ, h => (evalEs es ρ h).bind fun rs h => match (toPVs rs).bind fun xs => permute xs ps with
    | some xs => cf f xs h
    | none => .bad
  | .dlook ks vs e, ρ, h => (evalE e ρ h).bind fun r h => .ofOpt (dlookS ks vs r) h
  | .lc own elt t i ifs gs, ρ, h => lcF (genF own t (evalI i true) (evalC ifs) (evalG gs (appF (evalE elt)))) ρ h
def evalEs : Es → Env → AH → Out (List RV)
  | .nil, _, h => .ok [] h
  | .cons e es, ρ, h => (evalE e ρ h).bind fun r h => (evalEs es ρ h).bind fun rs h => .ok (r :: rs) h
/-- whether all conditions hold -/
def evalC : Es → FTs
  | .nil => yesF
  | .cons e .nil => truthE (evalE e)
  | .cons e es => andF (truthE (evalE e)) (evalC es)
def evalI : It → Bool → Env → AH → Out (List PV)
  | .val e, c, ρ, h => (evalE e ρ h).bind fun r h => .ofOpt (itV c r) h
  | .range1 a, _, ρ, h => (evalE a ρ h).bind fun r h => .ofOpt (rg1 r) h
  | .range2 a b, _, ρ, h => (evalE a ρ h).bind fun r h => (evalE b ρ h).bind fun s h => .ofOpt (rg2 r s) h
  | .zip es, c, ρ, h => (evalEs es ρ h).bind fun rs h => .ofOpt ((itVs c rs).map zipAll) h
  | .zipS e, c, ρ, h => (evalE e ρ h).bind fun r h => .ofOpt ((r.seq h).bind fun xs => if 1 ≤ xs.length ∧ xs.length ≤ 4 then (itVs false (xs.map .v)).map zipAll else none) h
  | .enum e, c, ρ, h => (evalE e ρ h).bind fun r h => .ofOpt ((itV c r).map (enumL 0)) h
def evalG : Gs → FG → FG
  | .nil, k => k
  | .cons own t i ifs gs, k => genF own t (evalI i false) (evalC ifs) (evalG gs k)
end

inductive Fl where
  | nx | brk | cont | ret (r : RV)
/-- a for's turns -/
def forL (step : PV → Env → AH → Out (Fl × Env)) : List PV → Env → AH → Out (Fl × Env)
  | [], ρ, h => .ok (.nx, ρ) h
  | x :: xs, ρ, h => (step x ρ h).bind fun r h => match r.1 with
    | .nx => forL step xs r.2 h
    | .cont => forL step xs r.2 h
    | .brk => .ok (.nx, r.2) h
    | .ret q => .ok (.ret q, r.2) h
def whileL (test : Env → AH → Out Bool) (step : Env → AH → Out (Fl × Env)) : Nat → Env → AH → Out (Fl × Env)
  | 0, _, _ => .bad
  | n + 1, ρ, h => (test ρ h).bind fun b h => if b then (step ρ h).bind fun r h => match r.1 with
      | .nx => whileL test step n r.2 h
      | .cont => whileL test step n r.2 h
      | .brk => .ok (.nx, r.2) h
      | .ret q => .ok (.ret q, r.2) h
    else .ok (.nx, ρ) h
def whileFuel : Nat := 65536
/-- a new value for a slot -/
def keep (ρ : Env) (i : Nat) (r : RV) : Option Env := r.toPV.map fun x => setSlot ρ i (some (.v x))
/-- a returned value: what was borrowed of the frame is free -/
def RV.back : RV → RV
  | .L _ xs => .L false xs
  | .D _ ks vs => .D false ks vs
  | r => r
def nextE (ρ : Env) (h : AH) : Out (Fl × Env) := .ok (.nx, ρ) h
/-- a list changed where it stands: in a slot, in the heap -/
def putL (ρ : Env) (h : AH) (i : Nat) (f : List PV → Option (List PV)) : Out (Fl × Env) := match slot ρ i with
  | some (.L _ xs) => (match f xs with
    | some ys => nextE (setSlot ρ i (some (.L false ys))) h
    | none => .bad)
  | some (.v (.loc n)) => (match hget h n with
    | some (.l xs) => (match f xs with
      | some ys => nextE ρ (h.set n (.l ys))
      | none => .bad)
    | _ => .bad)
  | _ => .bad
def setAt (xs : List PV) (k : RV) (y : PV) : Option (List PV) := match k with
  | .v (.int i) => (place xs.length i).map fun j => xs.set j y
  | _ => none
abbrev FS := Env → AH → Out (Fl × Env)
def exprS (f : FE) : FS := fun ρ h => (f ρ h).bind fun _ h => nextE ρ h
def asgS (t : Tg) (f : FE) : FS := fun ρ h => (f ρ h).bind fun r h => match r.toPV with
  | some x => (match bindTg t x ρ with
    | some ρ => nextE ρ h
    | none => .bad)
  | none => .bad
/-- several names at once; true: its own list -/
def setOwns : Env → List (Nat × Bool) → List RV → Option Env
  | ρ, [], [] => some ρ
  | ρ, (i, true) :: is, .L false xs :: rs => setOwns (setSlot ρ i (some (.L false xs))) is rs
  | ρ, (i, false) :: is, r :: rs => match r.toPV with
    | some x => setOwns (setSlot ρ i (some (.v x))) is rs
    | none => none
  | _, _, _ => none
def parS (is : List (Nat × Bool)) (f : FEs) : FS := fun ρ h => (f ρ h).bind fun rs h => match setOwns ρ is rs with
  | some ρ => nextE ρ h
  | none => .bad
def ownS (i : Nat) (f : FE) : FS := fun ρ h => (f ρ h).bind fun r h => match r with
  | .L false xs => nextE (setSlot ρ i (some (.L false xs))) h
  | _ => .bad
def newlS (i : Nat) (f : FE) : FS := fun ρ h => (f ρ h).bind fun r h => match r with
  | .L false xs => nextE (setSlot ρ i (some (.v (.loc h.length)))) (h ++ [.l xs])
  | _ => .bad
def mvS (i j : Nat) : FS := fun ρ h => match slot ρ j with
  | some (.L _ xs) => if i = j then .bad else nextE (setSlot (setSlot ρ j none) i (some (.L false xs))) h
  | _ => .bad
def frzS (i : Nat) : FS := fun ρ h => match slot ρ i with
  | some (.L _ xs) => nextE (setSlot ρ i (some (.v (.lst xs)))) h
  | some (.v x) => nextE ρ h
  | _ => .bad
def mklocS (i : Nat) : FS := fun ρ h => match slot ρ i with
  | some (.L _ xs) => nextE (setSlot ρ i (some (.v (.loc h.length)))) (h ++ [.l xs])
  | _ => .bad
/-- x[k] = x[j].pop(0): x a list of the small heap, x[j] one, too -/
def popAt (h : AH) (n : Nat) (j k : Int) : Option AH := match hget h n with
  | some (.l xs) => (match pick xs j with
    | some (.loc m) => (match hget h m with
      | some (.l (y :: ys)) => if m = n then none else (place xs.length k).map fun p => (h.set m (.l ys)).set n (.l (xs.set p y))
      | _ => none)
    | _ => none)
  | _ => none
def setpopS (i : Nat) (k j : Int) : FS := fun ρ h => match slot ρ i with
  | some (.v (.loc n)) => (match popAt h n j k with
    | some h' => nextE ρ h'
    | none => .bad)
  | _ => .bad
def augInt (o : BinO) (x y : Int) : Option Int := if o = .pow then none else binInt o x y
def augS (i : Nat) (o : BinO) (f : FE) : FS := fun ρ h => match slot ρ i with
  | some (.v (.int a)) => (f ρ h).bind fun r h => (match r with
    | .v (.int b) => (match augInt o a b with
        | some c => nextE (setSlot ρ i (some (.v (.int c)))) h
        | none => .bad)
    | _ => .bad)
  | _ => .bad
def appS (i : Nat) (f : FE) : FS := fun ρ h => (f ρ h).bind fun r h => match r.toPV with
  | some y => putL ρ h i fun xs => if xs.length < SZ then some (xs ++ [y]) else none
  | none => .bad
def extS (i : Nat) (f : FE) : FS := fun ρ h => (f ρ h).bind fun r h => match r.lst? h with
  | some ys => putL ρ h i fun xs => if xs.length + ys.length ≤ SZ then some (xs ++ ys) else none
  | none => .bad
def setixS (i : Nat) (fk f : FE) : FS := fun ρ h => (f ρ h).bind fun r h => match r.toPV with
  | some y => (fk ρ h).bind fun k h => putL ρ h i fun xs => setAt xs k y
  | none => .bad
/-- x[k], x[l] = two ints -/
def swapixS (i : Nat) (fk fl : FE) (fs : FEs) : FS := fun ρ h => (fs ρ h).bind fun rs h => match rs with
  | [.v (.int a), .v (.int b)] => ((fk ρ h).bind fun k h => putL ρ h i fun xs => setAt xs k (.int a)).bind fun q h => (fl q.2 h).bind fun l h => putL q.2 h i fun xs => setAt xs l (.int b)
  | _ => .bad
def augixS (i : Nat) (fk : FE) (o : BinO) (f : FE) : FS := fun ρ h => (fk ρ h).bind fun k h => match slot ρ i with
  | some a => (match ixSem h a k with
    | some (.v (.int x)) => (f ρ h).bind fun r h => (match r with
      | .v (.int b) => (match augInt o x b with
          | some c => putL ρ h i fun xs => setAt xs k (.int c)
          | none => .bad)
      | _ => .bad)
    | _ => .bad)
  | none => .bad
def retS (f : FE) : FS := fun ρ h => (f ρ h).bind fun r h => .ok (.ret r.back, ρ) h
def retNS : FS := fun ρ h => .ok (.ret (.v .non), ρ) h
def iteS (c : FE) (a b : FS) : FS := fun ρ h => (truthE c ρ h).bind fun k h => if k then a ρ h else b ρ h
def forS (t : Tg) (fi : FI) (b : FS) : FS := fun ρ h => (fi ρ h).bind fun xs h => forL (fun x ρ h => match bindTg t x ρ with
  | some ρ => b ρ h
  | none => .bad) xs ρ h
def whileS (c : FE) (b : FS) : FS := fun ρ h => whileL (truthE c) b whileFuel ρ h
def brkS : FS := fun ρ h => .ok (.brk, ρ) h
def contS : FS := fun ρ h => .ok (.cont, ρ) h
def passS : FS := fun ρ h => nextE ρ h
def raiseS (c : Nat) (f : FE) : FS := fun ρ h => (f ρ h).bind fun r h => match r.toPV with
  | some x => .exc c x h
  | none => .bad
def seqS (a b : FS) : FS := fun ρ h => (a ρ h).bind fun q h => match q.1 with
  | .nx => b q.2 h
  | _ => .ok q h
mutual
def execS : S → FS
  | .expr e => exprS (evalE cf G e)
  | .asg t e => asgS t (evalE cf G e)
  | .par is es => parS is (evalEs cf G es)
  | .own i e => ownS i (evalE cf G e)
  | .newl i e => newlS i (evalE cf G e)
  | .mv i j => mvS i j
  | .frz i => frzS i
  | .mkloc i => mklocS i
  | .setpop i k j => setpopS i k j
  | .aug i o e => augS i o (evalE cf G e)
  | .app i e => appS i (evalE cf G e)
  | .ext i e => extS i (evalE cf G e)
  | .setix i k e => setixS i (evalE cf G k) (evalE cf G e)
  | .swapix i k l es => swapixS i (evalE cf G k) (evalE cf G l) (evalEs cf G es)
  | .augix i k o e => augixS i (evalE cf G k) o (evalE cf G e)
  | .ret e => retS (evalE cf G e)
  | .retN => retNS
  | .ite c a b => iteS (evalE cf G c) (execSs a) (execSs b)
  | .for_ t i b => forS t (evalI cf G i false) (execSs b)
  | .while_ c b => whileS (evalE cf G c) (execSs b)
  | .brk => brkS
  | .cont => contS
  | .pass => passS
  | .raise_ c e => raiseS c (evalE cf G e)
def execSs : List S → FS
  | [] => passS
  | s :: r => seqS (execS s) (execSs r)
end
end

structure Def where
  np : Nat
  ns : Nat
  body : List S
/-- the arguments in their slots, none behind them -/
def args : List PV → Nat → Option Env
  | [], n => some (List.replicate n none)
  | _ :: _, 0 => none
  | x :: xs, n + 1 => match args xs n with
    | some ρ => some (some (.v x) :: ρ)
    | none => none
mutual
/-- no part of it is of the small heap, from n on -/
def under (n : Nat) : PV → Bool
  | .loc m => decide (m < n)
  | .tup xs => unders n xs
  | .lst xs => unders n xs
  | .dic ks vs => unders n ks && unders n vs
  | .set xs => unders n xs
  | .sc xs => unders n xs
  | .exc _ v => under n v
  | _ => true
def unders (n : Nat) : List PV → Bool
  | [] => true
  | x :: xs => under n x && unders n xs
end
def RV.under (n : Nat) : RV → Bool
  | .v x => WT.under n x
  | .L _ xs => unders n xs
  | .D _ ks vs => unders n ks && unders n vs
def HObj.under (n : Nat) : HObj → Bool
  | .l xs => unders n xs
  | .d ks vs => unders n ks && unders n vs
def hunder (n : Nat) : AH → Bool
  | [] => true
  | o :: r => o.under n && hunder n r
/-- behind a call: what the callee laid is dropped where nothing leads to it -/
def leave (n : Nat) (r : RV) (h : AH) : Out RV := if h.length = n then .ok r h else if r.under n && hunder n (h.take n) then .ok r (h.take n) else .ok r h
def runFn (G : Nat → Option PV) (T : Nat → Option Def) : Nat → CF
  | 0, _, _, _ => .bad
  | n + 1, f, xs, h => match T f with
    | none => .bad
    | some d => if xs.length = d.np then match args xs d.ns with
      | some ρ => (execSs (runFn G T n) G d.body ρ h).bind fun q h' => match q.1 with
        | .ret r => leave h.length r h'
        | .nx => leave h.length (.v .non) h'
        | _ => .bad
      | none => .bad
      else .bad
end WT
end
section
set_option Elab.async false
set_option linter.all false
set_option maxRecDepth 100000
set_option maxHeartbeats 1000000
/-! What a plain value, a slot, the small heap stand for in the model. -/
namespace WT
open PySem PySem.Spec PyProof.Rows L2

/-- the ghost: the frozen addresses, the addresses of the small heap's objects -/
structure Gh where
  F : Addr → Prop
  L : List Addr
abbrev KF := PySem.W.Frag
def KTup (K : KF) (a : Addr) (vs : List V) : Prop := ∃ (o : Obj) (its : Array Value) (n : Nat), K.lookup a = some o ∧ o.cls = .type "tuple" ∧ o.data = .seq its n ∧ its.size ≤ sizeLine ∧ Vals vs its.toList
def FT (K : KF) (g : Gh) (H : Hp) (a : Addr) (vs : List V) : Prop := (g.F a ∧ H a = some (.tup vs)) ∨ KTup K a vs
def FL (K : KF) (g : Gh) (H : Hp) (a : Addr) (vs : List V) : Prop := g.F a ∧ Rd H a (.lst vs)
theorem FT.sq {K : KF} {g : Gh} {H : Hp} {a : Addr} {vs : List V} (h : FT K g H a vs) : SqT K H a vs := by
  rcases h with ⟨_, h⟩ | h
  · exact .inl (.inl h)
  · exact .inr h
/-- the law's script: tracked, or a list of the written part -/
def FS0 (K : KF) (g : Gh) (H : Hp) (a : Addr) (vs : List V) : Prop := (g.F a ∧ Rd H a (.lst vs)) ∨ ∃ (o : Obj) (its : Array Value) (n : Nat), K.lookup a = some o ∧ o.cls = .type "list" ∧ o.dict = none ∧ o.data = .seq its n ∧ its.size ≤ sizeLine ∧ Vals vs its.toList
theorem FS0.sq {K : KF} {g : Gh} {H : Hp} {a : Addr} {vs : List V} (h : FS0 K g H a vs) : SqL K H a vs := h.elim (fun h => .inl h.2) .inr
theorem FL.sq {K : KF} {g : Gh} {H : Hp} {a : Addr} {vs : List V} (h : FL K g H a vs) : SqL K H a vs := by
  exact .inl h.2
mutual
inductive Rep (K : KF) (g : Gh) (H : Hp) : PV → V → Prop
  | non : Rep K g H .non .non
  | bl (b : Bool) : Rep K g H (.bl b) (.bl b)
  | int (i : Int) : Rep K g H (.int i) (.int i)
  | str (s : Str) : Rep K g H (.str s) (.str s)
  | tup {xs : List PV} {vs : List V} {a : Addr} : FT K g H a vs → Reps K g H xs vs → Rep K g H (.tup xs) (.ref a)
  | lst {xs : List PV} {vs : List V} {a : Addr} : FL K g H a vs → Reps K g H xs vs → Rep K g H (.lst xs) (.ref a)
  | sc {xs : List PV} {vs : List V} {a : Addr} : FS0 K g H a vs → Reps K g H xs vs → Rep K g H (.sc xs) (.ref a)
  | loc {n : Nat} {a : Addr} : g.L[n]? = some a → Rep K g H (.loc n) (.ref a)
inductive Reps (K : KF) (g : Gh) (H : Hp) : List PV → List V → Prop
  | nil : Reps K g H [] []
  | cons {x : PV} {v : V} {xs : List PV} {vs : List V} : Rep K g H x v → Reps K g H xs vs → Reps K g H (x :: xs) (v :: vs)
end
/-- from the one state to the other: nothing frozen, nothing that others hold is touched -/
structure Ext (g : Gh) (H : Hp) (g' : Gh) (H' : Hp) : Prop where
  fm : ∀ a, g.F a → g'.F a
  fn : ∀ a, g'.F a → g.F a ∨ H a = none ∨ a ∈ g.L
  lm : ∃ m, g'.L = g.L ++ m
  ln : ∀ a ∈ g'.L, a ∈ g.L ∨ H a = none
  hk : ∀ a o, H a = some o → a ∉ g.L → H' a = some o
  hs : ∀ a, H a ≠ none → H' a ≠ none
theorem Ext.refl (g : Gh) (H : Hp) : Ext g H g H := ⟨fun _ h => h, fun _ h => .inl h, ⟨[], by simp⟩, fun _ h => .inl h, fun _ _ h _ => h, fun _ h => h⟩
theorem Ext.free {g g' : Gh} {H H' : Hp} (e : Ext g H g' H') {a : Addr} (h : H' a = none) : H a = none := by
  cases q : H a with
  | none => rfl
  | some o => exact absurd h (e.hs a (by rw [q]; simp))
theorem Ext.mem {g g' : Gh} {H H' : Hp} (e : Ext g H g' H') {a : Addr} (h : a ∈ g.L) : a ∈ g'.L := by
  obtain ⟨m, hm⟩ := e.lm
  rw [hm]
  exact List.mem_append_left _ h
theorem Ext.at {g g' : Gh} {H H' : Hp} (e : Ext g H g' H') {n : Nat} {a : Addr} (h : g.L[n]? = some a) : g'.L[n]? = some a := by
  obtain ⟨m, hm⟩ := e.lm
  rw [hm, List.getElem?_append_left (List.getElem?_eq_some_iff.mp h).1]
  exact h
theorem Ext.trans {g1 g2 g3 : Gh} {H1 H2 H3 : Hp} (a : Ext g1 H1 g2 H2) (b : Ext g2 H2 g3 H3) : Ext g1 H1 g3 H3 where
  fm := fun x h => b.fm x (a.fm x h)
  fn := fun x h => by
    rcases b.fn x h with h | h | h
    · exact a.fn x h
    · exact .inr (.inl (a.free h))
    · rcases a.ln x h with h | h
      · exact .inr (.inr h)
      · exact .inr (.inl h)
  lm := by
    obtain ⟨m, e1⟩ := a.lm
    obtain ⟨n, e2⟩ := b.lm
    exact ⟨m ++ n, by rw [e2, e1, List.append_assoc]⟩
  ln := fun x h => by
    rcases b.ln x h with h | h
    · exact a.ln x h
    · exact .inr (a.free h)
  hk := fun x o h n => b.hk x o (a.hk x o h n) fun z => by
    rcases a.ln x z with z | z
    · exact n z
    · rw [h] at z; cases z
  hs := fun x h => b.hs x (a.hs x h)
/-- what a list in a slot stands for -/
def HasL (K : KF) (g : Gh) (H : Hp) (a : Addr) (xs : List PV) : Prop := ∃ vs, H a = some (.lst vs) ∧ Reps K g H xs vs
def ORep (K : KF) (g : Gh) (H : Hp) (a : Addr) : HObj → Prop
  | .l xs => HasL K g H a xs
  | .d _ _ => False
/-- the small heap -/
structure Hs (K : KF) (g : Gh) (H : Hp) (h : AH) : Prop where
  len : g.L.length = h.length
  nd : g.L.Nodup
  nf : ∀ a ∈ g.L, ¬ g.F a
  tr : ∀ a ∈ g.L, H a ≠ none
  fd : ∀ a, g.F a → H a ≠ none
  ob : ∀ n o a, hget h n = some o → g.L[n]? = some a → ORep K g H a o
section
variable {K : KF} {g g' : Gh} {H H' : Hp}
/-- what is frozen stands -/
structure Mon (g : Gh) (H : Hp) (g' : Gh) (H' : Hp) : Prop where
  f : ∀ a, g.F a → g'.F a
  k : ∀ a o, g.F a → H a = some o → H' a = some o
  l : ∀ (n : Nat) a, g.L[n]? = some a → g'.L[n]? = some a
theorem Ext.mon {h : AH} (e : Ext g H g' H') (s : Hs K g H h) : Mon g H g' H' := ⟨e.fm, fun a o hf ho => e.hk a o ho fun z => s.nf a z hf, fun _ _ h => e.at h⟩
mutual
theorem Rep.mono (m : Mon g H g' H') : ∀ {x : PV} {v : V}, Rep K g H x v → Rep K g' H' x v
  | _, _, .non => .non
  | _, _, .bl b => .bl b
  | _, _, .int i => .int i
  | _, _, .str s => .str s
  | _, _, .tup h r => .tup (by
      rcases h with ⟨h1, h2⟩ | h
      · exact .inl ⟨m.f _ h1, m.k _ _ h1 h2⟩
      · exact .inr h) (Reps.mono m r)
  | _, _, .lst h r => .lst (by
      obtain ⟨h1, h2⟩ := h
      refine ⟨m.f _ h1, ?_⟩
      rcases h2 with h2 | ⟨o, h2⟩
      · exact .inl (m.k _ _ h1 h2)
      · exact .inr ⟨o, m.k _ _ h1 h2⟩) (Reps.mono m r)
  | _, _, .sc h r => .sc (by
      rcases h with ⟨h1, h2⟩ | h
      · refine .inl ⟨m.f _ h1, ?_⟩
        rcases h2 with h2 | ⟨o, h2⟩
        · exact .inl (m.k _ _ h1 h2)
        · exact .inr ⟨o, m.k _ _ h1 h2⟩
      · exact .inr h) (Reps.mono m r)
  | _, _, .loc h => .loc (m.l _ _ h)
theorem Reps.mono (m : Mon g H g' H') : ∀ {xs : List PV} {vs : List V}, Reps K g H xs vs → Reps K g' H' xs vs
  | _, _, .nil => .nil
  | _, _, .cons h r => .cons (Rep.mono m h) (Reps.mono m r)
end
theorem Reps.length : ∀ {xs : List PV} {vs : List V}, Reps K g H xs vs → vs.length = xs.length
  | _, _, .nil => rfl
  | _, _, .cons _ r => by rw [List.length_cons, List.length_cons, Reps.length r]
theorem Reps.get : ∀ {xs : List PV} {vs : List V} {i : Nat} {x : PV}, Reps K g H xs vs → xs[i]? = some x → ∃ v, vs[i]? = some v ∧ Rep K g H x v
  | _, _, _, _, .nil, e => by simp at e
  | _, _, 0, _, .cons h _, e => by simp at e; subst e; exact ⟨_, rfl, h⟩
  | _, _, i + 1, x, .cons _ r, e => by
    obtain ⟨v, h1, h2⟩ := Reps.get (i := i) (x := x) r (by simpa using e)
    exact ⟨v, by simpa using h1, h2⟩
theorem Reps.get' : ∀ {xs : List PV} {vs : List V} {i : Nat} {v : V}, Reps K g H xs vs → vs[i]? = some v → ∃ x, xs[i]? = some x ∧ Rep K g H x v
  | _, _, _, _, .nil, e => by simp at e
  | _, _, 0, _, .cons h _, e => by simp at e; subst e; exact ⟨_, rfl, h⟩
  | _, _, i + 1, v, .cons _ r, e => by
    obtain ⟨x, h1, h2⟩ := Reps.get' (i := i) (v := v) r (by simpa using e)
    exact ⟨x, by simpa using h1, h2⟩
theorem Reps.append : ∀ {xs ys : List PV} {vs ws : List V}, Reps K g H xs vs → Reps K g H ys ws → Reps K g H (xs ++ ys) (vs ++ ws)
  | _, _, _, _, .nil, s => s
  | _, _, _, _, .cons h r, s => .cons h (Reps.append r s)
theorem Reps.drop : ∀ {xs : List PV} {vs : List V} (n : Nat), Reps K g H xs vs → Reps K g H (xs.drop n) (vs.drop n)
  | _, _, 0, r => by simpa using r
  | _, _, _ + 1, .nil => .nil
  | _, _, n + 1, .cons _ r => by simpa using Reps.drop n r
theorem Reps.take : ∀ {xs : List PV} {vs : List V} (n : Nat), Reps K g H xs vs → Reps K g H (xs.take n) (vs.take n)
  | _, _, 0, _ => by simpa using Reps.nil
  | _, _, _ + 1, .nil => .nil
  | _, _, n + 1, .cons h r => by simpa using Reps.cons h (Reps.take n r)
theorem Reps.set : ∀ {xs : List PV} {vs : List V} {y : PV} {w : V} (n : Nat), Reps K g H xs vs → Rep K g H y w → Reps K g H (xs.set n y) (vs.set n w)
  | _, _, _, _, _, .nil, _ => .nil
  | _, _, _, _, 0, .cons _ r, q => .cons q r
  | _, _, _, _, n + 1, .cons h r, q => .cons h (Reps.set n r q)
theorem Reps.reverse : ∀ {xs : List PV} {vs : List V}, Reps K g H xs vs → Reps K g H xs.reverse vs.reverse
  | _, _, .nil => .nil
  | _, _, .cons h r => by
    rw [List.reverse_cons, List.reverse_cons]
    exact Reps.append (Reps.reverse r) (.cons h .nil)
theorem Reps.rep {xs : List PV} {vs : List V} (r : Reps K g H xs vs) : ∀ n, Reps K g H (rep n xs) (List.replicate n vs).flatten
  | 0 => .nil
  | n + 1 => by
    show Reps K g H (List.replicate (n + 1) xs).flatten (List.replicate (n + 1) vs).flatten
    rw [List.replicate_succ, List.replicate_succ, List.flatten_cons, List.flatten_cons]
    exact Reps.append r (Reps.rep r n)
/-- the values of plain ints, bools -/
theorem Reps.ints : ∀ {xs : List PV} {vs : List V} {ns : List Int}, Reps K g H xs vs → pInts xs = some ns → vs = ns.map V.int
  | _, _, ns, .nil, e => by cases e; rfl
  | _, _, ns, .cons (xs := xs) h r, e => by
    cases h with
    | int i =>
      have e' : (pInts xs).map (i :: ·) = some ns := e
      cases q : pInts xs with
      | none => rw [q] at e'; cases e'
      | some ms =>
        rw [q] at e'
        cases e'
        rw [Reps.ints r q]; rfl
    | _ => cases e
theorem Reps.bools : ∀ {xs : List PV} {vs : List V} {ns : List Bool}, Reps K g H xs vs → pBools xs = some ns → vs = ns.map V.bl
  | _, _, ns, .nil, e => by cases e; rfl
  | _, _, ns, .cons (xs := xs) h r, e => by
    cases h with
    | bl i =>
      have e' : (pBools xs).map (i :: ·) = some ns := e
      cases q : pBools xs with
      | none => rw [q] at e'; cases e'
      | some ms =>
        rw [q] at e'
        cases e'
        rw [Reps.bools r q]; rfl
    | _ => cases e
theorem Reps.of_ints : ∀ ns : List Int, Reps K g H (ns.map .int) (ns.map V.int)
  | [] => .nil
  | n :: r => .cons (.int n) (Reps.of_ints r)
end

/-! ### slots -/
def owned : RV → Bool
  | .v _ => false
  | _ => true
/-- what a slot's content stands for (owned: the value is the object that the slot alone holds) -/
def SRep (K : KF) (g : Gh) (H0 H : Hp) (r : RV) (v : V) : Prop := match r with
  | .v x => Rep K g H x v
  | .L _ xs => ∃ a, v = .ref a ∧ HasL K g H a xs ∧ ¬ g.F a ∧ a ∉ g.L ∧ H0 a = none
  | .D _ _ _ => False
/-- the frame's entry -/
structure Fe where
  g : Gh
  H : Hp
structure St (K : KF) (q : Fe) (g : Gh) (H : Hp) (h : AH) (ρ : Env) (σ : L2.St) : Prop where
  hs : Hs K g H h
  ex : Ext q.g q.H g H
  len : ρ.length = σ.length
  sl : ∀ i r, slot ρ i = some r → ∃ v, σ[i]? = some (some v) ∧ SRep K g q.H H r v
  ow : ∀ i j r s v, slot ρ i = some r → slot ρ j = some s → owned r = true → owned s = true → σ[i]? = some (some v) → σ[j]? = some (some v) → i = j
/-- what an expression's answer stands for; H0: the heap at the expression's start -/
def Res (K : KF) (H0 : Hp) (g : Gh) (H : Hp) (ρ : Env) (σ : L2.St) (r : RV) (v : V) : Prop := match r with
  | .v x => Rep K g H x v
  | .L true xs => ∃ a, v = .ref a ∧ HasL K g H a xs ∧ ∃ i c ys, slot ρ i = some (.L c ys) ∧ σ[i]? = some (some (.ref a))
  | .L false xs => ∃ a, v = .ref a ∧ HasL K g H a xs ∧ ¬ g.F a ∧ a ∉ g.L ∧ H0 a = none
  | .D _ _ _ => False
section
variable {K : KF} {q : Fe} {g g' : Gh} {H H' : Hp} {h h' : AH} {ρ : Env} {σ : L2.St}
theorem HasL.mono {a : Addr} {xs : List PV} (m : Mon g H g' H') (k : ∀ o, H a = some o → H' a = some o) (x : HasL K g H a xs) : HasL K g' H' a xs := by
  obtain ⟨vs, h1, h2⟩ := x
  exact ⟨vs, k _ h1, h2.mono m⟩
theorem SRep.ext {r : RV} {v : V} {H0 : Hp} (s : Hs K g H h) (e : Ext g H g' H') (x : SRep K g H0 H r v) : SRep K g' H0 H' r v := by
  cases r with
  | v y => exact Rep.mono (e.mon s) x
  | L b xs =>
    obtain ⟨a, rfl, ⟨vs, h1, h2⟩, n1, n2, n3⟩ := x
    refine ⟨a, rfl, ⟨vs, e.hk a _ h1 n2, h2.mono (e.mon s)⟩, fun z => ?_, fun z => ?_, n3⟩
    · rcases e.fn a z with z | z | z
      · exact n1 z
      · rw [h1] at z; cases z
      · exact n2 z
    · rcases e.ln a z with z | z
      · exact n2 z
      · rw [h1] at z; cases z
  | D b ks vs => exact x
theorem Res.ext {H0 : Hp} {r : RV} {v : V} (s : St K q g H h ρ σ) (e : Ext g H g' H') (x : Res K H0 g H ρ σ r v) : Res K H0 g' H' ρ σ r v := by
  cases r with
  | v y => exact Rep.mono (e.mon s.hs) x
  | L b xs =>
    cases b with
    | true =>
      obtain ⟨a, rfl, ⟨vs, h1, h2⟩, i, c, ys, h3, h4⟩ := x
      obtain ⟨w, h5, h6⟩ := s.sl i _ h3
      rw [h4] at h5
      cases h5
      obtain ⟨a', ea, _, n1, n2, n3⟩ := h6
      cases ea
      exact ⟨a, rfl, ⟨vs, e.hk a _ h1 n2, h2.mono (e.mon s.hs)⟩, i, c, ys, h3, h4⟩
    | false =>
      obtain ⟨a, rfl, ⟨vs, h1, h2⟩, n1, n2, n3⟩ := x
      refine ⟨a, rfl, ⟨vs, e.hk a _ h1 n2, h2.mono (e.mon s.hs)⟩, fun z => ?_, fun z => ?_, n3⟩
      · rcases e.fn a z with z | z | z
        · exact n1 z
        · rw [h1] at z; cases z
        · exact n2 z
      · rcases e.ln a z with z | z
        · exact n2 z
        · rw [h1] at z; cases z
  | D b ks vs => exact x
/-- the start may be earlier -/
theorem Res.start {H0 H1 : Hp} {r : RV} {v : V} (k : ∀ a, H1 a = none → H0 a = none) (x : Res K H1 g H ρ σ r v) : Res K H0 g H ρ σ r v := by
  cases r with
  | v y => exact x
  | L b xs =>
    cases b with
    | true => exact x
    | false =>
      obtain ⟨a, e, h1, n1, n2, n3⟩ := x
      exact ⟨a, e, h1, n1, n2, k a n3⟩
  | D b ks vs => exact x
theorem St.to (s : St K q g H h ρ σ) (e : Ext g H g' H') (k : Hs K g' H' h') : St K q g' H' h' ρ σ :=
  ⟨k, s.ex.trans e, s.len, fun i r hr => by
    obtain ⟨v, h1, h2⟩ := s.sl i r hr
    exact ⟨v, h1, h2.ext s.hs e⟩, s.ow⟩
theorem hget_lt : ∀ {h : AH} {n : Nat} {o : HObj}, hget h n = some o → n < h.length
  | [], _, _, e => by cases e
  | _ :: _, 0, _, _ => Nat.succ_pos _
  | _ :: r, n + 1, o, e => Nat.succ_lt_succ (hget_lt (h := r) e)
theorem hget_eq : ∀ (h : AH) (n : Nat), hget h n = h[n]?
  | [], n => by simp [hget]
  | _ :: _, 0 => by simp [hget]
  | _ :: r, n + 1 => by simp [hget, hget_eq r n]
theorem ORep.mono {a : Addr} {o : HObj} (m : Mon g H g' H') (k : ∀ u, H a = some u → H' a = some u) (x : ORep K g H a o) : ORep K g' H' a o := by
  cases o with
  | l xs => exact HasL.mono m k x
  | d ks vs => exact x
/-- a new frozen tuple -/
def Gh.add (g : Gh) (p : Addr) : Gh := ⟨fun a => g.F a ∨ a = p, g.L⟩
theorem Ext.newF {p : Addr} {o : HO} (hp : H p = none) : Ext g H (g.add p) (upd H p o) :=
  ⟨fun a h => .inl h, fun a h => by
    rcases h with h | h
    · exact .inl h
    · subst h; exact .inr (.inl hp), ⟨[], by simp [Gh.add]⟩, fun a h => .inl h, fun a u h _ => by
      rw [upd_ne (ne_of_none h hp)]; exact h, fun a h => by
      by_cases e : a = p
      · subst e; rw [upd_same]; simp
      · rw [upd_ne e]; exact h⟩
theorem Ext.new {p : Addr} {o : HO} (hp : H p = none) : Ext g H g (upd H p o) :=
  ⟨fun a h => h, fun a h => .inl h, ⟨[], by simp⟩, fun a h => .inl h, fun a u h _ => by
      rw [upd_ne (ne_of_none h hp)]; exact h, fun a h => by
      by_cases e : a = p
      · subst e; rw [upd_same]; simp
      · rw [upd_ne e]; exact h⟩
theorem Hs.newF {p : Addr} {o : HO} (s : Hs K g H h) (hp : H p = none) : Hs K (g.add p) (upd H p o) h where
  len := s.len
  nd := s.nd
  nf := fun a m z => by
    rcases z with z | z
    · exact s.nf a m z
    · subst z; exact s.tr a m hp
  tr := fun a m => (Ext.newF (g := g) (o := o) hp).hs a (s.tr a m)
  fd := fun a m => by
    rcases m with m | m
    · exact (Ext.newF (g := g) (o := o) hp).hs a (s.fd a m)
    · subst m; rw [upd_same]; simp
  ob := fun n u a h1 h2 => (s.ob n u a h1 h2).mono ((Ext.newF (g := g) (o := o) hp).mon s) fun w hw => by
    rw [upd_ne (ne_of_none hw hp)]; exact hw
theorem Hs.new {p : Addr} {o : HO} (s : Hs K g H h) (hp : H p = none) : Hs K g (upd H p o) h where
  len := s.len
  nd := s.nd
  nf := s.nf
  tr := fun a m => (Ext.new (g := g) (o := o) hp).hs a (s.tr a m)
  fd := fun a m => (Ext.new (g := g) (o := o) hp).hs a (s.fd a m)
  ob := fun n u a h1 h2 => (s.ob n u a h1 h2).mono ((Ext.new (g := g) (o := o) hp).mon s) fun w hw => by
    rw [upd_ne (ne_of_none hw hp)]; exact hw
/-- a tracked object of nobody is frozen from now on -/
theorem Ext.frz {p : Addr} (hp : H p ≠ none) (H0 : Hp) (g0 : Gh) (e : Ext g0 H0 g H) (n : H0 p = none) : Ext g0 H0 (g.add p) H :=
  ⟨fun a h => .inl (e.fm a h), fun a h => by
    rcases h with h | h
    · exact e.fn a h
    · subst h; exact .inr (.inl n), e.lm, e.ln, e.hk, e.hs⟩
theorem Mon.frz {p : Addr} : Mon g H (g.add p) H := ⟨fun a h => .inl h, fun _ _ _ h => h, fun _ _ h => h⟩
theorem Hs.frz {p : Addr} (s : Hs K g H h) (hp : H p ≠ none) (n : p ∉ g.L) : Hs K (g.add p) H h where
  len := s.len
  nd := s.nd
  nf := fun a m z => by
    rcases z with z | z
    · exact s.nf a m z
    · subst z; exact n m
  tr := s.tr
  fd := fun a m => by
    rcases m with m | m
    · exact s.fd a m
    · subst m; exact hp
  ob := fun i u a h1 h2 => (s.ob i u a h1 h2).mono Mon.frz fun _ x => x
theorem Rep.seqV {x : PV} {v : V} (r : Rep K g H x v) : True := trivial
theorem res_v {H0 : Hp} {x : PV} {v : V} (r : Rep K g H x v) : Res K H0 g H ρ σ (.v x) v := r
/-- a fresh list, new at p -/
theorem res_new {p : Addr} {xs : List PV} {vs : List V} (s : Hs K g H h) (hp : H p = none) (r : Reps K g H xs vs) : Res K H g (upd H p (.lst vs)) ρ σ (.L false xs) (.ref p) :=
  ⟨p, rfl, ⟨vs, upd_same, r.mono ((Ext.new hp).mon s)⟩, fun z => s.fd p z hp, fun z => s.tr p z hp, hp⟩
theorem rep_newT {p : Addr} {xs : List PV} {vs : List V} (s : Hs K g H h) (hp : H p = none) (r : Reps K g H xs vs) : Rep K (g.add p) (upd H p (.tup vs)) (.tup xs) (.ref p) :=
  .tup (.inl ⟨.inr rfl, upd_same⟩) (r.mono ((Ext.newF hp).mon s))
end
end WT
end
section
set_option Elab.async false
set_option linter.all false
set_option maxRecDepth 100000
set_option maxHeartbeats 1000000
/-! The operations: what the small interpreter says of values, the model does. -/
namespace WT
open PySem PySem.Spec PyProof.Rows L2

/-- an operation of two values -/
def rO (K : KF) (sem : AH → RV → RV → Option RV) : R2 := fun x y H Q => ∃ q H0 g h ρ σ a b r, St K q g H h ρ σ ∧ Res K H0 g H ρ σ a x ∧ Res K H0 g H ρ σ b y ∧ sem h a b = some r ∧
  ∀ g' H' v, Ext g H g' H' → St K q g' H' h ρ σ → Res K H g' H' ρ σ r v → Q v H'
/-- of one -/
def rO1 (K : KF) (sem : AH → RV → Option RV) : V → Hp → VK → Prop := fun x H Q => ∃ q H0 g h ρ σ a r, St K q g H h ρ σ ∧ Res K H0 g H ρ σ a x ∧ sem h a = some r ∧
  ∀ g' H' v, Ext g H g' H' → St K q g' H' h ρ σ → Res K H g' H' ρ σ r v → Q v H'
section
variable {K : KF} {q : Fe} {H0 : Hp} {g g' : Gh} {H H' : Hp} {h h' : AH} {ρ : Env} {σ : L2.St} {r : RV} {v : V} {xs : List PV}
/-- a list is seen -/
theorem res_lst (s : St K q g H h ρ σ) (x : Res K H0 g H ρ σ r v) (e : r.lst? h = some xs) : ∃ a vs, v = .ref a ∧ Rd H a (.lst vs) ∧ Reps K g H xs vs := by
  cases r with
  | v y =>
    cases y with
    | lst ys =>
      have e' : ys = xs := Option.some.inj e
      subst e'
      cases x with
      | lst f r => exact ⟨_, _, rfl, f.2, r⟩
    | loc n =>
      have e' : (match hget h n with | some (.l xs) => some xs | _ => none) = some xs := e
      cases x with
      | loc hl =>
        rename_i a
        cases q1 : hget h n with
        | none => rw [q1] at e'; cases e'
        | some o =>
          rw [q1] at e'
          cases o with
          | l zs =>
            have e2 : zs = xs := Option.some.inj e'
            subst e2
            obtain ⟨vs, h1, h2⟩ := s.hs.ob n _ a q1 hl
            exact ⟨a, vs, rfl, .inl h1, h2⟩
          | d ks vs => cases e'
    | _ => cases e
  | L b ys =>
    have e' : ys = xs := Option.some.inj e
    subst e'
    cases b with
    | true =>
      obtain ⟨a, rfl, ⟨vs, h1, h2⟩, _⟩ := x
      exact ⟨a, vs, rfl, .inl h1, h2⟩
    | false =>
      obtain ⟨a, rfl, ⟨vs, h1, h2⟩, _⟩ := x
      exact ⟨a, vs, rfl, .inl h1, h2⟩
  | D b ks vs => exact x.elim
theorem res_seq (s : St K q g H h ρ σ) (x : Res K H0 g H ρ σ r v) (e : r.seq h = some xs) : ∃ a vs, v = .ref a ∧ (SqL K H a vs ∨ SqT K H a vs) ∧ Reps K g H xs vs := by
  have key : r.lst? h = some xs → ∃ a vs, v = .ref a ∧ (SqL K H a vs ∨ SqT K H a vs) ∧ Reps K g H xs vs := fun e => by
    obtain ⟨a, vs, h1, h2, h3⟩ := res_lst s x e
    exact ⟨a, vs, h1, .inl (.inl h2), h3⟩
  cases r with
  | v y =>
    cases y with
    | tup ys =>
      have e' : ys = xs := Option.some.inj e
      subst e'
      cases x with
      | tup f r => exact ⟨_, _, rfl, .inr f.sq, r⟩
    | sc ys =>
      have e' : ys = xs := Option.some.inj e
      subst e'
      cases x with
      | sc f r => exact ⟨_, _, rfl, .inl f.sq, r⟩
    | lst ys => exact key e
    | loc n => exact key e
    | _ => cases e
  | L b ys => exact key e
  | D b ks vs => exact x.elim
theorem sq_of {a : Addr} {vs : List V} (x : SqL K H a vs ∨ SqT K H a vs) : SqL K H a vs ∨ SqT K H a vs := x
theorem small_ok {i : Int} (e : small i = true) : -(2 ^ 64) < i ∧ i < 2 ^ 64 := by
  have h := of_decide_eq_true e
  omega
end

/-! ### data -/
mutual
def toD : PV → PyData
  | .non => .none
  | .bl b => .bool b
  | .int i => .int i
  | .str s => .str s
  | .tup xs => .tuple (toDs xs)
  | .lst xs => .list (toDs xs)
  | _ => .none
def toDs : List PV → List PyData
  | [] => []
  | x :: xs => toD x :: toDs xs
end
section
variable {K : KF} {g : Gh} {H : Hp}
mutual
theorem dp_of : ∀ {n : Nat} {x : PV} {v : V}, flat n x = true → Rep K g H x v → Dp K H v (toD x)
  | _, _, _, _, .non => .non
  | _, _, _, _, .bl b => .bl b
  | _, _, _, _, .int i => .int i
  | _, _, _, _, .str s => .str s
  | 0, _, _, e, .tup _ _ => by cases e
  | n + 1, _, _, e, .tup f r => .tup f.sq (dps_of (n := n) e r)
  | 0, _, _, e, .lst _ _ => by cases e
  | n + 1, _, _, e, .lst f r => .lst f.sq (dps_of (n := n) e r)
  | 0, _, _, e, .sc _ _ => by cases e
  | _ + 1, _, _, e, .sc _ _ => by cases e
  | 0, _, _, e, .loc _ => by cases e
  | _ + 1, _, _, e, .loc _ => by cases e
theorem dps_of : ∀ {n : Nat} {xs : List PV} {vs : List V}, flats n xs = true → Reps K g H xs vs → DpAll K H vs (toDs xs)
  | _, _, _, _, .nil => .nil
  | n, x :: xs, _, e, .cons h r => by
    have e' : (flat n x && flats n xs) = true := e
    obtain ⟨e1, e2⟩ := Bool.and_eq_true_iff.mp e'
    exact .cons (dp_of e1 h) (dps_of e2 r)
end
mutual
theorem lay_of : ∀ (n : Nat) (x : PV), flat n x = true → (toD x).canLay0 = true ∧ (toD x).depth ≤ n
  | _, .non, _ => ⟨by simp [toD, PyData.canLay0], by simp [toD, PyData.depth]⟩
  | _, .bl _, _ => ⟨by simp [toD, PyData.canLay0], by simp [toD, PyData.depth]⟩
  | _, .int _, _ => ⟨by simp [toD, PyData.canLay0], by simp [toD, PyData.depth]⟩
  | n, .str s, e => ⟨by
      have e' : s.cps.all (· < 0x110000) = true := by cases n <;> exact e
      simpa [toD, PyData.canLay0, PyData.strOk] using e', by simp [toD, PyData.depth]⟩
  | 0, .tup _, e => by cases e
  | n + 1, .tup xs, e => by
    obtain ⟨h1, h2⟩ := lays_of n xs e
    exact ⟨by simpa [toD, PyData.canLay0] using h1, by simpa [toD, PyData.depth] using h2⟩
  | 0, .lst _, e => by cases e
  | n + 1, .lst xs, e => by
    obtain ⟨h1, h2⟩ := lays_of n xs e
    exact ⟨by simpa [toD, PyData.canLay0] using h1, by simpa [toD, PyData.depth] using h2⟩
  | 0, .dic _ _, e => by cases e
  | _ + 1, .dic _ _, e => by cases e
  | 0, .set _, e => by cases e
  | 0, .sc _, e => by cases e
  | _ + 1, .set _, e => by cases e
  | _ + 1, .sc _, e => by cases e
  | 0, .loc _, e => by cases e
  | _ + 1, .loc _, e => by cases e
  | 0, .exc _ _, e => by cases e
  | _ + 1, .exc _ _, e => by cases e
theorem lays_of : ∀ (n : Nat) (xs : List PV), flats n xs = true → PyData.canLayAll0 (toDs xs) = true ∧ PyData.depthAll (toDs xs) ≤ n
  | _, [], _ => ⟨by simp [toDs, PyData.canLayAll0], by simp [toDs, PyData.depthAll]⟩
  | n, x :: xs, e => by
    have e' : (flat n x && flats n xs) = true := e
    obtain ⟨e1, e2⟩ := Bool.and_eq_true_iff.mp e'
    obtain ⟨h1, h2⟩ := lay_of n x e1
    obtain ⟨h3, h4⟩ := lays_of n xs e2
    exact ⟨by simp [toDs, PyData.canLayAll0, h1, h3], by simp only [toDs, PyData.depthAll]; omega⟩
end
theorem shaped_of {x : PV} (e : okEq x = true) : SeqAt.shaped (toD x) = true := by
  obtain ⟨h1, h2⟩ := lay_of 60 x e
  show ((toD x).canLay0 && decide ((toD x).depth ≤ 64)) = true
  rw [h1, decide_eq_true (by omega : (toD x).depth ≤ 64)]
  rfl
mutual
theorem eqv_of : ∀ (n m : Nat) (x y : PV), flat n x = true → flat m y = true → PyData.eqv (toD x) (toD y) = pyEq x y
  | n, m, x, y, ex, ey => by
    cases x with
    | tup xs =>
      cases n with
      | zero => cases ex
      | succ n =>
        cases y with
        | tup ys =>
          cases m with
          | zero => cases ey
          | succ m =>
            have ih := eqvs_of n m xs ys ex ey
            simpa [toD, PyData.eqv, pyEq] using ih
        | dic _ _ => cases m <;> cases ey
        | set _ => cases m <;> cases ey
        | sc _ => cases m <;> cases ey
        | loc _ => cases m <;> cases ey
        | exc _ _ => cases m <;> cases ey
        | _ => simp [toD, PyData.eqv, pyEq]
    | lst xs =>
      cases n with
      | zero => cases ex
      | succ n =>
        cases y with
        | lst ys =>
          cases m with
          | zero => cases ey
          | succ m =>
            have ih := eqvs_of n m xs ys ex ey
            simpa [toD, PyData.eqv, pyEq] using ih
        | dic _ _ => cases m <;> cases ey
        | set _ => cases m <;> cases ey
        | sc _ => cases m <;> cases ey
        | loc _ => cases m <;> cases ey
        | exc _ _ => cases m <;> cases ey
        | _ => simp [toD, PyData.eqv, pyEq]
    | dic _ _ => cases n <;> cases ex
    | set _ => cases n <;> cases ex
    | sc _ => cases n <;> cases ex
    | loc _ => cases n <;> cases ex
    | exc _ _ => cases n <;> cases ex
    | _ =>
      cases y with
      | dic _ _ => cases m <;> cases ey
      | set _ => cases m <;> cases ey
      | sc _ => cases m <;> cases ey
      | loc _ => cases m <;> cases ey
      | exc _ _ => cases m <;> cases ey
      | _ => simp [toD, PyData.eqv, pyEq]
theorem eqvs_of : ∀ (n m : Nat) (xs ys : List PV), flats n xs = true → flats m ys = true → PyData.eqvAll (toDs xs) (toDs ys) = pyEqs xs ys
  | _, _, [], [], _, _ => by simp [toDs, PyData.eqvAll, pyEqs]
  | _, _, [], _ :: _, _, _ => by simp [toDs, PyData.eqvAll, pyEqs]
  | _, _, _ :: _, [], _, _ => by simp [toDs, PyData.eqvAll, pyEqs]
  | n, m, x :: xs, y :: ys, ex, ey => by
    obtain ⟨e1, e2⟩ := Bool.and_eq_true_iff.mp (show (flat n x && flats n xs) = true from ex)
    obtain ⟨e3, e4⟩ := Bool.and_eq_true_iff.mp (show (flat m y && flats m ys) = true from ey)
    have i1 := eqv_of n m x y e1 e3
    have i2 := eqvs_of n m xs ys e2 e4
    simp only [toDs, PyData.eqvAll, pyEqs, i1, i2]
end
theorem mem_of (n m : Nat) (x : PV) (ex : flat n x = true) : ∀ ys : List PV, flats m ys = true → ((toDs ys).any fun z => PyData.eqv z (toD x)) = memP x ys
  | [], _ => by simp [toDs, memP]
  | y :: ys, e => by
    obtain ⟨e1, e2⟩ := Bool.and_eq_true_iff.mp (show (flat m y && flats m ys) = true from e)
    rw [show toDs (y :: ys) = toD y :: toDs ys by simp [toDs], List.any_cons, eqv_of m n y x e1 ex, mem_of n m x ex ys e2]
    rfl
end

/-! ### the rules by values -/
section
variable {X : Cx}
theorem see_dp {K : KF} {H0 : Hp} {g : Gh} {H : Hp} {ρ : Env} {σ : L2.St} {r : RV} {v : V} (x : Res K H0 g H ρ σ r v) (e : okEq r.see = true) : Dp K H v (toD r.see) := by
  cases r with
  | v y => exact dp_of (n := 60) e x
  | L b ys =>
    have key : ∀ {a : Addr}, HasL K g H a ys → Dp K H (.ref a) (toD (.lst ys)) := fun {a} ⟨vs, h1, h2⟩ => .lst (.inl (.inl h1)) (dps_of (n := 59) e h2)
    cases b with
    | true =>
      obtain ⟨a, rfl, h1, _⟩ := x
      exact key h1
    | false =>
      obtain ⟨a, rfl, h1, _⟩ := x
      exact key h1
  | D b ks vs => exact x.elim
theorem deref_dp {K : KF} {q : Fe} {H0 : Hp} {g : Gh} {H : Hp} {h : AH} {ρ : Env} {σ : L2.St} {r : RV} {v : V} (s : St K q g H h ρ σ) (x : Res K H0 g H ρ σ r v) (e : okEq (r.deref h).see = true) : Dp K H v (toD (r.deref h).see) := by
  have base : (r.deref h) = r → Dp K H v (toD (r.deref h).see) := fun z => by
    rw [z] at e ⊢
    exact see_dp x e
  cases r with
  | v y =>
    cases y with
    | loc n =>
      cases c : hget h n with
      | none => exact base (by show (match hget h n with | some (.l xs) => RV.L true xs | _ => .v (.loc n)) = _; rw [c])
      | some ob =>
        cases ob with
        | d ks vs => exact base (by show (match hget h n with | some (.l xs) => RV.L true xs | _ => .v (.loc n)) = _; rw [c])
        | l xs =>
          have ed : (RV.v (.loc n)).deref h = .L true xs := by show (match hget h n with | some (.l xs) => RV.L true xs | _ => .v (.loc n)) = _; rw [c]
          rw [ed] at e ⊢
          cases x with
          | loc hl =>
            obtain ⟨vs, h1, h2⟩ := s.hs.ob n _ _ c hl
            exact .lst (.inl (.inl h1)) (dps_of (n := 59) e h2)
    | _ => exact base rfl
  | L b xs => exact base rfl
  | D b ks vs => exact base rfl
/-- the answer is a truth -/
theorem fin_b {K : KF} {q : Fe} {g : Gh} {H : Hp} {h : AH} {ρ : Env} {σ : L2.St} {Q : VK} {b : Bool} {r : RV} (s : St K q g H h ρ σ) (e : B (some b) = some r)
    (k : ∀ g' H' v, Ext g H g' H' → St K q g' H' h ρ σ → Res K H g' H' ρ σ r v → Q v H') : Q (.bl b) H := by
  have e' : RV.v (.bl b) = r := Option.some.inj e
  subst e'
  exact k g H _ (Ext.refl g H) s (.bl b)
theorem fin_i {K : KF} {q : Fe} {g : Gh} {H : Hp} {h : AH} {ρ : Env} {σ : L2.St} {Q : VK} {i : Int} {r : RV} (s : St K q g H h ρ σ) (e : some (RV.v (.int i)) = some r)
    (k : ∀ g' H' v, Ext g H g' H' → St K q g' H' h ρ σ → Res K H g' H' ρ σ r v → Q v H') : Q (.int i) H := by
  have e' : RV.v (.int i) = r := Option.some.inj e
  subst e'
  exact k g H _ (Ext.refl g H) s (.int i)
theorem fin_L {K : KF} {q : Fe} {g : Gh} {H : Hp} {h : AH} {ρ : Env} {σ : L2.St} {Q : VK} {xs : List PV} {vs : List V} {r : RV} (s : St K q g H h ρ σ) (hr : Reps K g H xs vs) (e : some (RV.L false xs) = some r)
    (k : ∀ g' H' v, Ext g H g' H' → St K q g' H' h ρ σ → Res K H g' H' ρ σ r v → Q v H') : ∀ p, H p = none → Q (.ref p) (upd H p (.lst vs)) := fun p hp => by
  have e' := Option.some.inj e
  subst e'
  exact k g _ _ (Ext.new hp) (s.to (Ext.new hp) (s.hs.new hp)) (res_new s.hs hp hr)
theorem fin_T {K : KF} {q : Fe} {g : Gh} {H : Hp} {h : AH} {ρ : Env} {σ : L2.St} {Q : VK} {xs : List PV} {vs : List V} {r : RV} (s : St K q g H h ρ σ) (hr : Reps K g H xs vs) (e : some (RV.v (.tup xs)) = some r)
    (k : ∀ g' H' v, Ext g H g' H' → St K q g' H' h ρ σ → Res K H g' H' ρ σ r v → Q v H') : ∀ p, H p = none → Q (.ref p) (upd H p (.tup vs)) := fun p hp => by
  have e' := Option.some.inj e
  subst e'
  exact k (g.add p) _ _ (Ext.newF hp) (s.to (Ext.newF hp) (s.hs.newF hp)) (rep_newT s.hs hp hr)
/-- a value that stands already -/
theorem fin_V {K : KF} {q : Fe} {g : Gh} {H : Hp} {h : AH} {ρ : Env} {σ : L2.St} {Q : VK} {x : PV} {v : V} {r : RV} (s : St K q g H h ρ σ) (hr : Rep K g H x v) (e : some (RV.v x) = some r)
    (k : ∀ g' H' v, Ext g H g' H' → St K q g' H' h ρ σ → Res K H g' H' ρ σ r v → Q v H') : Q v H := by
  have e' := Option.some.inj e
  subst e'
  exact k g H _ (Ext.refl g H) s hr
theorem o_eq (hu : X.A.units + 64 < cLine) : OpR X (compareOp .Eq) (rO X.K fun h a b => B (cmpSem h .eq a b)) := by
  intro pins s σ H x y v u Q I rx ry hh
  obtain ⟨q, H0, g, h, ρ, σ', a, b, r, st, ra, rb, e, k⟩ := hh
  have e0 : B (eqSem (a.deref h) b) = some r := e
  unfold eqSem at e0
  split at e0
  · rename_i c
    obtain ⟨c1, c2⟩ := Bool.and_eq_true_iff.mp c
    refine op_eqD hu pins s σ H x y v u Q I rx ry ⟨_, _, deref_dp st ra c1, see_dp rb c2, shaped_of c1, shaped_of c2, ?_⟩
    rw [eqv_of 60 60 _ _ c1 c2]
    exact fin_b st e0 k
  · cases e0
theorem o_ne (hu : X.A.units + 64 < cLine) : OpR X (compareOp .NotEq) (rO X.K fun h a b => B (cmpSem h .ne a b)) := by
  intro pins s σ H x y v u Q I rx ry hh
  obtain ⟨q, H0, g, h, ρ, σ', a, b, r, st, ra, rb, e, k⟩ := hh
  have e0 : B ((eqSem (a.deref h) b).map (!·)) = some r := e
  unfold eqSem at e0
  split at e0
  · rename_i c
    obtain ⟨c1, c2⟩ := Bool.and_eq_true_iff.mp c
    refine op_neD hu pins s σ H x y v u Q I rx ry ⟨_, _, deref_dp st ra c1, see_dp rb c2, shaped_of c1, shaped_of c2, ?_⟩
    rw [eqv_of 60 60 _ _ c1 c2]
    exact fin_b st e0 k
  · cases e0
theorem in_core (hu : X.A.units + 100 < cLine) {pins : List (Addr × Obj)} {s : Shared} {σ : L2.St} {H : Hp} {x y : V} {v u : Value} {q : Fe} {H0 : Hp} {g : Gh} {h : AH} {ρ : Env} {σ' : L2.St} {a b : RV} {k : Bool} {R : Value → Shared → Prop} {E : Value → Shared → Prop} (neg : Bool)
    (I : Inv X pins σ H s) (rx : RelV x v) (ry : RelV y u) (st : St X.K q g H h ρ σ') (ra : Res X.K H0 g H ρ σ' a x) (rb : Res X.K H0 g H ρ σ' b y) (e : inSem h a b = some k)
    (fin : R (.bool (if neg then !k else k)) s) : wpAny (model X.prog X.w) X.A (compareOp (if neg then .NotIn else .In) v u) R E s := by
  have e0 : (match b.seq h with | some ys => if okEq a.see && flats 60 ys then some (memP a.see ys) else none | none => none) = some k := e
  cases hb : b.seq h with
  | none => rw [hb] at e0; cases e0
  | some ys =>
    rw [hb] at e0
    dsimp only at e0
    split at e0
    · rename_i c
      obtain ⟨c1, c2⟩ := Bool.and_eq_true_iff.mp c
      have ek : memP a.see ys = k := Option.some.inj e0
      obtain ⟨p, vs, rfl, hs, rs⟩ := res_seq st rb hb
      obtain ⟨as, r1⟩ := Dp.reads I _ x v (see_dp ra c1) rx
      have l1 := (lay_of 60 _ c1).1
      have d1 := (lay_of 60 _ c1).2
      have l2 := (lays_of 60 _ c2).1
      have room : X.A.units + 1 + min (PyData.depthAll (toDs ys)) (toD a.see).depth < cLine := by
        have := Nat.min_le_right (PyData.depthAll (toDs ys)) (toD a.see).depth
        omega
      have em := mem_of 60 60 a.see c1 ys c2
      rw [ek] at em
      rcases hs with hs | hs
      · obtain ⟨bs, r2⟩ := Dp.reads I _ _ u (Dp.lst hs (dps_of (n := 60) c2 rs)) ry
        cases neg with
        | false => exact SeqAt.in_list_reads r2 r1 l2 l1 room (by rw [em]; exact fin)
        | true => exact SeqAt.notIn_list_reads r2 r1 l2 l1 room (by rw [em]; exact fin)
      · obtain ⟨bs, r2⟩ := Dp.reads I _ _ u (Dp.tup hs (dps_of (n := 60) c2 rs)) ry
        cases neg with
        | false => exact SeqAt.in_tuple_reads r2 r1 l2 l1 room (by rw [em]; exact fin)
        | true => exact SeqAt.notIn_tuple_reads r2 r1 l2 l1 room (by rw [em]; exact fin)
    · cases e0
theorem o_in (hu : X.A.units + 100 < cLine) : OpR X (compareOp .In) (rO X.K fun h a b => B (cmpSem h .isin a b)) := by
  intro pins s σ H x y v u Q I rx ry hh
  obtain ⟨q, H0, g, h, ρ, σ', a, b, r, st, ra, rb, e, k⟩ := hh
  have e0 : B (inSem h a b) = some r := e
  cases c : inSem h a b with
  | none => rw [c] at e0; cases e0
  | some t =>
    rw [c] at e0
    exact in_core hu false I rx ry st ra rb c ⟨.bl t, H, I, rfl, fin_b st e0 k⟩
theorem o_notin (hu : X.A.units + 100 < cLine) : OpR X (compareOp .NotIn) (rO X.K fun h a b => B (cmpSem h .notin a b)) := by
  intro pins s σ H x y v u Q I rx ry hh
  obtain ⟨q, H0, g, h, ρ, σ', a, b, r, st, ra, rb, e, k⟩ := hh
  have e0 : B ((inSem h a b).map (!·)) = some r := e
  cases c : inSem h a b with
  | none => rw [c] at e0; cases e0
  | some t =>
    rw [c] at e0
    exact in_core hu true I rx ry st ra rb c ⟨.bl (!t), H, I, rfl, fin_b (b := !t) st e0 k⟩
/-- a comparison of two ints -/
theorem o_cmpI {op : CmpOp} {p : Int → Int → Bool} (rule : OpR X (compareOp op) (rI0 fun i j => .bl (p i j))) :
    OpR X (compareOp op) (rO X.K fun _ a b => B (cmpI p a b)) := by
  intro pins s σ H x y v u Q I rx ry hh
  obtain ⟨q, H0, g, h, ρ, σ', a, b, r, st, ra, rb, e, k⟩ := hh
  have e0 : B (cmpI p a b) = some r := e
  unfold cmpI at e0
  split at e0
  · cases ra
    cases rb
    exact rule pins s σ H _ _ v u Q I rx ry ⟨_, _, rfl, rfl, fin_b st e0 k⟩
  · cases e0
theorem o_le : OpR X (compareOp .LtE) (rO X.K fun h a b => B (cmpSem h .le a b)) := o_cmpI op_le
theorem o_gt : OpR X (compareOp .Gt) (rO X.K fun h a b => B (cmpSem h .gt a b)) := o_cmpI op_gt
theorem o_ge : OpR X (compareOp .GtE) (rO X.K fun h a b => B (cmpSem h .ge a b)) := o_cmpI op_ge
theorem lexLt_eq : ∀ ns ms : List Int, HT.lexLt ns ms = lexLt ns ms
  | [], [] => by simp [HT.lexLt, lexLt]
  | [], _ :: _ => by simp [HT.lexLt, lexLt]
  | _ :: _, [] => by simp [HT.lexLt, lexLt]
  | x :: xs, y :: ys => by
    simp only [HT.lexLt, lexLt, lexLt_eq xs ys]
theorem o_lt (hu : X.A.units < cLine) : OpR X (compareOp .Lt) (rO X.K fun h a b => B (cmpSem h .lt a b)) := by
  intro pins s σ H x y v u Q I rx ry hh
  obtain ⟨q, H0, g, h, ρ, σ', a, b, r, st, ra, rb, e, k⟩ := hh
  have e0 : B (ltSem a b) = some r := e
  unfold ltSem at e0
  split at e0
  · cases ra
    cases rb
    exact op_lt pins s σ H _ _ v u Q I rx ry ⟨_, _, rfl, rfl, fin_b st e0 k⟩
  · split at e0
    · rename_i n1 n2
      cases ra with
      | tup f1 r1 =>
        cases rb with
        | tup f2 r2 =>
          have z1 := r1.ints n1
          have z2 := r2.ints n2
          subst z1 z2
          refine op_ltT hu pins s σ H _ _ v u Q I rx ry ⟨_, _, _, _, rfl, rfl, f1.sq, f2.sq, ?_⟩
          rw [lexLt_eq]
          exact fin_b st e0 k
    · cases e0
  · cases e0
/-- is None -/
theorem rep_none {K : KF} {g : Gh} {H : Hp} {x : PV} {v : V} (r : Rep K g H x v) : decide (v = .non) = (match x with | .non => true | _ => false) := by
  cases r <;> simp
theorem res_none {K : KF} {H0 : Hp} {g : Gh} {H : Hp} {ρ : Env} {σ : L2.St} {r : RV} {v : V} {k : Bool} (x : Res K H0 g H ρ σ r v) (e : noneSem r = some k) : k = decide (v = .non) := by
  cases r with
  | v y =>
    rw [rep_none x]
    cases y <;> first
      | exact (Option.some.inj e).symm
      | cases e
  | L b ys =>
    have z : false = k := Option.some.inj e
    cases b with
    | true =>
      obtain ⟨a, rfl, _⟩ := x
      rw [← z]; simp
    | false =>
      obtain ⟨a, rfl, _⟩ := x
      rw [← z]; simp
  | D b ks vs => exact x.elim
theorem o_isN : OpR X (compareOp .Is) (fun x y H Q => y = .non ∧ ∃ q H0 g h ρ σ a r, St X.K q g H h ρ σ ∧ Res X.K H0 g H ρ σ a x ∧ B (noneSem a) = some r ∧ ∀ g' H' v, Ext g H g' H' → St X.K q g' H' h ρ σ → Res X.K H g' H' ρ σ r v → Q v H') := by
  intro pins s σ H x y v u Q I rx ry hh
  obtain ⟨rfl, q, H0, g, h, ρ, σ', a, r, st, ra, e, k⟩ := hh
  cases c : noneSem a with
  | none => rw [c] at e; cases e
  | some t =>
    rw [c] at e
    have z := res_none ra c
    refine op_isN pins s σ H _ _ v u Q I rx ry ⟨rfl, ?_⟩
    rw [← z]
    exact fin_b st e k
theorem o_notN : OpR X (compareOp .IsNot) (fun x y H Q => y = .non ∧ ∃ q H0 g h ρ σ a r, St X.K q g H h ρ σ ∧ Res X.K H0 g H ρ σ a x ∧ B ((noneSem a).map (!·)) = some r ∧ ∀ g' H' v, Ext g H g' H' → St X.K q g' H' h ρ σ → Res X.K H g' H' ρ σ r v → Q v H') := by
  intro pins s σ H x y v u Q I rx ry hh
  obtain ⟨rfl, q, H0, g, h, ρ, σ', a, r, st, ra, e, k⟩ := hh
  cases c : noneSem a with
  | none => rw [c] at e; cases e
  | some t =>
    rw [c] at e
    have z := res_none ra c
    refine op_notN pins s σ H _ _ v u Q I rx ry ⟨rfl, ?_⟩
    rw [← z]
    exact fin_b (b := !t) st e k
end
end WT
end
section
set_option Elab.async false
set_option linter.all false
set_option maxRecDepth 100000
set_option maxHeartbeats 4000000
/-! The arithmetic operators. -/
namespace WT
open PySem PySem.Spec PyProof.Rows L2
theorem op_add_bi {X : Cx} : OpR X (binaryOp .Add) (fun x y H Q => ∃ b i, x = .bl b ∧ y = .int i ∧ Q (.int ((if b = true then 1 else 0) + i)) H) := by
  intro pins s σ H x y v u Q I rx ry h
  obtain ⟨b, i, rfl, rfl, q⟩ := h
  cases rx
  obtain ⟨t, rfl⟩ := ry
  exact IntBool.add_bool_int ⟨.int ((if b = true then 1 else 0) + i), H, I.tok _, ⟨_, rfl⟩, q⟩
def opOf : BinO → Operator
  | .add => .Add | .sub => .Sub | .mul => .Mult | .fdiv => .FloorDiv | .mod => .Mod | .pow => .Pow | .shl => .LShift | .shr => .RShift
  | .band => .BitAnd | .bor => .BitOr | .bxor => .BitXor
theorem op_powB {X : Cx} : OpR X (binaryOp .Pow) (rI (fun i j => 0 ≤ j ∧ j ≤ 16 ∧ i.natAbs < 2 ^ 256) fun i j => .int (i ^ j.toNat)) := opI fun i j _ _ _ _ _ hc q => pow_int hc.1 (by
  have hb : Builtin.Int.intBits i ≤ 256 := intBits_le hc.2.2
  have h2 := hc.2.1
  have h1 := hc.1
  have h3 : (Builtin.Int.intBits i : Int) * j ≤ 256 * j := Int.mul_le_mul_of_nonneg_right (by omega) h1
  omega) q
theorem SZ_eq : SZ = sizeLine := sizeLine_eq.symm
theorem band_eq (x y : Int) : Builtin.bitAnd x y = band x y := rfl
theorem bor_eq (x y : Int) : Builtin.bitOr x y = bor x y := rfl
theorem bxor_eq (x y : Int) : Builtin.bitXor x y = bxor x y := rfl
/-! ### tuples repeated -/
theorem tupMul_same (l : Addr) (items : Array Value) (n : Nat) (dd : Option Addr) (sl : Array (Option Value)) (x : Int) (u : Tok) (c0 : (decide (x < -(2 ^ 63)) || decide (x ≥ 2 ^ 63)) = false) (c1 : (items.isEmpty || x == 1) = true) :
    Meets (Builtin.«tuple.__mul__» ⟨[.ref l, .int x u], []⟩) (fun _ R s => s.heap.get? l = some { cls := .type "tuple", dict := dd, data := .seq items n, slots := sl } ∧
      R (.ok (.ret (Value.ref l))) s) :=
  .of_wp fun prog w A R s h => by
    obtain ⟨hp, g, d, tk, os⟩ := s
    obtain ⟨hl, h⟩ := h
    have f1 := AutoSeq1.idx_int
    wp_walk using wpAny_loadPart' hl
    repeat (first
      | (refine wpAny_ite_false (decide_eq_false (by rw [c0]; exact Bool.false_ne_true)) ?_; wp_walk using wpAny_loadPart' hl)
      | (refine wpAny_ite_true (decide_eq_true c1) ?_; wp_walk using wpAny_loadPart' hl))
    exact ⟨_, rfl, h⟩
theorem tupMul_none (l : Addr) (items : Array Value) (n : Nat) (dd : Option Addr) (sl : Array (Option Value)) (x : Int) (u : Tok) (c0 : (decide (x < -(2 ^ 63)) || decide (x ≥ 2 ^ 63)) = false) (c1 : (items.isEmpty || x == 1) = false) (c2 : (decide (x ≤ 0) || items.isEmpty) = true) :
    Meets (Builtin.«tuple.__mul__» ⟨[.ref l, .int x u], []⟩) (fun _ R s => s.heap.get? l = some { cls := .type "tuple", dict := dd, data := .seq items n, slots := sl } ∧
      R (.ok (.ret (Value.ref s.heap.objs.size))) { s with heap := s.heap.push { cls := Value.type "tuple", data := Data.seq #[] }, toks := s.toks }) :=
  .of_wp fun prog w A R s h => by
    obtain ⟨hp, g, d, tk, os⟩ := s
    obtain ⟨hl, h⟩ := h
    have f1 := AutoSeq1.idx_int
    have hsz : (#[] : Array Value).size ≤ sizeLine := Nat.zero_le _
    wp_walk using wpAny_loadPart' hl
    repeat (first
      | (refine wpAny_ite_false (decide_eq_false (by rw [c0]; exact Bool.false_ne_true)) ?_; wp_walk using wpAny_loadPart' hl)
      | (refine wpAny_ite_false (decide_eq_false (by rw [c1]; exact Bool.false_ne_true)) ?_; wp_walk using wpAny_loadPart' hl)
      | (refine wpAny_ite_true (decide_eq_true c2) ?_; wp_walk using wpAny_loadPart' hl)
      | (refine wpAny_ite_false (decide_eq_false (Nat.not_lt.mpr hsz)) ?_; wp_walk using wpAny_loadPart' hl))
    exact ⟨_, rfl, h⟩
/-- t * k, k within a thousand -/
def rMulT (K : KF) : R2 := fun x y H Q => ∃ l k xs, x = .ref l ∧ y = .int k ∧ SqT K H l xs ∧ -1000 ≤ k ∧ k ≤ 1000 ∧ xs.length ≤ 1000 ∧
  (xs = [] ∨ k = 1 → Q (.ref l) H) ∧ (∀ p, H p = none → Q (.ref p) (upd H p (.tup (List.replicate k.toNat xs).flatten)))
section
variable {X : Cx}
theorem op_mulT : OpR X (binaryOp .Mult) (rMulT X.K) := by
  intro pins s σ H x y v u Q I rx ry h
  obtain ⟨l, k, xs, rfl, rfl, hT, h1, h2, hz, q0, q⟩ := h
  by_cases big : xs ≠ [] ∧ 2 ≤ k
  · exact op_repT pins s σ H _ _ v u Q I rx ry ⟨l, k, xs, rfl, rfl, hT, big.1, big.2, h2, hz, q⟩
  · cases rx
    obtain ⟨t, rfl⟩ := ry
    obtain ⟨its, r, ⟨⟨cls, dd, data, sl⟩, ho, hc, n, hd⟩, hs⟩ := I.tuple hT
    simp only at hc hd
    subst hc hd
    have hle : its.length = xs.length := r.length.symm
    have c0 : (decide (k < -(2 ^ 63)) || decide (k ≥ 2 ^ 63)) = false := by
      rw [decide_eq_false (by omega), decide_eq_false (by omega)] <;> rfl
    by_cases c : its.toArray.isEmpty = true ∨ k = 1
    · have c1 : (its.toArray.isEmpty || k == 1) = true := by
        rcases c with c | c
        · rw [c]; rfl
        · rw [beq_iff_eq.mpr c, Bool.or_true]
      have qq : Q (.ref l) H := q0 (by
        rcases c with c | c
        · left
          have e : its = [] := by simpa using c
          rw [e] at hle
          exact List.eq_nil_of_length_eq_zero hle.symm
        · exact .inr c)
      refine wpAny_binaryOp_repeat_ref (T := "tuple") (U := "int") (by decide) ⟨_, ho, rfl⟩ (fun s' => typeIs_int s' k t) noFill_tuple_mul F.fills_int_mul F.slot_int_rmul repeat_tuple F.slot_int_index.lookup
        (call_meets F.slot_int_rmul (typeIs_int s k t) F.entry_int_rmul (F.args_int_rmul_2 _ _) (int_rmul_tuple k t l its.toArray n dd sl)
          ⟨ho, rfl, ⟨_, ho, rfl⟩, call_meets F.slot_tuple_mul ⟨_, ho, rfl⟩ F.entry_tuple_mul (F.args_tuple_mul_2 _ _) (tupMul_same l its.toArray n dd sl k t c0 c1) ⟨ho, ?_⟩⟩)
      exact ⟨.ref l, H, I, rfl, qq⟩
    · have cE : its.toArray.isEmpty = false := by
        cases e : its.toArray.isEmpty with
        | false => rfl
        | true => exact absurd (.inl e) c
      have k1 : k ≠ 1 := fun e => c (.inr e)
      have c1 : (its.toArray.isEmpty || k == 1) = false := by
        rw [cE, Bool.false_or]
        exact beq_eq_false_iff_ne.mpr k1
      have xn : xs ≠ [] := fun e => by
        rw [e] at hle
        have e2 : its = [] := List.eq_nil_of_length_eq_zero hle
        rw [e2] at cE
        cases cE
      have k0 : k ≤ 0 := by
        by_cases z : 2 ≤ k
        · exact absurd ⟨xn, z⟩ big
        · omega
      have c2 : (decide (k ≤ 0) || its.toArray.isEmpty) = true := by rw [decide_eq_true k0]; rfl
      have qq := q s.heap.objs.size (I.hok.fresh (Nat.le_refl _))
      have e0 : (List.replicate k.toNat xs).flatten = [] := by
        have : k.toNat = 0 := by omega
        rw [this]; rfl
      rw [e0] at qq
      refine wpAny_binaryOp_repeat_ref (T := "tuple") (U := "int") (by decide) ⟨_, ho, rfl⟩ (fun s' => typeIs_int s' k t) noFill_tuple_mul F.fills_int_mul F.slot_int_rmul repeat_tuple F.slot_int_index.lookup
        (call_meets F.slot_int_rmul (typeIs_int s k t) F.entry_int_rmul (F.args_int_rmul_2 _ _) (int_rmul_tuple k t l its.toArray n dd sl)
          ⟨ho, rfl, ⟨_, ho, rfl⟩, call_meets F.slot_tuple_mul ⟨_, ho, rfl⟩ F.entry_tuple_mul (F.args_tuple_mul_2 _ _) (tupMul_none l its.toArray n dd sl k t c0 c1 c2) ⟨ho, ?_⟩⟩)
      refine ⟨.ref s.heap.objs.size, _, I.laid (t' := s.toks) (o := .tup []) (fun b ob q => Heap.get?_push_of_some _ q) (Nat.le_refl _) ?_, rfl, qq⟩
      exact ⟨Nat.zero_le _, [], .nil, IsTup.new _ _⟩
/-! ### lists -/
theorem rdL {pins : List (Addr × Obj)} {s : Shared} {σ : L2.St} {H : Hp} {l : Addr} {xs : List V} (I : Inv X pins σ H s) (hH : Rd H l (.lst xs)) : xs.length ≤ sizeLine ∧ ∃ (its : List Value) (n : Nat), Vals xs its ∧ xs.length = its.length ∧ s.heap.get? l = some { cls := .type "list", data := .seq its.toArray n } := by
  obtain ⟨z, its, n, r, e⟩ := hH.ok I.hok
  exact ⟨z, its, n, r, r.length, e⟩
theorem op_catL : OpR X (binaryOp .Add) (fun x y H Q => ∃ l b xs zs, x = .ref l ∧ y = .ref b ∧ Rd H l (.lst xs) ∧ Rd H b (.lst zs) ∧ xs.length + zs.length ≤ sizeLine ∧ ∀ p, H p = none → Q (.ref p) (upd H p (.lst (xs ++ zs)))) := by
  intro pins s σ H x y v u Q I rx ry h
  obtain ⟨l, b, xs, zs, rfl, rfl, hH, hB, hz, q⟩ := h
  cases rx
  cases ry
  obtain ⟨z, its, n, r, hl, e⟩ := rdL I hH
  obtain ⟨z2, its2, n2, r2, hl2, e2⟩ := rdL I hB
  refine PySem.P.add_list e e2 ?_ (by rw [List.size_toArray, List.size_toArray]; omega)
  have ea : its.toArray ++ its2.toArray = (its ++ its2).toArray := by simp
  rw [ea]
  exact ⟨.ref _, _, I.lnew (t' := s.toks) (r.append r2) (by rw [List.length_append]; omega), rfl, q _ I.fresh⟩
theorem op_repLL : OpR X (binaryOp .Mult) (fun x y H Q => ∃ l k xs, x = .ref l ∧ y = .int k ∧ Rd H l (.lst xs) ∧ -(2 ^ 63) ≤ k ∧ k < 2 ^ 63 ∧ xs.length * k.toNat ≤ sizeLine ∧
    ∀ p, H p = none → Q (.ref p) (upd H p (.lst (List.replicate k.toNat xs).flatten))) := by
  intro pins s σ H x y v u Q I rx ry h
  obtain ⟨l, k, xs, rfl, rfl, hH, h1, h2, hz, q⟩ := h
  cases rx
  obtain ⟨t, rfl⟩ := ry
  obtain ⟨z, its, n, r, hl, e⟩ := rdL I hH
  have hlen : its.toArray.size * k.toNat ≤ sizeLine := by rw [List.size_toArray, ← hl]; exact hz
  have hcap : ¬ its.toArray.size * k.toNat > (2 ^ 63 - 1) / 8 := by
    have : (sizeLine : Nat) ≤ (2 ^ 63 - 1) / 8 := by decide
    omega
  have hfit : ¬ (!Builtin.List.listFitsIndex k) = true := by
    rw [fitsIndex_both h1 h2]
    exact Bool.false_ne_true
  have hlong : ¬ Builtin.List.listTooLong (its.toArray.size * k.toNat) = true := by
    rw [notLongL hlen]
    exact Bool.false_ne_true
  have hnew : List.foldl (fun x1 x2 => x1 ++ x2) #[] (List.replicate (if its.toArray.isEmpty = true then 0 else k.toNat) its.toArray) = (List.replicate k.toNat its).flatten.toArray := by
    have f0 : ∀ m : Nat, List.foldl (fun x1 x2 => x1 ++ x2) #[] (List.replicate m its.toArray) = (List.replicate m its).flatten.toArray := fun m => by
      have := foldl_rep its m []
      rw [List.nil_append] at this
      exact this
    rw [f0]
    cases its with
    | nil => simp
    | cons a r' => rw [if_neg (by simp)]
  refine wpAny_binaryOp_repeat_ref (T := "list") (U := "int") (by decide) ⟨_, e, rfl⟩ (fun s' => typeIs_int s' k t) noFill_list_mul F.fills_int_mul F.slot_int_rmul repeat_list F.slot_int_index.lookup
    (call_meets F.slot_int_rmul (typeIs_int s k t) F.entry_int_rmul (F.args_int_rmul_2 _ _) (int___rmul___int_list k t l its.toArray n)
      ⟨e, rfl, ⟨_, e, rfl⟩, call_meets F.slot_list_mul ⟨_, e, rfl⟩ F.entry_list_mul (F.args_list_mul_2 _ _) (AutoListH.list___mul___list_int_3 l its.toArray n k t hfit hcap hlong) ⟨e, ?_⟩⟩)
  rw [hnew]
  exact ⟨.ref _, _, I.lnew (t' := s.toks) (r.rep k.toNat) (by rw [PyProof.Rows.lm_len_rep_flat, Nat.mul_comm]; exact hz), rfl, q _ I.fresh⟩
/-! ### all -/
theorem int_inv {K : KF} {H0 : Hp} {g : Gh} {H : Hp} {ρ : Env} {σ : L2.St} {i : Int} {v : V} (x : Res K H0 g H ρ σ (.v (.int i)) v) : v = .int i := by cases x; rfl
theorem o_binI {o : BinO} {i j : Int} {k : Int} {pins : List (Addr × Obj)} {s : Shared} {σ : L2.St} {H : Hp} {v u : Value} {Q : VK} (I : Inv X pins σ H s) (rx : RelV (.int i) v) (ry : RelV (.int j) u)
    (e : binInt o i j = some k) (fin : Q (.int k) H) : wpAny (model X.prog X.w) X.A (binaryOp (opOf o) v u) (EP X pins σ Q) X.xe s := by
  cases o with
  | add => cases e; exact op_add pins s σ H _ _ v u Q I rx ry ⟨i, j, rfl, rfl, fin⟩
  | sub => cases e; exact op_sub pins s σ H _ _ v u Q I rx ry ⟨i, j, rfl, rfl, fin⟩
  | mul =>
    have e0 : (if small i || small j then some (i * j) else none) = some k := e
    split at e0
    · rename_i c
      cases e0
      refine op_mul pins s σ H _ _ v u Q I rx ry ⟨i, j, rfl, rfl, ?_, fin⟩
      rcases Bool.or_eq_true_iff.mp c with c | c
      · exact .inl (small_ok c)
      · exact .inr (small_ok c)
    · cases e0
  | fdiv =>
    have e0 : (if 0 < j ∧ j < 1073741824 then some (i / j) else none) = some k := e
    split at e0
    · rename_i c
      cases e0
      exact op_fdiv pins s σ H _ _ v u Q I rx ry ⟨i, j, rfl, rfl, c, fin⟩
    · cases e0
  | mod =>
    have e0 : (if 0 < j then some (i % j) else none) = some k := e
    split at e0
    · rename_i c
      cases e0
      exact op_mod pins s σ H _ _ v u Q I rx ry ⟨i, j, rfl, rfl, c, fin⟩
    · cases e0
  | pow =>
    have e0 : (if 0 ≤ j ∧ ((j ≤ 1000000 ∧ small i = true) ∨ (j ≤ 16 ∧ i.natAbs < 2 ^ 256)) then some (i ^ j.toNat) else none) = some k := e
    split at e0
    · rename_i c
      cases e0
      obtain ⟨c1, c2⟩ := c
      by_cases c3 : j ≤ 1000000 ∧ small i = true
      · refine op_pow pins s σ H _ _ v u Q I rx ry ⟨i, j, rfl, rfl, ⟨c1, c3.1, ?_⟩, fin⟩
        have := of_decide_eq_true c3.2
        omega
      · have c4 : j ≤ 16 ∧ i.natAbs < 2 ^ 256 := c2.resolve_left c3
        exact op_powB pins s σ H _ _ v u Q I rx ry ⟨i, j, rfl, rfl, ⟨c1, c4⟩, fin⟩
    · cases e0
  | shl =>
    have e0 : (if 0 ≤ j ∧ j ≤ 1000000 ∧ small i = true then some (i * 2 ^ j.toNat) else none) = some k := e
    split at e0
    · rename_i c
      cases e0
      refine op_shl pins s σ H _ _ v u Q I rx ry ⟨i, j, rfl, rfl, ⟨c.1, c.2.1, ?_⟩, fin⟩
      have := of_decide_eq_true c.2.2
      omega
    · cases e0
  | shr =>
    have e0 : (if 0 ≤ j then some (i / 2 ^ j.toNat) else none) = some k := e
    split at e0
    · rename_i c
      cases e0
      exact op_shr pins s σ H _ _ v u Q I rx ry ⟨i, j, rfl, rfl, c, fin⟩
    · cases e0
  | band => cases e; exact op_and pins s σ H _ _ v u Q I rx ry ⟨i, j, rfl, rfl, fin⟩
  | bor => cases e; exact op_or pins s σ H _ _ v u Q I rx ry ⟨i, j, rfl, rfl, fin⟩
  | bxor => cases e; exact op_xor pins s σ H _ _ v u Q I rx ry ⟨i, j, rfl, rfl, fin⟩
theorem o_catL {pins : List (Addr × Obj)} {s : Shared} {σ : L2.St} {H : Hp} {x y : V} {v u : Value} {Q : VK} {q : Fe} {H0 : Hp} {g : Gh} {h : AH} {ρ : Env} {σ' : L2.St} {a b r : RV} (I : Inv X pins σ H s) (rx : RelV x v) (ry : RelV y u) (st : St X.K q g H h ρ σ')
    (ra : Res X.K H0 g H ρ σ' a x) (rb : Res X.K H0 g H ρ σ' b y) (e : catL h a b = some r) (k : ∀ g' H' v, Ext g H g' H' → St X.K q g' H' h ρ σ' → Res X.K H g' H' ρ σ' r v → Q v H') :
    wpAny (model X.prog X.w) X.A (binaryOp .Add v u) (EP X pins σ Q) X.xe s := by
  unfold catL at e
  cases ea : a.lst? h with
  | none => rw [ea] at e; cases e
  | some xs =>
    cases eb : b.lst? h with
    | none => rw [ea, eb] at e; cases e
    | some ys =>
      rw [ea, eb] at e
      dsimp only at e
      split at e
      · rename_i c
        obtain ⟨l, vs, rfl, h1, h2⟩ := res_lst st ra ea
        obtain ⟨l2, ws, rfl, h3, h4⟩ := res_lst st rb eb
        refine op_catL pins s σ H _ _ v u Q I rx ry ⟨l, l2, vs, ws, rfl, rfl, h1, h3, ?_, fin_L st (h2.append h4) e k⟩
        rw [h2.length, h4.length, ← SZ_eq]; exact c
      · cases e
theorem o_bin (o : BinO) : OpR X (binaryOp (opOf o)) (rO X.K fun h a b => binSem h o a b) := by
  intro pins s σ H x y v u Q I rx ry hh
  obtain ⟨q, H0, g, h, ρ, σ', a, b, r, st, ra, rb, e, k⟩ := hh
  have key : binSeq h o a b = some r → wpAny (model X.prog X.w) X.A (binaryOp (opOf o) v u) (EP X pins σ Q) X.xe s := fun e1 => by
    clear e
    cases o with
    | add =>
      have e0 : addSeq h a b = some r := e1
      clear e1
      unfold addSeq at e0
      split at e0
      · split at e0
        · rename_i xs ys c
          cases ra with
          | tup f1 r1 =>
            cases rb with
            | tup f2 r2 =>
              rename_i vs a1 ws a2
              refine op_catA pins s σ H _ _ v u Q I rx ry ⟨a1, a2, vs, ws, rfl, rfl, f1.sq, f2.sq, by rw [r1.length, r2.length, ← SZ_eq]; exact c, fun z => ?_, fun _ z => ?_, fun _ _ => fin_T st (r1.append r2) e0 k⟩
              · have n1 : xs = [] := List.eq_nil_of_length_eq_zero (by rw [← r1.length, z]; rfl)
                subst n1
                rw [List.nil_append] at e0
                exact fin_V st (.tup f2 r2) e0 k
              · have n1 : ys = [] := List.eq_nil_of_length_eq_zero (by rw [← r2.length, z]; rfl)
                subst n1
                rw [List.append_nil] at e0
                exact fin_V st (.tup f1 r1) e0 k
        · cases e0
      · split at e0
        · rename_i c
          cases ra
          cases rb
          exact op_add_str pins s σ H _ _ v u Q I rx ry ⟨_, _, rfl, rfl, by rw [← SZ_eq]; exact c, fin_V st (.str _) e0 k⟩
        · cases e0
      · cases ra
        cases rb
        exact op_add_ib pins s σ H _ _ v u Q I rx ry ⟨_, _, rfl, rfl, fin_V st (.int _) e0 k⟩
      · cases ra
        cases rb
        exact op_add_bi pins s σ H _ _ v u Q I rx ry ⟨_, _, rfl, rfl, fin_V st (.int _) e0 k⟩
      · exact o_catL I rx ry st ra rb e0 k
    | mul =>
      have e0 : mulSeq h a b = some r := e1
      clear e1
      unfold mulSeq at e0
      split at e0
      · split at e0
        · rename_i xs m c
          cases ra with
          | tup f1 r1 =>
            cases rb
            rename_i vs a1
            refine op_mulT pins s σ H _ _ v u Q I rx ry ⟨a1, m, vs, rfl, rfl, f1.sq, c.1, c.2.1, by rw [r1.length]; exact c.2.2, fun z => ?_, fin_T st (r1.rep m.toNat) e0 k⟩
            have ee : rep m.toNat xs = xs := by
              rcases z with z | z
              · have n1 : xs = [] := List.eq_nil_of_length_eq_zero (by rw [← r1.length, z]; rfl)
                subst n1
                show (List.replicate m.toNat ([] : List PV)).flatten = []
                simp
              · subst z
                show (List.replicate 1 xs).flatten = xs
                simp
            rw [ee] at e0
            exact fin_V st (.tup f1 r1) e0 k
        · cases e0
      · rename_i m hne
        cases rb
        unfold repL at e0
        cases ea : a.lst? h with
        | none => rw [ea] at e0; cases e0
        | some xs =>
          rw [ea] at e0
          dsimp only at e0
          split at e0
          · rename_i c
            obtain ⟨l, vs, rfl, h1, h2⟩ := res_lst st ra ea
            refine op_repLL pins s σ H _ _ v u Q I rx ry ⟨l, m, vs, rfl, rfl, h1, by omega, by omega, ?_, fin_L st (h2.rep m.toNat) e0 k⟩
            rw [h2.length, ← SZ_eq]; exact c.2.2
          · cases e0
      · cases e0
    | _ => cases e1
  have e0 : binSem h o a b = some r := e
  clear e
  unfold binSem at e0
  split at e0
  · rename_i i j
    cases ra
    cases rb
    cases c : binInt o i j with
    | none => rw [c] at e0; cases e0
    | some m =>
      rw [c] at e0
      exact o_binI I rx ry c (fin_i st e0 k)
  · exact key e0
end
end WT
end
section
set_option Elab.async false
set_option linter.all false
set_option maxRecDepth 100000
set_option maxHeartbeats 4000000
/-! Indexing, slices, truth, built-in functions by values. -/
namespace WT
open PySem PySem.Spec PyProof.Rows L2
theorem pick_eq {α : Type} (xs : List α) (i : Int) : atI xs i = pick xs i := rfl
theorem cut_eq (vs : List V) (lo hi : Option Int) : cutV vs lo hi = cut vs lo hi := by
  have e : ∀ n d (o : Option Int), HT.sIx n d o = cutAt n d o := fun n d o => by
    cases o <;> rfl
  unfold cutV cut
  rw [e, e]
/-- a call of a built-in with one value -/
def rC1 (K : KF) (sem : AH → RV → Option RV) : List V → Hp → VK → Prop := fun vs H Q => ∃ x, vs = [x] ∧ rO1 K sem x H Q
def rC2 (K : KF) (sem : AH → RV → RV → Option RV) : List V → Hp → VK → Prop := fun vs H Q => ∃ x y, vs = [x, y] ∧ rO K sem x y H Q
section
variable {K : KF} {g : Gh} {H : Hp}
theorem Reps.pick {xs : List PV} {vs : List V} {i : Int} {x : PV} (r : Reps K g H xs vs) (e : WT.pick xs i = some x) : ∃ v, WT.pick vs i = some v ∧ Rep K g H x v := by
  unfold WT.pick at e ⊢
  rw [r.length]
  cases c : place xs.length i with
  | none => rw [c] at e; cases e
  | some j =>
    rw [c] at e
    exact r.get e
theorem Reps.cut {xs : List PV} {vs : List V} (r : Reps K g H xs vs) (lo hi : Option Int) : Reps K g H (WT.cut xs lo hi) (WT.cut vs lo hi) := by
  unfold WT.cut
  rw [r.length]
  exact (r.drop _).take _
end
section
variable {X : Cx}
theorem o_ix : IxR X (rO X.K fun h a i => ixSem h a i) := by
  intro value slice pins s σ H x y v u Q I rx ry hh hs
  obtain ⟨q, H0, g, h, ρ, σ', a, b, r, st, ra, rb, e, k⟩ := hh
  have e0 : ixSem h a b = some r := e
  clear e
  unfold ixSem at e0
  split at e0
  · rename_i xs i hx
    cases rb
    obtain ⟨p, vs, rfl, h1, h2⟩ := res_seq st ra hx
    cases c : pick xs i with
    | none => rw [c] at e0; cases e0
    | some z =>
      rw [c] at e0
      obtain ⟨w, h3, h4⟩ := h2.pick c
      rcases h1 with h1 | h1
      · exact ix_list value slice pins s σ H _ _ v u Q I rx ry ⟨p, vs, i, w, rfl, rfl, h1, h3, fin_V st h4 e0 k⟩ hs
      · exact ix_tup value slice pins s σ H _ _ v u Q I rx ry ⟨p, vs, i, w, rfl, rfl, h1, h3, fin_V st h4 e0 k⟩ hs
  · cases e0
/-- a slice -/
def rS (K : KF) : V → Option Int → Option Int → Hp → VK → Prop := fun x lo hi H Q => ∃ q H0 g h ρ σ a r, St K q g H h ρ σ ∧ Res K H0 g H ρ σ a x ∧ slSem h a lo hi = some r ∧
  ∀ g' H' v, Ext g H g' H' → St K q g' H' h ρ σ → Res K H g' H' ρ σ r v → Q v H'
theorem cut_whole {α : Type} {xs : List α} {lo hi : Option Int} (h : cutAt xs.length 0 lo = 0 ∧ cutAt xs.length xs.length hi = xs.length) : cut xs lo hi = xs := by
  unfold cut
  rw [h.1, h.2, List.drop_zero, Nat.sub_zero, List.take_length]
theorem o_sl : SlR X (rS X.K) := by
  intro pins s σ H x v vl vu lo hi sl Q I rx hs pl pu hh
  obtain ⟨q, H0, g, h, ρ, σ', a, r, st, ra, e, k⟩ := hh
  unfold slSem at e
  split at e
  · rename_i xs
    cases ra with
    | tup f1 r1 =>
      rename_i vs p
      refine sl_tupA pins s σ H _ v vl vu lo hi sl Q I rx hs pl pu ⟨p, vs, rfl, f1.sq, fun z => ?_, fun _ p2 hp2 => ?_⟩
      · have hl := r1.length
        have z' : cutAt xs.length 0 lo = 0 ∧ cutAt xs.length xs.length hi = xs.length := by
          have e1 : ∀ n d (o : Option Int), HT.sIx n d o = cutAt n d o := fun n d o => by
            cases o <;> rfl
          rw [← hl, ← e1, ← e1]
          exact z
        rw [cut_whole z'] at e
        exact fin_V st (.tup f1 r1) e k
      · rw [cut_eq]
        exact fin_T st (r1.cut lo hi) e k p2 hp2
  · split at e
    · rename_i xs hx
      obtain ⟨p, vs, rfl, h1, h2⟩ := res_lst st ra hx
      refine sl_list pins s σ H _ v vl vu lo hi sl Q I rx hs pl pu ⟨p, vs, rfl, .inl h1, fun p2 hp2 => ?_⟩
      rw [cut_eq]
      exact fin_L st (h2.cut lo hi) e k p2 hp2
    · cases e
theorem isEmpty_reps {K : KF} {g : Gh} {H : Hp} {xs : List PV} {vs : List V} (r : Reps K g H xs vs) : vs.isEmpty = xs.isEmpty := by
  cases r <;> rfl
theorem tru_v {q : Fe} {H0 : Hp} {g : Gh} {H : Hp} {h : AH} {ρ : Env} {σ : L2.St} {a : RV} {v : V} {k : Bool} (st : St X.K q g H h ρ σ) (ra : Res X.K H0 g H ρ σ a v) (e : a.truth h = some k) : TruV X.K v H k := by
  have lst : ∀ {xs : List PV}, a.lst? h = some xs → some (!xs.isEmpty) = some k → TruV X.K v H k := fun {xs} hx e => by
    obtain ⟨p, vs, rfl, h1, h2⟩ := res_lst st ra hx
    refine .inl ⟨vs, .inl h1, ?_⟩
    rw [isEmpty_reps h2]
    exact (Option.some.inj e).symm
  cases a with
  | v y =>
    cases y with
    | non => cases ra; exact (Option.some.inj e).symm
    | bl b => cases ra; exact (Option.some.inj e).symm
    | int i => cases ra; exact (Option.some.inj e).symm
    | str z =>
      cases ra
      have e' : (if z.length ≤ SZ then some ((z.length : Int) != 0) else none) = some k := e
      split at e'
      · rename_i c
        rw [SZ_eq] at c
        exact ⟨c, (Option.some.inj e').symm⟩
      · cases e'
    | tup xs =>
      cases ra with
      | tup f r =>
        refine .inr (.inl ⟨_, f.sq, ?_⟩)
        rw [isEmpty_reps r]
        exact (Option.some.inj e).symm
    | lst xs => exact lst (xs := xs) rfl e
    | loc n =>
      have e' : (match hget h n with | some (.l xs) => some (!xs.isEmpty) | _ => none) = some k := e
      cases c : hget h n with
      | none => rw [c] at e'; cases e'
      | some o =>
        rw [c] at e'
        cases o with
        | l xs => exact lst (xs := xs) (by show (match hget h n with | some (.l xs) => some xs | _ => none) = some xs; rw [c]) e'
        | d ks vs => cases e'
    | _ => cases e
  | L b xs => exact lst (xs := xs) rfl e
  | D b ks vs => exact ra.elim
/-! ### built-in functions -/
theorem c_len : CallR X (.builtin "len") (rC1 X.K fun h a => N ((a.seq h).map fun xs => (xs.length : Int))) := by
  intro pins s σ H xs us Q I r hh
  obtain ⟨x, rfl, q, H0, g, h, ρ, σ', a, z, st, ra, e, k⟩ := hh
  have e0 : N ((a.seq h).map fun xs => (xs.length : Int)) = some z := e
  cases c : a.seq h with
  | none => rw [c] at e0; cases e0
  | some ys =>
    rw [c] at e0
    obtain ⟨p, vs, rfl, h1, h2⟩ := res_seq st ra c
    refine call_len_seq pins s σ H _ us Q I r ⟨p, vs, rfl, sq_of h1, ?_⟩
    rw [h2.length]
    exact fin_i st e0 k
theorem c_abs : CallR X (.builtin "abs") (rC1 X.K fun h a => opSem h .abs [a]) := by
  intro pins s σ H xs us Q I r hh
  obtain ⟨x, rfl, q, H0, g, h, ρ, σ', a, z, st, ra, e, k⟩ := hh
  cases a with
  | v y =>
    cases y with
    | int i => cases ra; exact call_abs pins s σ H _ us Q I r ⟨i, rfl, fin_i st e k⟩
    | _ => cases e
  | _ => cases e
theorem c_min2 (hc : X.calm = true) : CallR X (.builtin "min") (rC2 X.K fun h a b => opSem h .min2 [a, b]) := by
  intro pins s σ H xs us Q I r hh
  obtain ⟨x, y, rfl, q, H0, g, h, ρ, σ', a, b, z, st, ra, rb, e, k⟩ := hh
  cases a with
  | v a =>
    cases a with
    | int i =>
      cases b with
      | v b =>
        cases b with
        | int j => cases ra; cases rb; exact call_min2 hc pins s σ H _ us Q I r ⟨i, j, rfl, fin_i st e k⟩
        | _ => cases e
      | _ => cases e
    | _ => cases e
  | _ => cases e
theorem c_max2 (hc : X.calm = true) : CallR X (.builtin "max") (rC2 X.K fun h a b => opSem h .max2 [a, b]) := by
  intro pins s σ H xs us Q I r hh
  obtain ⟨x, y, rfl, q, H0, g, h, ρ, σ', a, b, z, st, ra, rb, e, k⟩ := hh
  cases a with
  | v a =>
    cases a with
    | int i =>
      cases b with
      | v b =>
        cases b with
        | int j => cases ra; cases rb; exact call_max2 hc pins s σ H _ us Q I r ⟨i, j, rfl, fin_i st e k⟩
        | _ => cases e
      | _ => cases e
    | _ => cases e
  | _ => cases e
theorem sumI_eq : ∀ ns : List Int, ns.sum = sumI ns
  | [] => rfl
  | x :: xs => by rw [List.sum_cons, sumI, sumI_eq xs]
theorem iter_tupI {prog : Program} {w : World} {A : Around} {E : Value → Shared → Prop} {s : Shared} {l : Addr} {its : Array Value} {Q : Value → Shared → Prop} (hl : s.heap.IsTuple l its)
    (h : ∀ s₂ : Shared, s₂ = { s with heap := s.heap.push { cls := .type "tuple_iterator", data := .fields #[.ref l, .int 0 0] } } →
      (s₂.heap.IsTupleIter s.heap.objs.size l 0 ∧ s₂.heap.IsTuple l its) → (∀ b ∈ [s.heap.objs.size, l], b < s₂.heap.objs.size) → l ≠ s.heap.objs.size → Q (.ref s.heap.objs.size) s₂) :
    wpAny (model prog w) A (pyIter (.ref l)) Q E s := by
  have hlt : l < s.heap.objs.size := by obtain ⟨_, e, _⟩ := hl; exact Heap.lt_size e
  refine wpAny_pyIter_tuple hl (h _ rfl ⟨⟨_, Heap.get?_push_size _ rfl, rfl, rfl⟩, hl.push _⟩ (fun b hb => ?_) (Nat.ne_of_lt hlt))
  show b < (s.heap.push _).objs.size
  rw [Heap.size_push]
  rcases List.mem_cons.mp hb with rfl | hb
  · exact Nat.lt_succ_self _
  · rcases List.mem_cons.mp hb with rfl | hb
    · exact Nat.lt_succ_of_lt hlt
    · cases hb
theorem sum_tup {prog : Program} {w : World} {A : Around} {E : Value → Shared → Prop} {s : Shared} {l : Addr} {its : List Value} {ns : List Int} {Q : Value → Shared → Prop} (hh : A.handled = none) (hl : s.heap.IsTuple l its.toArray) (hi : IntsAre its ns)
    (h : ∀ h' tk t', (∀ b o, s.heap.get? b = some o → h'.get? b = some o) → Q (.int ns.sum t') { s with heap := h', toks := tk }) : wpAny (model prog w) A (call (.builtin "sum") [.ref l]) Q E s := by
  obtain ⟨xs, e⟩ := hi.allInts.items
  have hn : numsOf (intItems xs).toList = ns := by rw [← e]; exact hi.numsOf
  rw [nums_intItems] at hn
  rw [e] at hl
  refine PySem.call_sum_walkG (iter_tupI hl fun s₂ e st hfp hlI => ?_)
  subst e
  refine ⟨_, _, _, _, _, _, numAt xs, rfl, Walks.tuple (A := A.in1) hh _ l hlI (intItems xs), st, hfp, (fun _ _ => intItems_at), fun h' tk t' hk => ?_⟩
  have := h h' tk t' fun b o q => hk b o (fun hm => by
    rcases List.mem_cons.mp hm with e1 | hm
    · rw [e1] at q
      exact absurd (Heap.lt_size q) (Nat.lt_irrefl _)
    · cases hm) (Heap.get?_push_of_some _ q)
  rw [preSum_eq, show (intItems xs).size = xs.size by simp [intItems], List.take_of_length_le (by simp), hn]; exact this
theorem c_sum (hc : X.calm = true) : CallR X (.builtin "sum") (rC1 X.K fun h a => N ((a.seq h).bind fun xs => (pInts xs).map sumI)) := by
  intro pins s σ H xs us Q I r hh
  obtain ⟨x, rfl, q, H0, g, h, ρ, σ', a, z, st, ra, e, k⟩ := hh
  have e0 : N ((a.seq h).bind fun xs => (pInts xs).map sumI) = some z := e
  cases c : a.seq h with
  | none => rw [c] at e0; cases e0
  | some ys =>
    rw [c] at e0
    have e1 : N ((pInts ys).map sumI) = some z := e0
    cases d : pInts ys with
    | none => rw [d] at e1; cases e1
    | some ns =>
      rw [d] at e1
      obtain ⟨p, vs, rfl, h1, h2⟩ := res_seq st ra c
      have ev := h2.ints d
      subst ev
      rcases h1 with h1 | h1
      · refine cr_sum hc pins s σ H _ us Q I r ⟨p, ns, rfl, h1, ?_⟩
        rw [sumI_eq]
        exact fin_i st e1 k
      · obtain ⟨its, rv, hl, _⟩ := I.tuple h1
        rw [Vals.ref1 r]
        refine sum_tup (I.ok.hd hc) hl rv.ints fun h' tk t' hk => ⟨.int _, H, I.kept hk, ⟨_, rfl⟩, ?_⟩
        rw [sumI_eq]
        exact fin_i st e1 k
theorem c_all (hc : X.calm = true) : CallR X (.builtin "all") (rC1 X.K fun h a => B ((a.lst? h).bind fun xs => (pBools xs).map fun bs => bs.all id)) := by
  intro pins s σ H xs us Q I r hh
  obtain ⟨x, rfl, q, H0, g, h, ρ, σ', a, z, st, ra, e, k⟩ := hh
  have e0 : B ((a.lst? h).bind fun xs => (pBools xs).map fun bs => bs.all id) = some z := e
  cases c : a.lst? h with
  | none => rw [c] at e0; cases e0
  | some ys =>
    rw [c] at e0
    have e1 : B ((pBools ys).map fun bs => bs.all id) = some z := e0
    cases d : pBools ys with
    | none => rw [d] at e1; cases e1
    | some ns =>
      rw [d] at e1
      obtain ⟨p, vs, rfl, h1, h2⟩ := res_lst st ra c
      have ev := h2.bools d
      subst ev
      exact cr_all hc pins s σ H _ us Q I r ⟨p, ns, rfl, .inl h1, fin_b st e1 k⟩
theorem c_any (hc : X.calm = true) : CallR X (.builtin "any") (rC1 X.K fun h a => B ((a.lst? h).bind fun xs => (pBools xs).map fun bs => bs.any id)) := by
  intro pins s σ H xs us Q I r hh
  obtain ⟨x, rfl, q, H0, g, h, ρ, σ', a, z, st, ra, e, k⟩ := hh
  have e0 : B ((a.lst? h).bind fun xs => (pBools xs).map fun bs => bs.any id) = some z := e
  cases c : a.lst? h with
  | none => rw [c] at e0; cases e0
  | some ys =>
    rw [c] at e0
    have e1 : B ((pBools ys).map fun bs => bs.any id) = some z := e0
    cases d : pBools ys with
    | none => rw [d] at e1; cases e1
    | some ns =>
      rw [d] at e1
      obtain ⟨p, vs, rfl, h1, h2⟩ := res_lst st ra c
      have ev := h2.bools d
      subst ev
      exact cr_any hc pins s σ H _ us Q I r ⟨p, ns, rfl, .inl h1, fin_b st e1 k⟩
theorem c_toInt : CallR X (.type "int") (rC1 X.K fun h a => opSem h .toInt [a]) := by
  intro pins s σ H xs us Q I r hh
  obtain ⟨x, rfl, q, H0, g, h, ρ, σ', a, z, st, ra, e, k⟩ := hh
  cases a with
  | v y =>
    cases y with
    | int i => cases ra; exact call_int1 pins s σ H _ us Q I r (.inl ⟨i, rfl, fin_i st e k⟩)
    | bl b => cases ra; exact call_int1 pins s σ H _ us Q I r (.inr ⟨b, rfl, fin_i st e k⟩)
    | _ => cases e
  | _ => cases e
theorem c_toStr : CallR X (.type "str") (rC1 X.K fun h a => opSem h .toStr [a]) := by
  intro pins s σ H xs us Q I r hh
  obtain ⟨x, rfl, q, H0, g, h, ρ, σ', a, z, st, ra, e, k⟩ := hh
  cases a with
  | v y =>
    cases y with
    | int i =>
      cases ra
      have e0 : (if i.natAbs < 1000000000000000000 then some (RV.v (.str (toString i))) else none) = some z := e
      split at e0
      · rename_i c
        refine call_str_int pins s σ H _ us Q I r ⟨i, rfl, ?_, fin_V st (.str _) e0 k⟩
        by_cases i0 : i.natAbs = 0
        · rw [i0]; decide
        · rw [Nat.log2_lt i0]
          exact Nat.lt_of_lt_of_le c (Nat.le_trans (by decide : 1000000000000000000 ≤ 2 ^ 60) (Nat.pow_le_pow_right (by decide) (by decide)))
      · cases e0
    | _ => cases e
  | _ => cases e
theorem c_toTup : CallR X (.type "tuple") (rC1 X.K fun h a => (a.seq h).map fun xs => .v (.tup xs)) := by
  intro pins s σ H xs us Q I r hh
  obtain ⟨x, rfl, q, H0, g, h, ρ, σ', a, z, st, ra, e, k⟩ := hh
  have e0 : ((a.seq h).map fun xs => RV.v (.tup xs)) = some z := e
  have lst : ∀ {ys : List PV}, a.lst? h = some ys → some (RV.v (.tup ys)) = some z → wpAny (model X.prog X.w) X.A (call (.type "tuple") us) (EP X pins σ Q) X.xe s := fun {ys} hy e1 => by
    obtain ⟨p, vs, rfl, h1, h2⟩ := res_lst st ra hy
    exact call_tuple_of pins s σ H _ us Q I r ⟨p, vs, rfl, .inl ⟨.inl h1, fin_T st h2 e1 k⟩⟩
  cases a with
  | v y =>
    cases y with
    | tup ys =>
      cases ra with
      | tup f r1 => exact call_tuple_of pins s σ H _ us Q I r ⟨_, _, rfl, .inr ⟨f.sq, fin_V st (.tup f r1) e0 k⟩⟩
    | sc ys =>
      cases ra with
      | sc f r1 => exact call_tuple_of pins s σ H _ us Q I r ⟨_, _, rfl, .inl ⟨f.sq, fin_T st r1 e0 k⟩⟩
    | lst ys => exact lst (ys := ys) rfl e0
    | loc n =>
      cases c : (RV.v (.loc n)).lst? h with
      | none =>
        have c2 : (RV.v (.loc n)).seq h = none := c
        rw [c2] at e0; cases e0
      | some ys =>
        have c2 : (RV.v (.loc n)).seq h = some ys := c
        rw [c2] at e0
        exact lst c e0
    | _ => cases e0
  | L b ys => exact lst (ys := ys) rfl e0
  | D b ks vs => exact ra.elim
theorem c_toLst : CallR X (.type "list") (rC1 X.K fun h a => (a.seq h).map fun xs => .L false xs) := by
  intro pins s σ H xs us Q I r hh
  obtain ⟨x, rfl, q, H0, g, h, ρ, σ', a, z, st, ra, e, k⟩ := hh
  have e0 : ((a.seq h).map fun xs => RV.L false xs) = some z := e
  cases c : a.seq h with
  | none => rw [c] at e0; cases e0
  | some ys =>
    rw [c] at e0
    obtain ⟨p, vs, rfl, h1, h2⟩ := res_seq st ra c
    exact call_list_of pins s σ H _ us Q I r ⟨p, vs, rfl, sq_of h1, fin_L st h2 e0 k⟩
end
end WT
end
section
set_option Elab.async false
set_option linter.all false
set_option maxRecDepth 100000
set_option maxHeartbeats 4000000
/-! Expressions: what the small interpreter answers is what the model answers. -/
namespace WT
open PySem PySem.Spec PyProof.Rows L2

def tO (K : KF) (f : FE) : TE := fun σ H Q => ∃ q g h ρ, St K q g H h ρ σ ∧ ∃ r h', f ρ h = .ok r h' ∧ ∀ g' H' v, Ext g H g' H' → St K q g' H' h' ρ σ → Res K H g' H' ρ σ r v → Q v H'
/-- the answers of several -/
inductive Ress (K : KF) (H0 : Hp) (g : Gh) (H : Hp) (ρ : Env) (σ : L2.St) : List RV → List V → Prop
  | nil : Ress K H0 g H ρ σ [] []
  | cons {r : RV} {v : V} {rs : List RV} {vs : List V} : Res K H0 g H ρ σ r v → Ress K H0 g H ρ σ rs vs → Ress K H0 g H ρ σ (r :: rs) (v :: vs)
/-- fresh ones are unlike -/
inductive Dis : List RV → List V → Prop
  | nil : Dis [] []
  | cons {r : RV} {v : V} {rs : List RV} {vs : List V} : (∀ xs, r = .L false xs → ∀ (j : Nat) ys u, rs[j]? = some (.L false ys) → vs[j]? = some u → u ≠ v) → Dis rs vs → Dis (r :: rs) (v :: vs)
def tOs (K : KF) (f : Env → AH → Out (List RV)) : TA := fun σ H Q => ∃ q g h ρ, St K q g H h ρ σ ∧ ∃ rs h', f ρ h = .ok rs h' ∧ ∀ g' H' vs, Ext g H g' H' → St K q g' H' h' ρ σ → Ress K H g' H' ρ σ rs vs → Dis rs vs → Q vs H'
def tOb (K : KF) (f : Env → AH → Out Bool) : TT := fun σ H Q => ∃ q g h ρ, St K q g H h ρ σ ∧ ∃ b h', f ρ h = .ok b h' ∧ ∀ g' H', Ext g H g' H' → St K q g' H' h' ρ σ → Q b H'
section
variable {α β : Type}
theorem bind_ok {o : Out α} {k : α → AH → Out β} {b : β} {h' : AH} (e : o.bind k = .ok b h') : ∃ a h, o = .ok a h ∧ k a h = .ok b h' := by
  cases o with
  | ok a h => exact ⟨a, h, rfl, e⟩
  | exc c v h => cases e
  | bad => cases e
theorem ofOpt_ok {o : Option α} {h h' : AH} {a : α} (e : Out.ofOpt o h = .ok a h') : o = some a ∧ h' = h := by
  cases o with
  | none => cases e
  | some b => cases e; exact ⟨rfl, rfl⟩
theorem truth_ok {r : RV} {h h' : AH} {b : Bool} (e : (match r.truth h with | some b => Out.ok b h | none => .bad) = .ok b h') : r.truth h = some b ∧ h' = h := by
  cases c : r.truth h with
  | none => rw [c] at e; cases e
  | some d => rw [c] at e; cases e; exact ⟨rfl, rfl⟩
end
theorem PE.weak {X : Cx} {e : Expr} {t t' : TE} (p : PE X e t) (k : ∀ σ H Q, t' σ H Q → t σ H Q) : PE X e t' := ⟨fun pins s σ H Q I h => p.run pins s σ H Q I (k σ H Q h)⟩
theorem PT.weak {X : Cx} {e : Expr} {t t' : TT} (p : PT X e t) (k : ∀ σ H Q, t' σ H Q → t σ H Q) : PT X e t' := ⟨fun pins s σ H Q I h => p.run pins s σ H Q I (k σ H Q h)⟩
theorem PW.weak {X : Cx} {e : Expr} {t t' : TT} (p : PW X e t) (k : ∀ σ H Q, t' σ H Q → t σ H Q) : PW X e t' := ⟨fun w pins s σ H Q I h => p.run w pins s σ H Q I (k σ H Q h)⟩
theorem PA.weak {X : Cx} {e : List Expr} {t t' : TA} (p : PA X e t) (k : ∀ σ H Q, t' σ H Q → t σ H Q) : PA X e t' := ⟨fun pos pins s σ H Q I h => p.run pos pins s σ H Q I (k σ H Q h)⟩

section
variable {K : KF} {q : Fe} {H0 : Hp} {g g0 g' : Gh} {H H' : Hp} {h h0 h' : AH} {ρ : Env} {σ : L2.St}
theorem Ress.ext {rs : List RV} {vs : List V} (s : St K q g H h ρ σ) (e : Ext g H g' H') (x : Ress K H0 g H ρ σ rs vs) : Ress K H0 g' H' ρ σ rs vs := by
  induction x with
  | nil => exact .nil
  | cons a _ ih => exact .cons (a.ext s e) ih
theorem Ress.start {H1 : Hp} {rs : List RV} {vs : List V} (k : ∀ a, H1 a = none → H0 a = none) (x : Ress K H1 g H ρ σ rs vs) : Ress K H0 g H ρ σ rs vs := by
  induction x with
  | nil => exact .nil
  | cons a _ ih => exact .cons (a.start k) ih
/-- what may be shared: a value that is, or a fresh list (the address may be frozen already) -/
def Fz (K : KF) (H0 : Hp) (g : Gh) (H : Hp) (x : PV) (v : V) : Prop := Rep K g H x v ∨ ∃ xs a, x = .lst xs ∧ v = .ref a ∧ HasL K g H a xs ∧ a ∉ g.L ∧ H0 a = none
inductive Fzs (K : KF) (H0 : Hp) (g : Gh) (H : Hp) : List PV → List V → Prop
  | nil : Fzs K H0 g H [] []
  | cons {x : PV} {v : V} {xs : List PV} {vs : List V} : Fz K H0 g H x v → Fzs K H0 g H xs vs → Fzs K H0 g H (x :: xs) (v :: vs)
theorem Res.fz {r : RV} {v : V} {x : PV} (w : Res K H0 g H ρ σ r v) (e : r.toPV = some x) : Fz K H0 g H x v := by
  cases r with
  | v y => cases e; exact .inl w
  | L b xs =>
    cases b with
    | true => cases e
    | false =>
      cases e
      obtain ⟨a, e, h1, _, n2, n3⟩ := w
      exact .inr ⟨xs, a, rfl, e, h1, n2, n3⟩
  | D b ks vs => exact w.elim
theorem Ress.fz {rs : List RV} {vs : List V} (w : Ress K H0 g H ρ σ rs vs) : ∀ {xs : List PV}, toPVs rs = some xs → Fzs K H0 g H xs vs := by
  induction w with
  | nil => intro xs e; cases e; exact .nil
  | @cons r v rs vs a _ ih =>
    intro xs e
    have e' : (match r.toPV, toPVs rs with | some x, some xs => some (x :: xs) | _, _ => none) = some xs := e
    cases c : r.toPV with
    | none => rw [c] at e'; cases e'
    | some x =>
      cases d : toPVs rs with
      | none => rw [c, d] at e'; cases e'
      | some ys =>
        rw [c, d] at e'
        cases e'
        exact .cons (a.fz c) (ih d)
theorem Fz.add {x : PV} {v : V} {p : Addr} (w : Fz K H0 g H x v) : Fz K H0 (g.add p) H x v := by
  rcases w with w | ⟨xs, a, e1, e2, ⟨vs, h1, h2⟩, n2, n3⟩
  · exact .inl (w.mono Mon.frz)
  · exact .inr ⟨xs, a, e1, e2, ⟨vs, h1, h2.mono Mon.frz⟩, n2, n3⟩
theorem Fzs.add {xs : List PV} {vs : List V} {p : Addr} (w : Fzs K H0 g H xs vs) : Fzs K H0 (g.add p) H xs vs := by
  induction w with
  | nil => exact .nil
  | cons a _ ih => exact .cons a.add ih
/-- a fresh address is frozen: the slots do not hold it -/
theorem St.add {p : Addr} (st0 : St K q g0 H0 h0 ρ σ) (st : St K q g H h ρ σ) (hp : H p ≠ none) (n : p ∉ g.L) (n0 : H0 p = none) : St K q (g.add p) H h ρ σ where
  hs := st.hs.frz hp n
  ex := Ext.frz hp q.H q.g st.ex (st0.ex.free n0)
  len := st.len
  sl := fun i r hr => by
    obtain ⟨v, h1, h2⟩ := st.sl i r hr
    refine ⟨v, h1, ?_⟩
    cases r with
    | v y => exact Rep.mono Mon.frz h2
    | L b xs =>
      obtain ⟨a, rfl, ⟨vs, h3, h4⟩, m1, m2, m3⟩ := h2
      refine ⟨a, rfl, ⟨vs, h3, h4.mono Mon.frz⟩, fun z => ?_, m2, m3⟩
      rcases z with z | z
      · exact m1 z
      · subst z
        obtain ⟨w, h5, h6⟩ := st0.sl i _ hr
        rw [h1] at h5
        cases h5
        obtain ⟨a', ea, ⟨us, h7, _⟩, _⟩ := h6
        cases ea
        rw [n0] at h7
        cases h7
    | D b ks vs => exact h2
  ow := st.ow
/-- several answers are shared from now on -/
theorem share (st0 : St K q g0 H0 h0 ρ σ) : ∀ {xs : List PV} {vs : List V} {g : Gh}, Fzs K H0 g H xs vs → St K q g H h ρ σ → Ext g0 H0 g H →
    ∃ g', Ext g0 H0 g' H ∧ St K q g' H h ρ σ ∧ Mon g H g' H ∧ g'.L = g.L ∧ Reps K g' H xs vs
  | _, _, g, .nil, st, e => ⟨g, e, st, ⟨fun _ z => z, fun _ _ _ z => z, fun _ _ z => z⟩, rfl, .nil⟩
  | _, _, g, .cons a w, st, e => by
    rcases a with a | ⟨ys, p, rfl, rfl, ⟨us, h1, h2⟩, n2, n3⟩
    · obtain ⟨g', e', st', m, l, r⟩ := share st0 w st e
      exact ⟨g', e', st', m, l, .cons (a.mono m) r⟩
    · have hp : H p ≠ none := by rw [h1]; simp
      obtain ⟨g', e', st', m, l, r⟩ := share st0 (w.add (p := p)) (St.add st0 st hp n2 n3) (Ext.frz hp H0 g0 e n3)
      exact ⟨g', e', st', ⟨fun a z => m.f a (.inl z), fun a o z1 z2 => z2, fun n a z => m.l n a z⟩, l, .cons (.lst ⟨m.f p (.inr rfl), .inl h1⟩ ((h2.mono (Mon.frz (p := p))).mono m)) r⟩
theorem share1 {x : PV} {v : V} (st0 : St K q g0 H0 h0 ρ σ) (w : Fz K H0 g H x v) (st : St K q g H h ρ σ) (e : Ext g0 H0 g H) :
    ∃ g', Ext g0 H0 g' H ∧ St K q g' H h ρ σ ∧ Mon g H g' H ∧ g'.L = g.L ∧ Rep K g' H x v := by
  obtain ⟨g', e', st', m, l, r⟩ := share st0 (.cons w .nil) st e
  cases r with
  | cons r _ => exact ⟨g', e', st', m, l, r⟩
end

/-! ### the rules -/
section
variable {X : Cx}
/-- two in a row, then an operation -/
theorem two {K : KF} {fa fb : FE} {sem : AH → RV → RV → Option RV} {σ : L2.St} {H : Hp} {Q : VK}
    (w : tO K (fun ρ h => (fa ρ h).bind fun x h => (fb ρ h).bind fun y h => .ofOpt (sem h x y) h) σ H Q) : tO K fa σ H fun x H1 => tO K fb σ H1 fun y H2 => rO K sem x y H2 Q := by
  obtain ⟨q, g, h, ρ, st, r, h', e, k⟩ := w
  obtain ⟨x, h1, e1, e⟩ := bind_ok e
  obtain ⟨y, h2, e2, e⟩ := bind_ok e
  obtain ⟨e3, rfl⟩ := ofOpt_ok e
  refine ⟨q, g, h, ρ, st, x, h1, e1, fun g1 H1 v x1 s1 r1 => ⟨q, g1, h1, ρ, s1, y, _, e2, fun g2 H2 u x2 s2 r2 => ?_⟩⟩
  exact ⟨q, H, g2, _, ρ, σ, x, y, r, s2, r1.ext s1 x2, r2.start fun a => x1.free, e3, fun g3 H3 z x3 s3 r3 => k g3 H3 z ((x1.trans x2).trans x3) s3 (r3.start fun a => (x1.trans x2).free)⟩
theorem one {K : KF} {fa : FE} {sem : AH → RV → Option RV} {σ : L2.St} {H : Hp} {Q : VK}
    (w : tO K (fun ρ h => (fa ρ h).bind fun x h => .ofOpt (sem h x) h) σ H Q) : tO K fa σ H fun x H1 => rO1 K sem x H1 Q := by
  obtain ⟨q, g, h, ρ, st, r, h', e, k⟩ := w
  obtain ⟨x, h1, e1, e⟩ := bind_ok e
  obtain ⟨e3, rfl⟩ := ofOpt_ok e
  refine ⟨q, g, h, ρ, st, x, _, e1, fun g1 H1 v x1 s1 r1 => ⟨q, H, g1, _, ρ, σ, x, r, s1, r1, e3, fun g3 H3 z x3 s3 r3 => k g3 H3 z (x1.trans x3) s3 (r3.start fun a => x1.free)⟩⟩
theorem e_var {i : Nat} {x : Str} {pos : Pos} (hN : X.N[i]? = some x) (hv : Vis X.env.scope x) (hd : (x == ("__debug__" : Str)) = false) (hcd : (x == ("__classdict__" : Str)) = false) (cf : CF) (G : Nat → Option PV) :
    PE X (.Name x pos) (tO X.K (evalE cf G (.var i))) := by
  refine PE.weak (pe_var hN hv hd hcd) fun σ H Q w => ?_
  obtain ⟨q, g, h, ρ, st, r, h', e, k⟩ := w
  cases c : slot ρ i with
  | none =>
    have e' : evalE cf G (.var i) ρ h = .bad := by unfold evalE; rw [c]
    rw [e'] at e
    cases e
  | some s =>
    obtain ⟨v, h1, h2⟩ := st.sl i s c
    refine ⟨v, h1, ?_⟩
    cases s with
    | v y =>
      have e' : evalE cf G (.var i) ρ h = .ok (.v y) h := by unfold evalE; rw [c]
      rw [e'] at e
      cases e
      exact k g H v (Ext.refl g H) st h2
    | L b xs =>
      have e' : evalE cf G (.var i) ρ h = .ok (.L true xs) h := by unfold evalE; rw [c]
      rw [e'] at e
      cases e
      obtain ⟨a, rfl, h3, n1, n2, n3⟩ := h2
      exact k g H _ (Ext.refl g H) st ⟨a, rfl, h3, i, b, xs, c, h1⟩
    | D b ks vs => exact h2.elim

/-- an expression of a form that no rule takes otherwise -/
def plainX : Expr → Bool
  | .Starred _ _ => false
  | .Slice _ _ _ _ => false
  | .Set _ _ _ => false
  | _ => true
theorem plain_star {e : Expr} {es : List Expr} {env : PySem.Env} (h : plainX e = true) : starEach (e :: es) env = (false, eval e env) :: starEach es env := by
  cases e <;> first
    | rfl
    | cases h
theorem plain_ix {e : Expr} (h : plainX e = true) : PlainIx e := by
  intro o i
  cases e <;> first
    | rfl
    | cases h
theorem plain_marks {e : Expr} {op : CmpOp} (h : plainX e = true) : behindInMarks op e = false := by
  cases e <;> first
    | rfl
    | cases h
theorem plain_iter {e : Expr} {env : PySem.Env} (h : plainX e = true) : ∀ x, foldedSetIterable e env x = pure x := by
  intro x
  cases e <;> first
    | rfl
    | cases h
/-- an expression: its value, its truth -/
structure SE (X : Cx) (pe : Expr) (f : FE) : Prop where
  px : plainX pe = true
  e : PE X pe (tO X.K f)
  t : PT X pe (tOb X.K (truthE f))
  w : ∀ op es pos, pe = .BoolOp op es pos → PW X pe (tOb X.K (truthE f))
theorem tru_use {f : FE} {σ : L2.St} {H : Hp} {Q : Bool → Hp → Prop} (w : tOb X.K (truthE f) σ H Q) : tO X.K f σ H fun x H' => ∃ k, TruV X.K x H' k ∧ Q k H' := by
  obtain ⟨q, g, h, ρ, st, b, h', e, k⟩ := w
  obtain ⟨r, h1, e1, e⟩ := bind_ok e
  obtain ⟨e2, rfl⟩ := truth_ok e
  exact ⟨q, g, h, ρ, st, r, _, e1, fun g' H' v x1 s1 r1 => ⟨b, tru_v s1 r1 e2, k g' H' x1 s1⟩⟩
theorem SE.plain {pe : Expr} {f : FE} (p : PE X pe (tO X.K f)) (he : ∀ whole, isTrue pe X.env whole = (do let v ← whole; standAt pe.pos; holding [v] (truthy v))) (hb : ∀ op es pos, pe ≠ .BoolOp op es pos) (hp : plainX pe = true := by rfl) : SE X pe f :=
  ⟨hp, p, PT.weak (pt_truth p he) fun _ _ _ w => tru_use w, fun op es pos e => absurd e (hb op es pos)⟩
/-- the answer of an operation that gives a truth -/
theorem b_test {K : KF} {sem : AH → RV → RV → Option Bool} {x y : V} {H : Hp} {Q : Bool → Hp → Prop} {q : Fe} {H0 : Hp} {g : Gh} {h : AH} {ρ : Env} {σ : L2.St} {a b : RV} {k : Bool} (st : St K q g H h ρ σ) (ra : Res K H0 g H ρ σ a x) (rb : Res K H0 g H ρ σ b y)
    (e : sem h a b = some k) (fin : ∀ g' H', Ext g H g' H' → St K q g' H' h ρ σ → Q k H') : rO K (fun h a b => B (sem h a b)) x y H fun z H' => ∃ k, z = .bl k ∧ Q k H' :=
  ⟨q, H0, g, h, ρ, σ, a, b, .v (.bl k), st, ra, rb, by show B (sem h a b) = _; rw [e]; rfl, fun g' H' v x1 s1 r1 => ⟨k, by cases r1; rfl, fin g' H' x1 s1⟩⟩
theorem truth_B {o : Option Bool} {r : RV} {h : AH} {b : Bool} (e : B o = some r) (t : r.truth h = some b) : o = some b := by
  cases o with
  | none => cases e
  | some c =>
    have e' : RV.v (.bl c) = r := Option.some.inj e
    subst e'
    exact t
/-- a comparison -/
theorem e_cmp {op : CmpOp} {o : CmpO} {a b : Expr} {pos : Pos} {fa fb : FE} (rule : OpR X (compareOp op) (rO X.K fun h a b => B (cmpSem h o a b))) (ha : SE X a fa) (hb : SE X b fb) :
    SE X (.Compare a [op] [b] pos) fun ρ h => (fa ρ h).bind fun x h => (fb ρ h).bind fun y h => .ofOpt (B (cmpSem h o x y)) h :=
  ⟨rfl, PE.weak (pe_cmpR rule ha.e hb.e (plain_marks hb.px)) fun _ _ _ w => two (sem := fun h a b => B (cmpSem h o a b)) w,
    PT.weak (pt_cmpR rule ha.e hb.e (plain_marks hb.px)) fun σ H Q w => by
      obtain ⟨q, g, h, ρ, st, k, h', e, fin⟩ := w
      obtain ⟨r, h1, e1, e⟩ := bind_ok e
      obtain ⟨e2, rfl⟩ := truth_ok e
      obtain ⟨x, h2, e3, e1⟩ := bind_ok e1
      obtain ⟨y, h3, e4, e1⟩ := bind_ok e1
      obtain ⟨e5, rfl⟩ := ofOpt_ok e1
      have e6 := truth_B e5 e2
      exact ⟨q, g, h, ρ, st, x, h2, e3, fun g1 H1 v x1 s1 r1 => ⟨q, g1, h2, ρ, s1, y, _, e4, fun g2 H2 u x2 s2 r2 =>
        b_test (sem := fun h a b => cmpSem h o a b) s2 (r1.ext s1 x2) (r2.start fun a => x1.free) e6 fun g3 H3 x3 s3 => fin g3 H3 ((x1.trans x2).trans x3) s3⟩⟩,
    fun _ _ _ e => nomatch e⟩
/-- is None -/
theorem e_isN {a : Expr} {pos p2 : Pos} {j : Nat} {fa : FE} {n : Bool} (ha : SE X a fa) (cf : CF) (G : Nat → Option PV) :
    SE X (.Compare a [if n then .IsNot else .Is] [.Constant .none j p2] pos) fun ρ h => (fa ρ h).bind fun x h => (evalE cf G (.cst .non) ρ h).bind fun y h => .ofOpt (B (cmpSem h (if n then .notnone else .isnone) x y)) h := by
  have none_ok : ∀ {ρ : Env} {h h' : AH} {y : RV}, evalE cf G (.cst .non) ρ h = .ok y h' → y = .v .non ∧ h' = h := fun e => by
    unfold evalE at e
    cases e
    exact ⟨rfl, rfl⟩
  have key : ∀ {σ : L2.St} {H : Hp} {Q : VK}, tO X.K (fun ρ h => (fa ρ h).bind fun x h => (evalE cf G (.cst .non) ρ h).bind fun y h => .ofOpt (B (cmpSem h (if n then .notnone else .isnone) x y)) h) σ H Q →
      tO X.K fa σ H fun x H1 => tC .non σ H1 fun y H2 => (y = .non ∧ ∃ q H0 g h ρ σ a r, St X.K q g H2 h ρ σ ∧ Res X.K H0 g H2 ρ σ a x ∧ B (if n then (noneSem a).map (!·) else noneSem a) = some r ∧ ∀ g' H' v, Ext g H2 g' H' → St X.K q g' H' h ρ σ → Res X.K H2 g' H' ρ σ r v → Q v H') := fun {σ H Q} w => by
    obtain ⟨q, g, h, ρ, st, r, h', e, k⟩ := w
    obtain ⟨x, h1, e1, e⟩ := bind_ok e
    obtain ⟨y, h2, e2, e⟩ := bind_ok e
    obtain ⟨e3, rfl⟩ := ofOpt_ok e
    obtain ⟨rfl, rfl⟩ := none_ok e2
    refine ⟨q, g, h, ρ, st, x, _, e1, fun g1 H1 v x1 s1 r1 => ⟨rfl, q, H, g1, _, ρ, σ, x, r, s1, r1, ?_, fun g3 H3 z x3 s3 r3 => k g3 H3 z (x1.trans x3) s3 (r3.start fun a => x1.free)⟩⟩
    cases n <;> exact e3
  have keyT : ∀ {σ : L2.St} {H : Hp} {Q : Bool → Hp → Prop}, tOb X.K (truthE fun ρ h => (fa ρ h).bind fun x h => (evalE cf G (.cst .non) ρ h).bind fun y h => .ofOpt (B (cmpSem h (if n then .notnone else .isnone) x y)) h) σ H Q →
      tO X.K fa σ H fun x H1 => tC .non σ H1 fun y H2 => (y = .non ∧ ∃ q H0 g h ρ σ a r, St X.K q g H2 h ρ σ ∧ Res X.K H0 g H2 ρ σ a x ∧ B (if n then (noneSem a).map (!·) else noneSem a) = some r ∧ ∀ g' H' v, Ext g H2 g' H' → St X.K q g' H' h ρ σ → Res X.K H2 g' H' ρ σ r v → ∃ k, v = .bl k ∧ Q k H') := fun {σ H Q} w => by
    obtain ⟨q, g, h, ρ, st, b, h', e, k⟩ := w
    obtain ⟨r, h0, e0, e⟩ := bind_ok e
    obtain ⟨e2', rfl⟩ := truth_ok e
    obtain ⟨x, h1, e1, e0⟩ := bind_ok e0
    obtain ⟨y, h2, e2, e0⟩ := bind_ok e0
    obtain ⟨e3, rfl⟩ := ofOpt_ok e0
    obtain ⟨rfl, rfl⟩ := none_ok e2
    have e6 := truth_B e3 e2'
    have e7 : (if n then (noneSem x).map (!·) else noneSem x) = some b := by cases n <;> exact e6
    refine ⟨q, g, h, ρ, st, x, _, e1, fun g1 H1 v x1 s1 r1 => ⟨rfl, q, H, g1, _, ρ, σ, x, .v (.bl b), s1, r1, by rw [e7]; rfl, fun g3 H3 z x3 s3 r3 => ⟨b, by cases r3; rfl, k g3 H3 (x1.trans x3) s3⟩⟩⟩
  cases n with
  | false => exact ⟨rfl, PE.weak (pe_cmpR o_isN ha.e pe_non (nomark _)) fun _ _ _ w => key w, PT.weak (pt_cmpR o_isN ha.e pe_non (nomark _)) fun _ _ _ w => keyT w, fun _ _ _ e => nomatch e⟩
  | true => exact ⟨rfl, PE.weak (pe_cmpR o_notN ha.e pe_non (nomark _)) fun _ _ _ w => key w, PT.weak (pt_cmpR o_notN ha.e pe_non (nomark _)) fun _ _ _ w => keyT w, fun _ _ _ e => nomatch e⟩
theorem e_bin {o : BinO} {a b : Expr} {pos : Pos} {fa fb : FE} (ha : SE X a fa) (hb : SE X b fb) :
    SE X (.BinOp a (opOf o) b pos) fun ρ h => (fa ρ h).bind fun x h => (fb ρ h).bind fun y h => .ofOpt (binSem h o x y) h :=
  .plain (PE.weak (pe_op (o_bin o) ha.e hb.e) fun _ _ _ w => two (sem := fun h a b => binSem h o a b) w) (fun _ => rfl) fun _ _ _ e => nomatch e
theorem e_ix {a b : Expr} {pos : Pos} {fa fb : FE} (ha : SE X a fa) (hb : SE X b fb) :
    SE X (.Subscript a b pos) fun ρ h => (fa ρ h).bind fun x h => (fb ρ h).bind fun y h => .ofOpt (ixSem h x y) h :=
  .plain (PE.weak (pe_ix o_ix ha.e hb.e (plain_ix hb.px)) fun _ _ _ w => two (sem := fun h a b => ixSem h a b) w) (fun _ => rfl) fun _ _ _ e => nomatch e
/-- not -/
theorem e_not {a : Expr} {pos : Pos} {fa : FE} (ha : SE X a fa) : SE X (.UnaryOp .Not a pos) fun ρ h => (fa ρ h).bind fun x h => .ofOpt (B ((x.truth h).map (!·))) h :=
  ⟨rfl, PE.weak (pe_notT ha.e) fun σ H Q w => by
      obtain ⟨q, g, h, ρ, st, r, h', e, k⟩ := w
      obtain ⟨x, h1, e1, e⟩ := bind_ok e
      obtain ⟨e3, rfl⟩ := ofOpt_ok e
      cases c : x.truth h' with
      | none => rw [c] at e3; cases e3
      | some b =>
        rw [c] at e3
        exact ⟨q, g, h, ρ, st, x, _, e1, fun g1 H1 v x1 s1 r1 => ⟨b, tru_v s1 r1 c, fin_b (b := !b) s1 e3 fun g3 H3 z x3 s3 r3 => k g3 H3 z (x1.trans x3) s3 (r3.start fun a => x1.free)⟩⟩,
    PT.weak (pt_not ha.t) fun σ H Q w => by
      obtain ⟨q, g, h, ρ, st, k, h', e, fin⟩ := w
      obtain ⟨r, h1, e1, e⟩ := bind_ok e
      obtain ⟨e2, rfl⟩ := truth_ok e
      obtain ⟨x, h2, e3, e1⟩ := bind_ok e1
      obtain ⟨e5, rfl⟩ := ofOpt_ok e1
      have e6 := truth_B e5 e2
      cases c : x.truth h' with
      | none => rw [c] at e6; cases e6
      | some b =>
        rw [c] at e6
        have e7 : (!b) = k := Option.some.inj e6
        refine ⟨q, g, h, ρ, st, b, _, ?_, fun g1 H1 x1 s1 => by
          show Q (!b) H1
          rw [e7]
          exact fin g1 H1 x1 s1⟩
        show (fa ρ h).bind _ = _
        rw [e3]
        show (match x.truth _ with | some b => Out.ok b _ | none => .bad) = _
        rw [c],
    fun _ _ _ e => nomatch e⟩

/-! and, or, if .. else -/
def andE (fa fb : FE) : FE := fun ρ h => (fa ρ h).bind fun r h => match r.truth h with
  | some true => fb ρ h
  | some false => .ok r h
  | none => .bad
def orE (fa fb : FE) : FE := fun ρ h => (fa ρ h).bind fun r h => match r.truth h with
  | some true => .ok r h
  | some false => fb ρ h
  | none => .bad
def iteE (fc fa fb : FE) : FE := fun ρ h => (fc ρ h).bind fun r h => match r.truth h with
  | some true => fa ρ h
  | some false => fb ρ h
  | none => .bad
theorem truth_get {β : Type} {r : RV} {h h' : AH} {A B : Out β} {b : β} (e : (match r.truth h with | some true => A | some false => B | none => .bad) = .ok b h') : ∃ c, r.truth h = some c ∧ (if c then A else B) = .ok b h' := by
  cases c : r.truth h with
  | none => rw [c] at e; cases e
  | some d =>
    rw [c] at e
    cases d with
    | true => exact ⟨true, rfl, e⟩
    | false => exact ⟨false, rfl, e⟩
/-- a test's reading from its value's -/
theorem mk_test {K : KF} {f : FE} {σ : L2.St} {H : Hp} {Q : Bool → Hp → Prop} {q : Fe} {g : Gh} {h h' : AH} {ρ : Env} {r : RV} {c : Bool} (st : St K q g H h ρ σ) (e : f ρ h = .ok r h') (c1 : r.truth h' = some c)
    (k : ∀ g' H', Ext g H g' H' → St K q g' H' h' ρ σ → Q c H') : tOb K (truthE f) σ H Q := by
  refine ⟨q, g, h, ρ, st, c, h', ?_, k⟩
  show (f ρ h).bind _ = _
  rw [e]
  show (match r.truth h' with | some b => Out.ok b h' | none => .bad) = _
  rw [c1]
theorem and_use {fa fb : FE} {σ : L2.St} {H : Hp} {Q : VK} (w : tO X.K (andE fa fb) σ H Q) : tO X.K fa σ H fun x H1 => ∃ k, TruV X.K x H1 k ∧ if k = true then tO X.K fb σ H1 Q else Q x H1 := by
  obtain ⟨q, g, h, ρ, st, r, h', e, k⟩ := w
  obtain ⟨x, h1, e1, e⟩ := bind_ok e
  obtain ⟨c, c1, e⟩ := truth_get e
  refine ⟨q, g, h, ρ, st, x, h1, e1, fun g1 H1 v x1 s1 r1 => ⟨c, tru_v s1 r1 c1, ?_⟩⟩
  cases c with
  | true =>
    rw [if_pos rfl]
    exact ⟨q, g1, h1, ρ, s1, r, h', e, fun g2 H2 z x2 s2 r2 => k g2 H2 z (x1.trans x2) s2 (r2.start fun a => x1.free)⟩
  | false =>
    cases e
    rw [if_neg Bool.false_ne_true]
    exact k g1 H1 v x1 s1 r1
theorem or_use {fa fb : FE} {σ : L2.St} {H : Hp} {Q : VK} (w : tO X.K (orE fa fb) σ H Q) : tO X.K fa σ H fun x H1 => ∃ k, TruV X.K x H1 k ∧ if k = true then Q x H1 else tO X.K fb σ H1 Q := by
  obtain ⟨q, g, h, ρ, st, r, h', e, k⟩ := w
  obtain ⟨x, h1, e1, e⟩ := bind_ok e
  obtain ⟨c, c1, e⟩ := truth_get e
  refine ⟨q, g, h, ρ, st, x, h1, e1, fun g1 H1 v x1 s1 r1 => ⟨c, tru_v s1 r1 c1, ?_⟩⟩
  cases c with
  | true =>
    cases e
    rw [if_pos rfl]
    exact k g1 H1 v x1 s1 r1
  | false =>
    rw [if_neg Bool.false_ne_true]
    exact ⟨q, g1, h1, ρ, s1, r, h', e, fun g2 H2 z x2 s2 r2 => k g2 H2 z (x1.trans x2) s2 (r2.start fun a => x1.free)⟩
theorem and_test {fa fb : FE} {σ : L2.St} {H : Hp} {Q : Bool → Hp → Prop} (w : tOb X.K (truthE (andE fa fb)) σ H Q) : tOb X.K (truthE fa) σ H fun c H1 => if c = true then tOb X.K (truthE fb) σ H1 Q else Q false H1 := by
  obtain ⟨q, g, h, ρ, st, b, h', e, k⟩ := w
  obtain ⟨r, h0, e0, e⟩ := bind_ok e
  obtain ⟨t2, rfl⟩ := truth_ok e
  obtain ⟨x, h1, e1, e0⟩ := bind_ok e0
  obtain ⟨c, c1, e0⟩ := truth_get e0
  refine mk_test st e1 c1 fun g1 H1 x1 s1 => ?_
  cases c with
  | true =>
    rw [if_pos rfl]
    exact mk_test s1 e0 t2 fun g2 H2 x2 s2 => k g2 H2 (x1.trans x2) s2
  | false =>
    cases e0
    rw [c1] at t2
    cases t2
    rw [if_neg Bool.false_ne_true]
    exact k g1 H1 x1 s1
theorem or_test {fa fb : FE} {σ : L2.St} {H : Hp} {Q : Bool → Hp → Prop} (w : tOb X.K (truthE (orE fa fb)) σ H Q) : tOb X.K (truthE fa) σ H fun c H1 => if c = true then Q true H1 else tOb X.K (truthE fb) σ H1 Q := by
  obtain ⟨q, g, h, ρ, st, b, h', e, k⟩ := w
  obtain ⟨r, h0, e0, e⟩ := bind_ok e
  obtain ⟨t2, rfl⟩ := truth_ok e
  obtain ⟨x, h1, e1, e0⟩ := bind_ok e0
  obtain ⟨c, c1, e0⟩ := truth_get e0
  refine mk_test st e1 c1 fun g1 H1 x1 s1 => ?_
  cases c with
  | false =>
    rw [if_neg Bool.false_ne_true]
    exact mk_test s1 e0 t2 fun g2 H2 x2 s2 => k g2 H2 (x1.trans x2) s2
  | true =>
    cases e0
    rw [c1] at t2
    cases t2
    rw [if_pos rfl]
    exact k g1 H1 x1 s1
theorem SE.boolOne {a : Expr} {fa : FE} {op : BoolOp} {pos : Pos} (ha : SE X a fa) : SE X (.BoolOp op [a] pos) fa :=
  ⟨rfl, pe_one ha.e, (match op with | .And => (pw_and1 ha.t).pt | .Or => (pw_or1 ha.t).pt), fun op' es' pos' e => by
    cases e
    cases op with
    | And => exact pw_and1 ha.t
    | Or => exact pw_or1 ha.t⟩
theorem e_and {a b : Expr} {rest : List Expr} {pos : Pos} {fa fb : FE} (ha : SE X a fa) (hb : SE X (.BoolOp .And (b :: rest) pos) fb) : SE X (.BoolOp .And (a :: b :: rest) pos) (andE fa fb) :=
  have hw : PW X (.BoolOp .And (a :: b :: rest) pos) (tOb X.K (truthE (andE fa fb))) := PW.weak (pw_and ha.t (hb.w _ _ _ rfl)) fun _ _ _ w => and_test w
  ⟨rfl, PE.weak (pe_andT ha.e hb.e) fun _ _ _ w => and_use w, hw.pt, fun op es pos e => by cases e; exact hw⟩
theorem e_or {a b : Expr} {rest : List Expr} {pos : Pos} {fa fb : FE} (ha : SE X a fa) (hb : SE X (.BoolOp .Or (b :: rest) pos) fb) : SE X (.BoolOp .Or (a :: b :: rest) pos) (orE fa fb) :=
  have hw : PW X (.BoolOp .Or (a :: b :: rest) pos) (tOb X.K (truthE (orE fa fb))) := PW.weak (pw_or ha.t (hb.w _ _ _ rfl)) fun _ _ _ w => or_test w
  ⟨rfl, PE.weak (pe_orT ha.e hb.e) fun _ _ _ w => or_use w, hw.pt, fun op es pos e => by cases e; exact hw⟩
theorem pt_ifE {c a b : Expr} {pos : Pos} {tc ta tb : TT} (hc : PT X c tc) (ha : PT X a ta) (hb : PT X b tb) : PT X (.IfExp c a b pos) (fun σ H Q => tc σ H fun k H1 => if k = true then ta σ H1 Q else tb σ H1 Q) := by
  refine ⟨fun pins s σ H Q I h => ?_⟩
  have e : isTrue (.IfExp c a b pos) X.env (eval (.IfExp c a b pos) X.env) = (do if ← isTrue c X.env (eval c X.env) then isTrue a X.env (eval a X.env) else isTrue b X.env (eval b X.env)) := by
    first | rfl | (unfold isTrue; rfl)
  rw [e]
  refine wpAny_bind (thn (hc.run pins s σ H _ I h) fun k s1 ⟨H1, I1, q1⟩ => ?_)
  cases k with
  | true => exact ha.run pins s1 σ H1 Q I1 q1
  | false => exact hb.run pins s1 σ H1 Q I1 q1
theorem ite_use {fc fa fb : FE} {σ : L2.St} {H : Hp} {Q : VK} (w : tO X.K (iteE fc fa fb) σ H Q) : tOb X.K (truthE fc) σ H fun k H1 => if k = true then tO X.K fa σ H1 Q else tO X.K fb σ H1 Q := by
  obtain ⟨q, g, h, ρ, st, r, h', e, k⟩ := w
  obtain ⟨x, h1, e1, e⟩ := bind_ok e
  obtain ⟨c, c1, e⟩ := truth_get e
  refine mk_test st e1 c1 fun g1 H1 x1 s1 => ?_
  have fin : ∀ {f : FE}, f ρ h1 = .ok r h' → tO X.K f σ H1 Q := fun e => ⟨q, g1, h1, ρ, s1, r, h', e, fun g2 H2 z x2 s2 r2 => k g2 H2 z (x1.trans x2) s2 (r2.start fun a => x1.free)⟩
  cases c with
  | true => rw [if_pos rfl]; exact fin e
  | false => rw [if_neg Bool.false_ne_true]; exact fin e
theorem ite_test {fc fa fb : FE} {σ : L2.St} {H : Hp} {Q : Bool → Hp → Prop} (w : tOb X.K (truthE (iteE fc fa fb)) σ H Q) : tOb X.K (truthE fc) σ H fun k H1 => if k = true then tOb X.K (truthE fa) σ H1 Q else tOb X.K (truthE fb) σ H1 Q := by
  obtain ⟨q, g, h, ρ, st, b, h', e, k⟩ := w
  obtain ⟨r, h0, e0, e⟩ := bind_ok e
  obtain ⟨t2, rfl⟩ := truth_ok e
  obtain ⟨x, h1, e1, e0⟩ := bind_ok e0
  obtain ⟨c, c1, e0⟩ := truth_get e0
  refine mk_test st e1 c1 fun g1 H1 x1 s1 => ?_
  cases c with
  | true => rw [if_pos rfl]; exact mk_test s1 e0 t2 fun g2 H2 x2 s2 => k g2 H2 (x1.trans x2) s2
  | false => rw [if_neg Bool.false_ne_true]; exact mk_test s1 e0 t2 fun g2 H2 x2 s2 => k g2 H2 (x1.trans x2) s2
theorem e_ite {c a b : Expr} {pos : Pos} {fc fa fb : FE} (hc : SE X c fc) (ha : SE X a fa) (hb : SE X b fb) : SE X (.IfExp c a b pos) (iteE fc fa fb) :=
  ⟨rfl, PE.weak (pe_ifExp hc.t ha.e hb.e) fun _ _ _ w => ite_use w, PT.weak (pt_ifE hc.t ha.t hb.t) fun _ _ _ w => ite_test w, fun _ _ _ e => nomatch e⟩
/-- a < b < c -/
def chainE (o1 o2 : CmpO) (fa fb fc : FE) : FE := fun ρ h => (fa ρ h).bind fun x h => (fb ρ h).bind fun y h => match cmpSem h o1 x y with
  | some true => (fc ρ h).bind fun z h => .ofOpt (B (cmpSem h o2 y z)) h
  | some false => .ok (.v (.bl false)) h
  | none => .bad
theorem cmp_get {β : Type} {o : Option Bool} {h' : AH} {A B : Out β} {b : β} (e : (match o with | some true => A | some false => B | none => .bad) = .ok b h') : ∃ c, o = some c ∧ (if c then A else B) = .ok b h' := by
  cases o with
  | none => cases e
  | some d =>
    cases d with
    | true => exact ⟨true, rfl, e⟩
    | false => exact ⟨false, rfl, e⟩
theorem chain_use {K : KF} {o1 o2 : CmpO} {fa fb fc : FE} {σ : L2.St} {H : Hp} {Q : VK} (w : tO K (chainE o1 o2 fa fb fc) σ H Q) :
    tChain (rO K fun h a b => B (cmpSem h o1 a b)) (rO K fun h a b => B (cmpSem h o2 a b)) (tO K fa) (tO K fb) (tO K fc) σ H Q := by
  obtain ⟨q, g, h, ρ, st, r, h', e, k⟩ := w
  obtain ⟨x, h1, e1, e⟩ := bind_ok e
  obtain ⟨y, h2, e2, e⟩ := bind_ok e
  obtain ⟨c, c1, e⟩ := cmp_get e
  refine ⟨q, g, h, ρ, st, x, h1, e1, fun g1 H1 v x1 s1 r1 => ⟨q, g1, h1, ρ, s1, y, h2, e2, fun g2 H2 u x2 s2 r2 => ?_⟩⟩
  refine b_test (sem := fun h a b => cmpSem h o1 a b) s2 (r1.ext s1 x2) (r2.start fun a => x1.free) c1 fun g3 H3 x3 s3 => ?_
  cases c with
  | false =>
    cases e
    rw [if_neg Bool.false_ne_true]
    exact k g3 H3 _ ((x1.trans x2).trans x3) s3 (.bl false)
  | true =>
    rw [if_pos rfl]
    obtain ⟨z, h4, e4, e⟩ := bind_ok (show (fc ρ h2).bind (fun z h => .ofOpt (B (cmpSem h o2 y z)) h) = .ok r h' from e)
    obtain ⟨e5, rfl⟩ := ofOpt_ok e
    refine ⟨q, g3, h2, ρ, s3, z, _, e4, fun g4 H4 w x4 s4 r4 => ?_⟩
    exact ⟨q, H1, g4, _, ρ, σ, y, z, r, s4, (r2.ext s2 x3).ext s3 x4, r4.start fun a z => x2.free (x3.free z), e5, fun g5 H5 t x5 s5 r5 => k g5 H5 t (((x1.trans x2).trans x3).trans (x4.trans x5)) s5 (r5.start fun a => (((x1.trans x2).trans x3).trans x4).free)⟩
theorem e_chain {p1 p2 : CmpOp} {o1 o2 : CmpO} {a b c : Expr} {pos : Pos} {fa fb fc : FE} (r1 : OpR X (compareOp p1) (rO X.K fun h a b => B (cmpSem h o1 a b))) (r2 : OpR X (compareOp p2) (rO X.K fun h a b => B (cmpSem h o2 a b)))
    (ha : SE X a fa) (hb : SE X b fb) (hc : SE X c fc) : SE X (.Compare a [p1, p2] [b, c] pos) (chainE o1 o2 fa fb fc) :=
  ⟨rfl, PE.weak (pe_chain r1 r2 ha.e hb.e hc.e (plain_marks hc.px)) fun _ _ _ w => chain_use w,
    PT.weak (pt_chain r1 r2 ha.e hb.e hc.e (plain_marks hc.px)) fun σ H Q w => by
      obtain ⟨q, g, h, ρ, st, b, h', e, k⟩ := w
      obtain ⟨r, h0, e0, e⟩ := bind_ok e
      obtain ⟨t2, rfl⟩ := truth_ok e
      refine chain_use ⟨q, g, h, ρ, st, r, _, e0, fun g' H' v x1 s1 r1 => ⟨b, ?_, k g' H' x1 s1⟩⟩
      have hr : ∃ c, r = .v (.bl c) := by
        obtain ⟨x, h1, e1, e0⟩ := bind_ok e0
        obtain ⟨y, h2, e2, e0⟩ := bind_ok e0
        obtain ⟨c, c1, e0⟩ := cmp_get e0
        cases c with
        | false => cases e0; exact ⟨false, rfl⟩
        | true =>
          obtain ⟨z, h4, e4, e5⟩ := bind_ok (show (fc ρ h2).bind (fun z h => .ofOpt (B (cmpSem h o2 y z)) h) = .ok r _ from e0)
          obtain ⟨e6, _⟩ := ofOpt_ok e5
          cases d : cmpSem _ o2 y z with
          | none => rw [d] at e6; cases e6
          | some t =>
            rw [d] at e6
            exact ⟨t, (Option.some.inj e6).symm⟩
      obtain ⟨c, rfl⟩ := hr
      have t3 : some c = some b := t2
      cases t3
      cases r1
      rfl,
    fun _ _ _ e => nomatch e⟩
end
end WT
end
section
set_option Elab.async false
set_option linter.all false
set_option maxRecDepth 100000
set_option maxHeartbeats 4000000
/-! Argument lists, displays, constants, slices, built-in calls. -/
namespace WT
open PySem PySem.Spec PyProof.Rows L2
def nilF : FEs := fun _ h => .ok [] h
def consF (fe : FE) (fs : FEs) : FEs := fun ρ h => (fe ρ h).bind fun r h => (fs ρ h).bind fun rs h => .ok (r :: rs) h
theorem Out.bind_bind {α β γ : Type} (o : Out α) (f : α → AH → Out β) (k : β → AH → Out γ) : (o.bind f).bind k = o.bind fun a h => (f a h).bind k := by cases o <;> rfl
theorem tO.mono {K : KF} {f : FE} {σ : L2.St} {H : Hp} {Q Q' : VK} (w : tO K f σ H Q) (k : ∀ v H, Q v H → Q' v H) : tO K f σ H Q' := by
  obtain ⟨q, g, h, ρ, st, r, h', e, fin⟩ := w
  exact ⟨q, g, h, ρ, st, r, h', e, fun g' H' v x1 s1 r1 => k _ _ (fin g' H' v x1 s1 r1)⟩
theorem tOs.mono {K : KF} {f : FEs} {σ : L2.St} {H : Hp} {Q Q' : List V → Hp → Prop} (w : tOs K f σ H Q) (k : ∀ v H, Q v H → Q' v H) : tOs K f σ H Q' := by
  obtain ⟨q, g, h, ρ, st, r, h', e, fin⟩ := w
  exact ⟨q, g, h, ρ, st, r, h', e, fun g' H' v x1 s1 r1 d1 => k _ _ (fin g' H' v x1 s1 r1 d1)⟩
theorem Ress.get {K : KF} {H0 : Hp} {g : Gh} {H : Hp} {ρ : Env} {σ : L2.St} {rs : List RV} {vs : List V} (x : Ress K H0 g H ρ σ rs vs) : ∀ {j : Nat} {r : RV} {v : V}, rs[j]? = some r → vs[j]? = some v → Res K H0 g H ρ σ r v := by
  induction x with
  | nil => intro j r v h; simp at h
  | cons a _ ih =>
    intro j r v h1 h2
    cases j with
    | zero => simp at h1 h2; subst h1; subst h2; exact a
    | succ j => exact ih (by simpa using h1) (by simpa using h2)
theorem cons_use {K : KF} {fe : FE} {fs : FEs} {σ : L2.St} {H : Hp} {Q : List V → Hp → Prop} (w : tOs K (consF fe fs) σ H Q) : tCons (tO K fe) (tOs K fs) σ H Q := by
  obtain ⟨q, g, h, ρ, st, rs, h', e, k⟩ := w
  obtain ⟨x, h1, e1, e⟩ := bind_ok e
  obtain ⟨ys, h2, e2, e⟩ := bind_ok e
  cases e
  exact ⟨q, g, h, ρ, st, x, h1, e1, fun g1 H1 v x1 s1 r1 => ⟨q, g1, h1, ρ, s1, ys, _, e2, fun g2 H2 vs x2 s2 r2 d2 => k g2 H2 (v :: vs) (x1.trans x2) s2 (.cons (r1.ext s1 x2) (r2.start fun a => x1.free)) (.cons (fun xs er j zs u h3 h4 => by
    subst er
    obtain ⟨a, rfl, ⟨ws, h5, _⟩, _⟩ := r1
    obtain ⟨b, rfl, _, _, _, h6⟩ := r2.get h3 h4
    intro c
    cases c
    rw [h5] at h6
    cases h6) d2)⟩⟩
theorem nil_use {K : KF} {σ : L2.St} {H : Hp} {Q : List V → Hp → Prop} (w : tOs K nilF σ H Q) : tNil σ H Q := by
  obtain ⟨q, g, h, ρ, st, rs, h', e, k⟩ := w
  cases e
  exact k g H [] (Ext.refl g H) st .nil .nil
/-- written arguments -/
structure SA (X : Cx) (es : List Expr) (f : FEs) : Prop where
  p : PA X es (tOs X.K f)
  fl : ∀ pos, (backTo pos (starEach es X.env)).any (·.1) = false
  len : ∀ ρ h rs h', f ρ h = .ok rs h' → rs.length = es.length
theorem SA.nil {X : Cx} : SA X [] nilF := ⟨PA.weak pa_nil fun _ _ _ w => nil_use w, fun _ => rfl, fun _ _ _ _ e => by cases e; rfl⟩
theorem SA.cons {X : Cx} {e : Expr} {es : List Expr} {fe : FE} {fs : FEs} (he : SE X e fe) (hs : SA X es fs) : SA X (e :: es) (consF fe fs) :=
  ⟨PA.weak (pa_cons he.e hs.p (plain_star he.px)) fun _ _ _ w => cons_use w, fun pos => by rw [plain_star he.px]; exact hs.fl pos, fun ρ h rs h' e => by
    obtain ⟨x, h1, e1, e⟩ := bind_ok e
    obtain ⟨ys, h2, e2, e⟩ := bind_ok e
    cases e
    rw [List.length_cons, List.length_cons, hs.len _ _ _ _ e2]⟩
theorem Ress.length {K : KF} {H0 : Hp} {g : Gh} {H : Hp} {ρ : Env} {σ : L2.St} {rs : List RV} {vs : List V} (x : Ress K H0 g H ρ σ rs vs) : vs.length = rs.length := by
  induction x with
  | nil => rfl
  | cons _ _ ih => rw [List.length_cons, List.length_cons, ih]
section
variable {X : Cx}
theorem fin_c {K : KF} {x : PV} {v : V} {σ : L2.St} {H : Hp} {Q : VK} (hr : ∀ g H, Rep K g H x v) (w : tO K (fun _ h => .ok (.v x) h) σ H Q) : tC v σ H Q := by
  obtain ⟨q, g, h, ρ, st, r, h', e, k⟩ := w
  cases e
  exact k g H v (Ext.refl g H) st (hr g H)
theorem e_int {i : Int} {j : Nat} {pos : Pos} : SE X (.Constant (.int i) j pos) (fun _ h => .ok (.v (.int i)) h) := .plain (PE.weak pe_int fun _ _ _ w => fin_c (fun _ _ => .int i) w) (fun _ => rfl) fun _ _ _ e => nomatch e
theorem e_bl {b : Bool} {j : Nat} {pos : Pos} : SE X (.Constant (.bool b) j pos) (fun _ h => .ok (.v (.bl b)) h) := .plain (PE.weak pe_bl fun _ _ _ w => fin_c (fun _ _ => .bl b) w) (fun _ => rfl) fun _ _ _ e => nomatch e
theorem e_non {j : Nat} {pos : Pos} : SE X (.Constant .none j pos) (fun _ h => .ok (.v .non) h) := .plain (PE.weak pe_non fun _ _ _ w => fin_c (fun _ _ => .non) w) (fun _ => rfl) fun _ _ _ e => nomatch e
theorem e_str {x : Str} {j : Nat} {pos : Pos} : SE X (.Constant (.str x) j pos) (fun _ h => .ok (.v (.str x)) h) := .plain (PE.weak pe_str fun _ _ _ w => fin_c (fun _ _ => .str x) w) (fun _ => rfl) fun _ _ _ e => nomatch e
theorem e_neg {a : Expr} {pos : Pos} {fa : FE} (ha : SE X a fa) : SE X (.UnaryOp .USub a pos) fun ρ h => (fa ρ h).bind fun x h => .ofOpt (opSem h .neg [x]) h :=
  .plain (PE.weak (pe_un un_neg ha.e) fun σ H Q w => (one (sem := fun h x => opSem h .neg [x]) w).mono fun v H w => by
    obtain ⟨q, H0, g, h, ρ, σ', a, r, st, ra, e, k⟩ := w
    cases a with
    | v y =>
      cases y with
      | int i => cases ra; exact ⟨i, rfl, fin_i st e k⟩
      | _ => cases e
    | _ => cases e) (fun _ => rfl) fun _ _ _ e => nomatch e
/-! displays -/
theorem e_tup {es : List Expr} {k : Nat} {pos : Pos} {fs : FEs} (hs : SA X es fs) (hz : es.length ≤ sizeLine) : SE X (.Tuple es k pos) fun ρ h => (fs ρ h).bind fun rs h => .ofOpt (opSem h .tup rs) h :=
  .plain (PE.weak (pe_tup hs.p) fun σ H Q w => by
    obtain ⟨q, g, h, ρ, st, r, h', e, fin⟩ := w
    obtain ⟨rs, h1, e1, e⟩ := bind_ok e
    obtain ⟨e3, rfl⟩ := ofOpt_ok e
    refine ⟨q, g, h, ρ, st, rs, _, e1, fun g1 H1 vs x1 s1 r1 _ => ?_⟩
    have e4 : (toPVs rs).map (fun xs => RV.v (.tup xs)) = some r := e3
    cases c : toPVs rs with
    | none => rw [c] at e4; cases e4
    | some xs =>
      rw [c] at e4
      cases e4
      obtain ⟨g2, x2, s2, m2, _, rr⟩ := share st (r1.fz c) s1 x1
      refine ⟨?_, fun p hp => ?_⟩
      · rw [r1.length, hs.len _ _ _ _ e1]; exact hz
      · exact fin _ _ _ (x2.trans (Ext.newF hp)) (s2.to (Ext.newF hp) (s2.hs.newF hp)) (rep_newT s2.hs hp rr)) (fun _ => rfl) fun _ _ _ e => nomatch e
theorem e_lst {es : List Expr} {pos : Pos} {fs : FEs} (hs : SA X es fs) (hz : es.length ≤ sizeLine) : SE X (.List es pos) fun ρ h => (fs ρ h).bind fun rs h => .ofOpt (opSem h .lst rs) h :=
  .plain (PE.weak (pe_lst hs.p) fun σ H Q w => by
    obtain ⟨q, g, h, ρ, st, r, h', e, fin⟩ := w
    obtain ⟨rs, h1, e1, e⟩ := bind_ok e
    obtain ⟨e3, rfl⟩ := ofOpt_ok e
    refine ⟨q, g, h, ρ, st, rs, _, e1, fun g1 H1 vs x1 s1 r1 _ => ?_⟩
    have e4 : (toPVs rs).map (fun xs => RV.L false xs) = some r := e3
    cases c : toPVs rs with
    | none => rw [c] at e4; cases e4
    | some xs =>
      rw [c] at e4
      cases e4
      obtain ⟨g2, x2, s2, m2, _, rr⟩ := share st (r1.fz c) s1 x1
      refine ⟨?_, fun p hp => ?_⟩
      · rw [r1.length, hs.len _ _ _ _ e1]; exact hz
      · exact fin _ _ _ (x2.trans (Ext.new hp)) (s2.to (Ext.new hp) (s2.hs.new hp)) ((res_new s2.hs hp rr).start fun a => x2.free)) (fun _ => rfl) fun _ _ _ e => nomatch e
/-! built-in functions -/
section
variable {id T : String} {x : Str} {p pos : Pos} {a b : Expr} {fa fb : FE}
theorem e_call1 {sem : AH → RV → Option RV} (hc : CallR X (.builtin id) (rC1 X.K sem)) (hg : Gl X x) (hm : X.mg x = none) (hv : bootBuiltins x = some (.builtin id)) (hn : x ≠ "__name__") (hdb : (x == ("__debug__" : Str)) = false) (ha : SE X a fa) :
    SE X (.Call (.Name x p) [a] [] pos) fun ρ h => (fa ρ h).bind fun x h => .ofOpt (sem h x) h :=
  .plain (PE.weak (pe_callB hc hg hm hv (pa_cons ha.e pa_nil (plain_star ha.px)) hn hdb (plain_star ha.px) rfl) fun _ _ _ w => (one w).mono fun v H w => ⟨v, rfl, w⟩) (fun _ => rfl) fun _ _ _ e => nomatch e
theorem e_callT1 {sem : AH → RV → Option RV} (hc : CallR X (.type T) (rC1 X.K sem)) (hg : Gl X x) (hm : X.mg x = none) (hv : bootBuiltins x = some (.type T)) (hn : x ≠ "__name__") (hdb : (x == ("__debug__" : Str)) = false) (ha : SE X a fa) :
    SE X (.Call (.Name x p) [a] [] pos) fun ρ h => (fa ρ h).bind fun x h => .ofOpt (sem h x) h :=
  .plain (PE.weak (pe_callTy hc hg hm hv (pa_cons ha.e pa_nil (plain_star ha.px)) hn hdb (plain_star ha.px) rfl) fun _ _ _ w => (one w).mono fun v H w => ⟨v, rfl, w⟩) (fun _ => rfl) fun _ _ _ e => nomatch e
theorem e_call2 {sem : AH → RV → RV → Option RV} (hc : CallR X (.builtin id) (rC2 X.K sem)) (hg : Gl X x) (hm : X.mg x = none) (hv : bootBuiltins x = some (.builtin id)) (hn : x ≠ "__name__") (hdb : (x == ("__debug__" : Str)) = false) (ha : SE X a fa) (hb : SE X b fb) :
    SE X (.Call (.Name x p) [a, b] [] pos) fun ρ h => (fa ρ h).bind fun x h => (fb ρ h).bind fun y h => .ofOpt (sem h x y) h :=
  .plain (PE.weak (pe_callB hc hg hm hv (pa_cons ha.e (pa_cons hb.e pa_nil (plain_star hb.px)) (plain_star ha.px)) hn hdb (plain_star ha.px) (by rw [plain_star hb.px]; rfl)) fun _ _ _ w => (two w).mono fun v H w => w.mono fun u H w => ⟨v, u, rfl, w⟩) (fun _ => rfl) fun _ _ _ e => nomatch e
end
/-! slices -/
section
variable {a lo hi : Expr} {pos p2 : Pos} {fa fl fh : FE}
def slE (l h : Bool) (xs : List RV) : AH → Option RV := fun H => opSem H (.sl l h) xs
theorem rS_of {K : KF} {o : Op} {xs : List RV} {a : RV} {lo hi : Option Int} {x : V} {H0 H : Hp} {g : Gh} {h : AH} {ρ : Env} {σ : L2.St} {Q : VK} {q : Fe} {r : RV} (st : St K q g H h ρ σ) (ra : Res K H0 g H ρ σ a x) (e : slSem h a lo hi = some r)
    (k : ∀ g' H' v, Ext g H g' H' → St K q g' H' h ρ σ → Res K H g' H' ρ σ r v → Q v H') : rS K x lo hi H Q := ⟨q, H0, g, h, ρ, σ, a, r, st, ra, e, k⟩
theorem e_sl00 (ha : SE X a fa) : SE X (.Subscript a (.Slice none none none p2) pos) fun ρ h => (fa ρ h).bind fun x h => .ofOpt (opSem h (.sl false false) [x]) h :=
  .plain (PE.weak (pe_slice o_sl ha.e po_none po_none) fun _ _ _ w => (one (sem := fun h x => opSem h (.sl false false) [x]) w).mono fun v H ⟨q, H0, g, h, ρ, σ, a, r, st, ra, e, k⟩ => ⟨q, H0, g, h, ρ, σ, a, r, st, ra, e, k⟩) (fun _ => rfl) fun _ _ _ e => nomatch e
theorem e_sl10 (ha : SE X a fa) (hl : SE X lo fl) : SE X (.Subscript a (.Slice (some lo) none none p2) pos) fun ρ h => (fa ρ h).bind fun x h => (fl ρ h).bind fun y h => .ofOpt (opSem h (.sl true false) [x, y]) h :=
  .plain (PE.weak (pe_slice o_sl ha.e (po_some hl.e) po_none) fun _ _ _ w => (two (sem := fun h x y => opSem h (.sl true false) [x, y]) w).mono fun v H w => w.mono fun u H ⟨q, H0, g, h, ρ, σ, a, b, r, st, ra, rb, e, k⟩ => by
    cases b with
    | v y =>
      cases y with
      | int i => cases rb; exact ⟨i, rfl, q, H0, g, h, ρ, σ, a, r, st, ra, e, k⟩
      | _ => cases e
    | _ => cases e) (fun _ => rfl) fun _ _ _ e => nomatch e
theorem e_sl01 (ha : SE X a fa) (hl : SE X hi fh) : SE X (.Subscript a (.Slice none (some hi) none p2) pos) fun ρ h => (fa ρ h).bind fun x h => (fh ρ h).bind fun y h => .ofOpt (opSem h (.sl false true) [x, y]) h :=
  .plain (PE.weak (pe_slice o_sl ha.e po_none (po_some hl.e)) fun _ _ _ w => (two (sem := fun h x y => opSem h (.sl false true) [x, y]) w).mono fun v H w => w.mono fun u H ⟨q, H0, g, h, ρ, σ, a, b, r, st, ra, rb, e, k⟩ => by
    cases b with
    | v y =>
      cases y with
      | int i => cases rb; exact ⟨i, rfl, q, H0, g, h, ρ, σ, a, r, st, ra, e, k⟩
      | _ => cases e
    | _ => cases e) (fun _ => rfl) fun _ _ _ e => nomatch e
theorem e_sl11 (ha : SE X a fa) (hl : SE X lo fl) (hh : SE X hi fh) : SE X (.Subscript a (.Slice (some lo) (some hi) none p2) pos) fun ρ h => (fa ρ h).bind fun x h => (fl ρ h).bind fun y h => (fh ρ h).bind fun z h => .ofOpt (opSem h (.sl true true) [x, y, z]) h :=
  .plain (PE.weak (pe_slice o_sl ha.e (po_some hl.e) (po_some hh.e)) fun σ H Q w => by
    obtain ⟨q, g, h, ρ, st, r, h', e, k⟩ := w
    obtain ⟨x, h1, e1, e⟩ := bind_ok e
    obtain ⟨y, h2, e2, e⟩ := bind_ok e
    obtain ⟨z, h3, e3, e⟩ := bind_ok e
    obtain ⟨e5, rfl⟩ := ofOpt_ok e
    have hy : ∃ i, y = .v (.int i) := by
      cases y with
      | v y =>
        cases y with
        | int i => exact ⟨i, rfl⟩
        | _ => cases e5
      | _ => cases e5
    obtain ⟨i, rfl⟩ := hy
    have hz : ∃ i, z = .v (.int i) := by
      cases z with
      | v y =>
        cases y with
        | int i => exact ⟨i, rfl⟩
        | _ => cases e5
      | _ => cases e5
    obtain ⟨j, rfl⟩ := hz
    refine ⟨q, g, h, ρ, st, x, h1, e1, fun g1 H1 v x1 s1 r1 => ⟨q, g1, h1, ρ, s1, .v (.int i), h2, e2, fun g2 H2 u x2 s2 r2 => ?_⟩⟩
    cases r2
    refine ⟨i, rfl, q, g2, h2, ρ, s2, .v (.int j), _, e3, fun g3 H3 t x3 s3 r3 => ?_⟩
    cases r3
    exact ⟨j, rfl, q, H, g3, _, ρ, σ, x, r, s3, (r1.ext s1 x2).ext s2 x3, e5, fun g4 H4 w x4 s4 r4 => k g4 H4 w (((x1.trans x2).trans x3).trans x4) s4 (r4.start fun a => ((x1.trans x2).trans x3).free)⟩) (fun _ => rfl) fun _ _ _ e => nomatch e
end
end
end WT
end
section
set_option Elab.async false
set_option linter.all false
set_option maxRecDepth 100000
set_option maxHeartbeats 4000000
/-! x[::-1], x a list or a tuple. -/
namespace WT
open PySem PySem.Spec PyProof.Rows L2 HT
section
variable {prog : Program} {w : World} {A : Around} {E : Value → Shared → Prop} {s : Shared}
theorem sliceApplied_rev {sl : Addr} {vl vu vs : Value} {n : Nat} {Q : Int × Int × Nat → Shared → Prop} (hs : s.heap.IsSliceOf sl vl vu vs) (pl : IsPart vl none) (pu : IsPart vu none) (ps : IsPart vs (some (-1)))
    (h : Q (((n : Int) - 1), -1, n) s) : wpAny (model prog w) A (Builtin.Slice.sliceApplied (.ref sl) (pure (n : Int))) Q E s := by
  obtain ⟨os, hos, hcs, hds⟩ := id hs
  unfold Builtin.Slice.sliceApplied Builtin.Slice.sliceFields
  refine wpAny_bind (wpAny_bind (wpAny_field hos hds (x := vl) rfl (wpAny_bind (wpAny_field hos hds (x := vu) rfl (wpAny_bind (wpAny_field hos hds (x := vs) rfl (wpAny_pure ?_)))))))
  refine wpAny_bind (slicePart_ ps ?_)
  show wpAny _ _ (if ((-1 : Int) == 0) = true then _ else _) _ _ s
  rw [if_neg (by decide)]
  refine wpAny_bind (slicePart_ pl (wpAny_bind (slicePart_ pu (wpAny_bind (wpAny_pure ?_)))))
  show wpAny _ _ (match Builtin.Slice.sliceAdjust none none (-1) (n : Int) with | (lo, hi) => pure (lo, (-1 : Int), Builtin.Slice.slicePlaces lo hi (-1))) _ _ s
  have e1 : Builtin.Slice.sliceAdjust none none (-1) (n : Int) = ((n : Int) - 1, -1) := by
    unfold Builtin.Slice.sliceAdjust
    simp
  rw [e1]
  show wpAny _ _ (pure ((n : Int) - 1, (-1 : Int), Builtin.Slice.slicePlaces ((n : Int) - 1) (-1) (-1))) _ _ s
  have e2 : Builtin.Slice.slicePlaces ((n : Int) - 1) (-1) (-1) = n := by
    unfold Builtin.Slice.slicePlaces
    simp only [show ¬ ((-1 : Int) > 0) by omega, if_false]
    split <;> simp <;> omega
  rw [e2]
  exact wpAny_pure h
theorem fm_congr {α β : Type} {f g : α → Option β} : ∀ {l : List α}, (∀ x ∈ l, f x = g x) → l.filterMap f = l.filterMap g
  | [], _ => rfl
  | x :: r, h => by
    rw [List.filterMap_cons, List.filterMap_cons, h x List.mem_cons_self, fm_congr fun y hy => h y (List.mem_cons_of_mem _ hy)]
theorem pick_rev : ∀ (xs : List Value), (List.range xs.length).filterMap (fun (m : Nat) => xs[(((xs.length : Int) - 1) + (m : Int) * (-1)).toNat]?) = xs.reverse := by
  intro xs
  have e : ∀ m ∈ List.range xs.length, xs[(((xs.length : Int) - 1) + (m : Int) * (-1)).toNat]? = xs.reverse[m]? := fun m hm => by
    have hm : m < xs.length := List.mem_range.mp hm
    rw [List.getElem?_reverse hm]
    congr 1
    omega
  rw [fm_congr e]
  have := List.length_reverse (as := xs)
  rw [← this]
  generalize xs.reverse = ys
  clear this e
  induction ys with
  | nil => rfl
  | cons y ys ih =>
    rw [List.length_cons, List.range_succ_eq_map, List.filterMap_cons]
    simp only [List.getElem?_cons_zero, List.filterMap_map]
    congr 1
theorem getItem_tuple_rev {t sl : Addr} {items : List Value} {vl vu vs : Value} {Q : Value → Shared → Prop} (ht : IsTup s.heap t items.toArray) (hs : s.heap.IsSliceOf sl vl vu vs) (pl : IsPart vl none) (pu : IsPart vu none) (ps : IsPart vs (some (-1)))
    (h : Q (.ref s.heap.objs.size) { s with heap := s.heap.push { cls := .type "tuple", data := .seq items.reverse.toArray } })
    (hsz : items.length ≤ sizeLine) : wpAny (model prog w) A (getItem (.ref t) (.ref sl)) Q E s := by
  have htake : sizeOk (.seq items.reverse.toArray) := by
    show items.reverse.toArray.size ≤ sizeLine
    rw [List.size_toArray, List.length_reverse]
    omega
  obtain ⟨os, hos, hcs, hds⟩ := id hs
  have hTs : s.TypeIs (.ref sl) "slice" := ⟨os, hos, hcs⟩
  unfold getItem
  try with_reducible refine wpAny_holding ?_
  first | refine wpAny_bind (wpAny_pure ?_) | skip
  refine wpAny_bind (wpAny_sequenceKey ht.typeIs (by decide) ?_)
  refine wpAny_bind (wpAny_callSpecial?_slot (name := Str.ofString "__getitem__") ht.typeIs PyProof.Rows.slot_tuple_getitem
    (wpAny_call_entry PyProof.Rows.slot_tuple_getitem ht.typeIs entry_tuple_getitem ?_ (args_tuple_getitem _ _)))
  show wpAny _ _ (Builtin.Tuple.tupleItemsOf (.ref t) >>= _) _ _ s
  refine wpAny_bind (tupleItemsOf_ ht ?_)
  refine wpAny_bind (wpAny_typeOf hTs ?_)
  rw [if_pos (by decide)]
  have hl : items.toArray.size = items.length := by simp
  refine wpAny_bind (sliceApplied_rev (n := items.toArray.size) hs pl pu ps ?_)
  show wpAny _ _ (if (((items.toArray.size : Int) - 1) == 0 && (-1 : Int) == 1 && items.toArray.size == items.toArray.size) = true then _ else _) _ _ s
  rw [if_neg (by simp)]
  have e : ((List.range items.toArray.size).filterMap fun (m : Nat) => items.toArray[(((items.toArray.size : Int) - 1) + (m : Int) * (-1)).toNat]?).toArray = items.reverse.toArray := by
    have e1 : (fun (m : Nat) => items.toArray[(((items.toArray.size : Int) - 1) + (m : Int) * (-1)).toNat]?) = fun (m : Nat) => items[(((items.length : Int) - 1) + (m : Int) * (-1)).toNat]? := by
      funext m
      rw [hl]
      simp
    rw [e1, hl, pick_rev]
  rw [e]
  first
    | exact wpAny_bind (m := Builtin.Tuple.tupleExact _) (wpAny_newObj_type (wpAny_pure ⟨_, rfl, wpAny_pure h⟩) htake)
    | exact wpAny_bind (m := Builtin.Tuple.tupleExact _) (wpAny_newObj_type (wpAny_bind (wpAny_pure (wpAny_pure ⟨_, rfl, wpAny_pure h⟩))) htake)
    | exact wpAny_bind (wpAny_bind (m := Builtin.Tuple.tupleExact _) (wpAny_newObj_type (wpAny_pure (wpAny_pure ⟨_, rfl, wpAny_pure h⟩)) htake))
    | exact wpAny_bind (wpAny_bind (m := Builtin.Tuple.tupleExact _) (wpAny_newObj_type (wpAny_pure ⟨_, rfl, wpAny_pure h⟩) htake))
end
section
variable {X : Cx}
def tRevA (K : KF) (te : TE) : TE := fun σ H Q => te σ H fun x H1 => ∃ a xs, x = .ref a ∧ ((SqL K H1 a xs ∧ ∀ p, H1 p = none → Q (.ref p) (upd H1 p (.lst xs.reverse))) ∨ (SqT K H1 a xs ∧ ∀ p, H1 p = none → Q (.ref p) (upd H1 p (.tup xs.reverse))))
theorem pe_revA {e : Expr} {te : TE} {k : Nat} {p1 p2 p3 pos : Pos} (he : PE X e te) : PE X (.Subscript e (.Slice none none (some (.UnaryOp .USub (.Constant (.int 1) k p1) p2)) p3) pos) (tRevA X.K te) := by
  refine ⟨fun pins s σ H Q I h => ?_⟩
  refine Subscript_ (thn (he.run pins s σ H _ I h) fun v s1 ⟨x, H1, I1, r1, q1⟩ => ?_)
  obtain ⟨a, xs, ex, hx⟩ := q1
  subst ex
  cases r1
  have hst : PO X (some (.UnaryOp .USub (.Constant (.int 1) k p1) p2)) (tPart (tUn (rU fun i => .int (-i)) (tC (.int 1)))) := po_some (pe_un un_neg pe_int)
  refine wpAny_Slice (thn (po_none.run pins s1 σ H1 (fun o H2 => o = none ∧ H2 = H1) I1 ⟨rfl, rfl⟩) fun vl s2 ⟨l, H2, I2, pl, el, e2⟩ => ?_)
  subst el e2
  refine thn (po_none.run pins s2 σ H2 (fun o H3 => o = none ∧ H3 = H2) I2 ⟨rfl, rfl⟩) fun vu s3 ⟨u, H3, I3, pu, eu, e3⟩ => ?_
  subst eu e3
  refine thn (hst.run pins s3 σ H3 (fun o H4 => o = some (-1) ∧ H4 = H3) I3 ⟨1, rfl, -1, rfl, rfl, rfl⟩) fun vs s4 ⟨o, H4, I4, ps, eo, e4⟩ => ?_
  subst eo e4
  have I5 : Inv X pins σ H4 { s4 with heap := s4.heap.push { cls := .type "slice", data := .fields #[vl, vu, vs] } } := I4.kept (t' := s4.toks) fun b ob q => Heap.get?_push_of_some _ q
  show wpAny (model X.prog X.w) X.A (subscriptTail e (.Slice none none (some (.UnaryOp .USub (.Constant (.int 1) k p1) p2)) p3) (.ref a) (.ref s4.heap.objs.size)) (EP X pins σ Q) X.xe { s4 with heap := s4.heap.push { cls := .type "slice", data := .fields #[vl, vu, vs] } }
  rcases hx with ⟨hx, q⟩ | ⟨hx, q⟩
  · obtain ⟨its, r, ht, hz⟩ := I5.list hx
    have hlen := r.length
    refine tail_any (ops := [.ref a, .ref s4.heap.objs.size]) ht.isList.typeIs (PySem.slot_list_getitem.lookup) ?_ (by with_unfolding_all rfl)
    refine wpAny_getItem_list_slice ht.isList (Heap.IsSliceOf.new _ vl vu vs) pl pu ps (by decide) ?_ (by rw [List.size_toArray]; omega)
    rw [PySem.W.krv_pick]
    refine ⟨.ref _, _, I5.laid (t' := s4.toks) (o := .lst xs.reverse) (fun b ob q => Heap.get?_push_of_some _ q) (Nat.le_refl _) ?_, rfl, q _ (I5.hok.fresh (Nat.le_refl _))⟩
    exact ⟨by rw [List.length_reverse]; exact hz, _, 0, r.reverse, Heap.get?_push_size _ rfl⟩
  · obtain ⟨its, r, ht, hz⟩ := I5.tuple hx
    have hlen := r.length
    refine tail_any (ops := [.ref a, .ref s4.heap.objs.size]) ht.typeIs (PyProof.Rows.slot_tuple_getitem.lookup) ?_ (by with_unfolding_all rfl)
    refine getItem_tuple_rev ht (Heap.IsSliceOf.new _ vl vu vs) pl pu ps ?_ (by omega)
    refine ⟨.ref _, _, I5.laid (t' := s4.toks) (o := .tup xs.reverse) (fun b ob q => Heap.get?_push_of_some _ q) (Nat.le_refl _) ?_, rfl, q _ (I5.hok.fresh (Nat.le_refl _))⟩
    exact ⟨by rw [List.length_reverse]; exact hz, _, r.reverse, IsTup.new _ _⟩
def revSem (h : AH) (a : RV) : Option RV := match a with
  | .v (.tup xs) => some (.v (.tup xs.reverse))
  | _ => (a.lst? h).map fun xs => .L false xs.reverse
theorem e_rev {a : Expr} {k : Nat} {p1 p2 p3 pos : Pos} {fa : FE} (ha : SE X a fa) : SE X (.Subscript a (.Slice none none (some (.UnaryOp .USub (.Constant (.int 1) k p1) p2)) p3) pos) fun ρ h => (fa ρ h).bind fun x h => .ofOpt (opSem h .rev [x]) h :=
  .plain (PE.weak (pe_revA ha.e) fun _ _ _ w => (one (sem := fun h x => opSem h .rev [x]) w).mono fun v H ⟨q, H0, g, h, ρ, σ, a, r, st, ra, e, k⟩ => by
    have e0 : revSem h a = some r := e
    clear e
    unfold revSem at e0
    split at e0
    · rename_i xs
      cases ra with
      | tup f1 r1 => exact ⟨_, _, rfl, .inr ⟨f1.sq, fin_T st r1.reverse e0 k⟩⟩
    · cases c : a.lst? h with
      | none => rw [c] at e0; cases e0
      | some xs =>
        rw [c] at e0
        obtain ⟨p, vs, rfl, h1, h2⟩ := res_lst st ra c
        exact ⟨p, vs, rfl, .inl ⟨.inl h1, fin_L st h2.reverse e0 k⟩⟩) (fun _ => rfl) fun _ _ _ e => nomatch e
end
end WT
end
section
set_option Elab.async false
set_option linter.all false
set_option maxRecDepth 100000
set_option maxHeartbeats 4000000
/-! isinstance. -/
namespace WT
open PySem PySem.Spec PyProof.Rows L2
def tyName : Ty → String
  | .int => "int" | .bool => "bool" | .str => "str" | .list => "list" | .tuple => "tuple" | .dict => "dict"
theorem kit_table : ∀ a b : Ty, kitB (tyName a) (tyName b) = some (isTy (some a) b) := by
  intro a b
  cases a <;> cases b <;> decide +kernel
theorem kit_none : ∀ b : Ty, kitB "NoneType" (tyName b) = some false := by
  intro b
  cases b <;> decide +kernel
def isAns (h : AH) (a : RV) (b : Ty) : Bool := match a with
  | .v .non => false
  | _ => isTy (tyOf h a) b
/-- a value's class -/
theorem ty_of {K : KF} {q : Fe} {H0 : Hp} {g : Gh} {H : Hp} {h : AH} {ρ : Env} {σ : L2.St} {a : RV} {v : V} {ts : List Ty} {k : Bool} (st : St K q g H h ρ σ) (ra : Res K H0 g H ρ σ a v) (e : isiSem h a ts = some k) :
    ∃ n, TyX K H v (.type n) ∧ ∀ b : Ty, kitB n (tyName b) = some (isAns h a b) := by
  have rdl : ∀ {p : Addr} {vs : List V}, Rd H p (.lst vs) → TyX K H (.ref p) (.type "list") := fun {p vs} r => by
    rcases r with r | ⟨o, r⟩
    · exact .base (.lst r)
    · exact .base (.frz r)
  cases a with
  | v y =>
    cases y with
    | non => cases ra; exact ⟨_, .base .non, kit_none⟩
    | bl b => cases ra; exact ⟨_, .base (.bl b), kit_table .bool⟩
    | int i => cases ra; exact ⟨_, .base (.int i), kit_table .int⟩
    | str s => cases ra; exact ⟨_, .base (.str s), kit_table .str⟩
    | tup xs =>
      cases ra with
      | tup f r =>
        refine ⟨_, ?_, kit_table .tuple⟩
        rcases f with ⟨_, f⟩ | ⟨o, its, n, h1, h2, _⟩
        · exact .base (.tup f)
        · exact .kTuple h1 h2
    | lst xs =>
      cases ra with
      | lst f r => exact ⟨_, rdl f.2, kit_table .list⟩
    | loc n =>
      cases c : hget h n with
      | none =>
        have e' : (match tyOf h (.v (.loc n)) with | some t => some (ts.any fun u => isTy (some t) u) | none => none) = some k := e
        have e2 : tyOf h (.v (.loc n)) = none := by
          show (match hget h n with | some (.l _) => some Ty.list | some (.d _ _) => some Ty.dict | none => none) = none
          rw [c]
        rw [e2] at e'; cases e'
      | some o =>
        cases ra with
        | loc hl =>
          have ob := st.hs.ob n o _ c hl
          cases o with
          | l xs =>
            obtain ⟨vs, h1, h2⟩ := ob
            refine ⟨_, .base (.lst h1), ?_⟩
            have e2 : tyOf h (.v (.loc n)) = some .list := by
              show (match hget h n with | some (.l _) => some Ty.list | some (.d _ _) => some Ty.dict | none => none) = some .list
              rw [c]
            intro b
            show _ = some (isTy (tyOf h (.v (.loc n))) b)
            rw [e2]
            exact kit_table .list b
          | d ks vs => exact ob.elim
    | sc xs =>
      have e' : (none : Option Bool) = some k := e
      cases e'
    | _ => cases ra
  | L b xs =>
    obtain ⟨p, vs, rfl, h1, _⟩ := res_lst (xs := xs) st ra rfl
    exact ⟨_, rdl h1, kit_table .list⟩
  | D b ks vs => exact ra.elim
theorem isi_get {h : AH} {a : RV} {ts : List Ty} {k : Bool} (e : isiSem h a ts = some k) : k = ts.any (isAns h a) := by
  unfold isiSem at e
  split at e
  · cases e
    symm
    rw [List.any_eq_false]
    intro x _
    simp [isAns]
  · cases e
  · cases e
  · rename_i h1 h2 h3
    have ea : ∀ b, isAns h a b = isTy (tyOf h a) b := fun b => by
      unfold isAns
      split
      · exact absurd rfl h1
      · rfl
    cases c : tyOf h a with
    | none => rw [c] at e; cases e
    | some t =>
      rw [c] at e
      cases e
      congr 1
      funext b
      rw [ea, c]
def isiF (ts : List Ty) (fa : FE) : FE := fun ρ h => (fa ρ h).bind fun x h => .ofOpt (opSem h (.isi ts) [x]) h
section
variable {X : Cx} {a : Expr} {fa : FE} {p p2 pos : Pos}
/-- a class's name -/
def tyB (t : Ty) (e : Expr) : Bool := match e with
  | .Name x _ => x == Str.ofString (tyName t)
  | _ => false
theorem boot_ty (t : Ty) : bootBuiltins (Str.ofString (tyName t)) = some (.type (tyName t)) := by
  cases t <;> decide +kernel
theorem pe_ty {t : Ty} {p : Pos} (hg : Gl X (Str.ofString (tyName t))) (hm : X.mg (Str.ofString (tyName t)) = none) : PE X (.Name (Str.ofString (tyName t)) p) (tC (.ty (tyName t))) :=
  pe_bltn hg hm (boot_ty t) rfl (by cases t <;> decide +kernel) (by cases t <;> decide +kernel)
theorem e_isi1 {t : Ty} (hg : Gl X "isinstance") (hm : X.mg "isinstance" = none) (hgt : Gl X (Str.ofString (tyName t))) (hmt : X.mg (Str.ofString (tyName t)) = none) (ha : SE X a fa) :
    SE X (.Call (.Name "isinstance" p) [a, .Name (Str.ofString (tyName t)) p2] [] pos) (isiF [t] fa) :=
  .plain (PE.weak (pe_callB call_isi hg hm (by decide +kernel) (pa_cons ha.e (pa_cons (pe_ty hgt hmt) pa_nil rfl) (plain_star ha.px)) (by decide +kernel) (by decide +kernel) (plain_star ha.px) rfl) fun _ _ _ w =>
    (one (sem := fun h x => opSem h (.isi [t]) [x]) w).mono fun v H ⟨q, H0, g, h, ρ, σ, a, r, st, ra, e, k⟩ => by
      have e0 : B (isiSem h a [t]) = some r := e
      cases c : isiSem h a [t] with
      | none => rw [c] at e0; cases e0
      | some b =>
        rw [c] at e0
        obtain ⟨n, ty, tb⟩ := ty_of st ra c
        have hb := isi_get c
        refine ⟨v, .ty (tyName t), .type n, .type (tyName t), b, rfl, .ty _, ty, ?_, fin_b st e0 k⟩
        rw [hb, List.any_cons, List.any_nil, Bool.or_false]
        exact kit_ty (tb t)) (fun _ => rfl) fun _ _ _ e => nomatch e
/-- several class names -/
def tysB : List Ty → List Expr → Bool
  | [], [] => true
  | t :: ts, e :: es => tyB t e && tysB ts es
  | _, _ => false
def tTys (ts : List Ty) : TA := fun σ H Q => Q (ts.map fun t => V.ty (tyName t)) H
theorem pa_tys : ∀ {ts : List Ty} {es : List Expr}, tysB ts es = true → (∀ t ∈ ts, Gl X (Str.ofString (tyName t)) ∧ X.mg (Str.ofString (tyName t)) = none) → PA X es (tTys ts)
  | [], [], _, _ => pa_nil
  | t :: ts, e :: es, h, k => by
    unfold tysB at h
    rw [Bool.and_eq_true] at h
    obtain ⟨h1, h2⟩ := h
    cases e with
    | Name x q =>
      have e1 : x = Str.ofString (tyName t) := eq_of_beq h1
      subst e1
      exact PA.weak (pa_cons (pe_ty (k t List.mem_cons_self).1 (k t List.mem_cons_self).2) (pa_tys h2 fun u hu => k u (List.mem_cons_of_mem _ hu)) rfl) fun _ _ _ w => w
    | _ => cases h1
theorem any_kit {K : KF} {n : String} {f : Ty → Bool} (tb : ∀ b : Ty, kitB n (tyName b) = some (f b)) : ∀ ts : List Ty, PySem.W.kitAny K (.type n) (ts.map fun t => .type (tyName t)) = some (ts.any f)
  | [] => kitAny_nil
  | t :: ts => by
    refine kitAny_cons (kit_ty (tb t)) (fun e => ?_) (fun e => ?_)
    · rw [List.any_cons, e, Bool.false_or]; exact any_kit tb ts
    · rw [List.any_cons, e, Bool.true_or]
theorem paired_tys : ∀ ts : List Ty, Paired ClsV (ts.map fun t => V.ty (tyName t)) (ts.map fun t => .type (tyName t))
  | [] => .nil
  | t :: ts => .cons (.ty _) (paired_tys ts)
theorem e_isiT {ts : List Ty} {es : List Expr} {kk : Nat} (hz : ts.length ≤ sizeLine) (hg : Gl X "isinstance") (hm : X.mg "isinstance" = none) (ht : tysB ts es = true) (hk : ∀ t ∈ ts, Gl X (Str.ofString (tyName t)) ∧ X.mg (Str.ofString (tyName t)) = none) (ha : SE X a fa) :
    SE X (.Call (.Name "isinstance" p) [a, .Tuple es kk p2] [] pos) (isiF ts fa) :=
  .plain (PE.weak (pe_callB call_isiT hg hm (by decide +kernel) (pa_cons ha.e (pa_cons (pe_tup (pa_tys ht hk)) pa_nil rfl) (plain_star ha.px)) (by decide +kernel) (by decide +kernel) (plain_star ha.px) rfl) fun _ _ _ w =>
    (one (sem := fun h x => opSem h (.isi ts) [x]) w).mono fun v H ⟨q, H0, g, h, ρ, σ, a, r, st, ra, e, k⟩ => by
      have e0 : B (isiSem h a ts) = some r := e
      cases c : isiSem h a ts with
      | none => rw [c] at e0; cases e0
      | some b =>
        rw [c] at e0
        refine ⟨by rw [List.length_map]; exact hz, fun p hp => ?_⟩
        have st2 := st.to (Ext.new (o := .tup (ts.map fun t => V.ty (tyName t))) hp) (st.hs.new hp)
        have ra2 := ra.ext st (Ext.new (o := .tup (ts.map fun t => V.ty (tyName t))) hp)
        obtain ⟨n, ty, tb⟩ := ty_of st2 ra2 c
        have hb := isi_get c
        refine ⟨v, p, _, .type n, _, b, rfl, upd_same, paired_tys ts, ty, ?_, fin_b st2 e0 fun g' H' v x1 s1 r1 => k g' H' v ((Ext.new hp).trans x1) s1 (r1.start fun a => (Ext.new (g := g) hp).free)⟩
        rw [hb]
        exact any_kit tb ts) (fun _ => rfl) fun _ _ _ e => nomatch e
end
end WT
end
section
set_option Elab.async false
set_option linter.all false
set_option maxRecDepth 100000
set_option maxHeartbeats 4000000
/-! What a for and a comprehension walk. -/
namespace WT
open PySem PySem.Spec PyProof.Rows L2
/-- a turn's yield: an item as it stands, or a new tuple -/
def Yl (K : KF) (g : Gh) (H H' : Hp) (e : PV) (x : V) : Prop := (H' = H ∧ Rep K g H e x) ∨ ∃ p ys vs, H p = none ∧ H' = upd H p (.tup vs) ∧ x = .ref p ∧ e = .tup ys ∧ Reps K g H ys vs
structure Serves (K : KF) (g : Gh) (H : Hp) (J : L2.It) (xs : List PV) : Prop where
  go : ∀ i, i < xs.length → J.go i H
  stop : J.stop xs.length H
  yld : ∀ i x H', J.yld i H x H' → i < xs.length → ∃ e, xs[i]? = some e ∧ Yl K g H H' e x
/-- c: the frame's lists stand meanwhile (a comprehension) -/
def Lat (c : Bool) (g : Gh) (H : Hp) (g' : Gh) (H' : Hp) : Prop := Mon g H g' H' ∧ (c = true → Ext g H g' H')
def tI (K : KF) (c : Bool) (f : FI) : TI := fun σ H R => ∃ q g h ρ, St K q g H h ρ σ ∧ ∃ xs h', f ρ h = .ok xs h' ∧ ∀ g' H' J, Ext g H g' H' → St K q g' H' h' ρ σ → (∀ g2 H2, Lat c g' H' g2 H2 → Serves K g2 H2 J xs) → R J H'
structure SI (X : Cx) (tg iter : Expr) (f : Bool → FI) : Prop where
  px : plainX iter = true
  i : ∀ c, PI X tg iter (tI X.K c (f c))
theorem PI.weak {X : Cx} {tg e : Expr} {t t' : TI} (p : PI X tg e t) (k : ∀ σ H R, t' σ H R → t σ H R) : PI X tg e t' := ⟨fun pins s σ H R I h => p.run pins s σ H R I (k σ H R h)⟩
section
variable {X : Cx} {tg : Expr}
def iSeq (K : KF) (tl : TE) : TI := fun σ H R => tl σ H fun x H1 => ∃ a xs, x = .ref a ∧ ((SqL K H1 a xs ∧ R (Itl K a) H1) ∨ (SqT K H1 a xs ∧ R (Itt K a) H1))
theorem pi_seq {l : Expr} {tl : TE} (hl : PE X l tl) : PI X tg l (iSeq X.K tl) := by
  refine ⟨fun pins s σ H R I h => ?_⟩
  refine thn (hl.run pins s σ H _ I h) fun v s1 ⟨x, H1, I1, r1, q1⟩ => ?_
  obtain ⟨a, xs, rfl, q⟩ := q1
  cases r1
  rcases q with ⟨hq, q⟩ | ⟨hq, q⟩
  · obtain ⟨its, rv, p, hz⟩ := I1.list hq
    refine wpAny_pyIter_list p.isList ?_
    refine ⟨s1.heap.objs.size, [s1.heap.objs.size], _, _, H1, rfl, I1.kept (t' := s1.toks) fun b o e => Heap.get?_push_of_some _ e, turn_list a _, ⟨_, Heap.get?_push_size _ rfl, rfl, rfl⟩, fun b hb => ?_, q⟩
    have e : b = s1.heap.objs.size := by simpa using hb
    subst e
    exact I1.fpOk (Nat.le_refl _) (I1.hok.fresh (Nat.le_refl _))
  · obtain ⟨its, rv, p, hz⟩ := I1.tuple hq
    refine wpAny_pyIter_tuple (show s1.heap.IsTuple a its.toArray from p) ?_
    refine ⟨s1.heap.objs.size, [s1.heap.objs.size], _, _, H1, rfl, I1.kept (t' := s1.toks) fun b o e => Heap.get?_push_of_some _ e, turn_tuple a _, ⟨_, Heap.get?_push_size _ rfl, rfl, rfl⟩, fun b hb => ?_, q⟩
    have e : b = s1.heap.objs.size := by simpa using hb
    subst e
    exact I1.fpOk (Nat.le_refl _) (I1.hok.fresh (Nat.le_refl _))
section
variable {K : KF} {q : Fe} {H0 : Hp} {g g0 g' : Gh} {H H' : Hp} {h h0 h' : AH} {ρ : Env} {σ : L2.St}
theorem Reps.at {xs : List PV} {vs : List V} (r : Reps K g H xs vs) {i : Nat} (hi : i < xs.length) : ∃ e v, xs[i]? = some e ∧ vs[i]? = some v ∧ Rep K g H e v := by
  have e : xs[i]? = some xs[i] := List.getElem?_eq_getElem hi
  obtain ⟨v, h1, h2⟩ := r.get e
  exact ⟨_, v, e, h1, h2⟩
theorem serves_L {a : Addr} {xs : List PV} {vs : List V} (hl : SqL K H a vs) (r : Reps K g H xs vs) : Serves K g H (Itl K a) xs where
  go := fun i hi => by
    obtain ⟨e, v, _, h2, _⟩ := r.at hi
    exact ⟨vs, v, hl, h2⟩
  stop := ⟨vs, hl, by rw [r.length]; exact Nat.le_refl _⟩
  yld := fun i x H' y hi => by
    obtain ⟨e, v, h1, h2, h3⟩ := r.at hi
    obtain ⟨rfl, y⟩ := y
    have := y vs hl
    rw [h2] at this
    cases this
    exact ⟨e, h1, .inl ⟨rfl, h3⟩⟩
theorem serves_T {a : Addr} {xs : List PV} {vs : List V} (hl : SqT K H a vs) (r : Reps K g H xs vs) : Serves K g H (Itt K a) xs where
  go := fun i hi => by
    obtain ⟨e, v, _, h2, _⟩ := r.at hi
    exact ⟨vs, v, hl, h2⟩
  stop := ⟨vs, hl, by rw [r.length]; exact Nat.le_refl _⟩
  yld := fun i x H' y hi => by
    obtain ⟨e, v, h1, h2, h3⟩ := r.at hi
    obtain ⟨rfl, y⟩ := y
    have := y vs hl
    rw [h2] at this
    cases this
    exact ⟨e, h1, .inl ⟨rfl, h3⟩⟩
/-- what is walked lies so that it stands -/
def Held (K : KF) (c : Bool) (g : Gh) (H : Hp) (xs : List PV) (v : V) : Prop := ∃ a vs, v = .ref a ∧ ((FL K g H a vs ∧ Reps K g H xs vs) ∨ (FT K g H a vs ∧ Reps K g H xs vs) ∨ (c = true ∧ H a = some (.lst vs) ∧ a ∉ g.L ∧ Reps K g H xs vs))
theorem Held.lat {c : Bool} {xs : List PV} {v : V} (w : Held K c g H xs v) (l : Lat c g H g' H') : Held K c g' H' xs v := by
  obtain ⟨a, vs, rfl, w⟩ := w
  obtain ⟨m, e⟩ := l
  refine ⟨a, vs, rfl, ?_⟩
  rcases w with ⟨⟨h1, h2⟩, r⟩ | ⟨h1, r⟩ | ⟨hc, h1, h2, r⟩
  · refine .inl ⟨⟨m.f _ h1, ?_⟩, r.mono m⟩
    rcases h2 with h2 | ⟨o, h2⟩
    · exact .inl (m.k _ _ h1 h2)
    · exact .inr ⟨o, m.k _ _ h1 h2⟩
  · refine .inr (.inl ⟨?_, r.mono m⟩)
    rcases h1 with ⟨h1, h2⟩ | h1
    · exact .inl ⟨m.f _ h1, m.k _ _ h1 h2⟩
    · exact .inr h1
  · have e := e hc
    refine .inr (.inr ⟨hc, e.hk a _ h1 h2, fun z => ?_, r.mono m⟩)
    rcases e.ln a z with z | z
    · exact h2 z
    · rw [h1] at z; cases z
theorem Lat.of_ext {c : Bool} (s : Hs K g H h) (e : Ext g H g' H') : Lat c g H g' H' := ⟨e.mon s, fun _ => e⟩
theorem Lat.frz {c : Bool} {p : Addr} (hp : H p ≠ none) (n : H0 p = none) (e : Ext g0 H0 g H) : Mon g H (g.add p) H := Mon.frz
/-- an answer that is walked: it is shared from now on (or a slot's) -/
theorem held {c : Bool} {r : RV} {v : V} {xs : List PV} (st0 : St K q g0 H0 h0 ρ σ) (st : St K q g H h ρ σ) (e : Ext g0 H0 g H) (w : Res K H0 g H ρ σ r v) (ex : itV c r = some xs) :
    ∃ g', Ext g0 H0 g' H ∧ St K q g' H h ρ σ ∧ Mon g H g' H ∧ g'.L = g.L ∧ Held K c g' H xs v := by
  have fz : ∀ y, r.toPV = some y → y = .lst xs ∨ y = .tup xs → ∃ g', Ext g0 H0 g' H ∧ St K q g' H h ρ σ ∧ Mon g H g' H ∧ g'.L = g.L ∧ Held K c g' H xs v := fun y ey hy => by
    obtain ⟨g', e', st', m, l, rr⟩ := share1 st0 (w.fz ey) st e
    refine ⟨g', e', st', m, l, ?_⟩
    rcases hy with rfl | rfl
    · cases rr with
      | lst f r1 => exact ⟨_, _, rfl, .inl ⟨f, r1⟩⟩
    · cases rr with
      | tup f r1 => exact ⟨_, _, rfl, .inr (.inl ⟨f, r1⟩)⟩
  cases r with
  | v y =>
    cases y with
    | tup ys => cases ex; exact fz _ rfl (.inr rfl)
    | lst ys => cases ex; exact fz _ rfl (.inl rfl)
    | _ => cases ex
  | L b ys =>
    have ex' : (if c || !b then some ys else none) = some xs := ex
    cases b with
    | false =>
      rw [show (c || !false) = true by cases c <;> rfl] at ex'
      cases ex'
      exact fz _ rfl (.inl rfl)
    | true =>
      cases c with
      | false => cases ex'
      | true =>
        cases ex'
        obtain ⟨a, rfl, ⟨vs, h1, h2⟩, i, d, zs, h3, h4⟩ := w
        obtain ⟨u, h5, h6⟩ := st.sl i _ h3
        rw [h4] at h5
        cases h5
        obtain ⟨a', ea, _, n1, n2, n3⟩ := h6
        cases ea
        exact ⟨g, e, st, ⟨fun _ z => z, fun _ _ _ z => z, fun _ _ z => z⟩, rfl, a, vs, rfl, .inr (.inr ⟨rfl, h1, n2, h2⟩)⟩
  | D b ks vs => exact w.elim
end
theorem i_val {e : Expr} {fe : FE} (he : SE X e fe) : SI X tg e fun c ρ h => (fe ρ h).bind fun r h => .ofOpt (itV c r) h :=
  ⟨he.px, fun c => PI.weak (pi_seq he.e) fun σ H R w => by
    obtain ⟨q, g, h, ρ, st, xs, h', e, k⟩ := w
    obtain ⟨r, h1, e1, e⟩ := bind_ok e
    obtain ⟨e2, rfl⟩ := ofOpt_ok e
    refine ⟨q, g, h, ρ, st, r, _, e1, fun g1 H1 v x1 s1 r1 => ?_⟩
    obtain ⟨g2, x2, s2, m2, l2, hl⟩ := held st s1 x1 r1 e2
    obtain ⟨a, vs, rfl, hh⟩ := id hl
    have hh' : (SqL X.K H1 a vs ∧ ∀ g3 H3, Lat c g2 H1 g3 H3 → Serves X.K g3 H3 (Itl X.K a) xs) ∨ (SqT X.K H1 a vs ∧ ∀ g3 H3, Lat c g2 H1 g3 H3 → Serves X.K g3 H3 (Itt X.K a) xs) := by
      rcases hh with ⟨f, r⟩ | ⟨f, r⟩ | ⟨hc, f, n, r⟩
      · refine .inl ⟨f.sq, fun g3 H3 l => ?_⟩
        obtain ⟨m, _⟩ := l
        refine serves_L (vs := vs) (.inl ?_) (r.mono m)
        rcases f.2 with h2 | ⟨o, h2⟩
        · exact .inl (m.k _ _ f.1 h2)
        · exact .inr ⟨o, m.k _ _ f.1 h2⟩
      · refine .inr ⟨f.sq, fun g3 H3 l => ?_⟩
        obtain ⟨m, _⟩ := l
        refine serves_T (vs := vs) (FT.sq (g := g3) ?_) (r.mono m)
        rcases f with ⟨h1, h2⟩ | h1
        · exact .inl ⟨m.f _ h1, m.k _ _ h1 h2⟩
        · exact .inr h1
      · refine .inl ⟨.inl (.inl f), fun g3 H3 l => ?_⟩
        obtain ⟨m, x⟩ := l
        exact serves_L (vs := vs) (.inl (.inl ((x hc).hk a _ f n))) (r.mono m)
    rcases hh' with ⟨h1, h2⟩ | ⟨h1, h2⟩
    · exact ⟨a, vs, rfl, .inl ⟨h1, k g2 H1 _ x2 s2 h2⟩⟩
    · exact ⟨a, vs, rfl, .inr ⟨h1, k g2 H1 _ x2 s2 h2⟩⟩⟩
theorem rangeL_length : ∀ (n : Nat) (lo : Int), (rangeL lo n).length = n
  | 0, _ => rfl
  | n + 1, lo => by unfold rangeL; rw [List.length_cons, rangeL_length n]
theorem rangeL_get : ∀ (n i : Nat) (lo : Int), i < n → (rangeL lo n)[i]? = some (.int (lo + i))
  | 0, i, _, h => absurd h (Nat.not_lt_zero _)
  | n + 1, 0, lo, _ => by unfold rangeL; simp
  | n + 1, i + 1, lo, h => by
    unfold rangeL
    rw [List.getElem?_cons_succ, rangeL_get n i (lo + 1) (Nat.lt_of_succ_lt_succ h)]
    congr 2
    omega
theorem serves_R {K : KF} {g : Gh} {H : Hp} (lo : Int) (n : Nat) : Serves K g H (Itr lo n) (rangeL lo n) where
  go := fun i hi => by rw [rangeL_length] at hi; exact hi
  stop := by rw [rangeL_length]; exact Nat.le_refl _
  yld := fun i x H' y hi => by
    rw [rangeL_length] at hi
    obtain ⟨rfl, rfl⟩ := y
    exact ⟨_, rangeL_get n i lo hi, .inl ⟨rfl, .int _⟩⟩
theorem okInt_b {n : Int} (h : okInt n = true) : -(2 ^ 62) ≤ n ∧ n < 2 ^ 62 := by
  unfold okInt at h
  rw [Bool.and_eq_true, decide_eq_true_eq, decide_eq_true_eq] at h
  omega
theorem i_range1 {a : Expr} {p pos : Pos} {fa : FE} (hg : Gl X "range") (hm : X.mg "range" = none) (ha : SE X a fa) : SI X tg (.Call (.Name "range" p) [a] [] pos) fun _ ρ h => (fa ρ h).bind fun r h => .ofOpt (rg1 r) h :=
  ⟨rfl, fun c => PI.weak (pi_range1 hg hm (pa_cons ha.e pa_nil (plain_star ha.px)) (by rw [plain_star ha.px]; rfl)) fun σ H R w => by
    obtain ⟨q, g, h, ρ, st, xs, h', e, k⟩ := w
    obtain ⟨r, h1, e1, e⟩ := bind_ok e
    obtain ⟨e2, rfl⟩ := ofOpt_ok e
    refine ⟨q, g, h, ρ, st, r, _, e1, fun g1 H1 v x1 s1 r1 => ?_⟩
    cases r with
    | v y =>
      cases y with
      | int n =>
        cases r1
        have e3 : (if okInt n then some (rangeL 0 n.toNat) else none) = some xs := e2
        split at e3
        · rename_i hb
          cases e3
          exact ⟨n, rfl, (okInt_b hb).1, (okInt_b hb).2, k g1 H1 _ x1 s1 fun g2 H2 _ => serves_R 0 _⟩
        · cases e3
      | _ => cases e2
    | _ => cases e2⟩
theorem i_range2 {a b : Expr} {p pos : Pos} {fa fb : FE} (hg : Gl X "range") (hm : X.mg "range" = none) (ha : SE X a fa) (hb : SE X b fb) :
    SI X tg (.Call (.Name "range" p) [a, b] [] pos) fun _ ρ h => (fa ρ h).bind fun r h => (fb ρ h).bind fun s h => .ofOpt (rg2 r s) h :=
  ⟨rfl, fun c => PI.weak (pi_range2 hg hm (pa_cons ha.e (pa_cons hb.e pa_nil (plain_star hb.px)) (plain_star ha.px)) (by rw [plain_star ha.px, plain_star hb.px]; rfl) (by rw [plain_star hb.px]; rfl)) fun σ H R w => by
    obtain ⟨q, g, h, ρ, st, xs, h', e, k⟩ := w
    obtain ⟨r, h1, e1, e⟩ := bind_ok e
    obtain ⟨s, h2, e2, e⟩ := bind_ok e
    obtain ⟨e3, rfl⟩ := ofOpt_ok e
    refine ⟨q, g, h, ρ, st, r, h1, e1, fun g1 H1 v x1 s1 r1 => ⟨q, g1, h1, ρ, s1, s, _, e2, fun g2 H2 u x2 s2 r2 => ?_⟩⟩
    have r1 := r1.ext s1 x2
    clear e
    unfold rg2 at e3
    split at e3
    · cases r1
      cases r2
      split at e3
      · rename_i hb
        cases e3
        rw [Bool.and_eq_true] at hb
        exact ⟨_, _, rfl, ⟨(okInt_b hb.1).1, (okInt_b hb.1).2, (okInt_b hb.2).1, (okInt_b hb.2).2⟩, k g2 H2 _ (x1.trans x2) s2 fun g3 H3 _ => serves_R _ _⟩
      · cases e3
    · cases e3⟩
end
end WT
end
section
set_option Elab.async false
set_option linter.all false
set_option maxRecDepth 100000
set_option maxHeartbeats 4000000
/-! Slots and targets. -/
namespace WT
open PySem PySem.Spec PyProof.Rows L2
theorem slot_eq : ∀ (ρ : Env) (i : Nat), slot ρ i = (ρ[i]?).join
  | [], i => by simp [slot]
  | x :: _, 0 => by simp [slot]
  | _ :: r, i + 1 => by simp [slot, slot_eq r i]
theorem slot_lt {ρ : Env} {i : Nat} {r : RV} (h : slot ρ i = some r) : i < ρ.length := by
  rw [slot_eq] at h
  cases c : ρ[i]? with
  | none => rw [c] at h; cases h
  | some x => exact (List.getElem?_eq_some_iff.mp c).1
theorem slot_set {ρ : Env} {i j : Nat} {o : Option RV} {r : RV} (h : slot (setSlot ρ i o) j = some r) : (i = j ∧ o = some r) ∨ (i ≠ j ∧ slot ρ j = some r) := by
  rw [slot_eq] at h
  unfold setSlot at h
  by_cases e : i = j
  · subst e
    left
    refine ⟨rfl, ?_⟩
    by_cases hl : i < ρ.length
    · rw [List.getElem?_set_self hl] at h; exact h
    · rw [List.getElem?_eq_none (by rw [List.length_set]; omega)] at h; cases h
  · rw [List.getElem?_set_ne e] at h
    exact .inr ⟨e, by rw [slot_eq]; exact h⟩
section
variable {K : KF} {q : Fe} {H0 : Hp} {g g0 g' : Gh} {H H' : Hp} {h h0 h' : AH} {ρ : Env} {σ : L2.St}
theorem St.setV {i : Nat} {x : PV} {v : V} (s : St K q g H h ρ σ) (r : Rep K g H x v) : St K q g H h (setSlot ρ i (some (.v x))) (σ.set i (some v)) where
  hs := s.hs
  ex := s.ex
  len := by rw [List.length_set]; unfold setSlot; rw [List.length_set]; exact s.len
  sl := fun j r' hr => by
    have hj := slot_lt hr
    rcases slot_set hr with ⟨rfl, e⟩ | ⟨n, e⟩
    · cases e
      have hj' : i < σ.length := by
        unfold setSlot at hj
        rw [List.length_set] at hj
        rw [← s.len]; exact hj
      exact ⟨v, List.getElem?_set_self hj', r⟩
    · obtain ⟨w, h1, h2⟩ := s.sl j r' e
      exact ⟨w, by rw [List.getElem?_set_ne n]; exact h1, h2⟩
  ow := fun j k r1 r2 w h1 h2 o1 o2 e1 e2 => by
    rcases slot_set h1 with ⟨rfl, e⟩ | ⟨n, h1⟩
    · cases e; cases o1
    · rcases slot_set h2 with ⟨rfl, e⟩ | ⟨m, h2⟩
      · cases e; cases o2
      · rw [List.getElem?_set_ne n] at e1
        rw [List.getElem?_set_ne m] at e2
        exact s.ow j k r1 r2 w h1 h2 o1 o2 e1 e2
theorem St.drop {i : Nat} {o : Option V} (s : St K q g H h ρ σ) : St K q g H h (setSlot ρ i none) (σ.set i o) where
  hs := s.hs
  ex := s.ex
  len := by rw [List.length_set]; unfold setSlot; rw [List.length_set]; exact s.len
  sl := fun j r' hr => by
    rcases slot_set hr with ⟨rfl, e⟩ | ⟨n, e⟩
    · cases e
    · obtain ⟨w, h1, h2⟩ := s.sl j r' e
      exact ⟨w, by rw [List.getElem?_set_ne n]; exact h1, h2⟩
  ow := fun j k r1 r2 w h1 h2 o1 o2 e1 e2 => by
    rcases slot_set h1 with ⟨rfl, e⟩ | ⟨n, h1⟩
    · cases e
    · rcases slot_set h2 with ⟨rfl, e⟩ | ⟨m, h2⟩
      · cases e
      · rw [List.getElem?_set_ne n] at e1
        rw [List.getElem?_set_ne m] at e2
        exact s.ow j k r1 r2 w h1 h2 o1 o2 e1 e2
theorem St.wipe (s : St K q g H h ρ σ) : ∀ vs : List Nat, St K q g H h (WT.wipe ρ vs) (L2.wipe σ vs)
  | [] => s
  | v :: vs => (St.wipe s vs).drop
/-- no slot owns D -/
def NoD (ρ : Env) (σ : L2.St) (D : Addr) : Prop := ∀ i c xs, slot ρ i = some (.L c xs) → σ[i]? ≠ some (some (.ref D))
theorem NoD.setV {D : Addr} {i : Nat} {x : PV} {o : Option V} (n : NoD ρ σ D) : NoD (setSlot ρ i (some (.v x))) (σ.set i o) D := fun j c xs hr => by
  rcases slot_set hr with ⟨rfl, e⟩ | ⟨m, e⟩
  · cases e
  · rw [List.getElem?_set_ne m]; exact n j c xs e
theorem NoD.drop {D : Addr} {i : Nat} {o : Option V} (n : NoD ρ σ D) : NoD (setSlot ρ i none) (σ.set i o) D := fun j c xs hr => by
  rcases slot_set hr with ⟨rfl, e⟩ | ⟨m, e⟩
  · cases e
  · rw [List.getElem?_set_ne m]; exact n j c xs e
theorem NoD.wipe {D : Addr} (n : NoD ρ σ D) : ∀ vs : List Nat, NoD (WT.wipe ρ vs) (L2.wipe σ vs) D
  | [] => n
  | v :: vs => (NoD.wipe n vs).drop
/-- owned: a fresh list of nobody -/
theorem St.setL {i : Nat} {xs : List PV} {a : Addr} (s : St K q g H h ρ σ) (r : HasL K g H a xs) (n1 : ¬ g.F a) (n2 : a ∉ g.L) (n3 : q.H a = none) (nw : ∀ j r', slot ρ j = some r' → owned r' = true → j ≠ i → σ[j]? ≠ some (some (.ref a))) :
    St K q g H h (setSlot ρ i (some (.L false xs))) (σ.set i (some (.ref a))) where
  hs := s.hs
  ex := s.ex
  len := by rw [List.length_set]; unfold setSlot; rw [List.length_set]; exact s.len
  sl := fun j r' hr => by
    have hj := slot_lt hr
    rcases slot_set hr with ⟨rfl, e⟩ | ⟨n, e⟩
    · cases e
      have hj' : i < σ.length := by
        unfold setSlot at hj
        rw [List.length_set] at hj
        rw [← s.len]; exact hj
      exact ⟨.ref a, List.getElem?_set_self hj', a, rfl, r, n1, n2, n3⟩
    · obtain ⟨w, h1, h2⟩ := s.sl j r' e
      exact ⟨w, by rw [List.getElem?_set_ne n]; exact h1, h2⟩
  ow := fun j k r1 r2 w h1 h2 o1 o2 e1 e2 => by
    have hj := slot_lt h1
    have hk := slot_lt h2
    unfold setSlot at hj hk
    rw [List.length_set] at hj hk
    rcases slot_set h1 with ⟨ej, e⟩ | ⟨n, h1⟩
    · subst ej
      rcases slot_set h2 with ⟨ek, e'⟩ | ⟨m, h2⟩
      · exact ek
      · rw [List.getElem?_set_self (by rw [← s.len]; exact hj)] at e1
        cases e1
        rw [List.getElem?_set_ne m] at e2
        exact absurd e2 (nw k r2 h2 o2 (Ne.symm m))
    · rcases slot_set h2 with ⟨ek, e'⟩ | ⟨m, h2⟩
      · subst ek
        rw [List.getElem?_set_self (by rw [← s.len]; exact hk)] at e2
        cases e2
        rw [List.getElem?_set_ne n] at e1
        exact absurd e1 (nw j r1 h1 o1 (Ne.symm n))
      · rw [List.getElem?_set_ne n] at e1
        rw [List.getElem?_set_ne m] at e2
        exact s.ow j k r1 r2 w h1 h2 o1 o2 e1 e2
end
theorem wipe_get (σ : L2.St) (j : Nat) : ∀ vs : List Nat, (L2.wipe σ vs)[j]? = if j ∈ vs then (σ[j]?).map (fun _ => none) else σ[j]?
  | [] => by simp [L2.wipe]
  | v :: vs => by
    have hl := wipe_length σ vs
    unfold L2.wipe
    by_cases e : v = j
    · subst e
      rw [if_pos List.mem_cons_self]
      by_cases hv : v < σ.length
      · rw [List.getElem?_set_self (by rw [hl]; exact hv), List.getElem?_eq_getElem hv]; rfl
      · rw [List.getElem?_eq_none (by rw [List.length_set, hl]; omega), List.getElem?_eq_none (by omega)]; rfl
    · rw [List.getElem?_set_ne e, wipe_get σ j vs]
      by_cases m : j ∈ vs
      · rw [if_pos m, if_pos (List.mem_cons_of_mem _ m)]
      · rw [if_neg m, if_neg (by simp [m, Ne.symm e])]
theorem wipe_wipe (σ : L2.St) (vs ws : List Nat) (hs : ∀ i ∈ ws, i ∈ vs) : L2.wipe (L2.wipe σ ws) vs = L2.wipe σ vs := by
  refine List.ext_getElem? fun j => ?_
  rw [wipe_get, wipe_get, wipe_get]
  by_cases m : j ∈ vs
  · rw [if_pos m, if_pos m]
    split
    · cases σ[j]? <;> rfl
    · rfl
  · rw [if_neg m, if_neg m, if_neg fun z => m (hs j z)]
theorem wipe_set (σ : L2.St) (vs : List Nat) (i : Nat) (o : Option V) (hi : i ∈ vs) : L2.wipe (σ.set i o) vs = L2.wipe σ vs := by
  refine List.ext_getElem? fun j => ?_
  rw [wipe_get, wipe_get]
  by_cases m : j ∈ vs
  · rw [if_pos m, if_pos m]
    by_cases e : i = j
    · subst e
      by_cases hv : i < σ.length
      · rw [List.getElem?_set_self hv, List.getElem?_eq_getElem hv]; rfl
      · rw [List.getElem?_eq_none (by rw [List.length_set]; omega), List.getElem?_eq_none (by omega)]
    · rw [List.getElem?_set_ne e]
  · rw [if_neg m, if_neg m]
    have e : i ≠ j := fun e => m (e ▸ hi)
    rw [List.getElem?_set_ne e]
/-! targets -/
def gNames : List Nat → TGs
  | [] => gNil
  | i :: is => gCons (gName i) (gNames is)
def tgG (K : KF) : Tg → TG
  | .var i => gName i
  | .tup is => gTup K is.length (gNames is)
def tgIdx : Tg → List Nat
  | .var i => [i]
  | .tup is => is
def setVs : L2.St → List Nat → List V → L2.St
  | σ, i :: is, v :: vs => setVs (σ.set i (some v)) is vs
  | σ, _, _ => σ
theorem setVs_wipe (ws : List Nat) : ∀ (is : List Nat) (vs : List V) (σ : L2.St), (∀ i ∈ is, i ∈ ws) → L2.wipe (setVs σ is vs) ws = L2.wipe σ ws
  | [], _, _, _ => rfl
  | _ :: _, [], _, _ => rfl
  | i :: is, v :: vs, σ, h => by
    unfold setVs
    rw [setVs_wipe ws is vs _ fun j hj => h j (List.mem_cons_of_mem _ hj), wipe_set _ _ _ _ (h i List.mem_cons_self)]
section
variable {K : KF} {q : Fe} {H0 : Hp} {g g0 g' : Gh} {H H' : Hp} {h h0 h' : AH}
theorem names_run : ∀ {is : List Nat} {xs : List PV} {vs : List V} {ρ ρ' : Env} {σ : L2.St} {Q : L2.St → Hp → Prop}, St K q g H h ρ σ → Reps K g H xs vs → setSlots ρ is xs = some ρ' →
    (St K q g H h ρ' (setVs σ is vs) → Q (setVs σ is vs) H) → gNames is vs σ H Q
  | [], _, _, _, _, _, _, st, .nil, e, k => by cases e; exact ⟨rfl, k st⟩
  | [], _, _, _, _, _, _, st, .cons _ _, e, k => by cases e
  | i :: is, _, _, _, _, _, _, st, .nil, e, k => by cases e
  | i :: is, _, _, _, _, _, _, st, .cons r rs, e, k => ⟨_, _, rfl, names_run (st.setV r) rs e k⟩
def tgSet (t : Tg) (x : PV) (v : V) (vs : List V) (σ : L2.St) : L2.St := match t with
  | .var i => σ.set i (some v)
  | .tup is => setVs σ is vs
theorem NoD.setVs {D : Addr} : ∀ {is : List Nat} {xs : List PV} {vs : List V} {ρ ρ' : Env} {σ : L2.St}, NoD ρ σ D → vs.length = xs.length → setSlots ρ is xs = some ρ' → NoD ρ' (setVs σ is vs) D
  | [], [], vs, _, _, _, n, _, e => by cases e; exact n
  | [], _ :: _, _, _, _, _, _, _, e => by cases e
  | _ :: _, [], _, _, _, _, _, _, e => by cases e
  | i :: is, x :: xs, [], _, _, _, _, hl, e => by cases hl
  | i :: is, x :: xs, v :: vs, _, _, _, n, hl, e => NoD.setVs (is := is) (xs := xs) (vs := vs) n.setV (Nat.succ.inj hl) e
/-- a target takes a shared value -/
theorem tg_run {t : Tg} {x : PV} {v : V} {ρ ρ' : Env} {σ : L2.St} {Q : L2.St → Hp → Prop} (st : St K q g H h ρ σ) (r : Rep K g H x v) (e : bindTg t x ρ = some ρ')
    (k : ∀ σ', St K q g H h ρ' σ' → (∀ ws, (∀ i ∈ tgIdx t, i ∈ ws) → L2.wipe σ' ws = L2.wipe σ ws) → (∀ D, NoD ρ σ D → NoD ρ' σ' D) → Q σ' H) : tgG K t v σ H Q := by
  cases t with
  | var i =>
    have e' : some (setSlot ρ i (some (.v x))) = some ρ' := e
    cases e'
    exact k _ (st.setV r) (fun ws hw => wipe_set _ _ _ _ (hw i (by simp [tgIdx]))) fun D n => n.setV
  | tup is =>
    cases r with
    | tup f r1 =>
      rename_i xs vs a
      have e' : setSlots ρ is xs = some ρ' := e
      have hl : ∀ {is : List Nat} {xs : List PV} {ρ : Env}, setSlots ρ is xs = some ρ' → xs.length = is.length := by
        intro is
        induction is with
        | nil =>
          intro xs ρ e
          cases xs with
          | nil => rfl
          | cons _ _ => cases e
        | cons i is ih =>
          intro xs ρ e
          cases xs with
          | nil => cases e
          | cons y ys => rw [List.length_cons, List.length_cons, ih (xs := ys) e]
      exact ⟨a, vs, rfl, f.sq, by rw [r1.length]; exact hl e', names_run st r1 e' fun s => k _ s (fun ws hw => setVs_wipe ws is vs σ hw) fun D n => n.setVs r1.length e'⟩
    | _ => cases e
end
end WT
end
section
set_option Elab.async false
set_option linter.all false
set_option maxRecDepth 100000
set_option maxHeartbeats 4000000
/-! List comprehensions. -/
namespace WT
open PySem PySem.Spec PyProof.Rows L2
section
variable {K : KF} {q : Fe} {H0 : Hp} {g g0 g1 g' : Gh} {H H1 H' : Hp} {h h0 h1 h' : AH} {ρ : Env} {σ : L2.St} {D : Addr}
/-- D, a list that is being built, and nobody else's -/
structure Bld (g : Gh) (H : Hp) (D : Addr) (vs : List V) : Prop where
  at_ : H D = some (.lst vs)
  nf : ¬ g.F D
  nl : D ∉ g.L
theorem ne_nf {vs : List V} {a : Addr} (b : Bld g H D vs) (h : g.F a) : a ≠ D := fun e => b.nf (e ▸ h)
theorem ne_nl {vs : List V} {a : Addr} (b : Bld g H D vs) (h : a ∈ g.L) : a ≠ D := fun e => b.nl (e ▸ h)
theorem ite_f {P Q : Prop} (h : Q) : if false = true then P else Q := by
  rw [if_neg Bool.false_ne_true]
  exact h
theorem ite_t {P Q : Prop} (h : P) : if true = true then P else Q := by
  rw [if_pos rfl]
  exact h
theorem Bld.ext {vs : List V} (b : Bld g H D vs) (e : Ext g H g' H') : Bld g' H' D vs :=
  ⟨e.hk D _ b.at_ b.nl, fun z => by
    rcases e.fn D z with z | z | z
    · exact b.nf z
    · rw [b.at_] at z; cases z
    · exact b.nl z, fun z => by
    rcases e.ln D z with z | z
    · exact b.nl z
    · rw [b.at_] at z; cases z⟩
theorem Bld.mon {vs : List V} {o : HO} (b : Bld g H D vs) : Mon g H g (upd H D o) :=
  ⟨fun _ z => z, fun a u z1 z2 => by rw [upd_ne (ne_nf b z1)]; exact z2, fun _ _ z => z⟩
theorem Ext.upd {o : HO} (e : Ext g1 H1 g H) (hD : H1 D = none) : Ext g1 H1 g (upd H D o) :=
  ⟨e.fm, e.fn, e.lm, e.ln, fun a u z n => by rw [upd_ne (ne_of_none z hD)]; exact e.hk a u z n, fun a z => by
    by_cases c : a = D
    · subst c; exact absurd hD z
    · rw [upd_ne c]; exact e.hs a z⟩
theorem Hs.upd {vs : List V} {o : HO} (s : Hs K g H h) (b : Bld g H D vs) : Hs K g (upd H D o) h where
  len := s.len
  nd := s.nd
  nf := s.nf
  tr := fun a m => by rw [upd_ne (ne_nl b m)]; exact s.tr a m
  fd := fun a m => by rw [upd_ne (ne_nf b m)]; exact s.fd a m
  ob := fun n u a h1 h2 => (s.ob n u a h1 h2).mono b.mon fun w hw => by
    have m : a ∈ g.L := List.mem_of_getElem? h2
    rw [upd_ne (ne_nl b m)]; exact hw
theorem St.noD (st1 : St K q g1 H1 h1 ρ σ) (hD : H1 D = none) : NoD ρ σ D := fun i c xs hr e => by
  obtain ⟨w, k5, k6⟩ := st1.sl i _ hr
  rw [e] at k5
  cases k5
  obtain ⟨a', ea, ⟨ws, k7, _⟩, _⟩ := k6
  cases ea
  rw [hD] at k7
  cases k7
theorem St.updD {vs : List V} {o : HO} (st : St K q g H h ρ σ) (n : NoD ρ σ D) (hD : q.H D = none) (b : Bld g H D vs) : St K q g (upd H D o) h ρ σ where
  hs := st.hs.upd b
  ex := st.ex.upd hD
  len := st.len
  sl := fun i r hr => by
    obtain ⟨v, k1, k2⟩ := st.sl i r hr
    refine ⟨v, k1, ?_⟩
    cases r with
    | v y => exact Rep.mono b.mon k2
    | L c xs =>
      obtain ⟨a, rfl, ⟨us, k3, k4⟩, m1, m2, m3⟩ := k2
      refine ⟨a, rfl, ⟨us, ?_, k4.mono b.mon⟩, m1, m2, m3⟩
      rw [upd_ne fun e => ?_]
      · exact k3
      · subst e
        exact n i c xs hr k1
    | D c ks vs => exact k2
  ow := st.ow
/-- a turn's yield in the states -/
theorem yl_run {e : PV} {x : V} (y : Yl K g H H' e x) (st : St K q g H h ρ σ) : ∃ g', Ext g H g' H' ∧ Hs K g' H' h ∧ Rep K g' H' e x := by
  rcases y with ⟨rfl, r⟩ | ⟨p, ys, vs, hp, rfl, rfl, rfl, r⟩
  · exact ⟨g, Ext.refl g _, st.hs, r⟩
  · exact ⟨g.add p, Ext.newF hp, st.hs.newF hp, rep_newT st.hs hp r⟩
end
theorem loop_cons {α : Type} {step : PV → AH → α → Out α} {xs : List PV} {i : Nat} {e : PV} {h h' : AH} {a b : α} (hi : xs[i]? = some e) (w : loopL step (xs.drop i) h a = .ok b h') :
    ∃ a1 h1, step e h a = .ok a1 h1 ∧ loopL step (xs.drop (i + 1)) h1 a1 = .ok b h' := by
  obtain ⟨hl, he⟩ := List.getElem?_eq_some_iff.mp hi
  rw [List.drop_eq_getElem_cons hl, he] at w
  exact bind_ok w
theorem loop_end {α : Type} {step : PV → AH → α → Out α} {xs : List PV} {h h' : AH} {a b : α} (w : loopL step (xs.drop xs.length) h a = .ok b h') : b = a ∧ h' = h := by
  rw [List.drop_length] at w
  cases w
  exact ⟨rfl, rfl⟩
section
variable {K : KF} {q : Fe} {g g1 : Gh} {H H1 : Hp} {h h1 h' : AH} {ρ : Env} {σ : L2.St} {D : Addr}
theorem turn_ok {own : List Nat} {t : Tg} {fc : Env → AH → Out Bool} {fg : FG} {ρ : Env} {x : PV} {h h' : AH} {acc b : List PV} (w : turnF own t fc fg ρ x h acc = .ok b h') :
    ∃ ρ' k h1, bindTg t x (WT.wipe ρ own) = some ρ' ∧ fc ρ' h = .ok k h1 ∧ (if k then fg ρ' h1 acc else .ok acc h1) = .ok b h' := by
  unfold turnF at w
  cases c : bindTg t x (WT.wipe ρ own) with
  | none => rw [c] at w; cases w
  | some ρ' =>
    rw [c] at w
    obtain ⟨k, h1, e1, e2⟩ := bind_ok w
    exact ⟨ρ', k, h1, rfl, e1, e2⟩
/-- a state within a comprehension, behind H1 -/
structure In (K : KF) (q : Fe) (g1 : Gh) (H1 : Hp) (ρ : Env) (σ : L2.St) (D : Addr) (acc : List PV) (H : Hp) (h : AH) (g : Gh) : Prop where
  ex : Ext g1 H1 g H
  st : St K q g H h ρ σ
  bl : ∃ vs, Bld g H D vs ∧ Reps K g H acc vs
/-- the item is put to the list -/
theorem app_run {fe : FE} {acc b : List PV} {ρ2 : Env} {σ2 : L2.St} {Nx : Hp → Prop} (hD : H1 D = none) (st1 : St K q g1 H1 h1 ρ σ) (i : In K q g1 H1 ρ σ D acc H h g) (st2 : St K q g H h ρ2 σ2) (w : appF fe ρ2 h acc = .ok b h')
    (k : ∀ g' H', In K q g1 H1 ρ σ D b H' h' g' → Nx H') : tO K fe σ2 H fun y H4 => ∃ av, H4 D = some (.lst av) ∧ av.length < sizeLine ∧ Nx (upd H4 D (.lst (av ++ [y]))) := by
  obtain ⟨r, h2, e1, e2⟩ := bind_ok w
  refine ⟨q, g, h, ρ2, st2, r, h2, e1, fun g5 H5 v x5 s5 r5 => ?_⟩
  cases c : r.toPV with
  | none => rw [c] at e2; cases e2
  | some y =>
    rw [c] at e2
    have e3 : (if acc.length < SZ then Out.ok (acc ++ [y]) h2 else .bad) = .ok b h' := e2
    split at e3
    · rename_i hz
      cases e3
      obtain ⟨g6, x6, s6, m6, l6, r6⟩ := share1 st2 (r5.fz c) s5 x5
      obtain ⟨vs, b1, ra⟩ := i.bl
      have b6 := b1.ext x6
      have ra6 := ra.mono (x6.mon i.st.hs)
      refine ⟨vs, b6.at_, by rw [ra.length, ← SZ_eq]; exact hz, k g6 _ ⟨(i.ex.trans x6).upd hD, ?_, vs ++ [v], ⟨upd_same, b6.nf, b6.nl⟩, (ra6.append (.cons r6 .nil)).mono b6.mon⟩⟩
      have so := i.st.to x6 s6.hs
      exact so.updD (st1.noD hD) (st1.ex.free hD) b6
    · cases e3
theorem lc_use {own : List Nat} {t : Tg} {fi : Bool → FI} {fc : Env → AH → Out Bool} {fe : FE} {Q : VK} (ht : ∀ i ∈ tgIdx t, i ∈ own) (w : tO K (lcF (genF own t (fi true) fc (appF fe))) σ H Q) :
    tLc (tI K true (fi true)) (tgG K t) (tOb K fc) (tO K fe) own σ H Q := by
  obtain ⟨q, g, h, ρ, st, r, h', e, k⟩ := w
  obtain ⟨acc, h2, e1, e⟩ := bind_ok e
  cases e
  obtain ⟨xs, h1, e2, e1⟩ := bind_ok e1
  refine ⟨q, g, h, ρ, st, xs, h1, e2, fun g1 H1 J x1 s1 sv D hD => ?_⟩
  refine ⟨fun i m H2 => m = xs.length - i ∧ i ≤ xs.length ∧ ∃ g2 h2 acc2, In K q g1 H1 ρ σ D acc2 H2 h2 g2 ∧ loopL (turnF own t fc (appF fe) ρ) (xs.drop i) h2 acc2 = .ok acc h', ⟨xs.length, by simp, Nat.zero_le _, g1, h1, [], ⟨Ext.new hD, s1.to (Ext.new hD) (s1.hs.new hD), [], ⟨upd_same, fun z => s1.hs.fd D z hD, fun z => s1.hs.tr D z hD⟩, .nil⟩, e1⟩, ?_⟩
  rintro i m H2 ⟨rfl, hi, g2, h2, acc2, I, lp⟩
  have sv2 := sv g2 H2 ⟨I.ex.mon s1.hs, fun _ => I.ex⟩
  by_cases hlt : i < xs.length
  · refine .inr ⟨sv2.go i hlt, fun H' => ∃ g2 h2 acc2, In K q g1 H1 ρ σ D acc2 H' h2 g2 ∧ loopL (turnF own t fc (appF fe) ρ) (xs.drop (i + 1)) h2 acc2 = .ok acc h', fun H' w => ⟨xs.length - (i + 1), by omega, rfl, hlt, w⟩, fun x H' y => ?_⟩
    obtain ⟨e, he, y⟩ := sv2.yld i x H' y hlt
    obtain ⟨g3, x3, s3, r3⟩ := yl_run y I.st
    obtain ⟨a1, h3, e3, lp2⟩ := loop_cons he lp
    obtain ⟨ρ', b, h4, eb, ec, ed⟩ := turn_ok e3
    have st3 := I.st.to x3 s3
    obtain ⟨vs, bl, ra⟩ := I.bl
    have I3 : In K q g1 H1 ρ σ D acc2 H' h2 g3 := ⟨I.ex.trans x3, st3, vs, bl.ext x3, ra.mono (x3.mon I.st.hs)⟩
    refine tg_run (st3.wipe own) r3 eb fun σ' st' hw hn => ⟨(hw own ht).trans (wipe_wipe σ own own fun _ z => z), ?_⟩
    refine ⟨q, g3, h2, ρ', st', b, h4, ec, fun g4 H4 x4 s4 => ?_⟩
    have I4 : In K q g1 H1 ρ σ D acc2 H4 h4 g4 := ⟨I3.ex.trans x4, st3.to x4 s4.hs, vs, (bl.ext x3).ext x4, (ra.mono (x3.mon I.st.hs)).mono (x4.mon s3)⟩
    cases b with
    | false =>
      cases ed
      exact ite_f ⟨g4, _, acc2, I4, lp2⟩
    | true =>
      refine ite_t ?_
      exact app_run (Nx := fun H' => ∃ g2 h2 acc2, In K q g1 H1 ρ σ D acc2 H' h2 g2 ∧ loopL (turnF own t fc (appF fe) ρ) (xs.drop (i + 1)) h2 acc2 = .ok acc h') hD s1 I4 s4 ed fun g5 H5 I5 => ⟨g5, _, _, I5, lp2⟩
  · have ei : i = xs.length := by omega
    subst ei
    obtain ⟨rfl, rfl⟩ := loop_end lp
    obtain ⟨vs, bl, ra⟩ := I.bl
    exact .inl ⟨sv2.stop, k g2 H2 _ (x1.trans I.ex) I.st ⟨D, rfl, ⟨vs, bl.at_, ra⟩, bl.nf, bl.nl, x1.free hD⟩⟩
theorem lc2_use {own own1 : List Nat} {t t1 : Tg} {fi fi1 : Bool → FI} {fc fc1 : Env → AH → Out Bool} {fe : FE} {Q : VK} (ht : ∀ i ∈ tgIdx t, i ∈ own) (ht1 : ∀ i ∈ tgIdx t1, i ∈ own1) (hs : ∀ i ∈ own1, i ∈ own) (w : tO K (lcF (genF own t (fi true) fc (genF own1 t1 (fi1 false) fc1 (appF fe)))) σ H Q) :
    tLc2 (tI K true (fi true)) (tgG K t) (tOb K fc) (tI K false (fi1 false)) (tgG K t1) (tOb K fc1) (tO K fe) own own1 σ H Q := by
  obtain ⟨q, g, h, ρ, st, r, h', e, k⟩ := w
  obtain ⟨acc, h2, e1, e⟩ := bind_ok e
  cases e
  obtain ⟨xs, h1, e2, e1⟩ := bind_ok e1
  refine ⟨q, g, h, ρ, st, xs, h1, e2, fun g1 H1 J x1 s1 sv D hD => ?_⟩
  refine ⟨fun i m H2 => m = xs.length - i ∧ i ≤ xs.length ∧ ∃ g2 h2 acc2, In K q g1 H1 ρ σ D acc2 H2 h2 g2 ∧ loopL (turnF own t fc (genF own1 t1 (fi1 false) fc1 (appF fe)) ρ) (xs.drop i) h2 acc2 = .ok acc h', ⟨xs.length, by simp, Nat.zero_le _, g1, h1, [], ⟨Ext.new hD, s1.to (Ext.new hD) (s1.hs.new hD), [], ⟨upd_same, fun z => s1.hs.fd D z hD, fun z => s1.hs.tr D z hD⟩, .nil⟩, e1⟩, ?_⟩
  rintro i m H2 ⟨rfl, hi, g2, h2, acc2, I, lp⟩
  have sv2 := sv g2 H2 ⟨I.ex.mon s1.hs, fun _ => I.ex⟩
  by_cases hlt : i < xs.length
  · refine .inr ⟨sv2.go i hlt, fun H' => ∃ g2 h2 acc2, In K q g1 H1 ρ σ D acc2 H' h2 g2 ∧ loopL (turnF own t fc (genF own1 t1 (fi1 false) fc1 (appF fe)) ρ) (xs.drop (i + 1)) h2 acc2 = .ok acc h', fun H' w => ⟨xs.length - (i + 1), by omega, rfl, hlt, w⟩, fun x H' y => ?_⟩
    obtain ⟨e, he, y⟩ := sv2.yld i x H' y hlt
    obtain ⟨g3, x3, s3, r3⟩ := yl_run y I.st
    obtain ⟨a1, h3, e3, lp2⟩ := loop_cons he lp
    obtain ⟨ρ', b, h4, eb, ec, ed⟩ := turn_ok e3
    have st3 := I.st.to x3 s3
    obtain ⟨vs, bl, ra⟩ := I.bl
    have I3 : In K q g1 H1 ρ σ D acc2 H' h2 g3 := ⟨I.ex.trans x3, st3, vs, bl.ext x3, ra.mono (x3.mon I.st.hs)⟩
    refine tg_run (st3.wipe own) r3 eb fun σ' st' hw hn => ⟨(hw own ht).trans (wipe_wipe σ own own fun _ z => z), ?_⟩
    have nD : NoD ρ' σ' D := hn D ((s1.noD hD).wipe own)
    refine ⟨q, g3, h2, ρ', st', b, h4, ec, fun g4 H4 x4 s4 => ?_⟩
    have I4 : In K q g1 H1 ρ σ D acc2 H4 h4 g4 := ⟨I3.ex.trans x4, st3.to x4 s4.hs, vs, (bl.ext x3).ext x4, (ra.mono (x3.mon I.st.hs)).mono (x4.mon s3)⟩
    cases b with
    | false =>
      cases ed
      exact ite_f ⟨g4, _, acc2, I4, lp2⟩
    | true =>
      refine ite_t ?_
      obtain ⟨ys, h5, e5, lp3⟩ := bind_ok (show ((fi1 false) ρ' h4).bind (fun xs h => loopL (turnF own1 t1 fc1 (appF fe) ρ') xs h acc2) = .ok a1 h3 from ed)
      refine ⟨q, g4, h4, ρ', s4, ys, h5, e5, fun g6 H6 J1 x6 s6 sv6 => ?_⟩
      have I6 : In K q g1 H1 ρ σ D acc2 H6 h5 g6 := ⟨I4.ex.trans x6, I4.st.to x6 s6.hs, vs, ((bl.ext x3).ext x4).ext x6, ((ra.mono (x3.mon I.st.hs)).mono (x4.mon s3)).mono (x6.mon s4.hs)⟩
      refine ⟨fun j m H7 => m = ys.length - j ∧ j ≤ ys.length ∧ ∃ g7 h7 acc7, In K q g1 H1 ρ σ D acc7 H7 h7 g7 ∧ St K q g7 H7 h7 ρ' σ' ∧ Mon g6 H6 g7 H7 ∧ loopL (turnF own1 t1 fc1 (appF fe) ρ') (ys.drop j) h7 acc7 = .ok a1 h3, ⟨ys.length, by simp, Nat.zero_le _, g6, h5, acc2, I6, s6, ⟨fun _ z => z, fun _ _ _ z => z, fun _ _ z => z⟩, lp3⟩, ?_⟩
      rintro j m H7 ⟨rfl, hj, g7, h7, acc7, I7, s7, m7, lp7⟩
      have sv7 := sv6 g7 H7 ⟨m7, fun z => by cases z⟩
      by_cases hlt1 : j < ys.length
      · refine .inr ⟨sv7.go j hlt1, fun H' => ∃ g7 h7 acc7, In K q g1 H1 ρ σ D acc7 H' h7 g7 ∧ St K q g7 H' h7 ρ' σ' ∧ Mon g6 H6 g7 H' ∧ loopL (turnF own1 t1 fc1 (appF fe) ρ') (ys.drop (j + 1)) h7 acc7 = .ok a1 h3, fun H' w => ⟨ys.length - (j + 1), by omega, rfl, hlt1, w⟩, fun x8 H8 y8 => ?_⟩
        obtain ⟨e8, he8, y8⟩ := sv7.yld j x8 H8 y8 hlt1
        obtain ⟨g8, x8, s8, r8⟩ := yl_run y8 s7
        obtain ⟨a9, h9, e9, lp9⟩ := loop_cons he8 lp7
        obtain ⟨ρ9, b9, h10, eb9, ec9, ed9⟩ := turn_ok e9
        have st8 := s7.to x8 s8
        obtain ⟨vs7, bl7, ra7⟩ := I7.bl
        have I8 : In K q g1 H1 ρ σ D acc7 H8 h7 g8 := ⟨I7.ex.trans x8, I7.st.to x8 s8, vs7, bl7.ext x8, ra7.mono (x8.mon s7.hs)⟩
        refine tg_run (st8.wipe own1) r8 eb9 fun σ9 st9 hw9 _ => ⟨(hw9 own1 ht1).trans (wipe_wipe σ' own1 own1 fun _ z => z), ?_⟩
        refine ⟨q, g8, h7, ρ9, st9, b9, h10, ec9, fun g10 H10 x10 s10 => ?_⟩
        have I10 : In K q g1 H1 ρ σ D acc7 H10 h10 g10 := ⟨I8.ex.trans x10, I8.st.to x10 s10.hs, vs7, (bl7.ext x8).ext x10, (ra7.mono (x8.mon s7.hs)).mono (x10.mon s8)⟩
        have st10 := st8.to x10 s10.hs
        have m10 : Mon g6 H6 g10 H10 := by
          have a1 := x8.mon s7.hs
          have a2 := x10.mon s8
          exact ⟨fun a z => a2.f a (a1.f a (m7.f a z)), fun a o z1 z2 => a2.k a o (a1.f a (m7.f a z1)) (a1.k a o (m7.f a z1) (m7.k a o z1 z2)), fun n a z => a2.l n a (a1.l n a (m7.l n a z))⟩
        cases b9 with
        | false =>
          cases ed9
          exact ite_f ⟨g10, _, acc7, I10, st10, m10, lp9⟩
        | true =>
          refine ite_t ?_
          -- the item
          obtain ⟨r, h11, e11, e12⟩ := bind_ok (show (fe ρ9 h10).bind (fun r h => match r.toPV with | some y => if acc7.length < SZ then .ok (acc7 ++ [y]) h else .bad | none => .bad) = .ok a9 h9 from ed9)
          refine ⟨q, g10, h10, ρ9, s10, r, h11, e11, fun g12 H12 v x12 s12 r12 => ?_⟩
          cases c : r.toPV with
          | none => rw [c] at e12; cases e12
          | some y =>
            rw [c] at e12
            have e13 : (if acc7.length < SZ then Out.ok (acc7 ++ [y]) h11 else .bad) = .ok a9 h9 := e12
            split at e13
            · rename_i hz
              cases e13
              obtain ⟨g13, x13, s13, m13, l13, r13⟩ := share1 s10 (r12.fz c) s12 x12
              obtain ⟨vs10, b10, ra10⟩ := I10.bl
              have b13 := b10.ext x13
              have ra13 := ra10.mono (x13.mon I10.st.hs)
              have so := I10.st.to x13 s13.hs
              have so' := st10.to x13 s13.hs
              have m13' : Mon g6 H6 g13 (upd H12 D (.lst (vs10 ++ [v]))) := by
                have a1 := x13.mon s10.hs
                have a2 := b13.mon (o := .lst (vs10 ++ [v]))
                exact ⟨fun a z => a2.f a (a1.f a (m10.f a z)), fun a o z1 z2 => a2.k a o (a1.f a (m10.f a z1)) (a1.k a o (m10.f a z1) (m10.k a o z1 z2)), fun n a z => a2.l n a (a1.l n a (m10.l n a z))⟩
              exact ⟨vs10, b13.at_, by rw [ra10.length, ← SZ_eq]; exact hz, g13, _, _, ⟨(I10.ex.trans x13).upd hD, so.updD (s1.noD hD) (s1.ex.free hD) b13, vs10 ++ [v], ⟨upd_same, b13.nf, b13.nl⟩, (ra13.append (.cons r13 .nil)).mono b13.mon⟩, so'.updD nD (s1.ex.free hD) b13, m13', lp9⟩
            · cases e13
      · have ej : j = ys.length := by omega
        subst ej
        obtain ⟨rfl, rfl⟩ := loop_end lp7
        exact .inl ⟨sv7.stop, g7, _, _, I7, lp2⟩
  · have ei : i = xs.length := by omega
    subst ei
    obtain ⟨rfl, rfl⟩ := loop_end lp
    obtain ⟨vs, bl, ra⟩ := I.bl
    exact .inl ⟨sv2.stop, k g2 H2 _ (x1.trans I.ex) I.st ⟨D, rfl, ⟨vs, bl.at_, ra⟩, bl.nf, bl.nl, x1.free hD⟩⟩
end
/-! as expressions -/
def isLC : Expr → Bool
  | .ListComp _ _ _ _ => true
  | .SetComp _ _ _ _ => true
  | .DictComp _ _ _ _ _ => true
  | _ => false
/-- an expression; a comprehension: also as what is stored in the same line -/
structure SX (X : Cx) (pe : Expr) (f : FE) : Prop where
  s : SE X pe f
  sw : isLC pe = true → ∀ (i : Nat) (y : Str) (py spos : Pos), X.N[i]? = some y → X.env.scope.names.lookup y = some .local → swapsWith pe (some (.Name y py)) spos.line X.env = pure true → PS X (.Assign [.Name y py] pe spos) (tAsg (tO X.K f) (gName i))
theorem SX.of {X : Cx} {pe : Expr} {f : FE} (s : SE X pe f) (h : isLC pe = false := by rfl) : SX X pe f := ⟨s, fun e => by rw [h] at e; cases e⟩
theorem PTs.weak {X : Cx} {e : List Expr} {t t' : TT} (p : PTs X e t) (k : ∀ σ H Q, t' σ H Q → t σ H Q) : PTs X e t' := ⟨fun pins s σ H Q I h => p.run pins s σ H Q I (k σ H Q h)⟩
theorem PS.weak {X : Cx} {e : Stmt} {t t' : TS} (p : PS X e t) (k : ∀ D σ H, t' D σ H → t D σ H) : PS X e t' := ⟨fun pins s σ H D I h => p.run pins s σ H D I (k D σ H h)⟩
section
variable {X : Cx}
theorem c_nil : PTs X [] (tOb X.K yesF) := PTs.weak pts_nil fun σ H Q w => by
  obtain ⟨q, g, h, ρ, st, b, h', e, k⟩ := w
  cases e
  exact k g H (Ext.refl g H) st
theorem c_one {e : Expr} {fe : FE} (he : SE X e fe) : PTs X [e] (tOb X.K (truthE fe)) := pts_one he.t
theorem e_lc1 {elt tg iter : Expr} {ifs : List Expr} {scope : Scope} {own : List (Str × Nat)} {pos : Pos} {t : Tg} {fi : Bool → FI} {fc : Env → AH → Out Bool} {fe : FE} (hc : X.calm = true) (hN : X.N.Nodup) (hi : SI X tg iter fi) (ok : BlkOk X.N X.env.scope scope own) (hti : ∀ i ∈ tgIdx t, i ∈ own.map (·.2))
    (hg : ∀ (s : Shared) (H : Hp) (C : Addr) (cl : List (Str × Addr)) (fp : List Addr), PG (X.blk s H scope (compEnvC scope cl C X.env) fp) tg (tgG X.K t)) (ht : ∀ (s : Shared) (H : Hp) (C : Addr) (cl : List (Str × Addr)) (fp : List Addr), PTs (X.blk s H scope (compEnvC scope cl C X.env) fp) ifs (tOb X.K fc))
    (he : ∀ (s : Shared) (H : Hp) (C : Addr) (cl : List (Str × Addr)) (fp : List Addr), SE (X.blk s H scope (compEnvC scope cl C X.env) fp) elt fe) :
    SX X (.ListComp elt [⟨tg, iter, ifs, 0⟩] scope pos) (lcF (genF (own.map (·.2)) t (fi true) fc (appF fe))) :=
  ⟨.plain (PE.weak (pe_lc hc hN (hi.i true) ok hg ht (fun s H C cl fp => (he s H C cl fp).e) (plain_iter hi.px)) fun _ _ _ w => lc_use hti w) (fun _ => rfl) (fun _ _ _ e => nomatch e),
    fun _ i y py spos hy hyl hsw => PS.weak (ps_setLc hc hN hy hyl hsw (hi.i true) ok hg ht (fun s H C cl fp => (he s H C cl fp).e) (plain_iter hi.px)) fun D σ H w => lc_use hti w⟩
theorem e_lc2 {elt tg iter tg1 iter1 : Expr} {ifs ifs1 : List Expr} {scope : Scope} {own : List (Str × Nat)} {vs1 : List Nat} {pos : Pos} {t t1 : Tg} {fi fi1 : Bool → FI} {fc fc1 : Env → AH → Out Bool} {fe : FE} (hc : X.calm = true) (hN : X.N.Nodup) (hi : SI X tg iter fi) (ok : BlkOk X.N X.env.scope scope own)
    (hti : ∀ i ∈ tgIdx t, i ∈ own.map (·.2)) (hti1 : ∀ i ∈ tgIdx t1, i ∈ vs1) (hv : ∀ i ∈ vs1, i ∈ own.map (·.2))
    (hg : ∀ (s : Shared) (H : Hp) (C : Addr) (cl : List (Str × Addr)) (fp : List Addr), PG (X.blk s H scope (compEnvC scope cl C X.env) fp) tg (tgG X.K t)) (ht : ∀ (s : Shared) (H : Hp) (C : Addr) (cl : List (Str × Addr)) (fp : List Addr), PTs (X.blk s H scope (compEnvC scope cl C X.env) fp) ifs (tOb X.K fc))
    (hi1 : ∀ (s : Shared) (H : Hp) (C : Addr) (cl : List (Str × Addr)) (fp : List Addr), SI (X.blk s H scope (compEnvC scope cl C X.env) fp) tg1 iter1 fi1)
    (hg1 : ∀ (s : Shared) (H : Hp) (C : Addr) (cl : List (Str × Addr)) (fp : List Addr), PG (X.blk s H scope (compEnvC scope cl C X.env) fp) tg1 (tgG X.K t1)) (ht1 : ∀ (s : Shared) (H : Hp) (C : Addr) (cl : List (Str × Addr)) (fp : List Addr), PTs (X.blk s H scope (compEnvC scope cl C X.env) fp) ifs1 (tOb X.K fc1))
    (he : ∀ (s : Shared) (H : Hp) (C : Addr) (cl : List (Str × Addr)) (fp : List Addr), SE (X.blk s H scope (compEnvC scope cl C X.env) fp) elt fe) (hp1 : plainX iter1 = true) :
    SX X (.ListComp elt [⟨tg, iter, ifs, 0⟩, ⟨tg1, iter1, ifs1, 0⟩] scope pos) (lcF (genF (own.map (·.2)) t (fi true) fc (genF vs1 t1 (fi1 false) fc1 (appF fe)))) :=
  ⟨.plain (PE.weak (pe_lc2 hc hN (hi.i true) ok hv hg ht (fun s H C cl fp => (hi1 s H C cl fp).i false) hg1 ht1 (fun s H C cl fp => (he s H C cl fp).e) (plain_iter hi.px) (fun env => plain_iter hp1)) fun _ _ _ w => lc2_use hti hti1 hv w) (fun _ => rfl) (fun _ _ _ e => nomatch e),
    fun _ i y py spos hy hyl hsw => PS.weak (ps_setLc2 hc hN hy hyl hsw (hi.i true) ok hv hg ht (fun s H C cl fp => (hi1 s H C cl fp).i false) hg1 ht1 (fun s H C cl fp => (he s H C cl fp).e) (plain_iter hi.px) (fun env => plain_iter hp1)) fun D σ H w => lc2_use hti hti1 hv w⟩
end
end WT
end
section
set_option Elab.async false
set_option linter.all false
set_option maxRecDepth 100000
set_option maxHeartbeats 4000000
/-! What a call binds. -/
namespace WT
open PySem PySem.Spec PyProof.Rows L2
theorem look_none {α : Type} : ∀ {l : List (Str × α)} {k : Str}, k ∉ l.map (·.1) → l.lookup k = none
  | [], _, _ => rfl
  | (a, v) :: r, k, h => by
    rw [List.map_cons, List.mem_cons, not_or] at h
    rw [List.lookup_cons]
    have e : (k == a) = false := beq_false_of_ne h.1
    rw [e]
    exact look_none h.2
theorem look_zip {α : Type} : ∀ {ns : List Str} {xs : List α} {i : Nat} {k : Str} {x : α}, ns.Nodup → ns[i]? = some k → xs[i]? = some x → (ns.zip xs).lookup k = some x
  | [], _, _, _, _, _, h, _ => by simp at h
  | _ :: _, [], _, _, _, _, _, h => by simp at h
  | n :: ns, y :: xs, 0, k, x, nd, h1, h2 => by
    simp at h1 h2
    subst h1; subst h2
    simp
  | n :: ns, y :: xs, i + 1, k, x, nd, h1, h2 => by
    have h1 : ns[i]? = some k := by simpa using h1
    have h2 : xs[i]? = some x := by simpa using h2
    have hm : k ≠ n := fun e => (List.nodup_cons.mp nd).1 (e ▸ List.mem_of_getElem? h1)
    rw [List.zip_cons_cons, List.lookup_cons, show (k == n) = false from beq_false_of_ne hm]
    exact look_zip (List.nodup_cons.mp nd).2 h1 h2
theorem kwl {normal : List Str} (f : (Str × Value) → (List (Str × Value) × List (Str × Value)) → Sem (ForInStep (List (Str × Value) × List (Str × Value))))
    (hf : ∀ k v slots, normal.contains k = true → slots.lookup k = none → f (k, v) (slots, []) = pure (.yield (slots ++ [(k, v)], []))) :
    ∀ (kw slots : List (Str × Value)), (∀ p ∈ kw, p.1 ∈ normal) → ((slots ++ kw).map (·.1)).Nodup → forIn kw (slots, []) f = pure (slots ++ kw, [])
  | [], slots, _, _ => by rw [List.forIn_nil, List.append_nil]
  | (k, v) :: kw, slots, h1, h2 => by
    have hk : k ∉ slots.map (·.1) := fun hm => by
      rw [List.map_append, List.map_cons, List.nodup_append] at h2
      exact h2.2.2 _ hm _ List.mem_cons_self rfl
    rw [List.forIn_cons, hf k v slots (List.contains_iff_mem.mpr (h1 _ List.mem_cons_self)) (look_none hk)]
    show forIn kw (slots ++ [(k, v)], []) f = _
    rw [kwl f hf kw (slots ++ [(k, v)]) (fun p hp => h1 p (List.mem_cons_of_mem _ hp)) (by rw [List.append_assoc]; exact h2), List.append_assoc]
    rfl
/-- a def's parameters: names alone -/
def plainP (p : Arguments) (ps : List Str) : Bool := p.posonlyargs.isEmpty && p.kwonlyargs.isEmpty && p.vararg.isNone && p.kwarg.isNone && decide (p.args.map (·.arg) = ps)
theorem bind_all {fd : FuncData} {ps : List Str} (hp : plainP fd.params ps = true) (hd : fd.defaults = .none)
    {us : List Value} {kw : List (Str × Value)} (hl : us.length ≤ ps.length) (h1 : ∀ p ∈ kw, p.1 ∈ ps) (h2 : ((ps.zip us ++ kw).map (·.1)).Nodup) (h3 : ∀ p ∈ ps, (ps.zip us ++ kw).lookup p ≠ none) :
    bindArgs fd ⟨us, kw⟩ = pure (ps.filterMap fun n => ((ps.zip us ++ kw).lookup n).map (n, ·)) := by
  obtain ⟨name, qual, ⟨posonly, args, vararg, kwonly, kwd, kwarg, defs⟩, body, scope, glob, clos, dfl, kwdf, doc, pm, an, code, ct, bt⟩ := fd
  unfold plainP at hp
  simp only [Bool.and_eq_true, List.isEmpty_iff, Option.isNone_iff_eq_none, decide_eq_true_eq] at hp
  obtain ⟨⟨⟨⟨rfl, rfl⟩, rfl⟩, rfl⟩, hp⟩ := hp
  simp only at hd
  subst hd
  unfold bindArgs
  dsimp only
  rw [hp]
  simp only [List.map_nil, List.nil_append]
  rw [kwl (normal := ps) _ (fun k v slots c l => by
    simp only [c, Bool.true_or, if_true, l, Option.isSome_none, Bool.false_eq_true, if_false]) kw (ps.zip us) h1 h2]
  have e1 : ¬ ((decide (us.length > ps.length) && (none : Option Arg).isNone) = true) := by simp; omega
  have e2 : ps.filter (fun n => ((ps.zip us ++ kw).lookup n).isNone) = [] := by
    rw [List.filter_eq_nil_iff]
    intro p hp
    have := h3 p hp
    cases c : (ps.zip us ++ kw).lookup p with
    | none => exact absurd c this
    | some v => simp
  have e0 : seqItems? Value.none = pure none := rfl
  have e3 : ¬ ps.length < us.length := by omega
  simp [e0, e1, e2, e3]
  trace_state
theorem permute_cons {α : Type} {xs : List α} {p : Nat} {ps : List Nat} {ys : List α} (e : permute xs (p :: ps) = some ys) : ∃ x q, xs[p]? = some x ∧ permute xs ps = some q ∧ ys = x :: q := by
  have e' : (match xs[p]?, permute xs ps with | some r, some q => some (r :: q) | _, _ => none) = some ys := e
  cases c : xs[p]? with
  | none => rw [c] at e'; cases e'
  | some r =>
    cases d : permute xs ps with
    | none => rw [c, d] at e'; cases e'
    | some q =>
      rw [c, d] at e'
      cases e'
      exact ⟨r, q, rfl, rfl, rfl⟩
theorem permute_get {α : Type} {xs : List α} : ∀ {is : List Nat} {ys : List α}, permute xs is = some ys → ys.length = is.length ∧ ∀ (j i : Nat), is[j]? = some i → ∃ x, xs[i]? = some x ∧ ys[j]? = some x
  | [], ys, e => by cases e; exact ⟨rfl, fun j i h => by simp at h⟩
  | p :: ps, ys, e => by
    have e' : (match xs[p]?, permute xs ps with | some r, some q => some (r :: q) | _, _ => none) = some ys := e
    cases c : xs[p]? with
    | none => rw [c] at e'; cases e'
    | some r =>
      cases d : permute xs ps with
      | none => rw [c, d] at e'; cases e'
      | some q =>
        rw [c, d] at e'
        cases e'
        obtain ⟨h1, h2⟩ := permute_get d
        refine ⟨by rw [List.length_cons, List.length_cons, h1], fun j i h => ?_⟩
        cases j with
        | zero => simp at h; subst h; exact ⟨r, c, by simp⟩
        | succ j => obtain ⟨x, h3, h4⟩ := h2 j i (by simpa using h); exact ⟨x, h3, by simpa using h4⟩
theorem permute_some {α : Type} {xs : List α} : ∀ {is : List Nat}, (∀ i ∈ is, i < xs.length) → ∃ ys, permute xs is = some ys
  | [], _ => ⟨[], rfl⟩
  | p :: ps, h => by
    obtain ⟨q, d⟩ := permute_some (xs := xs) (is := ps) fun i hi => h i (List.mem_cons_of_mem _ hi)
    refine ⟨xs[p]'(h p List.mem_cons_self) :: q, ?_⟩
    show (match xs[p]?, permute xs ps with | some r, some q => some (r :: q) | _, _ => none) = _
    rw [List.getElem?_eq_getElem (h p List.mem_cons_self), d]
/-- the permutation of the arguments is the binder's: n positional ones, the keywords ks -/
def permB (ps : List Str) (n : Nat) (ks : List Str) (is : List Nat) : Bool :=
  decide (is.length = ps.length) && decide (n ≤ ps.length) && (is.all fun i => decide (i < n + ks.length)) && decide ((ps.take n ++ ks).Nodup) && (ks.all fun k => decide (k ∈ ps)) && ((List.range ps.length).all fun j => decide ((is[j]?.bind fun i => (ps.take n ++ ks)[i]?) = ps[j]?))
theorem zip_fst {α β : Type} : ∀ (l : List α) (m : List β), (l.zip m).map (·.1) = l.take m.length
  | [], m => by simp
  | _ :: _, [] => by simp
  | a :: l, b :: m => by
    rw [List.zip_cons_cons, List.map_cons, zip_fst l m]
    rfl
theorem zip_take {α β : Type} : ∀ (l : List α) (m : List β), l.zip m = (l.take m.length).zip m
  | [], m => by simp
  | _ :: _, [] => by simp
  | a :: l, b :: m => by
    rw [List.zip_cons_cons, List.length_cons, List.take_succ_cons, List.zip_cons_cons, zip_take l m]
theorem fm_zip {f : Str → Option (Str × Value)} : ∀ {ps : List Str} {us : List Value}, us.length = ps.length → (∀ (j : Nat) (p : Str) (u : Value), ps[j]? = some p → us[j]? = some u → f p = some (p, u)) → ps.filterMap f = ps.zip us
  | [], [], _, _ => rfl
  | [], _ :: _, h, _ => by cases h
  | _ :: _, [], h, _ => by cases h
  | p :: ps, u :: us, h, k => by
    rw [List.filterMap_cons, k 0 p u rfl rfl, List.zip_cons_cons, fm_zip (Nat.succ.inj h) fun j q v h1 h2 => k (j + 1) q v (by simpa using h1) (by simpa using h2)]
theorem bind_perm {fd : FuncData} {ps ks : List Str} {is : List Nat} {us ws us' : List Value} (hp : plainP fd.params ps = true) (hd : fd.defaults = .none) (hb : permB ps us.length ks is = true) (hw : ws.length = ks.length)
    (e : permute (us ++ ws) is = some us') : bindArgs fd ⟨us, ks.zip ws⟩ = pure (ps.zip us') := by
  unfold permB at hb
  simp only [Bool.and_eq_true, decide_eq_true_eq, List.all_eq_true] at hb
  obtain ⟨⟨⟨⟨⟨b1, b2⟩, b3⟩, b4⟩, b5⟩, b6⟩ := hb
  obtain ⟨g1, g2⟩ := permute_get e
  have hz : ps.zip us ++ ks.zip ws = (ps.take us.length ++ ks).zip (us ++ ws) := by
    rw [zip_take ps us, List.zip_append (by rw [List.length_take]; omega)]
  have hn : (ps.zip us ++ ks.zip ws).map (·.1) = ps.take us.length ++ ks := by
    rw [List.map_append, zip_fst, zip_fst, hw, List.take_length]
  have look : ∀ (j : Nat) (p : Str) (u : Value), ps[j]? = some p → us'[j]? = some u → (ps.zip us ++ ks.zip ws).lookup p = some u := fun j p u h1 h2 => by
    have hj : j < ps.length := (List.getElem?_eq_some_iff.mp h1).1
    have h3 := b6 j (List.mem_range.mpr hj)
    rw [h1] at h3
    have hj2 : j < is.length := by omega
    rw [List.getElem?_eq_getElem hj2] at h3
    obtain ⟨x, h4, h5⟩ := g2 j _ (List.getElem?_eq_getElem hj2)
    rw [h2] at h5
    cases h5
    rw [hz]
    exact look_zip b4 h3 h4
  rw [bind_all hp hd b2 (fun p hp => ?_) (by rw [hn]; exact b4) fun p hp => ?_]
  · rw [fm_zip (ps := ps) (us := us') (by omega) fun j p u h1 h2 => by rw [look j p u h1 h2]; rfl]
  · exact b5 _ (List.of_mem_zip hp).1
  · obtain ⟨j, hj, ej⟩ := List.getElem_of_mem hp
    have h1 : ps[j]? = some p := by rw [List.getElem?_eq_getElem hj, ej]
    have hj' : j < us'.length := by omega
    rw [look j p _ h1 (List.getElem?_eq_getElem hj')]
    simp
theorem vals_perm {vs : List V} {us : List Value} (r : Vals vs us) : ∀ {is : List Nat} {vs' : List V} {us' : List Value}, permute vs is = some vs' → permute us is = some us' → Vals vs' us'
  | [], _, _, e1, e2 => by cases e1; cases e2; exact .nil
  | p :: ps, vs', us', e1, e2 => by
    obtain ⟨v, q, c, d, rfl⟩ := permute_cons e1
    obtain ⟨u, q2, c2, d2, rfl⟩ := permute_cons e2
    obtain ⟨u', hu, ru⟩ := r.get c
    rw [hu] at c2
    cases c2
    exact .cons ru (vals_perm r d d2)
theorem reps_perm {K : KF} {g : Gh} {H : Hp} {xs : List PV} {vs : List V} (r : Reps K g H xs vs) : ∀ {is : List Nat} {xs' : List PV} {vs' : List V}, permute xs is = some xs' → permute vs is = some vs' → Reps K g H xs' vs'
  | [], _, _, e1, e2 => by cases e1; cases e2; exact .nil
  | p :: ps, xs', vs', e1, e2 => by
    obtain ⟨v, q, c, d, rfl⟩ := permute_cons e1
    obtain ⟨u, q2, c2, d2, rfl⟩ := permute_cons e2
    obtain ⟨u', hu, ru⟩ := r.get c
    rw [hu] at c2
    cases c2
    exact .cons ru (reps_perm r d d2)
end WT
end
section
set_option Elab.async false
set_option linter.all false
set_option maxRecDepth 100000
set_option maxHeartbeats 4000000
/-! Calls of the text's defs. -/
namespace WT
open PySem PySem.Spec PyProof.Rows L2
/-- what a def gives back -/
def BRes (K : KF) (H0 : Hp) (g : Gh) (H : Hp) (r : RV) (v : V) : Prop := match r with
  | .v x => Rep K g H x v
  | .L false xs => ∃ a, v = .ref a ∧ HasL K g H a xs ∧ ¬ g.F a ∧ a ∉ g.L ∧ H0 a = none
  | _ => False
/-- a def's promise -/
def spF (K : KF) (cf : CF) (f : Nat) : Sp := fun vs H Q _ => ∃ g h xs r h', Hs K g H h ∧ Reps K g H xs vs ∧ cf f xs h = .ok r h' ∧ ∀ g' H' v, Ext g H g' H' → Hs K g' H' h' → BRes K H g' H' r v → Q v H'
structure Callee (X : Cx) (cf : CF) (f : Nat) (x : Str) (ps : List Str) : Prop where
  ex : ∃ (k : Nat) (a : Addr) (fd : FuncData), FnOk X.prog X.w X.K X.mg X.base CX0 k a fd ps (spF X.K cf f) ∧ Room k X.A ∧ X.mg x = some (.ref a) ∧ PySem.W.keepIn X.K (.ref a) = true ∧ plainP fd.params ps = true ∧ fd.defaults = .none
structure SK (X : Cx) (kws : List Keyword) (ks : List Str) (f : FEs) : Prop where
  p : PK X kws (tOs X.K f)
  al : ∀ pos, (backToKw pos (keywordEach kws X.env)).all (·.1.isSome) = true
  nm : ∀ pos, (backToKw pos (keywordEach kws X.env)).filterMap (·.1) = ks
  an : ∀ pos, (backToKw pos (keywordEach kws X.env)).any (·.1.isNone) = false
  len : ∀ ρ h rs h', f ρ h = .ok rs h' → rs.length = ks.length
theorem PK.weak {X : Cx} {e : List Keyword} {t t' : TA} (p : PK X e t) (k : ∀ σ H Q, t' σ H Q → t σ H Q) : PK X e t' := ⟨fun pos pins s σ H Q I h => p.run pos pins s σ H Q I (k σ H Q h)⟩
theorem SK.nil {X : Cx} : SK X [] [] nilF := ⟨PK.weak pk_nil fun _ _ _ w => nil_use w, fun _ => rfl, fun _ => rfl, fun _ => rfl, fun _ _ _ _ e => by cases e; rfl⟩
theorem SK.cons {X : Cx} {e : Expr} {n : Str} {kp : Pos} {kws : List Keyword} {ks : List Str} {fe : FE} {fs : FEs} (he : SE X e fe) (hs : SK X kws ks fs) : SK X (⟨some n, e, kp⟩ :: kws) (n :: ks) (consF fe fs) :=
  ⟨PK.weak (pk_cons he.e hs.p) fun _ _ _ w => cons_use w, fun pos => by
    show (true && (backToKw pos (keywordEach kws X.env)).all (·.1.isSome)) = true
    rw [hs.al pos]; rfl, fun pos => by
    show n :: (backToKw pos (keywordEach kws X.env)).filterMap (·.1) = n :: ks
    rw [hs.nm pos], fun pos => by
    show (false || (backToKw pos (keywordEach kws X.env)).any (·.1.isNone)) = false
    rw [hs.an pos]; rfl, fun ρ h rs h' e => by
    obtain ⟨x, h1, e1, e⟩ := bind_ok e
    obtain ⟨ys, h2, e2, e⟩ := bind_ok e
    cases e
    rw [List.length_cons, List.length_cons, hs.len _ _ _ _ e2]⟩
def bothF (fs fk : FEs) : FEs := fun ρ h => (fs ρ h).bind fun rs h => (fk ρ h).bind fun zs h => .ok (rs ++ zs) h
def callF (cf : CF) (f : Nat) (is : List Nat) (fa : FEs) : FE := fun ρ h => (fa ρ h).bind fun rs h => match (toPVs rs).bind fun xs => permute xs is with
  | some xs => cf f xs h
  | none => .bad
/-- the call, by values -/
def tCallX (K : KF) (cf : CF) (f n m : Nat) (is : List Nat) (fs fk : FEs) : TE := fun σ H Q => tOs K fs σ H fun vs H1 => tOs K fk σ H1 fun zs H2 => vs.length = n ∧ zs.length = m ∧ ∃ ws, permute (vs ++ zs) is = some ws ∧ spF K cf f ws H2 Q E0
theorem toPVs_length : ∀ {rs : List RV} {xs : List PV}, toPVs rs = some xs → xs.length = rs.length
  | [], _, e => by cases e; rfl
  | r :: rs, xs, e => by
    have e' : (match r.toPV, toPVs rs with | some x, some xs => some (x :: xs) | _, _ => none) = some xs := e
    cases c : r.toPV with
    | none => rw [c] at e'; cases e'
    | some x =>
      cases d : toPVs rs with
      | none => rw [c, d] at e'; cases e'
      | some ys =>
        rw [c, d] at e'
        cases e'
        rw [List.length_cons, List.length_cons, toPVs_length d]
theorem Ress.append {K : KF} {H0 : Hp} {g : Gh} {H : Hp} {ρ : Env} {σ : L2.St} {rs ss : List RV} {vs zs : List V} (x : Ress K H0 g H ρ σ rs vs) (y : Ress K H0 g H ρ σ ss zs) : Ress K H0 g H ρ σ (rs ++ ss) (vs ++ zs) := by
  induction x with
  | nil => exact y
  | cons a _ ih => exact .cons a ih
section
variable {X : Cx}
theorem call_use {K : KF} {cf : CF} {f n m : Nat} {is : List Nat} {fs fk : FEs} {σ : L2.St} {H : Hp} {Q : VK} (hn : ∀ ρ h rs h', fs ρ h = .ok rs h' → rs.length = n) (hm : ∀ ρ h rs h', fk ρ h = .ok rs h' → rs.length = m)
    (w : tO K (callF cf f is (bothF fs fk)) σ H Q) : tCallX K cf f n m is fs fk σ H Q := by
  obtain ⟨q, g, h, ρ, st, r, h', e, k⟩ := w
  obtain ⟨rs, h3, e1, e⟩ := bind_ok e
  obtain ⟨xs, h1, e2, e1⟩ := bind_ok e1
  obtain ⟨ys, h2, e3, e1⟩ := bind_ok e1
  cases e1
  refine ⟨q, g, h, ρ, st, xs, h1, e2, fun g1 H1 vs x1 s1 r1 _ => ⟨q, g1, h1, ρ, s1, ys, _, e3, fun g2 H2 zs x2 s2 r2 _ => ⟨r1.length.trans (hn _ _ _ _ e2), r2.length.trans (hm _ _ _ _ e3), ?_⟩⟩⟩
  have rr : Ress K H g2 H2 ρ σ (xs ++ ys) (vs ++ zs) := (r1.ext s1 x2).append (r2.start fun a => x1.free)
  cases c : toPVs (xs ++ ys) with
  | none => rw [c] at e; cases e
  | some ps =>
    rw [c] at e
    have e4 : (match permute ps is with | some xs => cf f xs h3 | none => .bad) = .ok r h' := e
    cases d : permute ps is with
    | none => rw [d] at e4; cases e4
    | some qs =>
      rw [d] at e4
      obtain ⟨g3, x3, s3, m3, l3, rp⟩ := share st (rr.fz c) s2 (x1.trans x2)
      have hl : (vs ++ zs).length = ps.length := by rw [rp.length]
      obtain ⟨ws, hw⟩ := permute_some (xs := vs ++ zs) (is := is) fun i hi => by
        obtain ⟨j, hj, ej⟩ := List.getElem_of_mem hi
        obtain ⟨_, g2⟩ := permute_get d
        obtain ⟨x, h4, _⟩ := g2 j i (by rw [List.getElem?_eq_getElem hj, ej])
        rw [hl]
        exact (List.getElem?_eq_some_iff.mp h4).1
      refine ⟨ws, hw, g3, h3, qs, r, h', s3.hs, reps_perm rp d hw, e4, fun g' H' v x4 s4 b => k g' H' v (x3.trans x4) (s3.to x4 s4) ?_⟩
      cases r with
      | v x => exact b
      | L c xs =>
        cases c with
        | true => exact b.elim
        | false =>
          obtain ⟨a, e5, h5, n1, n2, n3⟩ := b
          exact ⟨a, e5, h5, n1, n2, x3.free n3⟩
      | D b ks vs => exact b.elim
theorem run_all {cf : CF} {f k : Nat} {a : Addr} {fd : FuncData} {ps ks : List Str} {is : List Nat} {pins : List (Addr × Obj)} {σ : L2.St} {H : Hp} {s : Shared} {Q : VK} {us ws : List Value} {vs zs : List V} {n : Nat}
    (F : FnOk X.prog X.w X.K X.mg X.base CX0 k a fd ps (spF X.K cf f)) (hr : Room k X.A) (hp : plainP fd.params ps = true) (hd : fd.defaults = .none) (hb : permB ps n ks is = true)
    (I : Inv X pins σ H s) (r : Vals vs us) (rz : Vals zs ws) (l1 : vs.length = n) (l2 : zs.length = ks.length) (h : ∃ ws, permute (vs ++ zs) is = some ws ∧ spF X.K cf f ws H Q E0) : wpAny (model X.prog X.w) X.A (call (.ref a) us (ks.zip ws)) (EP X pins σ Q) X.xe s := by
  obtain ⟨qs, hq, h⟩ := h
  have rr := r.append rz
  obtain ⟨us', hu⟩ := permute_some (xs := us ++ ws) (is := is) fun i hi => by
    obtain ⟨j, hj, ej⟩ := List.getElem_of_mem hi
    obtain ⟨_, g2⟩ := permute_get hq
    obtain ⟨x, h4, _⟩ := g2 j i (by rw [List.getElem?_eq_getElem hj, ej])
    rw [← rr.length]
    exact (List.getElem?_eq_some_iff.mp h4).1
  have hl : us.length = n := r.length.symm.trans l1
  subst hl
  refine wpAny_call (codeAny_mono (F.run X.A X.stack s H ⟨us, ks.zip ws⟩ us' qs Q E0 hr I.env0 (.of_eq (bind_perm hp hd hb (rz.length.symm.trans l2) hu)) (vals_perm rr hq hu) h) fun r s' hq => ?_)
  cases r with
  | error e => exact False.elim hq
  | ok fl =>
    cases fl with
    | ret u => exact I.after hq
    | next => exact False.elim hq
    | brk => exact False.elim hq
    | cont => exact False.elim hq
section
variable {cf : CF} {f : Nat} {x : Str} {ps ks : List Str} {is : List Nat} {args : List Expr} {kws : List Keyword} {fs fk : FEs} {p pos : Pos}
theorem e_call00 (C : Callee X cf f x ps) (hg : Gl X x) (hdb : (x == ("__debug__" : Str)) = false) (hb : permB ps 0 [] is = true) : SE X (.Call (.Name x p) [] [] pos) (callF cf f is (bothF nilF nilF)) := by
  obtain ⟨k, a, fd, F, hr, hm, hkp, hp, hd⟩ := C.ex
  have pe : PE X (.Call (.Name x p) [] [] pos) (tCallX X.K cf f 0 0 is nilF nilF) := by
    refine ⟨fun pins s σ H Q I h => ?_⟩
    refine wpAny_Call_Name_kw (ld_glob I hg hm ?_ hdb)
    have h2 : [].length = 0 ∧ [].length = 0 ∧ _ := nil_use (nil_use h)
    exact PySem.W.callWith_K0 I.kIn hkp (run_all (us := []) (ws := []) (vs := []) (zs := []) (ks := []) F hr hp hd hb I .nil .nil rfl rfl h2.2.2)
  exact .plain (PE.weak pe fun _ _ _ w => call_use (SA.nil (X := X)).len (fun _ _ _ _ e => by cases e; rfl) w) (fun _ => rfl) fun _ _ _ e => nomatch e
theorem e_callP {e : Expr} {es : List Expr} (C : Callee X cf f x ps) (hg : Gl X x) (hdb : (x == ("__debug__" : Str)) = false) (ha : SA X (e :: es) fs) (hpx : plainX e = true) (hfl : ∀ pos, (backTo pos (starEach es X.env)).any (·.1) = false) (hb : permB ps (e :: es).length [] is = true) :
    SE X (.Call (.Name x p) (e :: es) [] pos) (callF cf f is (bothF fs nilF)) := by
  obtain ⟨k, a, fd, F, hr, hm, hkp, hp, hd⟩ := C.ex
  have pe : PE X (.Call (.Name x p) (e :: es) [] pos) (tCallX X.K cf f (e :: es).length 0 is fs nilF) := by
    refine ⟨fun pins s σ H Q I h => ?_⟩
    refine wpAny_Call_Name_kw (ld_glob I hg hm ?_ hdb)
    refine PySem.W.callWith_K (h₀ := X.base) I.ok.mod.kin hkp (thn (ha.p.run pos pins s σ H _ I h) fun us s1 ⟨vs, H1, I1, r, q⟩ => ⟨I1.kIn, ?_⟩) (plain_star hpx) (hfl pos)
    have h2 : vs.length = (e :: es).length ∧ [].length = 0 ∧ _ := nil_use q
    exact run_all (ws := []) (zs := []) (ks := []) F hr hp hd hb I1 r .nil h2.1 rfl h2.2.2
  exact .plain (PE.weak pe fun _ _ _ w => call_use ha.len (fun _ _ _ _ e => by cases e; rfl) w) (fun _ => rfl) fun _ _ _ e => nomatch e
theorem e_callK {kw : Keyword} (C : Callee X cf f x ps) (hg : Gl X x) (hdb : (x == ("__debug__" : Str)) = false) (hk : SK X (kw :: kws) ks fk) (hb : permB ps 0 ks is = true) :
    SE X (.Call (.Name x p) [] (kw :: kws) pos) (callF cf f is (bothF nilF fk)) := by
  obtain ⟨k, a, fd, F, hr, hm, hkp, hp, hd⟩ := C.ex
  have pe : PE X (.Call (.Name x p) [] (kw :: kws) pos) (tCallX X.K cf f 0 ks.length is nilF fk) := by
    refine ⟨fun pins s σ H Q I h => ?_⟩
    refine wpAny_Call_Name_kw (ld_glob I hg hm ?_ hdb)
    refine PySem.W.callWith_KW0 (h₀ := X.base) I.ok.mod.kin hkp (hk.al pos) (thn (hk.p.run pos pins s σ H _ I (nil_use h)) fun ws s1 ⟨zs, H1, I1, r, q⟩ => ⟨I1.kIn, ?_⟩) (by rw [hk.an pos]; rfl)
    rw [hk.nm]
    exact run_all (us := []) (vs := []) F hr hp hd hb I1 .nil r q.1 q.2.1 q.2.2
  exact .plain (PE.weak pe fun _ _ _ w => call_use (fun _ _ _ _ e => by cases e; rfl) hk.len w) (fun _ => rfl) fun _ _ _ e => nomatch e
theorem e_callPK {e : Expr} {es : List Expr} {kw : Keyword} (C : Callee X cf f x ps) (hg : Gl X x) (hdb : (x == ("__debug__" : Str)) = false) (ha : SA X (e :: es) fs) (hpx : plainX e = true) (hk : SK X (kw :: kws) ks fk) (hb : permB ps (e :: es).length ks is = true) :
    SE X (.Call (.Name x p) (e :: es) (kw :: kws) pos) (callF cf f is (bothF fs fk)) := by
  obtain ⟨k, a, fd, F, hr, hm, hkp, hp, hd⟩ := C.ex
  have pe : PE X (.Call (.Name x p) (e :: es) (kw :: kws) pos) (tCallX X.K cf f (e :: es).length ks.length is fs fk) := by
    refine ⟨fun pins s σ H Q I h => ?_⟩
    refine wpAny_Call_Name_kw (ld_glob I hg hm ?_ hdb)
    refine PySem.W.callWith_KW (h₀ := X.base) I.ok.mod.kin hkp (hk.al pos) (thn (ha.p.run pos pins s σ H _ I h) fun us s1 ⟨vs, H1, I1, r, q⟩ => ?_) (by rw [hk.an pos, ha.fl pos]; rfl) (plain_star hpx)
    refine thn (hk.p.run pos pins s1 σ H1 _ I1 q) fun ws s2 ⟨zs, H2, I2, rz, q2⟩ => ⟨I2.kIn, ?_⟩
    rw [hk.nm]
    exact run_all F hr hp hd hb I2 r rz q2.1 q2.2.1 q2.2.2
  exact .plain (PE.weak pe fun _ _ _ w => call_use ha.len hk.len w) (fun _ => rfl) fun _ _ _ e => nomatch e
end
end
end WT
end
section
set_option Elab.async false
set_option linter.all false
set_option maxRecDepth 100000
set_option maxHeartbeats 4000000
/-! Lists changed where they stand. -/
namespace WT
open PySem PySem.Spec PyProof.Rows L2
section
variable {K : KF} {q : Fe} {H0 : Hp} {g g0 g1 g' : Gh} {H H1 H' : Hp} {h h0 h1 h' : AH} {ρ : Env} {σ : L2.St} {a : Addr}
theorem nef {b : Addr} (n : ¬ g.F a) (h : g.F b) : b ≠ a := fun e => n (e ▸ h)
theorem nel {b : Addr} (n : a ∉ g.L) (h : b ∈ g.L) : b ≠ a := fun e => n (e ▸ h)
theorem nel' {b : Addr} (n : b ∉ g.L) (h : a ∈ g.L) : b ≠ a := fun e => n (e ▸ h)
theorem Mon.refl : Mon g H g H := ⟨fun _ z => z, fun _ _ _ z => z, fun _ _ z => z⟩
theorem Mon.trans (x : Mon g H g1 H1) (y : Mon g1 H1 g' H') : Mon g H g' H' := ⟨fun a z => y.f a (x.f a z), fun a o z1 z2 => y.k a o (x.f a z1) (x.k a o z1 z2), fun n a z => y.l n a (x.l n a z)⟩
/-- not frozen: it may change -/
theorem Mon.upd {o : HO} (n : ¬ g.F a) : Mon g H g (upd H a o) := ⟨fun _ z => z, fun b u z1 z2 => by rw [upd_ne (nef n z1)]; exact z2, fun _ _ z => z⟩
/-- a slot's own list changes -/
theorem St.updOwn {i : Nat} {b : Bool} {xs ys : List PV} {us : List V} (s : St K q g H h ρ σ) (hs : slot ρ i = some (.L b xs)) (hv : σ[i]? = some (some (.ref a))) (r : Reps K g H ys us) :
    Mon g H g (upd H a (.lst us)) ∧ St K q g (upd H a (.lst us)) h (setSlot ρ i (some (.L false ys))) σ := by
  obtain ⟨w, h1, a', rfl, ⟨vs, h3, h4⟩, n1, n2, n3⟩ := s.sl i _ hs
  rw [hv] at h1
  cases h1
  have m : Mon g H g (upd H a (.lst us)) := Mon.upd n1
  refine ⟨m, ⟨⟨s.hs.len, s.hs.nd, s.hs.nf, fun b hb => ?_, fun b hb => ?_, fun n u b k1 k2 => ?_⟩, ⟨s.ex.fm, s.ex.fn, s.ex.lm, s.ex.ln, fun b u k1 k2 => ?_, fun b k1 => ?_⟩, ?_, fun j r' hr => ?_, fun j k r1 r2 w k1 k2 o1 o2 e1 e2 => ?_⟩⟩
  · rw [upd_ne (nel n2 hb)]; exact s.hs.tr b hb
  · rw [upd_ne (nef n1 hb)]; exact s.hs.fd b hb
  · refine (s.hs.ob n u b k1 k2).mono m fun w hw => ?_
    rw [upd_ne (nel n2 (List.mem_of_getElem? k2))]; exact hw
  · rw [upd_ne fun e => ?_]
    · exact s.ex.hk b u k1 k2
    · subst e; rw [n3] at k1; cases k1
  · by_cases e : b = a
    · subst e; rw [upd_same]; simp
    · rw [upd_ne e]; exact s.ex.hs b k1
  · unfold setSlot; rw [List.length_set]; exact s.len
  · rcases slot_set hr with ⟨rfl, e⟩ | ⟨n, e⟩
    · cases e
      exact ⟨.ref a, hv, a, rfl, ⟨us, upd_same, r.mono m⟩, n1, n2, n3⟩
    · obtain ⟨v, k1, k2⟩ := s.sl j r' e
      refine ⟨v, k1, ?_⟩
      cases r' with
      | v y => exact Rep.mono m k2
      | L c zs =>
        obtain ⟨b', rfl, ⟨ws, k3, k4⟩, m1, m2, m3⟩ := k2
        refine ⟨b', rfl, ⟨ws, ?_, k4.mono m⟩, m1, m2, m3⟩
        rw [upd_ne fun e' => ?_]
        · exact k3
        · subst e'
          exact n (s.ow i j _ _ _ hs e rfl rfl hv k1)
      | D c ks vs => exact k2.elim
  · have old : ∀ j r', slot (setSlot ρ i (some (.L false ys))) j = some r' → owned r' = true → ∃ r'', slot ρ j = some r'' ∧ owned r'' = true := fun j r' hr ho => by
      rcases slot_set hr with ⟨rfl, e⟩ | ⟨_, e⟩
      · exact ⟨_, hs, rfl⟩
      · exact ⟨_, e, ho⟩
    obtain ⟨r1', k1', o1'⟩ := old j r1 k1 o1
    obtain ⟨r2', k2', o2'⟩ := old k r2 k2 o2
    exact s.ow j k r1' r2' w k1' k2' o1' o2' e1 e2
theorem hget_set : ∀ {h : AH} {n m : Nat} {o u : HObj}, hget (h.set n o) m = some u → (m = n ∧ u = o) ∨ (m ≠ n ∧ hget h m = some u) := by
  intro h n m o u e
  rw [hget_eq] at e
  by_cases c : n = m
  · subst c
    by_cases hl : n < h.length
    · rw [List.getElem?_set_self hl] at e; cases e; exact .inl ⟨rfl, rfl⟩
    · rw [List.getElem?_eq_none (by rw [List.length_set]; omega)] at e; cases e
  · rw [List.getElem?_set_ne c] at e
    exact .inr ⟨Ne.symm c, by rw [hget_eq]; exact e⟩
/-- an object of the small heap changes -/
theorem St.updLoc {n : Nat} {xs ys : List PV} {us : List V} (s : St K q g H h ρ σ) (ho : hget h n = some (.l xs)) (hl : g.L[n]? = some a) (r : Reps K g H ys us) :
    Mon g H g (upd H a (.lst us)) ∧ St K q g (upd H a (.lst us)) (h.set n (.l ys)) ρ σ := by
  have ha : a ∈ g.L := List.mem_of_getElem? hl
  have nf := s.hs.nf a ha
  have m : Mon g H g (upd H a (.lst us)) := Mon.upd nf
  refine ⟨m, ⟨⟨by rw [List.length_set]; exact s.hs.len, s.hs.nd, s.hs.nf, fun b hb => ?_, fun b hb => ?_, fun k u b k1 k2 => ?_⟩, ⟨s.ex.fm, s.ex.fn, s.ex.lm, s.ex.ln, fun b u k1 k2 => ?_, fun b k1 => ?_⟩, s.len, fun j r' hr => ?_, s.ow⟩⟩
  · by_cases e : b = a
    · subst e; rw [upd_same]; simp
    · rw [upd_ne e]; exact s.hs.tr b hb
  · rw [upd_ne (nef nf hb)]; exact s.hs.fd b hb
  · rcases hget_set k1 with ⟨rfl, rfl⟩ | ⟨c, k1⟩
    · rw [hl] at k2
      cases k2
      exact ⟨us, upd_same, r.mono m⟩
    · refine (s.hs.ob k u b k1 k2).mono m fun w hw => ?_
      rw [upd_ne fun e => ?_]
      · exact hw
      · subst e
        have h1 := (List.getElem?_eq_some_iff.mp hl).1
        have h2 := (List.getElem?_eq_some_iff.mp k2).1
        have e1 := (List.getElem?_eq_some_iff.mp hl).2
        have e2 := (List.getElem?_eq_some_iff.mp k2).2
        exact c ((List.getElem_inj s.hs.nd).mp (e2.trans e1.symm))
  · rw [upd_ne fun e => ?_]
    · exact s.ex.hk b u k1 k2
    · subst e
      rcases s.ex.ln b ha with z | z
      · exact k2 z
      · rw [k1] at z; cases z
  · by_cases e : b = a
    · subst e; rw [upd_same]; simp
    · rw [upd_ne e]; exact s.ex.hs b k1
  · obtain ⟨v, k1, k2⟩ := s.sl j r' hr
    refine ⟨v, k1, ?_⟩
    cases r' with
    | v y => exact Rep.mono m k2
    | L c zs =>
      obtain ⟨b', rfl, ⟨ws, k3, k4⟩, m1, m2, m3⟩ := k2
      refine ⟨b', rfl, ⟨ws, ?_, k4.mono m⟩, m1, m2, m3⟩
      rw [upd_ne (nel' m2 ha)]
      exact k3
    | D c ks vs => exact k2.elim
/-- a fresh list joins the small heap -/
theorem St.newLoc {i : Nat} {xs : List PV} (s : St K q g H h ρ σ) (r : HasL K g H a xs) (n1 : ¬ g.F a) (n2 : a ∉ g.L) (n3 : q.H a = none) (nw : NoD ρ σ a) :
    Mon g H ⟨g.F, g.L ++ [a]⟩ H ∧ St K q ⟨g.F, g.L ++ [a]⟩ H (h ++ [.l xs]) (setSlot ρ i (some (.v (.loc h.length)))) (σ.set i (some (.ref a))) := by
  have m : Mon g H ⟨g.F, g.L ++ [a]⟩ H := ⟨fun _ z => z, fun _ _ _ z => z, fun n b z => by
    show (g.L ++ [a])[n]? = some b
    rw [List.getElem?_append_left (List.getElem?_eq_some_iff.mp z).1]; exact z⟩
  have hh : Hs K ⟨g.F, g.L ++ [a]⟩ H (h ++ [.l xs]) := by
    refine ⟨?_, ?_, fun b hb => ?_, fun b hb => ?_, s.hs.fd, fun n u b k1 k2 => ?_⟩
    · show (g.L ++ [a]).length = _
      rw [List.length_append, List.length_append, s.hs.len]; rfl
    · show (g.L ++ [a]).Nodup
      rw [List.nodup_append]
      exact ⟨s.hs.nd, by simp, fun x hx y hy => by
        have : y = a := by simpa using hy
        subst this
        exact fun e => n2 (e ▸ hx)⟩
    · rcases List.mem_append.mp hb with z | z
      · exact s.hs.nf b z
      · have : b = a := by simpa using z
        subst this; exact n1
    · rcases List.mem_append.mp hb with z | z
      · exact s.hs.tr b z
      · have : b = a := by simpa using z
        subst this
        obtain ⟨vs, h1, _⟩ := r
        rw [h1]; simp
    · rw [hget_eq] at k1
      by_cases c : n < h.length
      · rw [List.getElem?_append_left c] at k1
        have k2 : (g.L ++ [a])[n]? = some b := k2
        rw [List.getElem?_append_left (by rw [s.hs.len]; exact c)] at k2
        exact (s.hs.ob n u b (by rw [hget_eq]; exact k1) k2).mono m fun _ x => x
      · rw [List.getElem?_append_right (by omega)] at k1
        have k2 : (g.L ++ [a])[n]? = some b := k2
        rw [List.getElem?_append_right (by rw [s.hs.len]; omega)] at k2
        have e0 : n - h.length = 0 := by
          cases e : n - h.length with
          | zero => rfl
          | succ k => rw [e] at k1; simp at k1
        rw [e0] at k1
        rw [s.hs.len, e0] at k2
        simp at k1 k2
        subst k1; subst k2
        obtain ⟨vs, h1, h2⟩ := r
        exact ⟨vs, h1, h2.mono m⟩
  have s1 : St K q ⟨g.F, g.L ++ [a]⟩ H (h ++ [.l xs]) ρ σ := by
    refine ⟨hh, ⟨s.ex.fm, fun b hb => s.ex.fn b hb, ?_, fun b hb => ?_, s.ex.hk, s.ex.hs⟩, s.len, fun j r' hr => ?_, s.ow⟩
    · obtain ⟨l, e⟩ := s.ex.lm
      exact ⟨l ++ [a], by show g.L ++ [a] = _; rw [e, List.append_assoc]⟩
    · rcases List.mem_append.mp hb with z | z
      · exact s.ex.ln b z
      · have : b = a := by simpa using z
        subst this; exact .inr n3
    · obtain ⟨v, k1, k2⟩ := s.sl j r' hr
      refine ⟨v, k1, ?_⟩
      cases r' with
      | v y => exact Rep.mono m k2
      | L c zs =>
        obtain ⟨b', rfl, ⟨ws, k3, k4⟩, m1, m2, m3⟩ := k2
        refine ⟨b', rfl, ⟨ws, k3, k4.mono m⟩, m1, fun z => ?_, m3⟩
        rcases List.mem_append.mp z with z | z
        · exact m2 z
        · have : b' = a := by simpa using z
          subst this
          exact nw j c zs hr k1
      | D c ks vs => exact k2.elim
  exact ⟨m, s1.setV (.loc (by show (g.L ++ [a])[h.length]? = some a; rw [List.getElem?_append_right (by rw [s.hs.len]; exact Nat.le_refl _), s.hs.len]; simp))⟩
/-- fresh at the start: no slot owns it -/
theorem St.fresh (s : St K q g H h ρ σ) (n : H a = none) : NoD ρ σ a := fun i c xs hr e => by
  obtain ⟨w, k5, k6⟩ := s.sl i _ hr
  rw [e] at k5
  cases k5
  obtain ⟨a', ea, ⟨ws, k7, _⟩, _⟩ := k6
  cases ea
  rw [n] at k7
  cases k7
end
end WT
end
section
set_option Elab.async false
set_option linter.all false
set_option maxRecDepth 100000
set_option maxHeartbeats 4000000
/-! Statements. -/
namespace WT
open PySem PySem.Spec PyProof.Rows L2
/-- what is to hold behind a statement -/
def Endk (K : KF) (q : Fe) (g : Gh) (H : Hp) (D : Ends) (fl : Fl) (ρ' : Env) (h' : AH) : Prop := match fl with
  | .nx => ∀ g' H' σ', Mon g H g' H' → St K q g' H' h' ρ' σ' → D.nx σ' H'
  | .brk => ∀ g' H' σ', Mon g H g' H' → St K q g' H' h' ρ' σ' → D.bk σ' H'
  | .cont => ∀ g' H' σ', Mon g H g' H' → St K q g' H' h' ρ' σ' → D.ct σ' H'
  | .ret r => ∀ g' H' v, Ext q.g q.H g' H' → Hs K g' H' h' → BRes K q.H g' H' r v → D.rt v H'
theorem Endk.mono {K : KF} {q : Fe} {g g1 : Gh} {H H1 : Hp} {D : Ends} {fl : Fl} {ρ' : Env} {h' : AH} (m : Mon g H g1 H1) (k : Endk K q g H D fl ρ' h') : Endk K q g1 H1 D fl ρ' h' := by
  cases fl with
  | nx => exact fun g' H' σ' m' s => k g' H' σ' (m.trans m') s
  | brk => exact fun g' H' σ' m' s => k g' H' σ' (m.trans m') s
  | cont => exact fun g' H' σ' m' s => k g' H' σ' (m.trans m') s
  | ret r => exact k
def tS (K : KF) (f : FS) : TS := fun D σ H => ∃ q g h ρ, St K q g H h ρ σ ∧ ∃ fl ρ' h', f ρ h = .ok (fl, ρ') h' ∧ Endk K q g H D fl ρ' h'
theorem PSs.weak {X : Cx} {e : List Stmt} {t t' : TS} (p : PSs X e t) (k : ∀ D σ H, t' D σ H → t D σ H) : PSs X e t' := ⟨fun pins s σ H D I h => p.run pins s σ H D I (k D σ H h)⟩
section
variable {K : KF} {q : Fe} {g g' : Gh} {H H' : Hp} {h h' : AH} {ρ ρ' : Env} {σ : L2.St}
/-- an answer is given back -/
theorem back_ok {H0 : Hp} {r : RV} {v : V} (s : St K q g H h ρ σ) (hq : ∀ a, H0 a = none → q.H a = none) (x : Res K H0 g H ρ σ r v) : BRes K q.H g H r.back v := by
  cases r with
  | v y => exact x
  | L b xs =>
    cases b with
    | true =>
      obtain ⟨a, rfl, hl, i, c, ys, h3, h4⟩ := x
      obtain ⟨w, h5, h6⟩ := s.sl i _ h3
      rw [h4] at h5
      cases h5
      obtain ⟨a', ea, _, n1, n2, n3⟩ := h6
      cases ea
      exact ⟨a, rfl, hl, n1, n2, n3⟩
    | false =>
      obtain ⟨a, e, h1, n1, n2, n3⟩ := x
      exact ⟨a, e, h1, n1, n2, hq a n3⟩
  | D b ks vs => exact x.elim
theorem set_same {i : Nat} {v : V} (h : σ[i]? = some (some v)) : σ.set i (some v) = σ := by
  refine List.ext_getElem? fun j => ?_
  by_cases e : i = j
  · subst e
    rw [List.getElem?_set_self (List.getElem?_eq_some_iff.mp h).1, h]
  · rw [List.getElem?_set_ne e]
/-- a list changed where it stands -/
theorem put_run {i : Nat} {f : List PV → Option (List PV)} {fl : Fl} (s : St K q g H h ρ σ) (e : putL ρ h i f = .ok (fl, ρ') h') :
    ∃ xs ys a vs, f xs = some ys ∧ σ[i]? = some (some (.ref a)) ∧ H a = some (.lst vs) ∧ Reps K g H xs vs ∧ fl = .nx ∧ ∀ us, Reps K g H ys us → Mon g H g (upd H a (.lst us)) ∧ St K q g (upd H a (.lst us)) h' ρ' σ := by
  unfold putL at e
  split at e
  · rename_i b xs hs
    cases c : f xs with
    | none => rw [c] at e; cases e
    | some ys =>
      rw [c] at e
      cases e
      obtain ⟨w, h1, a, rfl, ⟨vs, h3, h4⟩, n1, n2, n3⟩ := s.sl i _ hs
      exact ⟨xs, ys, a, vs, c, h1, h3, h4, rfl, fun us r => s.updOwn hs h1 r⟩
  · rename_i n hs
    split at e
    · rename_i xs ho
      cases c : f xs with
      | none => rw [c] at e; cases e
      | some ys =>
        rw [c] at e
        cases e
        obtain ⟨w, h1, h2⟩ := s.sl i _ hs
        cases h2 with
        | loc hl =>
          obtain ⟨vs, h3, h4⟩ := s.hs.ob n _ _ ho hl
          exact ⟨xs, ys, _, vs, c, h1, h3, h4, rfl, fun us r => s.updLoc ho hl r⟩
    · cases e
  · cases e
end
section
variable {X : Cx}
theorem s_pass {pos : Pos} : PS X (.Pass pos) (tS X.K passS) := PS.weak ps_pass fun D σ H ⟨q, g, h, ρ, st, fl, ρ', h', e, k⟩ => by
  cases e
  exact k g H σ Mon.refl st
theorem s_brk {pos : Pos} : PS X (.Break pos) (tS X.K brkS) := PS.weak ps_break fun D σ H ⟨q, g, h, ρ, st, fl, ρ', h', e, k⟩ => by
  cases e
  exact k g H σ Mon.refl st
theorem s_cont {pos : Pos} : PS X (.Continue pos) (tS X.K contS) := PS.weak ps_continue fun D σ H ⟨q, g, h, ρ, st, fl, ρ', h', e, k⟩ => by
  cases e
  exact k g H σ Mon.refl st
theorem s_nil : PSs X [] (tS X.K passS) := PSs.weak pss_nil fun D σ H ⟨q, g, h, ρ, st, fl, ρ', h', e, k⟩ => by
  cases e
  exact k g H σ Mon.refl st
theorem seq_use {K : KF} {f1 f2 : FS} {D : Ends} {σ : L2.St} {H : Hp} (w : tS K (seqS f1 f2) D σ H) : tS K f1 { D with nx := tS K f2 D } σ H := by
  obtain ⟨q, g, h, ρ, st, fl, ρ', h', e, k⟩ := w
  obtain ⟨⟨fl1, ρ1⟩, h1, e1, e2⟩ := bind_ok e
  refine ⟨q, g, h, ρ, st, fl1, ρ1, h1, e1, ?_⟩
  cases fl1 with
  | nx => exact fun g1 H1 σ1 m1 s1 => ⟨q, g1, h1, ρ1, s1, fl, ρ', h', e2, k.mono m1⟩
  | brk => cases e2; exact k
  | cont => cases e2; exact k
  | ret r => cases e2; exact k
theorem s_cons {st : Stmt} {rest : List Stmt} {f1 f2 : FS} (h1 : PS X st (tS X.K f1)) (h2 : PSs X rest (tS X.K f2)) : PSs X (st :: rest) (tS X.K (seqS f1 f2)) :=
  PSs.weak (pss_cons h1 h2) fun _ _ _ w => seq_use w
/-- a slot's list is shared from now on: nothing is run -/
theorem s_frz {i : Nat} {rest : List Stmt} {f2 : FS} (h2 : PSs X rest (tS X.K f2)) : PSs X rest (tS X.K (seqS (frzS i) f2)) := PSs.weak h2 fun D σ H w => by
  obtain ⟨q, g, h, ρ, st, fl1, ρ1, h1, e1, k1⟩ := seq_use w
  have fin : ∀ {b : Bool} {xs : List PV}, slot ρ i = some (.L b xs) → frzS i ρ h = .ok (.nx, setSlot ρ i (some (.v (.lst xs)))) h → tS X.K f2 D σ H := fun {b xs} hs e0 => by
    rw [e0] at e1
    cases e1
    obtain ⟨w, k3, a, rfl, ⟨vs, k4, k5⟩, n1, n2, n3⟩ := st.sl i _ hs
    have hp : H a ≠ none := by rw [k4]; simp
    have m : Mon g H (g.add a) H := Mon.frz
    have s1 : St X.K q (g.add a) H h (setSlot ρ i none) σ := by
      refine ⟨st.hs.frz hp n2, Ext.frz hp q.H q.g st.ex n3, by unfold setSlot; rw [List.length_set]; exact st.len, fun j r' hr => ?_, fun j k r1 r2 w k1 k2 o1 o2 e1 e2 => ?_⟩
      · rcases slot_set hr with ⟨rfl, e⟩ | ⟨n, e⟩
        · cases e
        · obtain ⟨v, k6, k7⟩ := st.sl j r' e
          refine ⟨v, k6, ?_⟩
          cases r' with
          | v y => exact Rep.mono m k7
          | L c zs =>
            obtain ⟨b', rfl, ⟨ws, k8, k9⟩, m1, m2, m3⟩ := k7
            refine ⟨b', rfl, ⟨ws, k8, k9.mono m⟩, fun z => ?_, m2, m3⟩
            rcases z with z | z
            · exact m1 z
            · subst z; exact n (st.ow i j _ _ _ hs e rfl rfl k3 k6)
          | D c ks vs => exact k7.elim
      · rcases slot_set k1 with ⟨rfl, e⟩ | ⟨n, k1⟩
        · cases e
        · rcases slot_set k2 with ⟨rfl, e⟩ | ⟨n2, k2⟩
          · cases e
          · exact st.ow j k r1 r2 w k1 k2 o1 o2 e1 e2
    have s2 := s1.setV (i := i) (x := .lst xs) (v := .ref a) (.lst ⟨.inr rfl, .inl k4⟩ (k5.mono m))
    rw [set_same k3] at s2
    have e5 : setSlot (setSlot ρ i none) i (some (.v (.lst xs))) = setSlot ρ i (some (.v (.lst xs))) := by unfold setSlot; rw [List.set_set]
    rw [e5] at s2
    exact k1 (g.add a) H σ m s2
  unfold frzS at e1
  cases c : slot ρ i with
  | none => rw [c] at e1; cases e1
  | some r =>
    cases r with
    | L b xs => exact fin c (by unfold frzS; rw [c]; rfl)
    | v x => rw [c] at e1; cases e1; exact k1 g H σ Mon.refl st
    | D b ks vs => rw [c] at e1; cases e1
theorem s_expr {e : Expr} {fe : FE} {pos : Pos} (he : SE X e fe) (hl : isLC e = false) : PS X (.Expr e pos) (tS X.K (exprS fe)) := by
  have hs : swapsWith e none pos.line X.env = pure false := by
    unfold swapsWith
    cases e <;> first
      | rfl
      | cases hl
  exact PS.weak (ps_expr he.e hs) fun D σ H ⟨q, g, h, ρ, st, fl, ρ', h', e, k⟩ => by
    obtain ⟨r, h1, e1, e⟩ := bind_ok e
    cases e
    exact ⟨q, g, h, ρ, st, r, _, e1, fun g1 H1 v x1 s1 r1 => k g1 H1 σ (x1.mon st.hs) s1⟩
theorem s_ret {e : Expr} {fe : FE} {pos : Pos} (he : SE X e fe) : PS X (.Return (some e) pos) (tS X.K (retS fe)) :=
  PS.weak (ps_ret he.e) fun D σ H ⟨q, g, h, ρ, st, fl, ρ', h', e, k⟩ => by
    obtain ⟨r, h1, e1, e⟩ := bind_ok e
    cases e
    exact ⟨q, g, h, ρ, st, r, _, e1, fun g1 H1 v x1 s1 r1 => k g1 H1 v s1.ex s1.hs (back_ok s1 (fun a z => st.ex.free z) r1)⟩
theorem s_retN {pos : Pos} : PS X (.Return none pos) (tS X.K retNS) := PS.weak ps_retN fun D σ H ⟨q, g, h, ρ, st, fl, ρ', h', e, k⟩ => by
  cases e
  exact k g H .non st.ex st.hs .non
theorem s_if {c : Expr} {a b : List Stmt} {fc : FE} {fa fb : FS} {pos : Pos} (hc : SE X c fc) (ha : PSs X a (tS X.K fa)) (hb : PSs X b (tS X.K fb)) : PS X (.If c a b pos) (tS X.K (iteS fc fa fb)) :=
  PS.weak (ps_if hc.t ha hb) fun D σ H ⟨q, g, h, ρ, st, fl, ρ', h', e, k⟩ => by
    obtain ⟨b, h1, e1, e⟩ := bind_ok e
    refine ⟨q, g, h, ρ, st, b, h1, e1, fun g1 H1 x1 s1 => ?_⟩
    cases b with
    | true => exact ite_t ⟨q, g1, h1, ρ, s1, fl, ρ', h', e, k.mono (x1.mon st.hs)⟩
    | false => exact ite_f ⟨q, g1, h1, ρ, s1, fl, ρ', h', e, k.mono (x1.mon st.hs)⟩
/-- a value for a target -/
theorem asg_use {K : KF} {t : Tg} {fe : FE} {D : Ends} {σ : L2.St} {H : Hp} (w : tS K (asgS t fe) D σ H) : tAsg (tO K fe) (tgG K t) D σ H := by
  obtain ⟨q, g, h, ρ, st, fl, ρ', h', e, k⟩ := w
  obtain ⟨r, h1, e1, e⟩ := bind_ok e
  refine ⟨q, g, h, ρ, st, r, h1, e1, fun g1 H1 v x1 s1 r1 => ?_⟩
  cases c : r.toPV with
  | none => rw [c] at e; cases e
  | some x =>
    rw [c] at e
    cases d : bindTg t x ρ with
    | none =>
      have e' : (match bindTg t x ρ with | some ρ => nextE ρ h1 | none => .bad) = .ok (fl, ρ') h' := e
      rw [d] at e'; cases e'
    | some ρ2 =>
      have e' : (match bindTg t x ρ with | some ρ => nextE ρ h1 | none => .bad) = .ok (fl, ρ') h' := e
      rw [d] at e'
      cases e'
      obtain ⟨g2, x2, s2, m2, l2, r2⟩ := share1 st (r1.fz c) s1 x1
      exact tg_run s2 r2 d fun σ' s3 _ _ => k g2 H1 σ' (x2.mon st.hs) s3
theorem s_asg {t : Tg} {tg e : Expr} {fe : FE} {pos : Pos} (he : SE X e fe) (hg : PG X tg (tgG X.K t)) (hs : swapsWithSole [tg] e pos.line X.env = pure false) (hw : swappedStores [tg] e X.env = pure none) (h1 : (assignEach [tg] X.env).map (·.2) = [assign tg X.env]) : PS X (.Assign [tg] e pos) (tS X.K (asgS t fe)) :=
  PS.weak (ps_asg he.e hg hs hw h1) fun D σ H w => asg_use w
theorem s_asgLC {i : Nat} {y : Str} {py : Pos} {e : Expr} {fe : FE} {pos : Pos} (he : SX X e fe) (hl : isLC e = true) (hy : X.N[i]? = some y) (hyl : X.env.scope.names.lookup y = some .local) (hsw : swapsWith e (some (.Name y py)) pos.line X.env = pure true) :
    PS X (.Assign [.Name y py] e pos) (tS X.K (asgS (.var i) fe)) := PS.weak (he.sw hl i y py pos hy hyl hsw) fun D σ H w => asg_use (t := .var i) w
theorem own_use {K : KF} {i : Nat} {fe : FE} {D : Ends} {σ : L2.St} {H : Hp} (w : tS K (ownS i fe) D σ H) : tAsg (tO K fe) (gName i) D σ H := by
  obtain ⟨q, g, h, ρ, st, fl, ρ', h', e, k⟩ := w
  obtain ⟨r, h1, e1, e⟩ := bind_ok e
  refine ⟨q, g, h, ρ, st, r, h1, e1, fun g1 H1 v x1 s1 r1 => ?_⟩
  cases r with
  | v y => cases e
  | D b ks vs => cases e
  | L b xs =>
    cases b with
    | true => cases e
    | false =>
      cases e
      obtain ⟨a, rfl, hl, n1, n2, n3⟩ := r1
      exact k g1 H1 _ (x1.mon st.hs) (s1.setL hl n1 n2 (st.ex.free n3) fun j r' hj ho _ => by
        cases r' with
        | v y => cases ho
        | L c zs => exact st.fresh n3 j c zs hj
        | D c ks vs => obtain ⟨_, _, z⟩ := st.sl j _ hj; exact z.elim)
theorem s_own {i : Nat} {y : Str} {py : Pos} {e : Expr} {fe : FE} {pos : Pos} (he : SE X e fe) (hg : PG X (.Name y py) (gName i)) (hs : swapsWithSole [.Name y py] e pos.line X.env = pure false) : PS X (.Assign [.Name y py] e pos) (tS X.K (ownS i fe)) :=
  PS.weak (ps_asg he.e hg hs rfl) fun D σ H w => own_use w
theorem s_ownLC {i : Nat} {y : Str} {py : Pos} {e : Expr} {fe : FE} {pos : Pos} (he : SX X e fe) (hl : isLC e = true) (hy : X.N[i]? = some y) (hyl : X.env.scope.names.lookup y = some .local) (hsw : swapsWith e (some (.Name y py)) pos.line X.env = pure true) :
    PS X (.Assign [.Name y py] e pos) (tS X.K (ownS i fe)) := PS.weak (he.sw hl i y py pos hy hyl hsw) fun D σ H w => own_use w
theorem newl_use {K : KF} {i : Nat} {fe : FE} {D : Ends} {σ : L2.St} {H : Hp} (w : tS K (newlS i fe) D σ H) : tAsg (tO K fe) (gName i) D σ H := by
  obtain ⟨q, g, h, ρ, st, fl, ρ', h', e, k⟩ := w
  obtain ⟨r, h1, e1, e⟩ := bind_ok e
  refine ⟨q, g, h, ρ, st, r, h1, e1, fun g1 H1 v x1 s1 r1 => ?_⟩
  cases r with
  | v y => cases e
  | D b ks vs => cases e
  | L b xs =>
    cases b with
    | true => cases e
    | false =>
      cases e
      obtain ⟨a, rfl, hl, n1, n2, n3⟩ := r1
      obtain ⟨m, s2⟩ := s1.newLoc (i := i) hl n1 n2 (st.ex.free n3) (st.fresh n3)
      exact k _ H1 _ ((x1.mon st.hs).trans m) s2
theorem s_newl {i : Nat} {y : Str} {py : Pos} {e : Expr} {fe : FE} {pos : Pos} (he : SE X e fe) (hg : PG X (.Name y py) (gName i)) (hs : swapsWithSole [.Name y py] e pos.line X.env = pure false) : PS X (.Assign [.Name y py] e pos) (tS X.K (newlS i fe)) :=
  PS.weak (ps_asg he.e hg hs rfl) fun D σ H w => newl_use w
theorem s_mv {i j : Nat} {x y : Str} {px py pos : Pos} (hN : X.N[j]? = some x) (hv : Vis X.env.scope x) (hd : (x == ("__debug__" : Str)) = false) (hcd : (x == ("__classdict__" : Str)) = false) (hg : PG X (.Name y py) (gName i)) :
    PS X (.Assign [.Name y py] (.Name x px) pos) (tS X.K (mvS i j)) :=
  PS.weak (ps_asg (pe_var hN hv hd hcd) hg rfl rfl) fun D σ H ⟨q, g, h, ρ, st, fl, ρ', h', e, k⟩ => by
    unfold mvS at e
    split at e
    · rename_i b xs hs
      split at e
      · cases e
      · rename_i hij
        cases e
        obtain ⟨w, k3, a, rfl, hl, n1, n2, n3⟩ := st.sl j _ hs
        refine ⟨_, k3, ?_⟩
        have s1 : St X.K q g H h (setSlot ρ j none) σ := by
          have := st.drop (i := j) (o := some (.ref a))
          rw [set_same k3] at this
          exact this
        exact k g H _ Mon.refl (s1.setL hl n1 n2 n3 fun l r' hr ho _ e1 => by
          rcases slot_set hr with ⟨rfl, e⟩ | ⟨n, e⟩
          · cases e
          · exact n (st.ow j l _ _ _ hs e rfl ho k3 e1))
    · cases e
/-! name op= e, by ints -/
theorem PIp.int {o : BinO} (ho : o ≠ .pow) : ∀ {x y : Int} {c : Int}, binInt o x y = some c → PIp X (opOf o) (fun a b H Q => a = .int x ∧ b = .int y ∧ Q (.int c) H) := by
  intro x y c e
  intro pins s σ H a b v u Q I ra rb h
  obtain ⟨rfl, rfl, hq⟩ := h
  cases o with
  | pow => exact absurd rfl ho
  | add => cases e; exact iop_add pins s σ H _ _ v u Q I ra rb ⟨_, _, rfl, rfl, hq⟩
  | sub => cases e; exact iop_sub pins s σ H _ _ v u Q I ra rb ⟨_, _, rfl, rfl, hq⟩
  | mul =>
    have e' : (if small x || small y then some (x * y) else none) = some c := e
    split at e'
    · rename_i k
      cases e'
      rw [Bool.or_eq_true] at k
      exact iop_mul pins s σ H _ _ v u Q I ra rb ⟨_, _, rfl, rfl, k.elim (fun k => .inl (small_ok k)) (fun k => .inr (small_ok k)), hq⟩
    · cases e'
  | fdiv =>
    have e' : (if 0 < y ∧ y < 1073741824 then some (x / y) else none) = some c := e
    split at e'
    · rename_i k; cases e'; exact iop_fdiv pins s σ H _ _ v u Q I ra rb ⟨_, _, rfl, rfl, k, hq⟩
    · cases e'
  | mod =>
    have e' : (if 0 < y then some (x % y) else none) = some c := e
    split at e'
    · rename_i k; cases e'; exact iop_mod pins s σ H _ _ v u Q I ra rb ⟨_, _, rfl, rfl, k, hq⟩
    · cases e'
  | shl =>
    have e' : (if 0 ≤ y ∧ y ≤ 1000000 ∧ small x = true then some (x * 2 ^ y.toNat) else none) = some c := e
    split at e'
    · rename_i k; cases e'; exact iop_shl pins s σ H _ _ v u Q I ra rb ⟨_, _, rfl, rfl, ⟨k.1, k.2.1, by have := k.2.2; unfold small at this; exact of_decide_eq_true this⟩, hq⟩
    · cases e'
  | shr =>
    have e' : (if 0 ≤ y then some (x / 2 ^ y.toNat) else none) = some c := e
    split at e'
    · rename_i k; cases e'; exact iop_shr pins s σ H _ _ v u Q I ra rb ⟨_, _, rfl, rfl, k, hq⟩
    · cases e'
  | band => cases e; exact iop_and pins s σ H _ _ v u Q I ra rb ⟨_, _, rfl, rfl, hq⟩
  | bor => cases e; exact iop_or pins s σ H _ _ v u Q I ra rb ⟨_, _, rfl, rfl, hq⟩
  | bxor => cases e; exact iop_xor pins s σ H _ _ v u Q I ra rb ⟨_, _, rfl, rfl, hq⟩
def ipX (o : BinO) : TIp := fun a b H Q => ∃ x y c, binInt o x y = some c ∧ a = .int x ∧ b = .int y ∧ Q (.int c) H
theorem ip_x {o : BinO} (ho : o ≠ .pow) : PIp X (opOf o) (ipX o) := fun pins s σ H a b v u Q I ra rb ⟨x, y, c, e, h⟩ => PIp.int ho e pins s σ H a b v u Q I ra rb h
theorem s_aug {i : Nat} {o : BinO} {x : Str} {e : Expr} {fe : FE} {px pos : Pos} (ho : o ≠ .pow) (hN : X.N.Nodup) (hi : X.N[i]? = some x) (hx : Loc X.env.scope x) (hf : X.fn x = true ∨ X.env.scope.names.lookup x = some .local) (he : SE X e fe) :
    PS X (.AugAssign (.Name x px) (opOf o) e pos) (tS X.K (augS i o fe)) :=
  PS.weak (ps_aug hN hi hx he.e (ip_x ho) hf) fun D σ H ⟨q, g, h, ρ, st, fl, ρ', h', e, k⟩ => by
    unfold augS at e
    split at e
    · rename_i a hs
      obtain ⟨w, h1, h2⟩ := st.sl i _ hs
      cases h2
      obtain ⟨r, h3, e1, e⟩ := bind_ok e
      refine ⟨_, h1, q, g, h, ρ, st, r, h3, e1, fun g1 H1 v x1 s1 r1 => ?_⟩
      cases r with
      | v y =>
        cases y with
        | int b =>
          cases r1
          have e3 : (match augInt o a b with | some c => nextE (setSlot ρ i (some (.v (.int c)))) h3 | none => .bad) = Out.ok (fl, ρ') h' := e
          rw [show augInt o a b = binInt o a b from if_neg ho] at e3
          cases c : binInt o a b with
          | none => rw [c] at e3; cases e3
          | some d =>
            rw [c] at e3
            cases e3
            exact ⟨a, b, d, c, rfl, rfl, k g1 H1 _ (x1.mon st.hs) (s1.setV (.int d))⟩
        | _ => cases e
      | _ => cases e
    · cases e
end
end WT
end
section
set_option Elab.async false
set_option linter.all false
set_option maxRecDepth 100000
set_option maxHeartbeats 4000000
/-! Lists changed where they stand; several names at once; loops. -/
namespace WT
open PySem PySem.Spec PyProof.Rows L2
section
variable {X : Cx}
theorem place_eq (n : Nat) (i : Int) : ixN n i = place n i := rfl
/-- x.append(e) -/
theorem s_app {i : Nat} {x : Str} {e : Expr} {fe : FE} {px apos cpos pos : Pos} (hN : X.N[i]? = some x) (hv : Vis X.env.scope x) (hd : (x == ("__debug__" : Str)) = false) (hcd : (x == ("__classdict__" : Str)) = false) (hline : (apos.endLine == cpos.line) = true) (he : SE X e fe) :
    PS X (.Expr (.Call (.Attribute (.Name x px) "append" apos) [e] [] cpos) pos) (tS X.K (appS i fe)) :=
  PS.weak (ps_expr (pe_bm PySem.F.plainAttrs_list PySem.F.slot_list_append PySem.F.type_list_append mt_append (pe_var hN hv hd hcd) (pa_cons he.e pa_nil (plain_star he.px)) rfl (by rw [plain_star he.px]; rfl) hline (plain_star he.px) rfl) rfl) fun D σ H ⟨q, g, h, ρ, st, fl, ρ', h', e, k⟩ => by
    obtain ⟨r, h1, e1, e⟩ := bind_ok e
    -- the receiver
    have rec_ : ∃ a vs, σ[i]? = some (some (.ref a)) ∧ H a = some (.lst vs) := by
      cases c : slot ρ i with
      | none =>
        exfalso
        cases d : r.toPV with
        | none => rw [d] at e; cases e
        | some y =>
          rw [d] at e
          have e' : putL ρ h1 i (fun xs => if xs.length < SZ then some (xs ++ [y]) else none) = .ok (fl, ρ') h' := e
          unfold putL at e'
          rw [c] at e'
          cases e'
      | some s =>
        obtain ⟨w, h2, h3⟩ := st.sl i _ c
        cases s with
        | L b xs =>
          obtain ⟨a, rfl, ⟨vs, h4, _⟩, _⟩ := h3
          exact ⟨a, vs, h2, h4⟩
        | D b ks vs => exact h3.elim
        | v y =>
          cases y with
          | loc n =>
            cases h3 with
            | loc hl =>
              have hlt : n < h.length := by rw [← st.hs.len]; exact (List.getElem?_eq_some_iff.mp hl).1
              obtain ⟨o, ho⟩ : ∃ o, hget h n = some o := ⟨h[n], by rw [hget_eq]; exact List.getElem?_eq_getElem hlt⟩
              have ob := st.hs.ob n o _ ho hl
              cases o with
              | l xs => obtain ⟨vs, h4, _⟩ := ob; exact ⟨_, vs, h2, h4⟩
              | d ks vs => exact ob.elim
          | _ =>
            exfalso
            cases d : r.toPV with
            | none => rw [d] at e; cases e
            | some y =>
              rw [d] at e
              have e' : putL ρ h1 i (fun xs => if xs.length < SZ then some (xs ++ [y]) else none) = .ok (fl, ρ') h' := e
              unfold putL at e'
              rw [c] at e'
              cases e'
    obtain ⟨a0, vs0, hv0, hH0⟩ := rec_
    refine ⟨.ref a0, hv0, .inl ⟨rfl, vs0, .inl (.inl hH0)⟩, q, g, h, ρ, st, r, h1, e1, fun g1 H1 v x1 s1 r1 => ?_⟩
    cases d : r.toPV with
    | none => rw [d] at e; cases e
    | some y =>
      rw [d] at e
      obtain ⟨g2, x2, s2, m2, l2, r2⟩ := share1 st (r1.fz d) s1 x1
      obtain ⟨xs, ys, a, vs, hf, hv1, hH, rr, rfl, put⟩ := put_run s2 (show putL ρ h1 i (fun xs => if xs.length < SZ then some (xs ++ [y]) else none) = .ok (fl, ρ') h' from e)
      rw [hv0] at hv1
      cases hv1
      have hf' : (if xs.length < SZ then some (xs ++ [y]) else none) = some ys := hf
      split at hf'
      · rename_i hz
        cases hf'
        obtain ⟨m3, s3⟩ := put (vs ++ [v]) (rr.append (.cons r2 .nil))
        exact ⟨a0, vs, v, rfl, rfl, hH, by rw [rr.length, ← SZ_eq]; exact hz, k g2 _ σ ((x2.mon st.hs).trans m3) s3⟩
      · cases hf'
/-- a store at a place -/
theorem s_setix {i : Nat} {x : Str} {ke e : Expr} {fk fe : FE} {px spos pos : Pos} (hN : X.N[i]? = some x) (hv : Vis X.env.scope x) (hd : (x == ("__debug__" : Str)) = false) (hcd : (x == ("__classdict__" : Str)) = false) (hk : SE X ke fk) (he : SE X e fe) :
    PS X (.Assign [.Subscript (.Name x px) ke spos] e pos) (tS X.K (setixS i fk fe)) := by
  have hs : swapsWithSole [.Subscript (.Name x px) ke spos] e pos.line X.env = pure false := by
    show swapsWith e (some (.Subscript (.Name x px) ke spos)) pos.line X.env = pure false
    unfold swapsWith
    cases e <;> rfl
  have hw : swappedStores [.Subscript (.Name x px) ke spos] e X.env = pure none := by
    unfold swappedStores
    cases e <;> rfl
  have ha : ∀ v, assign (.Subscript (.Name x px) ke spos) X.env v = (do
      let ov ← holding [v] (eval (.Name x px) X.env)
      let iv ← holding [v, ov] (eval ke X.env)
      standAt spos
      holding [v, ov, iv] (setItem ov iv v)
      release [v, ov, iv] []) := by
    intro v
    have := hk.px
    cases ke <;> first
      | rfl
      | cases this
  refine PS.weak (ps_asg he.e (pg_sub (pe_var hN hv hd hcd) hk.e set_list ha) hs hw rfl) fun D σ H ⟨q, g, h, ρ, st, fl, ρ', h', e, k⟩ => ?_
  obtain ⟨r, h1, e1, e⟩ := bind_ok e
  refine ⟨q, g, h, ρ, st, r, h1, e1, fun g1 H1 v x1 s1 r1 => ?_⟩
  cases d : r.toPV with
  | none => rw [d] at e; cases e
  | some y =>
    rw [d] at e
    obtain ⟨g2, x2, s2, m2, l2, r2⟩ := share1 st (r1.fz d) s1 x1
    obtain ⟨kk, h2, e2, e⟩ := bind_ok (show (fk ρ h1).bind (fun k h => putL ρ h i fun xs => setAt xs k y) = .ok (fl, ρ') h' from e)
    -- the receiver is in the slot
    cases c : slot ρ i with
    | none => unfold putL at e; rw [c] at e; cases e
    | some s =>
      obtain ⟨w, hw1, hw2⟩ := s2.sl i _ c
      refine ⟨w, hw1, q, g2, h1, ρ, s2, kk, h2, e2, fun g3 H3 u x3 s3 r3 => ?_⟩
      obtain ⟨xs, ys, a, vs, hf, hv1, hH, rr, rfl, put⟩ := put_run s3 e
      rw [hw1] at hv1
      cases hv1
      have hf' : setAt xs kk y = some ys := hf
      unfold setAt at hf'
      split at hf'
      · rename_i n
        cases r3
        cases pl : place xs.length n with
        | none => rw [pl] at hf'; cases hf'
        | some j =>
          rw [pl] at hf'
          cases hf'
          obtain ⟨m4, s4⟩ := put (vs.set j v) (rr.set j (r2.mono (x3.mon s2.hs)))
          exact ⟨a, vs, n, j, rfl, rfl, hH, by rw [rr.length]; exact pl, k g3 _ σ (((x2.mon st.hs).trans (x3.mon s2.hs)).trans m4) s4⟩
      · cases hf'
def gtL (K : KF) : V → V → Hp → VK → Prop := fun o i H Q => ∃ p xs k v, o = .ref p ∧ i = .int k ∧ SqL K H p xs ∧ atI xs k = some v ∧ Q v H
theorem gt_list : PGet X (gtL X.K) := by
  intro pins s σ H o i ov iv Q I ro ri h
  obtain ⟨p, xs, k, v, rfl, rfl, hq, he, q⟩ := h
  cases ro
  obtain ⟨t, rfl⟩ := ri
  obtain ⟨its, r, pl, hz⟩ := I.list hq
  obtain ⟨j, h1, h2, h3, h4, h5⟩ := atI_get he
  obtain ⟨w, ew, rw'⟩ := r.get h2
  have hl := r.length
  have hn := line63
  have fin : EP X pins σ Q w s := ⟨v, H, I, rw', q⟩
  by_cases h0 : 0 ≤ k
  · have hj : k.toNat = j := by
      rw [seqIndex_of h0 h5] at h1
      exact Option.some.inj h1
    exact wpAny_getItem_list pl.isList h0 (by omega) (by rw [hj]; simpa using ew) fin
  · have hj : (k + (its.toArray.size : Int)).toNat = j := by
      rw [seqIndex_neg (by omega) h4] at h1
      rw [List.size_toArray, ← hl]
      exact Option.some.inj h1
    exact wpAny_getItem_list_neg pl.isList (by omega) (by rw [List.size_toArray] <;> omega) (by omega) (by rw [hj]; simpa using ew) fin
/-- x[k] op= e, by ints -/
theorem s_augix {i : Nat} {o : BinO} {x : Str} {ke e : Expr} {fk fe : FE} {px spos pos : Pos} (ho : o ≠ .pow) (hN : X.N[i]? = some x) (hv : Vis X.env.scope x) (hd : (x == ("__debug__" : Str)) = false) (hcd : (x == ("__classdict__" : Str)) = false) (hk : SE X ke fk) (he : SE X e fe) :
    PS X (.AugAssign (.Subscript (.Name x px) ke spos) (opOf o) e pos) (tS X.K (augixS i fk o fe)) := by
  have ha : ∀ ov iv new, augStore ke ov iv new = (do holding [new, ov, iv] (setItem ov iv new); release [new, ov, iv] []; pure Flow.next) := by
    intro ov iv new
    have := hk.px
    cases ke <;> first
      | rfl
      | cases this
  refine PS.weak (ps_augS (pe_var hN hv hd hcd) hk.e gt_list he.e (ip_x ho) set_list ha) fun D σ H ⟨q, g, h, ρ, st, fl, ρ', h', e, k⟩ => ?_
  obtain ⟨kk, h1, e1, e⟩ := bind_ok e
  cases c : slot ρ i with
  | none => rw [c] at e; cases e
  | some s =>
    rw [c] at e
    cases d : ixSem h1 s kk with
    | none =>
      have e' : (match ixSem h1 s kk with | some (.v (.int x)) => (fe ρ h1).bind fun r h => (match r with | .v (.int b) => (match augInt o x b with | some c => putL ρ h i fun xs => setAt xs kk (.int c) | none => .bad) | _ => .bad) | _ => .bad) = .ok (fl, ρ') h' := e
      rw [d] at e'; cases e'
    | some z =>
      have e' : (match ixSem h1 s kk with | some (.v (.int x)) => (fe ρ h1).bind fun r h => (match r with | .v (.int b) => (match augInt o x b with | some c => putL ρ h i fun xs => setAt xs kk (.int c) | none => .bad) | _ => .bad) | _ => .bad) = .ok (fl, ρ') h' := e
      rw [d] at e'
      clear e
      have hz : ∃ x, z = .v (.int x) := by
        cases z with
        | v y =>
          cases y with
          | int x => exact ⟨x, rfl⟩
          | _ => cases e'
        | _ => cases e'
      obtain ⟨x0, rfl⟩ := hz
      obtain ⟨r, h2, e2, e⟩ := bind_ok (show (fe ρ h1).bind (fun r h => (match r with | .v (.int b) => (match augInt o x0 b with | some c => putL ρ h i fun xs => setAt xs kk (.int c) | none => .bad) | _ => .bad)) = .ok (fl, ρ') h' from e')
      have hr : ∃ b, r = .v (.int b) := by
        cases r with
        | v y =>
          cases y with
          | int x => exact ⟨x, rfl⟩
          | _ => cases e
        | _ => cases e
      obtain ⟨b0, rfl⟩ := hr
      have e3 : (match augInt o x0 b0 with | some c => putL ρ h2 i fun xs => setAt xs kk (.int c) | none => .bad) = .ok (fl, ρ') h' := e
      rw [show augInt o x0 b0 = binInt o x0 b0 from if_neg ho] at e3
      cases cc : binInt o x0 b0 with
      | none => rw [cc] at e3; cases e3
      | some c0 =>
        rw [cc] at e3
        obtain ⟨w, hw1, hw2⟩ := st.sl i _ c
        refine ⟨w, hw1, q, g, h, ρ, st, kk, h1, e1, fun g1 H1 u x1 s1 r1 => ?_⟩
        obtain ⟨w', hw1', hw3⟩ := s1.sl i _ c
        rw [hw1] at hw1'
        cases hw1'
        -- what the slot's list is now
        have got : ∃ p xs vs kn, w = .ref p ∧ H1 p = some (.lst vs) ∧ Reps X.K g1 H1 xs vs ∧ kk = .v (.int kn) ∧ pick xs kn = some (.int x0) := by
          have d0 := d
          unfold ixSem at d0
          split at d0
          · rename_i xs kn hx
            have hp : pick xs kn = some (.int x0) := by
              cases pk : pick xs kn with
              | none => rw [pk] at d0; cases d0
              | some y => rw [pk] at d0; cases d0; rfl
            cases s with
            | L bb ys =>
              obtain ⟨p, rfl, ⟨vs, h3, h4⟩, _⟩ := hw3
              have hx' : some ys = some xs := hx
              cases hx'
              exact ⟨p, _, vs, kn, rfl, h3, h4, rfl, hp⟩
            | D bb ks vs => exact hw3.elim
            | v y =>
              cases y with
              | loc n =>
                cases hw3 with
                | loc hl =>
                  have hx' : (match hget h1 n with | some (.l xs) => some xs | _ => none) = some xs := hx
                  cases hg : hget h1 n with
                  | none => rw [hg] at hx'; cases hx'
                  | some oo =>
                    rw [hg] at hx'
                    cases oo with
                    | l zs =>
                      cases hx'
                      obtain ⟨vs, h3, h4⟩ := s1.hs.ob n _ _ hg hl
                      exact ⟨_, _, vs, kn, rfl, h3, h4, rfl, hp⟩
                    | d ks vs => cases hx'
              | _ =>
                exfalso
                unfold putL at e3
                rw [c] at e3
                cases e3
          · cases d0
        obtain ⟨p, xs, vs, kn, rfl, hH1, hR1, rfl, hpk⟩ := got
        cases r1
        obtain ⟨v0, hp0, hp1⟩ := hR1.pick hpk
        cases hp1
        refine ⟨p, vs, kn, .int x0, rfl, rfl, .inl (.inl hH1), hp0, q, g1, h1, ρ, s1, .v (.int b0), h2, e2, fun g2 H2 t x2 s2 r2 => ?_⟩
        cases r2
        refine ⟨x0, b0, c0, cc, rfl, rfl, ?_⟩
        obtain ⟨xs2, ys2, a2, vs2, hf, hv1, hH, rr, rfl, put⟩ := put_run s2 e3
        rw [hw1] at hv1
        cases hv1
        have hf' : (match (RV.v (.int kn)) with | .v (.int i) => (place xs2.length i).map fun j => xs2.set j (.int c0) | _ => none) = some ys2 := hf
        cases pl : place xs2.length kn with
        | none =>
          have hf2 : ((place xs2.length kn).map fun j => xs2.set j (.int c0)) = some ys2 := hf'
          rw [pl] at hf2; cases hf2
        | some j =>
          have hf2 : ((place xs2.length kn).map fun j => xs2.set j (.int c0)) = some ys2 := hf'
          rw [pl] at hf2
          cases hf2
          obtain ⟨m4, s4⟩ := put (vs2.set j (.int c0)) (rr.set j (.int c0))
          exact ⟨_, vs2, kn, j, rfl, rfl, hH, by rw [rr.length]; exact pl, k g2 _ σ (((x1.mon st.hs).trans (x2.mon s1.hs)).trans m4) s4⟩
/-! loops -/
theorem forL_cons {b : PV → FS} {xs : List PV} {i : Nat} {e : PV} {ρ : Env} {h h' : AH} {fl : Fl} {ρ' : Env} (hi : xs[i]? = some e) (w : forL b (xs.drop i) ρ h = .ok (fl, ρ') h') :
    ∃ f1 ρ1 h1, b e ρ h = .ok (f1, ρ1) h1 ∧ (match f1 with | .nx => forL b (xs.drop (i + 1)) ρ1 h1 | .cont => forL b (xs.drop (i + 1)) ρ1 h1 | .brk => .ok (.nx, ρ1) h1 | .ret q => .ok (.ret q, ρ1) h1) = .ok (fl, ρ') h' := by
  obtain ⟨hl, he⟩ := List.getElem?_eq_some_iff.mp hi
  rw [List.drop_eq_getElem_cons hl, he] at w
  obtain ⟨⟨f1, ρ1⟩, h1, e1, e2⟩ := bind_ok w
  exact ⟨f1, ρ1, h1, e1, e2⟩
theorem for_use {K : KF} {t : Tg} {fi : Bool → FI} {fb : FS} {D : Ends} {σ : L2.St} {H : Hp} (w : tS K (forS t (fi false) fb) D σ H) : tFor (tI K false (fi false)) (tgG K t) (tS K fb) D σ H := by
  obtain ⟨q, g, h, ρ, st, fl, ρ', h', e, k⟩ := w
  obtain ⟨xs, h1, e1, e⟩ := bind_ok e
  refine ⟨q, g, h, ρ, st, xs, h1, e1, fun g1 H1 J x1 s1 sv => ?_⟩
  generalize hb : (fun x ρ h => match bindTg t x ρ with | some ρ => fb ρ h | none => .bad : PV → FS) = body at e
  refine ⟨fun i m σ2 H2 => m = xs.length - i ∧ i ≤ xs.length ∧ ∃ g2 h2 ρ2, Mon g1 H1 g2 H2 ∧ St K q g2 H2 h2 ρ2 σ2 ∧ forL body (xs.drop i) ρ2 h2 = .ok (fl, ρ') h', ⟨xs.length, by simp, Nat.zero_le _, g1, h1, ρ, Mon.refl, s1, e⟩, ?_⟩
  rintro i m σ2 H2 ⟨rfl, hi, g2, h2, ρ2, m2, s2, lp⟩
  have sv2 := sv g2 H2 ⟨m2, fun z => by cases z⟩
  by_cases hlt : i < xs.length
  · refine .inr ⟨sv2.go i hlt, fun σ3 H3 => ∃ g3 h3 ρ3, Mon g1 H1 g3 H3 ∧ St K q g3 H3 h3 ρ3 σ3 ∧ forL body (xs.drop (i + 1)) ρ3 h3 = .ok (fl, ρ') h', fun σ3 H3 w => ⟨xs.length - (i + 1), by omega, rfl, hlt, w⟩, fun x H3 y => ?_⟩
    obtain ⟨ex, he, y⟩ := sv2.yld i x H3 y hlt
    obtain ⟨g3, x3, s3, r3⟩ := yl_run y s2
    obtain ⟨f1, ρ4, h4, e4, lp2⟩ := forL_cons he lp
    have st3 := s2.to x3 s3
    have m3 : Mon g1 H1 g3 H3 := m2.trans (x3.mon s2.hs)
    rw [← hb] at e4
    cases c : bindTg t ex ρ2 with
    | none =>
      have e5 : (match bindTg t ex ρ2 with | some ρ => fb ρ h2 | none => .bad) = .ok (f1, ρ4) h4 := e4
      rw [c] at e5; cases e5
    | some ρ3 =>
      have e5 : (match bindTg t ex ρ2 with | some ρ => fb ρ h2 | none => .bad) = .ok (f1, ρ4) h4 := e4
      rw [c] at e5
      refine tg_run st3 r3 c fun σ' st' _ _ => ⟨q, g3, h2, ρ3, st', f1, ρ4, h4, e5, ?_⟩
      cases f1 with
      | nx => exact fun g' H' σ5 m5 s5 => ⟨g', h4, ρ4, m3.trans m5, s5, lp2⟩
      | cont => exact fun g' H' σ5 m5 s5 => ⟨g', h4, ρ4, m3.trans m5, s5, lp2⟩
      | brk => cases lp2; exact fun g' H' σ5 m5 s5 => k g' H' σ5 (((x1.mon st.hs).trans m3).trans m5) s5
      | ret r => cases lp2; exact k
  · have ei : i = xs.length := by omega
    subst ei
    rw [List.drop_length] at lp
    cases lp
    exact .inl ⟨sv2.stop, k g2 H2 σ2 ((x1.mon st.hs).trans m2) s2⟩
theorem s_for {t : Tg} {tg iter : Expr} {body : List Stmt} {fi : Bool → FI} {fb : FS} {pos : Pos} (hp : PassesOwn (model X.prog X.w) X.A X.env X.xe) (hc : X.calm = true) (hi : SI X tg iter fi) (hg : PG X tg (tgG X.K t)) (hb : PSs X body (tS X.K fb)) :
    PS X (.For tg iter body [] pos) (tS X.K (forS t (fi false) fb)) := PS.weak (ps_for hp hc (hi.i false) hg hb (plain_iter hi.px)) fun D σ H w => for_use w
theorem while_use {K : KF} {fc : FE} {fb : FS} {D : Ends} {σ : L2.St} {H : Hp} (w : tS K (whileS fc fb) D σ H) : tWhile (tOb K (truthE fc)) (tS K fb) D σ H := by
  obtain ⟨q, g, h, ρ, st, fl, ρ', h', e, k⟩ := w
  have e : whileL (truthE fc) fb whileFuel ρ h = .ok (fl, ρ') h' := e
  refine ⟨fun m σ2 H2 => ∃ g2 h2 ρ2, Mon g H g2 H2 ∧ St K q g2 H2 h2 ρ2 σ2 ∧ whileL (truthE fc) fb m ρ2 h2 = .ok (fl, ρ') h', ⟨whileFuel, g, h, ρ, Mon.refl, st, e⟩, ?_⟩
  rintro m σ2 H2 ⟨g2, h2, ρ2, m2, s2, lp⟩
  cases m with
  | zero => cases lp
  | succ m =>
    obtain ⟨b, h3, e3, lp⟩ := bind_ok (show (truthE fc ρ2 h2).bind (fun b h => if b then (fb ρ2 h).bind fun r h => match r.1 with
      | .nx => whileL (truthE fc) fb m r.2 h
      | .cont => whileL (truthE fc) fb m r.2 h
      | .brk => .ok (.nx, r.2) h
      | .ret q => .ok (.ret q, r.2) h
    else .ok (.nx, ρ2) h) = .ok (fl, ρ') h' from lp)
    refine ⟨q, g2, h2, ρ2, s2, b, h3, e3, fun g3 H3 x3 s3 => ?_⟩
    have m3 := m2.trans (x3.mon s2.hs)
    cases b with
    | false => cases lp; exact ite_f (k g3 H3 σ2 m3 s3)
    | true =>
      refine ite_t ⟨fun σ4 H4 => ∃ g4 h4 ρ4, Mon g H g4 H4 ∧ St K q g4 H4 h4 ρ4 σ4 ∧ whileL (truthE fc) fb m ρ4 h4 = .ok (fl, ρ') h', fun σ4 H4 w => ⟨m, Nat.lt_succ_self m, w⟩, ?_⟩
      obtain ⟨⟨f1, ρ4⟩, h4, e4, lp2⟩ := bind_ok (show (fb ρ2 h3).bind (fun r h => match r.1 with
      | .nx => whileL (truthE fc) fb m r.2 h
      | .cont => whileL (truthE fc) fb m r.2 h
      | .brk => .ok (.nx, r.2) h
      | .ret q => .ok (.ret q, r.2) h) = .ok (fl, ρ') h' from lp)
      refine ⟨q, g3, h3, ρ2, s3, f1, ρ4, h4, e4, ?_⟩
      cases f1 with
      | nx => exact fun g' H' σ5 m5 s5 => ⟨g', h4, ρ4, m3.trans m5, s5, lp2⟩
      | cont => exact fun g' H' σ5 m5 s5 => ⟨g', h4, ρ4, m3.trans m5, s5, lp2⟩
      | brk => cases lp2; exact fun g' H' σ5 m5 s5 => k g' H' σ5 (m3.trans m5) s5
      | ret r => cases lp2; exact k
theorem s_while {c : Expr} {body : List Stmt} {fc : FE} {fb : FS} {pos : Pos} (hp : PassesOwn (model X.prog X.w) X.A X.env X.xe) (hc : SE X c fc) (hb : PSs X body (tS X.K fb)) : PS X (.While c body [] pos) (tS X.K (whileS fc fb)) :=
  PS.weak (ps_while hp hc.t hb) fun D σ H w => while_use w
end
end WT
end
section
set_option Elab.async false
set_option linter.all false
set_option maxRecDepth 100000
set_option maxHeartbeats 4000000
/-! a, b = x, y. -/
namespace WT
open PySem PySem.Spec PyProof.Rows L2
section
variable {K : KF} {q : Fe} {g g' : Gh} {H H' : Hp} {h h' : AH} {ρ ρ' : Env} {σ : L2.St} {a : Addr}
theorem NoD.setL {i : Nat} {b : Addr} {c : Bool} {xs : List PV} (n : NoD ρ σ b) (ne : b ≠ a) : NoD (setSlot ρ i (some (.L c xs))) (σ.set i (some (.ref a))) b := fun j c ys hr => by
  rcases slot_set hr with ⟨rfl, e⟩ | ⟨m, e⟩
  · intro e1
    by_cases hl : i < σ.length
    · rw [List.getElem?_set_self hl] at e1
      cases e1
      exact ne rfl
    · rw [List.getElem?_eq_none (by rw [List.length_set]; omega)] at e1
      cases e1
  · rw [List.getElem?_set_ne m]; exact n j c ys e
/-- an address of nobody is frozen -/
theorem St.addN (s : St K q g H h ρ σ) (n : NoD ρ σ a) (hp : H a ≠ none) (nl : a ∉ g.L) (hq : q.H a = none) : St K q (g.add a) H h ρ σ := by
  refine ⟨s.hs.frz hp nl, Ext.frz hp q.H q.g s.ex hq, s.len, fun j r' hr => ?_, s.ow⟩
  obtain ⟨v, k6, k7⟩ := s.sl j r' hr
  refine ⟨v, k6, ?_⟩
  cases r' with
  | v y => exact Rep.mono Mon.frz k7
  | L c zs =>
    obtain ⟨b', rfl, ⟨ws, k8, k9⟩, m1, m2, m3⟩ := k7
    refine ⟨b', rfl, ⟨ws, k8, k9.mono Mon.frz⟩, fun z => ?_, m2, m3⟩
    rcases z with z | z
    · exact m1 z
    · subst z; exact n j c zs hr k6
  | D c ks vs => exact k7.elim
/-- an answer that is to be stored -/
def PendR (K : KF) (q : Fe) (g : Gh) (H : Hp) (ρ : Env) (σ : L2.St) (r : RV) (v : V) : Prop := match r with
  | .v x => Rep K g H x v
  | .L false xs => ∃ a, v = .ref a ∧ HasL K g H a xs ∧ ¬ g.F a ∧ a ∉ g.L ∧ q.H a = none ∧ NoD ρ σ a
  | .L true _ => True
  | .D _ _ _ => False
theorem owns_run : ∀ {is : List (Nat × Bool)} {rs : List RV} {vs : List V} {ρ ρ' : Env} {σ : L2.St} {g : Gh}, St K q g H h ρ σ → (∀ (j : Nat) r v, rs[j]? = some r → vs[j]? = some v → PendR K q g H ρ σ r v) → Dis rs vs → setOwns ρ is rs = some ρ' →
    ∃ g', Mon g H g' H ∧ St K q g' H h ρ' (setVs σ (is.map (·.1)) vs) ∧ vs.length = is.length
  | [], [], _, _, _, _, g, s, _, .nil, e => by cases e; exact ⟨g, Mon.refl, s, rfl⟩
  | [], _ :: _, _, _, _, _, _, _, _, _, e => by cases e
  | (i, true) :: is, [], _, _, _, _, _, _, _, _, e => by cases e
  | (i, false) :: is, [], _, _, _, _, _, _, _, _, e => by cases e
  | (i, true) :: is, r :: rs, v :: vs, ρ, ρ', σ, g, s, pd, .cons d ds, e => by
    cases r with
    | v y => cases e
    | D c ks us => cases e
    | L c xs =>
      cases c with
      | true => cases e
      | false =>
        obtain ⟨a, rfl, hl, n1, n2, n3, n4⟩ := pd 0 _ _ rfl rfl
        have s1 := s.setL (i := i) hl n1 n2 n3 fun j r' hj ho _ => by
          cases r' with
          | v y => cases ho
          | L c zs => exact n4 j c zs hj
          | D c ks vs => obtain ⟨_, _, z⟩ := s.sl j _ hj; exact z.elim
        obtain ⟨g', m, s2, l⟩ := owns_run (is := is) s1 (fun j r v h1 h2 => by
          have p := pd (j + 1) r v (by simpa using h1) (by simpa using h2)
          cases r with
          | v y => exact p
          | D c ks us => exact p.elim
          | L c zs =>
            cases c with
            | true => trivial
            | false =>
              obtain ⟨b, rfl, k1, k2, k3, k4, k5⟩ := p
              exact ⟨b, rfl, k1, k2, k3, k4, k5.setL fun e => d xs rfl j zs _ h1 h2 (by rw [e])⟩) ds e
        exact ⟨g', m, s2, by rw [List.length_cons, List.length_cons, l]⟩
  | (i, false) :: is, r :: rs, v :: vs, ρ, ρ', σ, g, s, pd, .cons d ds, e => by
    have e' : (match r.toPV with | some x => setOwns (setSlot ρ i (some (.v x))) is rs | none => none) = some ρ' := e
    have rest : ∀ {g1 : Gh} {x : PV}, Mon g H g1 H → St K q g1 H h ρ σ → Rep K g1 H x v → (∀ (j : Nat) zs b, rs[j]? = some (.L false zs) → vs[j]? = some (.ref b) → ¬ g1.F b ∧ b ∉ g1.L) → setOwns (setSlot ρ i (some (.v x))) is rs = some ρ' → ∃ g', Mon g H g' H ∧ St K q g' H h ρ' (setVs σ (((i, false) :: is).map (·.1)) (v :: vs)) ∧ (v :: vs).length = ((i, false) :: is).length := fun {g1 x} m1 s1 r1 hn e2 => by
      obtain ⟨g', m, s2, l⟩ := owns_run (is := is) (s1.setV (i := i) r1) (fun j r v h1 h2 => by
        have p := pd (j + 1) r v (by simpa using h1) (by simpa using h2)
        cases r with
        | v y => exact Rep.mono m1 p
        | D c ks us => exact p.elim
        | L c zs =>
          cases c with
          | true => trivial
          | false =>
            obtain ⟨b, rfl, ⟨ws, k1, k1'⟩, k2, k3, k4, k5⟩ := p
            obtain ⟨k6, k7⟩ := hn j zs b h1 h2
            exact ⟨b, rfl, ⟨ws, k1, k1'.mono m1⟩, k6, k7, k4, k5.setV⟩) ds e2
      exact ⟨g', m1.trans m, s2, by rw [List.length_cons, List.length_cons, l]⟩
    cases r with
    | v y => exact rest Mon.refl s (pd 0 _ _ rfl rfl) (fun j zs b h1 h2 => by
        obtain ⟨b', eb, _, k2, k3, _, _⟩ := pd (j + 1) _ _ (show ((RV.v y) :: rs)[j + 1]? = some (.L false zs) by simpa using h1) (show (v :: vs)[j + 1]? = some (.ref b) by simpa using h2)
        cases eb
        exact ⟨k2, k3⟩) e'
    | D c ks us => exact (pd 0 _ _ rfl rfl).elim
    | L c xs =>
      cases c with
      | true => cases e'
      | false =>
        obtain ⟨a, rfl, ⟨ws, hl, hl2⟩, n1, n2, n3, n4⟩ := pd 0 _ _ rfl rfl
        have hp : H a ≠ none := by rw [hl]; simp
        have m1 : Mon g H (g.add a) H := Mon.frz
        exact rest m1 (s.addN n4 hp n2 n3) (.lst ⟨.inr rfl, .inl hl⟩ (hl2.mono m1)) (fun j zs b h1 h2 => by
          obtain ⟨b', eb, _, k2, k3, _, _⟩ := pd (j + 1) _ _ (show ((RV.L false xs) :: rs)[j + 1]? = some (.L false zs) by simpa using h1) (show (V.ref a :: vs)[j + 1]? = some (.ref b) by simpa using h2)
          cases eb
          refine ⟨fun z => ?_, k3⟩
          rcases z with z | z
          · exact k2 z
          · exact d xs rfl j zs _ h1 h2 (by rw [z])) e'
theorem names_set {is : List Nat} : ∀ {vs : List V} {σ : L2.St} {Q : L2.St → Hp → Prop}, vs.length = is.length → Q (setVs σ is vs) H → gNames is vs σ H Q := by
  induction is with
  | nil =>
    intro vs σ Q hl hq
    cases vs with
    | nil => exact ⟨rfl, hq⟩
    | cons _ _ => cases hl
  | cons i is ih =>
    intro vs σ Q hl hq
    cases vs with
    | nil => cases hl
    | cons v vs => exact ⟨v, vs, rfl, ih (Nat.succ.inj hl) hq⟩
end
section
variable {X : Cx}
/-- the stores -/
theorem par_use {K : KF} {is : List (Nat × Bool)} {fs : FEs} {D : Ends} {σ : L2.St} {H : Hp} (w : tS K (parS is fs) D σ H) : tOs K fs σ H fun vs H1 => vs.length = is.length ∧ D.nx (setVs σ (is.map (·.1)) vs) H1 ∧ ∀ p, H1 p = none → D.nx (setVs σ (is.map (·.1)) vs) (upd H1 p (.tup vs)) := by
  obtain ⟨q, g, h, ρ, st, fl, ρ', h', e, k⟩ := w
  obtain ⟨rs, h1, e1, e⟩ := bind_ok e
  refine ⟨q, g, h, ρ, st, rs, h1, e1, fun g1 H1 vs x1 s1 r1 d1 => ?_⟩
  cases c : setOwns ρ is rs with
  | none => rw [c] at e; cases e
  | some ρ2 =>
    rw [c] at e
    cases e
    have pd : ∀ (g2 : Gh) (H2 : Hp), Ext g1 H1 g2 H2 → ∀ (j : Nat) r v, rs[j]? = some r → vs[j]? = some v → PendR K q g2 H2 ρ σ r v := fun g2 H2 x2 j r v k1 k2 => by
      have := (r1.ext s1 x2).get k1 k2
      cases r with
      | v y => exact this
      | D c ks us => exact this.elim
      | L c zs =>
        cases c with
        | true => trivial
        | false =>
          obtain ⟨a, rfl, hl, n1, n2, n3⟩ := this
          exact ⟨a, rfl, hl, n1, n2, st.ex.free n3, st.fresh n3⟩
    obtain ⟨g2, m2, s2, l2⟩ := owns_run s1 (pd g1 H1 (Ext.refl g1 H1)) d1 c
    refine ⟨l2, k g2 H1 _ ((x1.mon st.hs).trans m2) s2, fun p hp => ?_⟩
    have x3 : Ext g1 H1 g1 (upd H1 p (.tup vs)) := Ext.new hp
    have s3 := s1.to x3 (s1.hs.new hp)
    obtain ⟨g4, m4, s4, l4⟩ := owns_run s3 (pd g1 _ x3) d1 c
    exact k g4 _ _ (((x1.mon st.hs).trans (x3.mon s1.hs)).trans m4) s4
theorem s_par2 {i j : Nat} {bi bj : Bool} {x y : Str} {a b : Expr} {fs : FEs} {px py pt pos : Pos} {kt k2 : Nat} {pt2 : Pos} (hc : X.calm = true) (hN : X.N.Nodup) (hi : X.N[i]? = some x) (hj : X.N[j]? = some y) (hij : i ≠ j)
    (hx : X.env.scope.names.lookup x = some .local) (hy : X.env.scope.names.lookup y = some .local) (ha : SA X [a, b] fs) (hw : swappedStores [.Tuple [.Name x px, .Name y py] kt pt] (.Tuple [a, b] k2 pt2) X.env = pure (some [x, y])) :
    PS X (.Assign [.Tuple [.Name x px, .Name y py] kt pt] (.Tuple [a, b] k2 pt2) pos) (tS X.K (parS [(i, bi), (j, bj)] fs)) :=
  PS.weak (ps_par hc hN hi hj hij hx hy ha.p hw rfl) fun D σ H w => (par_use w).mono fun vs H1 ⟨hl, q, _⟩ => by
    match vs, hl, q with
    | [v, u], _, q => exact ⟨v, u, rfl, q⟩
theorem s_par3 {i j l : Nat} {bi bj bl : Bool} {x y z : Str} {a b c : Expr} {fs : FEs} {px py pz pt pos : Pos} {kt k2 : Nat} {pt2 : Pos} (hc : X.calm = true) (hN : X.N.Nodup) (hi : X.N[i]? = some x) (hj : X.N[j]? = some y) (hl : X.N[l]? = some z) (hij : i ≠ j) (hil : i ≠ l) (hjl : j ≠ l)
    (hx : X.env.scope.names.lookup x = some .local) (hy : X.env.scope.names.lookup y = some .local) (hz : X.env.scope.names.lookup z = some .local) (ha : SA X [a, b, c] fs) (hw : swappedStores [.Tuple [.Name x px, .Name y py, .Name z pz] kt pt] (.Tuple [a, b, c] k2 pt2) X.env = pure (some [x, y, z])) :
    PS X (.Assign [.Tuple [.Name x px, .Name y py, .Name z pz] kt pt] (.Tuple [a, b, c] k2 pt2) pos) (tS X.K (parS [(i, bi), (j, bj), (l, bl)] fs)) :=
  PS.weak (ps_par3 hc hN hi hj hl hij hil hjl hx hy hz ha.p hw rfl) fun D σ H w => (par_use w).mono fun vs H1 ⟨hl, q, _⟩ => by
    match vs, hl, q with
    | [v, u, t], _, q => exact ⟨v, u, t, rfl, q⟩
/-- not swapped: the tuple is made, then taken apart -/
theorem s_parT {is : List (Nat × Bool)} {ts es : List Expr} {fs : FEs} {kt k2 : Nat} {pt pt2 pos : Pos} (hz : es.length ≤ sizeLine) (ha : SA X es fs) (hg : PG X (.Tuple ts kt pt) (gTup X.K (is.map (·.1)).length (gNames (is.map (·.1))))) (hw : swappedStores [.Tuple ts kt pt] (.Tuple es k2 pt2) X.env = pure none) :
    PS X (.Assign [.Tuple ts kt pt] (.Tuple es k2 pt2) pos) (tS X.K (parS is fs)) :=
  PS.weak (ps_asg (pe_tup ha.p) hg rfl hw rfl) fun D σ H w => by
    have w2 := par_use w
    obtain ⟨q, g, h, ρ, st, rs, h1, e1, k⟩ := w2
    refine ⟨q, g, h, ρ, st, rs, h1, e1, fun g1 H1 vs x1 s1 r1 d1 => ?_⟩
    obtain ⟨hl, _, hq⟩ := k g1 H1 vs x1 s1 r1 d1
    refine ⟨by rw [r1.length, ha.len _ _ _ _ e1]; exact hz, fun p hp => ⟨p, vs, rfl, .inl (.inl upd_same), by rw [List.length_map]; exact hl, ?_⟩⟩
    exact names_set (by rw [List.length_map]; exact hl) (hq p hp)
end
end WT
end
section
set_option Elab.async false
set_option linter.all false
set_option maxRecDepth 100000
set_option maxHeartbeats 4000000
/-! More built-ins: len(set(ints)), list(range(..)), sorted(ints). -/
namespace WT
open PySem PySem.Spec PyProof.Rows L2
section
variable {X : Cx}
theorem dedup_met (ns : List Int) : firstMet (fun i => ns.getD i 0) ns.length = dedupI ns := by
  unfold firstMet dedupI
  have e : (List.range ns.length).map (fun i => ns.getD i 0) = ns := by
    apply List.ext_getElem
    · simp
    · intro i h1 h2
      simp [h2]
  rw [e]
  rfl
/-- len(set(xs)), a list of ints -/
def tLenU (K : PySem.W.Frag) (ta : TE) : TE := fun σ H Q => ta σ H fun x H1 => ∃ (l : Addr) (ns : List Int), x = V.ref l ∧ SqL K H1 l (ns.map V.int) ∧ ns.length < 4000 ∧ Q (.int (dedupI ns).length) H1
theorem pe_lenU {e : Expr} {te : TE} {p1 p2 p3 p4 : Pos} (calm : X.calm = true) (hl : Gl X "len") (ml : X.mg "len" = none) (hs : Gl X "set") (ms : X.mg "set" = none) (he : PE X e te)
    (na : starEach [e] X.env = (false, eval e X.env) :: starEach [] X.env) : PE X (.Call (.Name "len" p1) [.Call (.Name "set" p2) [e] [] p3] [] p4) (tLenU X.K te) := by
  constructor
  intro pins s σ H Q I w
  refine Call_ (ld_blt I hl ml PySem.boot_len ?_)
  refine PyProof.Rows.callWith_builtin1 (args_cons ?_ rfl) rfl rfl
  refine Call_ (ld_blt I hs ms boot_set ?_)
  refine PyProof.Rows.callWith_type1 (args_cons (thn (he.run pins s σ H _ I w) ?_) na) na rfl
  rintro v s1 ⟨x, H1, I1, r1, l, ns, rfl, hq, hn, q1⟩
  apply args_nil
  cases r1
  obtain ⟨its, rr, pl, hz⟩ := I1.list hq
  have hsz : its.toArray.size = ns.length := by
    have := rr.length
    simp at this ⊢
    omega
  have hb : its.toArray.size + 1 < scanBound := by rw [hsz]; unfold scanBound; omega
  refine call_set_list (I1.ok.hd calm) pl.isList (ns := ns) (by simpa using rr.ints) hb ?_
  intro h' tk hS hk
  rw [hsz, dedup_met] at hS
  apply args_nil
  obtain ⟨o, es, ep, t, ho, hex, hd, _, _, _, hf, hcount⟩ := hS
  have I2 : Inv X pins σ H1 { s1 with heap := h', toks := tk } := I1.kept fun b o e => hk b o (Heap.lt_size e) e
  have hle : (dedupI ns).length ≤ ns.length := by
    have aux : ∀ (l acc : List Int), (l.foldl (fun acc x => if acc.any (· == x) then acc else acc ++ [x]) acc).length ≤ acc.length + l.length := by
      intro l
      induction l with
      | nil => intro acc; simp
      | cons a l ih =>
        intro acc
        rw [List.foldl_cons]
        refine Nat.le_trans (ih _) ?_
        split <;> simp <;> omega
    have := aux ns []
    simpa [dedupI] using this
  refine call_len_set ho hex hd hf (by rw [hcount]; omega) ?_
  refine ⟨.int (dedupI ns).length, H1, I2.tok _, ?_, q1⟩
  rw [hcount]
  exact ⟨_, rfl⟩
theorem e_lenSet {a : Expr} {fa : FE} {p1 p2 p3 p4 : Pos} (calm : X.calm = true) (hl : Gl X "len") (ml : X.mg "len" = none) (hs : Gl X "set") (ms : X.mg "set" = none) (ha : SE X a fa) :
    SE X (.Call (.Name "len" p1) [.Call (.Name "set" p2) [a] [] p3] [] p4) fun ρ h => (fa ρ h).bind fun x h => .ofOpt (opSem h .lenSetI [x]) h :=
  .plain (PE.weak (pe_lenU calm hl ml hs ms ha.e (plain_star ha.px)) fun _ _ _ w => (one (sem := fun h x => opSem h .lenSetI [x]) w).mono fun v H w => by
    obtain ⟨q, H0, g, h, ρ, σ, a, r, st, ra, e, k⟩ := w
    have e0 : N ((a.lst? h).bind fun xs => if xs.length < 4000 then (pInts xs).map fun ns => ((dedupI ns).length : Int) else none) = some r := e
    cases c : a.lst? h with
    | none => rw [c] at e0; cases e0
    | some ys =>
      rw [c] at e0
      simp only [Option.bind_some] at e0
      split at e0
      · rename_i hl
        cases d : pInts ys with
        | none => rw [d] at e0; cases e0
        | some ns =>
          rw [d] at e0
          obtain ⟨p, vs, rfl, h1, h2⟩ := res_lst st ra c
          have ev := h2.ints d
          subst ev
          have hlen : ns.length = ys.length := by
            have := h2.length
            simpa using this
          exact ⟨p, ns, rfl, .inl h1, by omega, fin_i st e0 k⟩
      · cases e0) (fun _ => rfl) fun _ _ _ e => nomatch e
/-! list(range(..)) -/
theorem reps_rg {K : KF} {g : Gh} {H : Hp} : ∀ (n : Nat) (m : Int), Reps K g H (rangeL m n) ((List.range n).map fun i => V.int (m + (i : Nat))) := by
  intro n m
  have e : rangeL m n = ((List.range n).map fun i : Nat => m + (i : Int)).map PV.int := by
    rw [List.map_map]
    apply List.ext_getElem?
    intro i
    by_cases hi : i < n
    · rw [rangeL_get n i m hi]
      simp [hi]
    · rw [List.getElem?_eq_none (by rw [rangeL_length]; omega), List.getElem?_eq_none (by simp; omega)]
  have e2 : ((List.range n).map fun i : Nat => V.int (m + (i : Nat))) = ((List.range n).map fun i : Nat => m + (i : Int)).map V.int := by
    rw [List.map_map]
    rfl
  rw [e, e2]
  exact Reps.of_ints _
theorem rg_ok {m n : Int} (h1 : okInt m = true) (h2 : okInt n = true) (h3 : n - m < 10000) : RgOk m n := by
  have a := okInt_b h1
  have b := okInt_b h2
  exact ⟨by omega, by omega, by omega, by omega, by omega⟩
theorem e_lstRg1 {a : Expr} {fa : FE} {p1 p2 p3 p4 : Pos} (calm : X.calm = true) (hl : Gl X "list") (ml : X.mg "list" = none) (hs : Gl X "range") (ms : X.mg "range" = none) (ha : SE X a fa) :
    SE X (.Call (.Name "list" p1) [.Call (.Name "range" p2) [a] [] p3] [] p4) fun ρ h => (fa ρ h).bind fun x h => .ofOpt (opSem h .lstRange1 [x]) h :=
  .plain (PE.weak (pe_listRg calm hl ml (prg_1 hs ms ha.e (plain_star ha.px)) rfl) fun _ _ _ w => (one (sem := fun h x => opSem h .lstRange1 [x]) w).mono fun v H w => by
    obtain ⟨q, H0, g, h, ρ, σ, a, r, st, ra, e, k⟩ := w
    cases a with
    | v y =>
      cases y with
      | int n =>
        cases ra
        have e0 : (if okInt n && decide (n < 10000) then some (RV.L false (rangeL 0 n.toNat)) else none) = some r := e
        split at e0
        · rename_i hb
          rw [Bool.and_eq_true, decide_eq_true_eq] at hb
          refine ⟨n, rfl, rg_ok (by decide) hb.1 (by omega), ?_⟩
          have hr := reps_rg (K := X.K) (g := g) (H := H) n.toNat 0
          have e4 : rgV 0 n = (List.range n.toNat).map fun i => V.int (0 + (i : Nat)) := by
            unfold rgV
            rw [show n - 0 = n by omega]
          rw [e4]
          exact fin_L st hr e0 k
        · cases e0
      | _ => cases e
    | _ => cases e) (fun _ => rfl) fun _ _ _ e => nomatch e
theorem e_lstRg2 {a b : Expr} {fa fb : FE} {p1 p2 p3 p4 : Pos} (calm : X.calm = true) (hl : Gl X "list") (ml : X.mg "list" = none) (hs : Gl X "range") (ms : X.mg "range" = none) (ha : SE X a fa) (hb : SE X b fb) :
    SE X (.Call (.Name "list" p1) [.Call (.Name "range" p2) [a, b] [] p3] [] p4) fun ρ h => (fa ρ h).bind fun x h => (fb ρ h).bind fun y h => .ofOpt (opSem h .lstRange2 [x, y]) h :=
  .plain (PE.weak (pe_listRg calm hl ml (prg_2 hs ms ha.e hb.e (by rw [plain_star ha.px, plain_star hb.px]) (plain_star hb.px) (by rw [plain_star hb.px]; rfl)) rfl) fun _ _ _ w => (two (sem := fun h x y => opSem h .lstRange2 [x, y]) w).mono fun v H w => w.mono fun u H w => by
    obtain ⟨q, H0, g, h, ρ, σ, a, b, r, st, ra, rb, e, k⟩ := w
    cases a with
    | v y =>
      cases y with
      | int m =>
        cases b with
        | v z =>
          cases z with
          | int n =>
            cases ra
            cases rb
            have e0 : (if okInt m && okInt n && decide (n - m < 10000) then some (RV.L false (rangeL m (n - m).toNat)) else none) = some r := e
            split at e0
            · rename_i hb
              simp only [Bool.and_eq_true, decide_eq_true_eq] at hb
              refine ⟨m, n, rfl, rfl, rg_ok hb.1.1 hb.1.2 hb.2, ?_⟩
              have hr := reps_rg (K := X.K) (g := g) (H := H) (n - m).toNat m
              exact fin_L st hr e0 k
            · cases e0
          | _ => cases e
        | _ => cases e
      | _ => cases e
    | _ => cases e) (fun _ => rfl) fun _ _ _ e => nomatch e
/-! sorted(xs): ints, of a list or a tuple -/
theorem ins_perm (x : Int) : ∀ l : List Int, (ins x l).Perm (x :: l)
  | [] => List.Perm.refl _
  | y :: ys => by
    unfold ins
    split
    · exact List.Perm.refl _
    · exact ((ins_perm x ys).cons y).trans (List.Perm.swap x y ys)
theorem isort_perm : ∀ l : List Int, (isort l).Perm l
  | [] => List.Perm.refl _
  | x :: xs => (ins_perm x (isort xs)).trans ((isort_perm xs).cons x)
theorem ins_sorted (x : Int) : ∀ l : List Int, l.Pairwise (· ≤ ·) → (ins x l).Pairwise (· ≤ ·)
  | [], _ => by simp [ins]
  | y :: ys, h => by
    unfold ins
    have hh := List.pairwise_cons.mp h
    split
    · rename_i hxy
      refine List.pairwise_cons.mpr ⟨?_, h⟩
      intro z hz
      rcases List.mem_cons.mp hz with rfl | hz
      · exact hxy
      · exact Int.le_trans hxy (hh.1 z hz)
    · rename_i hxy
      refine List.pairwise_cons.mpr ⟨?_, ins_sorted x ys hh.2⟩
      intro z hz
      rcases List.mem_cons.mp ((ins_perm x ys).mem_iff.mp hz) with rfl | hz
      · omega
      · exact hh.1 z hz
theorem isort_sorted : ∀ l : List Int, (isort l).Pairwise (· ≤ ·)
  | [] => List.Pairwise.nil
  | x :: xs => ins_sorted x _ (isort_sorted xs)
theorem sorted_same : ∀ {l m : List Int}, l.Perm m → l.Pairwise (· ≤ ·) → m.Pairwise (· ≤ ·) → l = m
  | [], m, p, _, _ => (List.nil_perm.mp p).symm
  | x :: l, [], p, _, _ => absurd p.length_eq (by simp)
  | x :: l, y :: m, p, h1, h2 => by
    have a := List.pairwise_cons.mp h1
    have b := List.pairwise_cons.mp h2
    have e : x = y := by
      have m1 : x ∈ y :: m := p.mem_iff.mp List.mem_cons_self
      have m2 : y ∈ x :: l := p.mem_iff.mpr List.mem_cons_self
      rcases List.mem_cons.mp m1 with h | h
      · exact h
      · rcases List.mem_cons.mp m2 with h' | h'
        · exact h'.symm
        · have := a.1 y h'
          have := b.1 x h
          omega
    subst e
    rw [sorted_same p.cons_inv a.2 b.2]
theorem seq_obj {pins : List (Addr × Obj)} {s : Shared} {σ : L2.St} {H : Hp} {p : Addr} {vs : List V} (I : Inv X pins σ H s) (h : SqL X.K H p vs ∨ SqT X.K H p vs) : ∃ (its : List Value) (o : Obj) (T : String) (n : Nat), Vals vs its ∧ (T = "list" ∨ T = "tuple") ∧ s.heap.get? p = some o ∧ o.cls = .type T ∧ o.data = .seq its.toArray n ∧ vs.length ≤ sizeLine := by
  rcases h with h | h
  · obtain ⟨its, rv, pl, hz⟩ := I.list h
    obtain ⟨o, ho, hc, n, hd⟩ := pl.isList
    exact ⟨its, o, "list", n, rv, .inl rfl, ho, hc, hd, hz⟩
  · obtain ⟨its, rv, pl, hz⟩ := I.tuple h
    obtain ⟨o, ho, hc, n, hd⟩ := pl
    exact ⟨its, o, "tuple", n, rv, .inr rfl, ho, hc, hd, hz⟩
theorem c_sorted : CallR X (.builtin "sorted") (rC1 X.K fun h a => (a.seq h).bind fun xs => (pInts xs).map fun ns => .L false ((isort ns).map .int)) := by
  intro pins s σ H xs us Q I r hh
  obtain ⟨x, rfl, q, H0, g, h, ρ, σ', a, z, st, ra, e, k⟩ := hh
  have e0 : ((a.seq h).bind fun xs => (pInts xs).map fun ns => RV.L false ((isort ns).map .int)) = some z := e
  cases c : a.seq h with
  | none => rw [c] at e0; cases e0
  | some ys =>
    rw [c] at e0
    have e1 : ((pInts ys).map fun ns => RV.L false ((isort ns).map .int)) = some z := e0
    cases d : pInts ys with
    | none => rw [d] at e1; cases e1
    | some ns =>
      rw [d] at e1
      obtain ⟨p, vs, rfl, h1, h2⟩ := res_seq st ra c
      have ev := h2.ints d
      subst ev
      obtain ⟨its, o, T, n, rv, hT, ho, hcl, hdt, hz⟩ := seq_obj I h1
      rw [Vals.ref1 r]
      have hi := rv.ints
      have hz2 : its.length ≤ sizeLine := by rw [← rv.length]; exact hz
      refine Calls.call_function_entry kind_sorted plain_sorted entry_sorted (args_sorted1 _) ?_
      unfold Builtin.«sorted»
      refine wpAny_bind (m := checkCount "sorted" 1 1 _) (wpAny_pure ?_)
      refine wpAny_bind (wpAny_collect_seq p hT ho hcl hdt ?_ (by simpa using hz2))
      intro h' keep
      have el : its.toArray.toList = its := by simp
      rw [el]
      refine wpAny_bind (wpAny_newList ?_ hz2)
      have hnew : (h'.push (seqObj "list" its.toArray 0)).get? h'.objs.size = some (seqObj "list" its.toArray 0) := Heap.get?_push_size _ rfl
      refine wpAny_bind (wpAny_holding (wpAny_call_entry slot_list_sort ⟨_, hnew, rfl⟩ entry_list_sort (SrtO.list_sort_ord SrtO.swo_int hnew hz2 (fun h2 => SrtO.ints_sortable hi h2) ?_) (args_list_sort _)))
      intro out hs hb
      refine ⟨_, rfl, wpAny_pure ⟨_, rfl, ?_⟩⟩
      obtain ⟨k1, k2, k3⟩ := SrtO.ints_out hi hs hb
      have eo : out.map SrtO.iv = isort ns := sorted_same (k2.trans (isort_perm ns).symm) k3 (isort_sorted ns)
      rw [eo] at k1
      obtain ⟨ep, hat⟩ := sortedHeap_at (vs := its) (out := out.toArray) hnew
      have hold : ∀ b u, h'.get? b = some u → (sortedHeap (h'.push (seqObj "list" its.toArray 0)) h'.objs.size its out.toArray).get? b = some u := fun b u hu => by
        have hlt := Heap.lt_size hu
        rw [sortedHeap_old (Nat.ne_of_lt hlt) (by rw [size_push']; exact Nat.lt_succ_of_lt hlt)]
        exact Heap.get?_push_of_some _ hu
      have I1 : Inv X pins σ H { s with heap := h' } := I.kept (t' := s.toks) keep
      have hlen : ((isort ns).map V.int).length ≤ sizeLine := by
        rw [List.length_map, (isort_perm ns).length_eq]
        rw [List.length_map] at hz
        exact hz
      have hrep : Reps X.K g H ((isort ns).map .int) ((isort ns).map V.int) := Reps.of_ints _
      exact ⟨.ref _, upd H h'.objs.size (.lst ((isort ns).map V.int)), I1.laid (t' := s.toks) hold (Nat.le_refl _) ⟨hlen, out, ep, vals_of_ints k1, hat⟩, rfl, fin_L st hrep e1 k _ (I1.hok.fresh (Nat.le_refl _))⟩
/-! a written dict, asked at once -/
def cV : PV → Option V
  | .non => some .non
  | .bl b => some (.bl b)
  | .int i => some (.int i)
  | .str s => some (.str s)
  | _ => none
theorem cV_rep {K : KF} {g : Gh} {H : Hp} {x : PV} {v : V} (h : cV x = some v) : Rep K g H x v := by
  cases x <;> first | (cases h; done) | skip
  all_goals (cases h; constructor)
def cVs : List PV → Option (List V)
  | [] => some []
  | x :: xs => match cV x, cVs xs with
    | some v, some vs => some (v :: vs)
    | _, _ => none
/-- a constant that has a value -/
def conV : Const → Option V
  | .int i => some (.int i)
  | .bool b => some (.bl b)
  | .none => some .non
  | .str s => some (.str s)
  | _ => none
theorem pe_con {w : Const} {v : V} {j : Nat} {pos : Pos} (h : conV w = some v) : PE X (.Constant w j pos) (tC v) := by
  cases w <;> first | (cases h; done) | skip
  all_goals cases h
  · exact pe_non
  · exact pe_bl
  · exact pe_int
  · exact pe_str
theorem tPairs_con {σ : L2.St} : ∀ (ps : List (V × V)) (H : Hp) (Q : List (V × V) → Hp → Prop), Q ps H → tPairs (ps.map fun p => (tC p.1, tC p.2)) σ H Q
  | [], H, Q, h => h
  | p :: ps, H, Q, h => tPairs_con ps H (fun qs H' => Q (p :: qs) H') h
def keyX : DKey → Expr → Bool
  | .inl i, .Constant (.int j) _ _ => decide (i = j)
  | .inr s, .Constant (.str t) _ _ => s == t
  | _, _ => false
def valX (x : PV) (e : Expr) : Bool := match x, e with
  | .int i, .Constant (.int j) _ _ => decide (i = j)
  | .bl a, .Constant (.bool b) _ _ => decide (a = b)
  | .str s, .Constant (.str t) _ _ => s == t
  | .non, .Constant .none _ _ => true
  | _, _ => false
def dictB : List DKey → List PV → List (Option Expr) → List Expr → Bool
  | [], [], [], [] => true
  | k :: ks, x :: xs, some a :: as, b :: bs => keyX k a && valX x b && dictB ks xs as bs
  | _, _, _, _ => false
theorem keyX_ok {k : DKey} {e : Expr} (h : keyX k e = true) : PE X e (tC (kV k)) := by
  unfold keyX at h
  split at h
  · have := of_decide_eq_true h; subst this; exact pe_con rfl
  · have := eq_of_beq h; subst this; exact pe_con rfl
  · cases h
theorem valX_ok {x : PV} {e : Expr} (h : valX x e = true) : ∃ v, cV x = some v ∧ PE X e (tC v) := by
  unfold valX at h
  split at h
  · have := of_decide_eq_true h; subst this; exact ⟨_, rfl, pe_con rfl⟩
  · have := of_decide_eq_true h; subst this; exact ⟨_, rfl, pe_con rfl⟩
  · have := eq_of_beq h; subst this; exact ⟨_, rfl, pe_con rfl⟩
  · exact ⟨_, rfl, pe_con rfl⟩
  · cases h
theorem dict_pps {pos : Pos} : ∀ {ks : List DKey} {xs : List PV} {as : List (Option Expr)} {bs : List Expr}, dictB ks xs as bs = true →
    ∃ kvs : List (Key × V), kvs.map (·.1) = ks ∧ cVs xs = some (kvs.map (·.2)) ∧ as.length = kvs.length ∧ bs.length = kvs.length ∧ as.all (·.isSome) = true ∧ PPs X pos as bs ((kvs.map fun kv => (kV kv.1, kv.2)).map fun p => (tC p.1, tC p.2))
  | [], [], [], [], _ => ⟨[], rfl, rfl, rfl, rfl, rfl, pps_nil⟩
  | k :: ks, x :: xs, some a :: as, b :: bs, h => by
    have h' : (keyX k a && valX x b && dictB ks xs as bs) = true := h
    simp only [Bool.and_eq_true] at h'
    obtain ⟨⟨h1, h2⟩, h3⟩ := h'
    obtain ⟨v, e1, e2⟩ := valX_ok (X := X) h2
    obtain ⟨kvs, e3, e4, e5, e6, e7, e8⟩ := dict_pps (pos := pos) h3
    refine ⟨(k, v) :: kvs, by simp [e3], by simp [cVs, e1, e4], by simp [e5], by simp [e6], by simpa using e7, ?_⟩
    exact pps_cons (keyX_ok h1) e2 e8
theorem look_val : ∀ {kvs : List (Key × V)} {xs : List PV} {k : DKey} {x : PV}, cVs xs = some (kvs.map (·.2)) → lookD (kvs.map (·.1)) xs k = some x → ∃ v, valV kvs k = some v ∧ cV x = some v
  | [], xs, k, x, _, h => by cases xs <;> cases h
  | (k0, v0) :: kvs, [], k, x, h, _ => by cases h
  | (k0, v0) :: kvs, y :: xs, k, x, h, h2 => by
    have h' : (match cV y, cVs xs with
      | some v, some vs => some (v :: vs)
      | _, _ => none) = some (v0 :: kvs.map (·.2)) := h
    cases c1 : cV y with
    | none => rw [c1] at h'; cases h'
    | some w =>
      cases c2 : cVs xs with
      | none => rw [c1, c2] at h'; cases h'
      | some ws =>
        rw [c1, c2] at h'
        simp only [Option.some.injEq, List.cons.injEq] at h'
        obtain ⟨rfl, rfl⟩ := h'
        have h3 : (if k0 = k then some y else lookD (kvs.map (·.1)) xs k) = some x := h2
        split at h3
        · rename_i e
          cases h3
          exact ⟨w, valV_pos e, c1⟩
        · rename_i e
          obtain ⟨v, e1, e2⟩ := look_val c2 h3
          exact ⟨v, by rw [valV_neg (p := (k0, w)) e]; exact e1, e2⟩
theorem merge_nodup : ∀ (more kvs : List (Key × V)), (kvs.map (·.1) ++ more.map (·.1)).Nodup → mergeK kvs more = kvs ++ more
  | [], kvs, _ => by simp [mergeK]
  | p :: more, kvs, h => by
    have hp : p.1 ∉ kvs.map (·.1) := fun m => (List.nodup_append.mp h).2.2 p.1 m p.1 (by simp) rfl
    have e : putK kvs p.1 p.2 = kvs ++ [p] := by
      unfold putK
      rw [if_neg]
      intro a
      obtain ⟨q, hq, e⟩ := List.any_eq_true.mp a
      exact hp (List.mem_map.mpr ⟨q, hq, of_decide_eq_true e⟩)
    have ih := merge_nodup more (kvs ++ [p]) (by simpa using h)
    unfold mergeK at ih ⊢
    rw [List.foldl_cons, e, ih]
    simp
theorem e_dlook {keys : List (Option Expr)} {vals : List Expr} {b : Expr} {dpos pos : Pos} {fb : FE} {ks : List DKey} {xs : List PV} (hu : X.A.units + 1 < cLine) (hd : dictB ks xs keys vals = true) (hn : ks.Nodup) (h0 : ks.length ≠ 0) (h15 : ks.length ≤ 15) (hb : SE X b fb) (hs : NoSl b) :
    SE X (.Subscript (.Dict keys vals dpos) b pos) fun ρ h => (fb ρ h).bind fun r h => .ofOpt (dlookS ks xs r) h := by
  obtain ⟨kvs, e1, e2, e3, e4, e5, e6⟩ := dict_pps (X := X) (pos := dpos) hd
  have hkl : ks.length = kvs.length := by rw [← e1, List.length_map]
  refine .plain (PE.weak (pe_dget hu (pe_disp e6 e5 (by rw [e3, e4]) (fun z => by rw [z] at e3; simp at e3; omega) (by omega)) hb.e hs) fun σ H Q w => ?_) (fun _ => rfl) fun _ _ _ e => nomatch e
  obtain ⟨q, g, h, ρ, st, r, h', e, k⟩ := w
  obtain ⟨y, h1, e7, e⟩ := bind_ok e
  obtain ⟨e8, rfl⟩ := ofOpt_ok e
  intro p hp
  refine tPairs_con _ _ _ ⟨upd_same, kvs, rfl, by omega, ?_⟩
  rw [merge_nodup kvs [] (by simpa [e1] using hn), List.nil_append, upd_upd]
  have x0 : Ext g H g (upd H p (.dK kvs)) := Ext.new hp
  have hpL : p ∉ g.L := fun m => st.hs.tr p m hp
  refine ⟨q, g, h, ρ, st.to x0 (st.hs.new hp), y, _, e7, fun g1 H1 v x1 s1 r1 => ?_⟩
  have hat : H1 p = some (.dK kvs) := x1.hk p _ upd_same hpL
  have fin : ∀ (k0 : DKey) (z : PV), v = kV k0 → lookD ks xs k0 = some z → some (RV.v z) = some r → ∃ a w, V.ref p = .ref a ∧ DGet H1 a v (some w) ∧ Q w H1 := fun k0 z hv hz hr => by
    cases hr
    rw [← e1] at hz
    obtain ⟨w, h3, h4⟩ := look_val e2 hz
    refine ⟨p, w, rfl, ?_, k g1 H1 w (x0.trans x1) s1 (cV_rep h4)⟩
    rw [hv, ← h3]
    exact DGet.k hat
  cases y with
  | v z =>
    cases z with
    | int i =>
      cases r1
      cases c : lookD ks xs (.inl i) with
      | none =>
        have e9 : (lookD ks xs (.inl i)).map RV.v = some r := e8
        rw [c] at e9
        cases e9
      | some z =>
        have e9 : (lookD ks xs (.inl i)).map RV.v = some r := e8
        rw [c] at e9
        exact fin (.inl i) z rfl c e9
    | str s =>
      cases r1
      cases c : lookD ks xs (.inr s) with
      | none =>
        have e9 : (lookD ks xs (.inr s)).map RV.v = some r := e8
        rw [c] at e9
        cases e9
      | some z =>
        have e9 : (lookD ks xs (.inr s)).map RV.v = some r := e8
        rw [c] at e9
        exact fin (.inr s) z rfl c e9
    | _ => cases e8
  | _ => cases e8
/-! a slot's list joins the small heap -/
theorem s_mkloc {i : Nat} {rest : List Stmt} {f2 : FS} (h2 : PSs X rest (tS X.K f2)) : PSs X rest (tS X.K (seqS (mklocS i) f2)) := PSs.weak h2 fun D σ H w => by
  obtain ⟨q, g, h, ρ, st, fl1, ρ1, h1, e1, k1⟩ := seq_use w
  unfold mklocS at e1
  cases c : slot ρ i with
  | none => rw [c] at e1; cases e1
  | some r =>
    cases r with
    | v y => rw [c] at e1; cases e1
    | D b ks vs => rw [c] at e1; cases e1
    | L b xs =>
      rw [c] at e1
      cases e1
      obtain ⟨w, k3, a, rfl, hl, n1, n2, n3⟩ := st.sl i _ c
      have s1 : St X.K q g H h (setSlot ρ i none) σ := by
        have := st.drop (i := i) (o := some (.ref a))
        rw [set_same k3] at this
        exact this
      have nd : NoD (setSlot ρ i none) σ a := fun j c' ys hr e => by
        rcases slot_set hr with ⟨rfl, z⟩ | ⟨n, hr⟩
        · cases z
        · exact n (st.ow i j _ _ _ c hr rfl rfl k3 e)
      obtain ⟨m, s2⟩ := s1.newLoc (i := i) hl n1 n2 n3 nd
      rw [set_same k3] at s2
      have e5 : setSlot (setSlot ρ i none) i (some (.v (.loc h.length))) = setSlot ρ i (some (.v (.loc h.length))) := by unfold setSlot; rw [List.set_set]
      rw [e5] at s2
      exact k1 _ H σ m s2
/-! x[k] = x[j].pop(0), both lists of the small heap -/
theorem s_setpop {i : Nat} {kc jc : Int} {x : Str} {kn jn zn : Nat} {px px2 kp jp zp spos jpos apos cpos pos : Pos} (hN : X.N[i]? = some x) (hv : Vis X.env.scope x) (hd : (x == ("__debug__" : Str)) = false) (hcd : (x == ("__classdict__" : Str)) = false) (hline : (apos.endLine == cpos.line) = true) :
    PS X (.Assign [.Subscript (.Name x px) (.Constant (.int kc) kn kp) spos] (.Call (.Attribute (.Subscript (.Name x px2) (.Constant (.int jc) jn jp) jpos) "pop" apos) [.Constant (.int 0) zn zp] [] cpos) pos) (tS X.K (setpopS i kc jc)) := by
  have hval := pe_bm (es := []) (t := tCons (tC (.int 0)) tNil) PySem.F.plainAttrs_list PySem.F.slot_list_pop PySem.F.type_list_pop (X := X) mt_popAt (pe_ix (pos := jpos) o_ix (pe_var (pos := px2) hN hv hd hcd) (pe_int (i := jc) (j := jn) (pos := jp)) (plain_ix rfl)) (pa_cons (pe_int (i := 0) (j := zn) (pos := zp)) pa_nil rfl) (apos := apos) (cpos := cpos) rfl rfl hline rfl rfl
  refine PS.weak (ps_asg hval (pg_sub (pe_var hN hv hd hcd) (pe_int (i := kc)) set_list (fun v => rfl)) rfl rfl rfl) fun D σ H ⟨q, g, h, ρ, st, fl, ρ', h', e, k⟩ => ?_
  have e' : (match slot ρ i with
    | some (.v (.loc n)) => (match popAt h n jc kc with
      | some h' => nextE ρ h'
      | none => .bad)
    | _ => .bad) = .ok (fl, ρ') h' := e
  cases c : slot ρ i with
  | none => rw [c] at e'; cases e'
  | some r0 =>
    cases r0 with
    | L b xs => rw [c] at e'; cases e'
    | D b ks vs => rw [c] at e'; cases e'
    | v y0 =>
      cases y0 with
      | loc n =>
        rw [c] at e'
        have e2 : (match popAt h n jc kc with
          | some h' => nextE ρ h'
          | none => .bad) = .ok (fl, ρ') h' := e'
        cases d : popAt h n jc kc with
        | none => rw [d] at e2; cases e2
        | some h2 =>
          rw [d] at e2
          cases e2
          -- what the pop finds
          obtain ⟨xs, m, y, ys, p, d1, d2, d3, d4, d5, rfl⟩ : ∃ xs m y ys p, hget h n = some (.l xs) ∧ pick xs jc = some (.loc m) ∧ hget h m = some (.l (y :: ys)) ∧ m ≠ n ∧ place xs.length kc = some p ∧ h' = (h.set m (.l ys)).set n (.l (xs.set p y)) := by
            unfold popAt at d
            split at d
            · rename_i xs e1
              split at d
              · rename_i m e2
                split at d
                · rename_i y ys e3
                  split at d
                  · cases d
                  · rename_i ne
                    obtain ⟨p, e4, e5⟩ := Option.map_eq_some_iff.mp d
                    exact ⟨xs, m, y, ys, p, e1, e2, e3, ne, e4, e5.symm⟩
                · cases d
              · cases d
            · cases d
          obtain ⟨w, hw, hr⟩ := st.sl i _ c
          refine ⟨w, hw, q, H, g, h, ρ, σ, .v (.loc n), .v (.int jc), .v (.loc m), st, hr, .int jc, ?_, fun g1 H1 v x1 s1 r1 => ?_⟩
          · show ixSem h (.v (.loc n)) (.v (.int jc)) = _
            have hs : (RV.v (.loc n)).seq h = some xs := by
              show (match hget h n with | some (.l xs) => some xs | _ => none) = some xs
              rw [d1]
            unfold ixSem
            rw [hs]
            show (pick xs jc).map RV.v = _
            rw [d2]
            rfl
          · cases r1 with
            | loc hm =>
              rename_i am
              obtain ⟨us, u1, u2⟩ := s1.hs.ob m _ _ d3 hm
              cases u2 with
              | cons ry rys =>
                rename_i vy vys
                refine ⟨.inl ⟨rfl, _, .inl (.inl u1)⟩, am, _, 0, 0, vy, rfl, rfl, u1, by decide, by decide, seqIndex_of (by decide) (by simp), rfl, ?_⟩
                obtain ⟨m2, s2⟩ := s1.updLoc d3 hm rys
                obtain ⟨w2, hw2, hr2⟩ := s2.sl i _ c
                cases hr2 with
                | loc hn =>
                  rename_i ap
                  have hgn : hget (h.set m (.l ys)) n = some (.l xs) := by
                    rw [hget_eq] at d1 ⊢
                    rw [List.getElem?_set_ne d4]
                    exact d1
                  obtain ⟨vs, v1, v2⟩ := s2.hs.ob n _ _ hgn hn
                  obtain ⟨m3, s3⟩ := s2.updLoc hgn hn (v2.set p (ry.mono m2))
                  refine ⟨.ref ap, hw2, ap, vs, kc, p, rfl, rfl, v1, by rw [v2.length]; exact d5, k g1 _ σ (((x1.mon st.hs).trans m2).trans m3) s3⟩
      | _ => rw [c] at e'; cases e'
/-! xs[i::s], the script itself -/
theorem stepPick (its : List Value) (i s : Nat) (hs : 0 < s) : slicePick its.toArray (some (i : Int)) none (some (s : Int)) = (stepCut its i s).toArray := by
  unfold slicePick stepCut stepIx
  have eb : sliceBounds (some (i : Int)) none (some (s : Int)) its.toArray.size = (((min i its.length : Nat) : Int), (its.length : Int), (s : Int)) := by
    unfold sliceBounds
    have h1 : (s : Int) > 0 := by omega
    simp [h1]
    omega
  rw [eb]
  congr 1
  have er : sliceRange ((min i its.length : Nat) : Int) (its.length : Int) (s : Int) = if i < its.length then (List.range ((its.length - i + s - 1) / s)).map fun k => i + k * s else [] := by
    unfold sliceRange
    have h1 : (s : Int) > 0 := by omega
    simp only [h1, if_true]
    by_cases h : i < its.length
    · have h2 : ((min i its.length : Nat) : Int) < (its.length : Int) := by omega
      rw [if_pos h2, if_pos h]
      have e1 : (min i its.length) = i := by omega
      rw [e1]
      have e2 : (((its.length : Int) - (i : Int) + (s : Int) - 1) / (s : Int)).toNat = (its.length - i + s - 1) / s := by
        rw [show (its.length : Int) - (i : Int) + (s : Int) - 1 = ((its.length - i + s - 1 : Nat) : Int) by omega, ← Int.natCast_ediv, Int.toNat_natCast]
      rw [e2]
      apply List.map_congr_left
      intro k _
      rw [show (i : Int) + (s : Int) * (k : Int) = ((i + k * s : Nat) : Int) by simp [Int.mul_comm], Int.toNat_natCast]
    · rw [if_neg h, if_neg (by omega)]
      simp
  rw [er]
  apply fm_congr
  intro k _
  simp
theorem filterMap_reps {K : KF} {g : Gh} {H : Hp} {xs : List PV} {vs : List V} (r : Reps K g H xs vs) : ∀ ks : List Nat, Reps K g H (ks.filterMap fun k => xs[k]?) (ks.filterMap fun k => vs[k]?)
  | [] => .nil
  | k :: ks => by
    rw [List.filterMap_cons, List.filterMap_cons]
    cases c : xs[k]? with
    | none =>
      have : vs[k]? = none := by
        rw [List.getElem?_eq_none_iff] at c ⊢
        rw [← r.length] at c
        exact c
      rw [this]
      exact filterMap_reps r ks
    | some x =>
      obtain ⟨v, h1, h2⟩ := r.get c
      rw [h1]
      exact .cons h2 (filterMap_reps r ks)
theorem filterMap_vals {vs : List V} {us : List Value} (r : Vals vs us) : ∀ ks : List Nat, Vals (ks.filterMap fun k => vs[k]?) (ks.filterMap fun k => us[k]?)
  | [] => .nil
  | k :: ks => by
    rw [List.filterMap_cons, List.filterMap_cons]
    cases c : vs[k]? with
    | none =>
      have : us[k]? = none := by
        rw [List.getElem?_eq_none_iff] at c ⊢
        rw [← r.length]
        exact c
      rw [this]
      exact filterMap_vals r ks
    | some x =>
      obtain ⟨v, h1, h2⟩ := r.get c
      rw [h1]
      exact .cons h2 (filterMap_vals r ks)
def tStep (K : KF) (te ti ts : TE) : TE := fun σ H Q => te σ H fun x H1 => ∃ a, x = .ref a ∧ tPart ti σ H1 fun o H2 => ∃ i : Nat, o = some (i : Int) ∧ tPart ts σ H2 fun o2 H3 => ∃ (s : Nat) (xs : List V), o2 = some (s : Int) ∧ 0 < s ∧ SqL K H3 a xs ∧ ∀ p, H3 p = none → Q (.ref p) (upd H3 p (.lst (stepCut xs i s)))
theorem stepCut_len {α : Type} (xs : List α) (i s : Nat) (hs : 0 < s) : (stepCut xs i s).length ≤ xs.length := by
  unfold stepCut stepIx
  refine Nat.le_trans (List.length_filterMap_le _ _) ?_
  split
  · rw [List.length_map, List.length_range]
    refine Nat.le_trans (Nat.div_le_of_le_mul ?_) (Nat.le_refl _)
    have h1 : xs.length - i + s - 1 ≤ s * (xs.length - i) := by
      have : xs.length - i + (s - 1) ≤ s * (xs.length - i) := by
        rename_i h
        have h2 : 1 ≤ xs.length - i := by omega
        calc xs.length - i + (s - 1) ≤ (xs.length - i) + (s - 1) * (xs.length - i) := by
              have := Nat.mul_le_mul_left (s - 1) h2
              omega
          _ = s * (xs.length - i) := by
              obtain ⟨t, rfl⟩ : ∃ t, s = t + 1 := ⟨s - 1, by omega⟩
              rw [Nat.add_sub_cancel, Nat.add_mul]
              omega
      omega
    exact Nat.le_trans h1 (Nat.mul_le_mul_left s (by omega))
  · simp
theorem pe_step {e ie se : Expr} {te ti ts : TE} {p pos : Pos} (he : PE X e te) (hi : PE X ie ti) (hs : PE X se ts) : PE X (.Subscript e (.Slice (some ie) none (some se) p) pos) (tStep X.K te ti ts) := by
  refine ⟨fun pins s σ H Q I h => ?_⟩
  refine Subscript_ (thn (he.run pins s σ H _ I h) fun v s1 ⟨x, H1, I1, r1, a, ex, q1⟩ => ?_)
  subst ex
  cases r1
  refine wpAny_Slice (thn ((po_some hi).run pins s1 σ H1 _ I1 q1) fun vl s2 ⟨l, H2, I2, pl, i, el, q2⟩ => ?_)
  subst el
  refine thn (po_none.run pins s2 σ H2 (fun o H3 => o = none ∧ H3 = H2) I2 ⟨rfl, rfl⟩) fun vu s3 ⟨u, H3, I3, pu, eu, e3⟩ => ?_
  subst eu e3
  refine thn ((po_some hs).run pins s3 σ H3 _ I3 q2) fun vs s4 ⟨o, H4, I4, ps, st, xs, eo, h0, hx, q⟩ => ?_
  subst eo
  have I5 : Inv X pins σ H4 { s4 with heap := s4.heap.push { cls := .type "slice", data := .fields #[vl, vu, vs] } } := I4.kept (t' := s4.toks) fun b ob q => Heap.get?_push_of_some _ q
  show wpAny (model X.prog X.w) X.A (subscriptTail e (.Slice (some ie) none (some se) p) (.ref a) (.ref s4.heap.objs.size)) (EP X pins σ Q) X.xe { s4 with heap := s4.heap.push { cls := .type "slice", data := .fields #[vl, vu, vs] } }
  obtain ⟨its, r, ht, hz⟩ := I5.list hx
  have hlen := r.length
  refine tail_any (ops := [.ref a, .ref s4.heap.objs.size]) ht.isList.typeIs (PySem.slot_list_getitem.lookup) ?_ (by with_unfolding_all rfl)
  refine wpAny_getItem_list_slice ht.isList (Heap.IsSliceOf.new _ vl vu vs) pl pu ps (by simp; omega) ?_ (by rw [List.size_toArray]; omega)
  rw [stepPick its i st h0]
  refine ⟨.ref _, _, I5.laid (t' := s4.toks) (o := .lst (stepCut xs i st)) (fun b ob q => Heap.get?_push_of_some _ q) (Nat.le_refl _) ?_, rfl, q _ (I5.hok.fresh (Nat.le_refl _))⟩
  refine ⟨Nat.le_trans (stepCut_len xs i st h0) hz, _, 0, ?_, Heap.get?_push_size _ rfl⟩
  unfold stepCut
  rw [← hlen]
  exact filterMap_vals r _
theorem e_step {a b c : Expr} {fa fb fc : FE} {p pos : Pos} (ha : SE X a fa) (hb : SE X b fb) (hc : SE X c fc) :
    SE X (.Subscript a (.Slice (some b) none (some c) p) pos) fun ρ h => (fa ρ h).bind fun x h => (fb ρ h).bind fun y h => (fc ρ h).bind fun z h => .ofOpt (opSem h .slStep [x, y, z]) h :=
  .plain (PE.weak (pe_step ha.e hb.e hc.e) fun σ H Q w => by
    obtain ⟨q, g, h, ρ, st, r, h', e, k⟩ := w
    obtain ⟨x, h1, e1, e⟩ := bind_ok e
    obtain ⟨y, h2, e2, e⟩ := bind_ok e
    obtain ⟨z, h3, e3, e⟩ := bind_ok e
    obtain ⟨e4, rfl⟩ := ofOpt_ok e
    refine ⟨q, g, h, ρ, st, x, h1, e1, fun g1 H1 v1 x1 s1 r1 => ?_⟩
    cases x with
    | L b xs => cases e4
    | D b ks vs => cases e4
    | v x0 =>
      cases x0 with
      | sc xs =>
        cases y with
        | L b xs => cases e4
        | D b ks vs => cases e4
        | v y0 =>
          cases y0 with
          | int i =>
            cases z with
            | L b xs => cases e4
            | D b ks vs => cases e4
            | v z0 =>
              cases z0 with
              | int s =>
                have e5 : (if 0 ≤ i ∧ 0 < s then some (RV.L false (stepCut xs i.toNat s.toNat)) else none) = some r := e4
                split at e5
                · rename_i hc
                  cases r1 with
                  | sc f0 r0 =>
                    rename_i vs a
                    refine ⟨a, rfl, q, g1, h1, ρ, s1, .v (.int i), h2, e2, fun g2 H2 v2 x2 s2 r2 => ?_⟩
                    cases r2
                    refine ⟨i, rfl, i.toNat, by rw [Int.toNat_of_nonneg hc.1], q, g2, h2, ρ, s2, .v (.int s), _, e3, fun g3 H3 v3 x3 s3 r3 => ?_⟩
                    cases r3
                    have m1 := x2.mon s1.hs
                    have m2 := x3.mon s2.hs
                    have rep := Rep.mono m2 (Rep.mono m1 (Rep.sc f0 r0))
                    cases rep with
                    | sc f3 rr3 =>
                      rename_i vs3
                      refine ⟨s, rfl, s.toNat, vs3, by rw [Int.toNat_of_nonneg (by omega)], by omega, f3.sq, ?_⟩
                      have hrep : Reps X.K g3 H3 (stepCut xs i.toNat s.toNat) (stepCut vs3 i.toNat s.toNat) := by
                        unfold stepCut
                        rw [← rr3.length]
                        exact filterMap_reps rr3 _
                      exact fin_L s3 hrep e5 fun g' H' v x4 s4 r4 => k g' H' v (((x1.trans x2).trans x3).trans x4) s4 (r4.start fun a z => x1.free (x2.free (x3.free z)))
                · cases e5
              | _ => cases e4
          | _ => cases e4
      | _ => cases e4) (fun _ => rfl) fun _ _ _ e => nomatch e
end
end WT
end
section
set_option Elab.async false
set_option linter.all false
set_option maxRecDepth 100000
set_option maxHeartbeats 4000000
/-! Names of the module that stand for a constant: a tuple, a number, a text; a dict with texts as keys, asked at once. -/
namespace WT
open PySem PySem.Spec PyProof.Rows L2
/-- what a name stands for -/
inductive GC where
  | val (v : PV)
  | dic (ks : List Str) (vs : List PV)
mutual
def repB (K : KF) : PV → Value → Bool
  | .non, .none => true
  | .bl b, .bool c => decide (b = c)
  | .int i, .int j _ => decide (i = j)
  | .str s, .str z _ => decide (s = z)
  | .tup xs, .ref a => (match K.lookup a with
    | some ⟨.type c, _, .seq its _, _⟩ => decide (c = "tuple") && (decide (its.size ≤ sizeLine) && repsB K xs its.toList)
    | _ => false)
  | _, _ => false
def repsB (K : KF) : List PV → List Value → Bool
  | [], [] => true
  | x :: xs, u :: us => repB K x u && repsB K xs us
  | _, _ => false
end
theorem repB_tup (K : KF) (xs : List PV) (a : Addr) : repB K (.tup xs) (.ref a) = (match K.lookup a with
    | some ⟨.type c, _, .seq its _, _⟩ => decide (c = "tuple") && (decide (its.size ≤ sizeLine) && repsB K xs its.toList)
    | _ => false) := by rw [repB]
/-- a value of the written part -/
def RepK (K : KF) (x : PV) (u : Value) : Prop := ∃ v, RelV v u ∧ ∀ g H, Rep K g H x v
def RepsK (K : KF) (xs : List PV) (us : List Value) : Prop := ∃ vs, Vals vs us ∧ ∀ g H, Reps K g H xs vs
mutual
theorem repB_ok {K : KF} : ∀ (x : PV) (u : Value), repB K x u = true → RepK K x u
  | .non, u, h => by
    cases u <;> first | (rw [repB] at h; cases h; done) | skip
    all_goals first | exact ⟨.non, rfl, fun g H => .non⟩ | (simp [repB] at h; done)
  | .bl b, u, h => by
    cases u <;> first | (simp [repB] at h; done) | skip
    all_goals first
      | (simp [repB] at h; subst h; exact ⟨.bl b, rfl, fun g H => .bl b⟩)
  | .int i, u, h => by
    cases u <;> first | (simp [repB] at h; done) | skip
    all_goals first
      | (simp [repB] at h; subst h; exact ⟨.int i, ⟨_, rfl⟩, fun g H => .int i⟩)
  | .str s, u, h => by
    cases u <;> first | (simp [repB] at h; done) | skip
    all_goals first
      | (simp [repB] at h; subst h; exact ⟨.str s, ⟨_, rfl⟩, fun g H => .str s⟩)
  | .tup xs, u, h => by
    cases u <;> first | (simp [repB] at h; done) | skip
    rename_i a
    rw [repB_tup] at h
    cases q : K.lookup a with
    | none => rw [q] at h; cases h
    | some o =>
      obtain ⟨oc, od, dt, osl⟩ := o
      rw [q] at h
      cases oc with
      | type c =>
        cases dt with
        | seq its n =>
          have h' : (decide (c = "tuple") && (decide (its.size ≤ sizeLine) && repsB K xs its.toList)) = true := h
          rw [Bool.and_eq_true, Bool.and_eq_true] at h'
          obtain ⟨h1, h2, h3⟩ := h'
          obtain ⟨vs, r1, r2⟩ := repsB_ok xs its.toList h3
          exact ⟨.ref a, rfl, fun g H => .tup (.inr ⟨_, its, n, q, congrArg Value.type (of_decide_eq_true h1), rfl, of_decide_eq_true h2, r1⟩) (r2 g H)⟩
        | _ => cases h
      | _ => cases dt <;> cases h
  | .lst _, u, h => by cases u <;> (simp [repB] at h)
  | .dic _ _, u, h => by cases u <;> (simp [repB] at h)
  | .set _, u, h => by cases u <;> (simp [repB] at h)
  | .loc _, u, h => by cases u <;> (simp [repB] at h)
  | .exc _ _, u, h => by cases u <;> (simp [repB] at h)
  | .sc _, u, h => by cases u <;> (simp [repB] at h)
theorem repsB_ok {K : KF} : ∀ (xs : List PV) (us : List Value), repsB K xs us = true → RepsK K xs us
  | [], [], _ => ⟨[], .nil, fun g H => .nil⟩
  | [], _ :: _, h => by simp [repsB] at h
  | _ :: _, [], h => by simp [repsB] at h
  | x :: xs, u :: us, h => by
    rw [repsB, Bool.and_eq_true] at h
    obtain ⟨v, r1, r2⟩ := repB_ok x u h.1
    obtain ⟨vs, r3, r4⟩ := repsB_ok xs us h.2
    exact ⟨v :: vs, .cons r1 r3, fun g H => .cons (r2 g H) (r4 g H)⟩
end
/-- at a key of a module's dict -/
def keyB (K : KF) (a : Addr) (z : Str) (v : PV) : Bool := match PySem.W.nsIn K a z with
  | some (some u) => repB K v u
  | _ => false
def keysB (K : KF) (a : Addr) : List Str → List PV → Bool
  | [], [] => true
  | z :: ks, v :: vs => keyB K a z v && keysB K a ks vs
  | _, _ => false
theorem keysB_ok {K : KF} {a : Addr} : ∀ {ks : List Str} {vs : List PV}, keysB K a ks vs = true → ∀ {z : Str} {v : PV}, lookD (ks.map .inr) vs (.inr z) = some v → ∃ u, PySem.W.nsIn K a z = some (some u) ∧ RepK K v u
  | [], _, _, z, v, h => by cases h
  | _ :: _, [], h, _, _, _ => by cases h
  | k :: ks, w :: vs, h, z, v, e => by
    rw [keysB, Bool.and_eq_true] at h
    have e2 : (if (Sum.inr k : DKey) = .inr z then some w else lookD (ks.map .inr) vs (.inr z)) = some v := e
    split at e2
    · rename_i q
      cases q
      cases e2
      have h1 := h.1
      unfold keyB at h1
      split at h1
      · rename_i u hu
        exact ⟨u, hu, repB_ok _ _ h1⟩
      · cases h1
    · exact keysB_ok h.2 e2
/-- the name x stands for this -/
def GcOk (K : KF) (w : World) (mg : Str → Option Value) (x : Str) : GC → Prop
  | .val v => ∃ u, mg x = some u ∧ RepK K v u
  | .dic ks vs => ∃ a es n, mg x = some (.ref a) ∧ KDict K w a es n ∧ keysB K a ks vs = true
/-- seen in K -/
def gcB (K : KF) (x : Str) : GC → Bool
  | .val v => (match PySem.W.nsIn K mainGlobals x with
    | some (some u) => repB K v u
    | _ => false)
  | .dic ks vs => decide (PySem.W.nsIn K mainGlobals x = some (some (.ref (He.ga K x)))) && keysB K (He.ga K x) ks vs
/-- the tables of the module's dicts -/
def gcT : List (Str × GC) → List He.Tab
  | [] => []
  | (x, .dic ks _) :: l => (fun K => He.ga K x, ks) :: gcT l
  | (_, .val _) :: l => gcT l
theorem gcT_mem {x : Str} {ks : List Str} {vs : List PV} : ∀ {l : List (Str × GC)}, (x, GC.dic ks vs) ∈ l → ((fun K => He.ga K x, ks) : He.Tab) ∈ gcT l
  | (y, .dic ks' vs') :: l, h => by
    rcases List.mem_cons.mp h with h | h
    · cases h
      exact List.mem_cons_self ..
    · exact List.mem_cons_of_mem _ (gcT_mem (l := l) h)
  | (y, .val v) :: l, h => by
    rcases List.mem_cons.mp h with h | h
    · cases h
    · show _ ∈ gcT l
      exact gcT_mem (l := l) h
def gcsB (gt : List (Str × GC)) (K : KF) : Bool := gt.all fun p => gcB K p.1 p.2
theorem gcs_ok {fa : List He.Fa} {fn : List He.DefD} {gt : List (Str × GC)} {w : World} {h : Heap} {K : KF} {mg : Str → Option Value} (X : K.In h) (N : h.Ns mainGlobals mg) (c : He.SaysX fa fn (gcT gt) [] (gcsB gt) w h K) : ∀ p ∈ gt, GcOk K w mg p.1 p.2 := by
  rintro ⟨x, d⟩ hp
  have h1 := List.all_eq_true.mp c.more (x, d) hp
  cases d with
  | val v =>
    unfold gcB at h1
    simp only at h1
    split at h1
    · rename_i u hu
      exact ⟨u, PySem.W.mg_of X N hu, repB_ok _ _ h1⟩
    · cases h1
  | dic ks vs =>
    unfold gcB at h1
    simp only [Bool.and_eq_true, decide_eq_true_eq] at h1
    obtain ⟨i, hi⟩ := List.mem_iff_getElem?.mp (gcT_mem hp)
    obtain ⟨es, n, D⟩ := c.t.tab i hi
    exact ⟨_, es, n, PySem.W.mg_of X N h1.1, D, h1.2⟩
/-! the rules -/
section
variable {X : Cx}
theorem e_glob {x : Str} {v : PV} {pos : Pos} (hg : Gl X x) (hm : GcOk X.K X.w X.mg x (.val v)) (hd : (x == ("__debug__" : Str)) = false) : SE X (.Name x pos) (fun _ h => .ok (.v v) h) := by
  obtain ⟨u, h1, y, h2, h3⟩ := hm
  refine .plain (PE.weak (pe_glob hg h1 h2 hd) fun σ H Q w => ?_) (fun _ => rfl) fun _ _ _ e => nomatch e
  obtain ⟨q, g, h, ρ, st, r, h', e, k⟩ := w
  cases e
  exact k g H y (Ext.refl ..) st (h3 g H)
theorem pe_kd {d : Addr} {es : Array DictEntry} {n : Nat} {a b : Expr} {pos : Pos} {ty : TE} (D : KDict X.K X.w d es n) (ho : PE X a (tC (.ref d))) (hi : PE X b ty) (hs : NoSl b) :
    PE X (.Subscript a b pos) (fun σ H Q => ty σ H fun y H1 => ∃ (z : Str) (u0 : Value) (v0 : V), y = .str z ∧ PySem.W.nsIn X.K d z = some (some u0) ∧ RelV v0 u0 ∧ Q v0 H1) := by
  refine ⟨fun pins s σ H Q I h => ?_⟩
  refine subD_of PySem.F.slot_dict_getitem.lookup hs (thn (ho.run pins s σ H (fun x H1 => x = .ref d ∧ ty σ H1 fun y H1 => ∃ (z : Str) (u0 : Value) (v0 : V), y = .str z ∧ PySem.W.nsIn X.K d z = some (some u0) ∧ RelV v0 u0 ∧ Q v0 H1) I ⟨rfl, h⟩) fun u s1 ⟨x, H1, I1, rx, ex, q1⟩ => thn (hi.run pins s1 σ H1 _ I1 q1) fun iv s2 ⟨y, H2, I2, ry, z, u0, v0, e0, e1, r0, q2⟩ => ?_)
  subst ex
  obtain rfl : u = Value.ref d := rx
  exact ⟨kd_type D I2, op_item_kd D pins s2 σ H2 (.ref d) y _ iv _ I2 rfl ry ⟨z, u0, v0, rfl, e0, e1, r0, q2⟩⟩
theorem e_gdict {x : Str} {ks : List Str} {vs : List PV} {b : Expr} {p pos : Pos} {fb : FE} (hg : Gl X x) (hm : GcOk X.K X.w X.mg x (.dic ks vs)) (hd : (x == ("__debug__" : Str)) = false) (hb : SE X b fb) (hs : NoSl b) :
    SE X (.Subscript (.Name x p) b pos) fun ρ h => (fb ρ h).bind fun r h => .ofOpt (dlookS (ks.map .inr) vs r) h := by
  obtain ⟨a, es, n, h1, D, h2⟩ := hm
  refine .plain (PE.weak (pe_kd D (pe_glob hg h1 rfl hd) hb.e hs) fun σ H Q w => ?_) (fun _ => rfl) fun _ _ _ e => nomatch e
  obtain ⟨q, g, h, ρ, st, r, h', e, k⟩ := w
  obtain ⟨y, h3, e7, e⟩ := bind_ok e
  obtain ⟨e8, rfl⟩ := ofOpt_ok e
  refine ⟨q, g, h, ρ, st, y, _, e7, fun g1 H1 v x1 s1 r1 => ?_⟩
  cases y with
  | v z =>
    cases z with
    | int i =>
      have e9 : (lookD (ks.map .inr) vs (.inl i)).map RV.v = some r := e8
      have : ∀ (ks : List Str) (vs : List PV), lookD (ks.map .inr) vs (.inl i) = none := by
        intro ks
        induction ks with
        | nil => intro vs; rfl
        | cons k ks ih =>
          intro vs
          cases vs with
          | nil => rfl
          | cons v vs =>
            show (if (Sum.inr k : DKey) = .inl i then some v else lookD (ks.map .inr) vs (.inl i)) = none
            rw [if_neg (by intro h; cases h)]
            exact ih vs
      rw [this] at e9
      cases e9
    | str z =>
      cases r1
      have e9 : (lookD (ks.map .inr) vs (.inr z)).map RV.v = some r := e8
      cases c : lookD (ks.map .inr) vs (.inr z) with
      | none =>
        rw [c] at e9
        cases e9
      | some w =>
        rw [c] at e9
        cases e9
        obtain ⟨u, h4, v0, h5, h6⟩ := keysB_ok h2 c
        exact ⟨z, u, v0, rfl, h4, h5, k g1 H1 v0 x1 s1 (h6 g1 H1)⟩
    | _ => cases e8
  | _ => cases e8
end
end WT
end
section
set_option Elab.async false
set_option linter.all false
set_option maxRecDepth 100000
set_option maxHeartbeats 4000000
/-! max(xs), min(xs): ints, of a list or a tuple. -/
namespace PySem
open Sem (wp)
section
variable {prog : Program} {w : World} {A : Around} {E : Value → Shared → Prop} {s : Shared} {l : Addr} {xs : Array (Int × Tok)}
theorem wt_max_intTup {Q : Value → Shared → Prop} (hh : A.handled = none) (hT : s.heap.IsTuple l (intItems xs)) (hne : 0 < xs.size)
    (h : ∀ v h' tk, (intItems xs)[argBest (fun i j => decide (numAt xs i > numAt xs j)) (xs.size - 1)]? = some v → (∀ b o, s.heap.get? b = some o → h'.get? b = some o) → Q v { s with heap := h', toks := tk }) :
    wpAny (model prog w) A (call (.builtin "max") [.ref l]) Q E s := by
  have hlt : l < s.heap.objs.size := by obtain ⟨_, e, _⟩ := hT; exact Heap.lt_size e
  refine call_max_walk (wpAny_pyIter_tuple hT ?_)
  refine ⟨_, [_, l], [_], _, _, _, _, rfl, Walks.tuple (A := A.in1) hh _ l (Nat.ne_of_lt hlt) (intItems xs),
    ⟨⟨_, Heap.get?_push_size _ rfl, rfl, rfl⟩, hT.push _⟩, fun c hc => ?_, by simpa [intItems] using hne, CmpOf.ints_gt (numAt xs) (fun _ _ => intItems_at), fun v h' tk hP hk => ?_⟩
  · show c < (s.heap.push _).objs.size
    rw [Heap.size_push]
    rcases List.mem_cons.mp hc with rfl | hc
    · exact Nat.lt_succ_self _
    · rcases List.mem_cons.mp hc with rfl | hc
      · exact Nat.lt_succ_of_lt hlt
      · cases hc
  · refine h v h' tk (by simpa [intItems] using hP) fun b o e => hk b o (fun hm => ?_) (Heap.get?_push_of_some _ e)
    rcases List.mem_cons.mp hm with e1 | hm
    · exact absurd (e1 ▸ Heap.lt_size e) (Nat.lt_irrefl _)
    · cases hm
theorem wt_min_intTup {Q : Value → Shared → Prop} (hh : A.handled = none) (hT : s.heap.IsTuple l (intItems xs)) (hne : 0 < xs.size)
    (h : ∀ v h' tk, (intItems xs)[argBest (fun i j => decide (numAt xs i < numAt xs j)) (xs.size - 1)]? = some v → (∀ b o, s.heap.get? b = some o → h'.get? b = some o) → Q v { s with heap := h', toks := tk }) :
    wpAny (model prog w) A (call (.builtin "min") [.ref l]) Q E s := by
  have hlt : l < s.heap.objs.size := by obtain ⟨_, e, _⟩ := hT; exact Heap.lt_size e
  refine call_min_walk (wpAny_pyIter_tuple hT ?_)
  refine ⟨_, [_, l], [_], _, _, _, _, rfl, Walks.tuple (A := A.in1) hh _ l (Nat.ne_of_lt hlt) (intItems xs),
    ⟨⟨_, Heap.get?_push_size _ rfl, rfl, rfl⟩, hT.push _⟩, fun c hc => ?_, by simpa [intItems] using hne, CmpOf.ints_lt (numAt xs) (fun _ _ => intItems_at), fun v h' tk hP hk => ?_⟩
  · show c < (s.heap.push _).objs.size
    rw [Heap.size_push]
    rcases List.mem_cons.mp hc with rfl | hc
    · exact Nat.lt_succ_self _
    · rcases List.mem_cons.mp hc with rfl | hc
      · exact Nat.lt_succ_of_lt hlt
      · cases hc
  · refine h v h' tk (by simpa [intItems] using hP) fun b o e => hk b o (fun hm => ?_) (Heap.get?_push_of_some _ e)
    rcases List.mem_cons.mp hm with e1 | hm
    · exact absurd (e1 ▸ Heap.lt_size e) (Nat.lt_irrefl _)
    · cases hm
end
end PySem
namespace WT
open PySem PySem.Spec PyProof.Rows L2
section
variable {prog : Program} {w : World} {A : Around} {E : Value → Shared → Prop} {s : Shared} {l : Addr} {its : List Value} {ns : List Int} {Q : Value → Shared → Prop}
theorem max_rawT (hh : A.handled = none) (hl : s.heap.IsTuple l its.toArray) (hi : IntsAre its ns) (hne : 0 < ns.length)
    (h : ∀ h' tk M t', (∀ b o, s.heap.get? b = some o → h'.get? b = some o) → M ∈ ns → (∀ a, a ∈ ns → a ≤ M) → Q (.int M t') { s with heap := h', toks := tk }) : wpAny (model prog w) A (call (.builtin "max") [.ref l]) Q E s := by
  obtain ⟨xs, e⟩ := hi.allInts.items
  have hn : numsOf (intItems xs).toList = ns := by rw [← e]; exact hi.numsOf
  rw [nums_intItems] at hn
  subst hn
  rw [e] at hl
  have hsz : 0 < xs.size := by simpa using hne
  refine PySem.wt_max_intTup hh hl hsz fun v h' tk hv hk => ?_
  obtain ⟨t, rfl⟩ := intItems_at hv
  obtain ⟨h1, h2⟩ := argBest_gt (numAt xs) (xs.size - 1)
  refine h h' tk _ t hk ?_ fun a ha => ?_
  · rw [numAt_eq]; exact PySem.getD_mem (by rw [List.length_map, Array.length_toList]; omega)
  · obtain ⟨j, hj, rfl⟩ := mem_getD ha
    rw [List.length_map, Array.length_toList] at hj
    rw [← numAt_eq]; exact h2 j (by omega)
theorem min_rawT (hh : A.handled = none) (hl : s.heap.IsTuple l its.toArray) (hi : IntsAre its ns) (hne : 0 < ns.length)
    (h : ∀ h' tk M t', (∀ b o, s.heap.get? b = some o → h'.get? b = some o) → M ∈ ns → (∀ a, a ∈ ns → M ≤ a) → Q (.int M t') { s with heap := h', toks := tk }) : wpAny (model prog w) A (call (.builtin "min") [.ref l]) Q E s := by
  obtain ⟨xs, e⟩ := hi.allInts.items
  have hn : numsOf (intItems xs).toList = ns := by rw [← e]; exact hi.numsOf
  rw [nums_intItems] at hn
  subst hn
  rw [e] at hl
  have hsz : 0 < xs.size := by simpa using hne
  refine PySem.wt_min_intTup hh hl hsz fun v h' tk hv hk => ?_
  obtain ⟨t, rfl⟩ := intItems_at hv
  obtain ⟨h1, h2⟩ := argBest_lt (numAt xs) (xs.size - 1)
  refine h h' tk _ t hk ?_ fun a ha => ?_
  · rw [numAt_eq]; exact PySem.getD_mem (by rw [List.length_map, Array.length_toList]; omega)
  · obtain ⟨j, hj, rfl⟩ := mem_getD ha
    rw [List.length_map, Array.length_toList] at hj
    rw [← numAt_eq]; exact h2 j (by omega)
end
theorem maxI_is : ∀ (n : Int) (r : List Int), maxI n r ∈ n :: r ∧ ∀ a ∈ n :: r, a ≤ maxI n r
  | n, [] => ⟨by simp [maxI], by simp [maxI]⟩
  | n, m :: r => by
    obtain ⟨h1, h2⟩ := maxI_is (if m > n then m else n) r
    have e : maxI n (m :: r) = maxI (if m > n then m else n) r := rfl
    rw [e]
    generalize maxI (if m > n then m else n) r = R at h1 h2 ⊢
    refine ⟨?_, fun a ha => ?_⟩
    · rcases List.mem_cons.mp h1 with h | h
      · rw [h]
        split <;> simp
      · simp [h]
    · have hm := h2 (if m > n then m else n) (by simp)
      simp only [List.mem_cons] at ha
      rcases ha with rfl | rfl | ha
      · split at hm <;> omega
      · split at hm <;> omega
      · exact h2 a (by simp [ha])
theorem minI_is : ∀ (n : Int) (r : List Int), minI n r ∈ n :: r ∧ ∀ a ∈ n :: r, minI n r ≤ a
  | n, [] => ⟨by simp [minI], by simp [minI]⟩
  | n, m :: r => by
    obtain ⟨h1, h2⟩ := minI_is (if m < n then m else n) r
    have e : minI n (m :: r) = minI (if m < n then m else n) r := rfl
    rw [e]
    generalize minI (if m < n then m else n) r = R at h1 h2 ⊢
    refine ⟨?_, fun a ha => ?_⟩
    · rcases List.mem_cons.mp h1 with h | h
      · rw [h]
        split <;> simp
      · simp [h]
    · have hm := h2 (if m < n then m else n) (by simp)
      simp only [List.mem_cons] at ha
      rcases ha with rfl | rfl | ha
      · split at hm <;> omega
      · split at hm <;> omega
      · exact h2 a (by simp [ha])
section
variable {X : Cx}
theorem c_maxL (hc : X.calm = true) : CallR X (.builtin "max") (rC1 X.K fun h a => opSem h .maxL [a]) := by
  intro pins s σ H xs us Q I r hh
  obtain ⟨x, rfl, q, H0, g, h, ρ, σ', a, z, st, ra, e, k⟩ := hh
  have e0 : ((a.seq h).bind fun xs => (pInts xs).bind fun ns => match ns with
    | [] => none
    | n :: r => some (RV.v (.int (maxI n r)))) = some z := e
  cases c : a.seq h with
  | none => rw [c] at e0; cases e0
  | some ys =>
    rw [c] at e0
    have e1 : ((pInts ys).bind fun ns => match ns with
      | [] => none
      | n :: r => some (RV.v (.int (maxI n r)))) = some z := e0
    cases d : pInts ys with
    | none => rw [d] at e1; cases e1
    | some ns =>
      rw [d] at e1
      cases ns with
      | nil => cases e1
      | cons n ns =>
        have e2 : some (RV.v (.int (maxI n ns))) = some z := e1
        obtain ⟨p, vs, rfl, h1, h2⟩ := res_seq st ra c
        have ev := h2.ints d
        subst ev
        rw [Vals.ref1 r]
        have fin : ∀ h' tk M t', (∀ b o, s.heap.get? b = some o → h'.get? b = some o) → M ∈ n :: ns → (∀ a, a ∈ n :: ns → a ≤ M) → ∃ v H', Inv X pins σ H' { s with heap := h', toks := tk } ∧ RelV v (Value.int M t') ∧ Q v H' := fun h' tk M t' hk m1 m2 => by
          obtain ⟨b1, b2⟩ := maxI_is n ns
          have : M = maxI n ns := Int.le_antisymm (b2 M m1) (m2 _ b1)
          subst this
          exact ⟨.int _, H, I.kept hk, ⟨_, rfl⟩, fin_i st e2 k⟩
        rcases h1 with h1 | h1
        · obtain ⟨its, rv, hl, _⟩ := I.list h1
          exact max_raw (I.ok.hd hc) hl.isList rv.ints (by simp) fin
        · obtain ⟨its, rv, hl, _⟩ := I.tuple h1
          exact max_rawT (I.ok.hd hc) hl rv.ints (by simp) fin
theorem c_minL (hc : X.calm = true) : CallR X (.builtin "min") (rC1 X.K fun h a => opSem h .minL [a]) := by
  intro pins s σ H xs us Q I r hh
  obtain ⟨x, rfl, q, H0, g, h, ρ, σ', a, z, st, ra, e, k⟩ := hh
  have e0 : ((a.seq h).bind fun xs => (pInts xs).bind fun ns => match ns with
    | [] => none
    | n :: r => some (RV.v (.int (minI n r)))) = some z := e
  cases c : a.seq h with
  | none => rw [c] at e0; cases e0
  | some ys =>
    rw [c] at e0
    have e1 : ((pInts ys).bind fun ns => match ns with
      | [] => none
      | n :: r => some (RV.v (.int (minI n r)))) = some z := e0
    cases d : pInts ys with
    | none => rw [d] at e1; cases e1
    | some ns =>
      rw [d] at e1
      cases ns with
      | nil => cases e1
      | cons n ns =>
        have e2 : some (RV.v (.int (minI n ns))) = some z := e1
        obtain ⟨p, vs, rfl, h1, h2⟩ := res_seq st ra c
        have ev := h2.ints d
        subst ev
        rw [Vals.ref1 r]
        have fin : ∀ h' tk M t', (∀ b o, s.heap.get? b = some o → h'.get? b = some o) → M ∈ n :: ns → (∀ a, a ∈ n :: ns → M ≤ a) → ∃ v H', Inv X pins σ H' { s with heap := h', toks := tk } ∧ RelV v (Value.int M t') ∧ Q v H' := fun h' tk M t' hk m1 m2 => by
          obtain ⟨b1, b2⟩ := minI_is n ns
          have : M = minI n ns := Int.le_antisymm (m2 _ b1) (b2 M m1)
          subst this
          exact ⟨.int _, H, I.kept hk, ⟨_, rfl⟩, fin_i st e2 k⟩
        rcases h1 with h1 | h1
        · obtain ⟨its, rv, hl, _⟩ := I.list h1
          exact min_raw (I.ok.hd hc) hl.isList rv.ints (by simp) fin
        · obtain ⟨its, rv, hl, _⟩ := I.tuple h1
          exact min_rawT (I.ok.hd hc) hl rv.ints (by simp) fin
end
end WT
end
section
set_option Elab.async false
set_option linter.all false
set_option maxRecDepth 100000
set_option maxHeartbeats 4000000
/-! Tuples of ints in their order; sorted by insertion, stable. -/
namespace WT
open PySem PySem.Spec PyProof.Rows L2
theorem lexL_asym : ∀ a b : List Int, lexL a b = true → lexL b a = false
  | [], [], h => by cases h
  | [], _ :: _, _ => rfl
  | _ :: _, [], h => by cases h
  | x :: xs, y :: ys, h => by
    unfold lexL at h ⊢
    by_cases e : x = y
    · rw [if_pos e] at h
      rw [if_pos e.symm]
      exact lexL_asym xs ys h
    · rw [if_neg e, decide_eq_true_eq] at h
      rw [if_neg (Ne.symm e), decide_eq_false_iff_not]
      omega
theorem lexL_tr : ∀ a b c : List Int, lexL a b = false → lexL b c = false → lexL a c = false
  | [], [], c, _, h => h
  | [], _ :: _, _, h, _ => by cases h
  | _ :: _, _, [], _, _ => rfl
  | _ :: _, [], _ :: _, _, h => by cases h
  | x :: xs, y :: ys, z :: zs, h1, h2 => by
    unfold lexL at h1 h2 ⊢
    by_cases e1 : x = y
    · rw [if_pos e1] at h1
      by_cases e2 : y = z
      · rw [if_pos e2] at h2
        rw [if_pos (e1.trans e2)]
        exact lexL_tr xs ys zs h1 h2
      · rw [if_neg e2, decide_eq_false_iff_not] at h2
        rw [if_neg (by omega), decide_eq_false_iff_not]
        omega
    · rw [if_neg e1, decide_eq_false_iff_not] at h1
      by_cases e2 : y = z
      · rw [if_neg (by omega), decide_eq_false_iff_not]
        omega
      · rw [if_neg e2, decide_eq_false_iff_not] at h2
        rw [if_neg (by omega), decide_eq_false_iff_not]
        omega
abbrev ltK {α : Type} (k : α → List Int) (x y : α) : Bool := lexL (k x) (k y)
theorem swoK {α : Type} (k : α → List Int) : SrtO.Swo (ltK k) := ⟨fun x y h => lexL_asym _ _ h, fun x y z h1 h2 => lexL_tr _ _ _ h2 h1⟩
theorem insK_split {α : Type} (k : α → List Int) (y : α) : ∀ S : List α, SrtO.Srtd (ltK k) S → ∃ M N, S = M ++ N ∧ insK k y S = M ++ y :: N ∧ (∀ x ∈ M, ltK k y x = false) ∧ ∀ x ∈ N, ltK k y x = true
  | [], _ => ⟨[], [], rfl, rfl, by simp, by simp⟩
  | x :: xs, h => by
    by_cases c : lexL (k y) (k x) = true
    · refine ⟨[], x :: xs, rfl, by rw [insK, if_pos c]; rfl, by simp, (swoK k).lt_all h c⟩
    · obtain ⟨M, N, e1, e2, h1, h2⟩ := insK_split k y xs (List.pairwise_cons.mp h).2
      refine ⟨x :: M, N, by rw [e1]; rfl, by rw [insK, if_neg c, e2]; rfl, ?_, h2⟩
      intro z hz
      rcases List.mem_cons.mp hz with rfl | hz
      · exact Bool.eq_false_iff.mpr c
      · exact h1 z hz
theorem isortK_ok {α : Type} (k : α → List Int) (l : List α) : SrtO.Srtd (ltK k) (isortK k l) ∧ SrtO.Stb (ltK k) (isortK k l) l := by
  have aux : ∀ (l : List α) (S P : List α), SrtO.Srtd (ltK k) S → SrtO.Stb (ltK k) S P → SrtO.Srtd (ltK k) (l.foldl (fun S y => insK k y S) S) ∧ SrtO.Stb (ltK k) (l.foldl (fun S y => insK k y S) S) (P ++ l) := by
    intro l
    induction l with
    | nil => intro S P h1 h2; exact ⟨h1, by simpa using h2⟩
    | cons y l ih =>
      intro S P h1 h2
      obtain ⟨M, N, e1, e2, h3, h4⟩ := insK_split k y S h1
      subst e1
      have a := SrtO.ins_srtd (swoK k) h1 h3 h4
      have b := SrtO.ins_stb (swoK k) h4 h2
      have c := ih (M ++ y :: N) (P ++ [y]) a b
      rw [List.foldl_cons, e2]
      rw [List.append_assoc] at c
      exact c
  have := aux l [] [] List.Pairwise.nil (SrtO.Stb.refl [])
  rw [List.nil_append] at this
  exact this
theorem insK_map {α β : Type} (f : α → β) (k : β → List Int) (y : α) : ∀ S : List α, (insK (fun x => k (f x)) y S).map f = insK k (f y) (S.map f)
  | [] => rfl
  | x :: xs => by
    rw [insK, List.map_cons, insK]
    split
    · rfl
    · rw [List.map_cons, insK_map f k y xs]
theorem isortK_map {α β : Type} (f : α → β) (k : β → List Int) (l : List α) : (isortK (fun x => k (f x)) l).map f = isortK k (l.map f) := by
  have aux : ∀ (l S : List α), (l.foldl (fun S y => insK (fun x => k (f x)) y S) S).map f = (l.map f).foldl (fun S y => insK k y S) (S.map f) := by
    intro l
    induction l with
    | nil => intro S; rfl
    | cons y l ih => intro S; rw [List.foldl_cons, ih, insK_map, List.map_cons, List.foldl_cons]
  exact aux l []
/-! in the model -/
def IsTup (h : Heap) (v : Value) (ns : List Int) : Prop := ∃ a o its n, v = .ref a ∧ h.get? a = some o ∧ o.cls = .type "tuple" ∧ o.data = .seq its n ∧ Vals (ns.map V.int) its.toList
theorem IsTup.keeps {h h' : Heap} {v : Value} {ns : List Int} (p : IsTup h v ns) (k : ∀ b o, h.get? b = some o → o.cls = .type "tuple" → h'.get? b = some o) : IsTup h' v ns := by
  obtain ⟨a, o, its, n, e, ho, hc, hd, hv⟩ := p
  exact ⟨a, o, its, n, e, k _ _ ho hc, hc, hd, hv⟩
section
variable {prog : Program} {w : World} {A : Around} {s : Shared}
theorem kat_ints {fin : Bool} {Q : Bool → Shared → Prop} : ∀ (ns ms : List Int) (xs ys : List Value) (i : Nat), Vals (ns.map V.int) xs → Vals (ms.map V.int) ys → fin = decide (xs.length < ys.length) → Q (lexL ns ms) s → PySem.W.KatLex prog w A true fin Q (xs.zip ys) i s
  | [], ms, xs, ys, i, r1, r2, hf, q => by
    cases r1
    refine PySem.W.kat_nil ?_
    rw [hf]
    cases ms with
    | nil => cases r2; exact q
    | cons m ms => cases r2; exact q
  | n :: ns, [], xs, ys, i, r1, r2, hf, q => by
    cases r2
    cases r1
    exact PySem.W.kat_nil (by rw [hf]; exact q)
  | n :: ns, m :: ms, xs, ys, i, r1, r2, hf, q => by
    cases r1 with
    | cons a r1 =>
      cases r2 with
      | cons b r2 =>
        obtain ⟨t, rfl⟩ := a
        obtain ⟨u, rfl⟩ := b
        rw [List.zip_cons_cons]
        refine PySem.W.kat_cons (SeqAt.EqAt.int_int n t m u prog w _ _ ?_)
        refine PySem.W.kat_go (fun e1 => ?_) (fun e1 => ?_)
        · have ex : n = m := by simpa using e1
          unfold lexL at q
          rw [if_pos ex] at q
          exact PySem.W.kat_yes (kat_ints ns ms _ _ _ r1 r2 (by rw [hf]; simp) q)
        · have ex : ¬ n = m := by simpa using e1
          unfold lexL at q
          rw [if_neg ex] at q
          exact PySem.W.kat_no (TS.oneLt_ints _ q)
end
end WT
end
section
set_option Elab.async false
set_option linter.all false
set_option maxRecDepth 100000
set_option maxHeartbeats 4000000
/-! sorted(xs): tuples of ints, none empty, of a list or a tuple. -/
namespace WT
open PySem PySem.Spec PyProof.Rows L2
/-- the ints of a tuple that stands in the heap -/
def kOf (h : Heap) : Value → List Int
  | .ref a => (match h.get? a with
    | some o => (match o.data with
      | .seq its _ => its.toList.map SrtO.iv
      | _ => [])
    | none => [])
  | _ => []
theorem vals_iv : ∀ {ns : List Int} {us : List Value}, Vals (ns.map V.int) us → us.map SrtO.iv = ns
  | [], _, r => by cases r; rfl
  | n :: ns, _, r => by
    cases r with
    | cons a r =>
      obtain ⟨t, rfl⟩ := a
      rw [List.map_cons, vals_iv r]
      rfl
theorem IsTup.kOf {h : Heap} {v : Value} {ns : List Int} (p : IsTup h v ns) : WT.kOf h v = ns := by
  obtain ⟨a, o, its, n, rfl, ho, hc, hd, hv⟩ := p
  unfold WT.kOf
  simp only [ho, hd]
  exact vals_iv hv
section
variable {prog : Program} {w : World} {A : Around} {s : Shared}
theorem tups_cmp {vs : List Value} {k : Value → List Int} (hp : ∀ v ∈ vs, IsTup s.heap v (k v)) : SrtO.Cmp prog w A s (tuples' true) (fun p => p.1 ∈ vs) (SrtO.lt2 fun v u => lexL (k v) (k u)) := by
  intro p q hm hm'
  have h1 := hp _ hm
  have h2 := hp _ hm'
  show wpAny (model prog w) A (keyLt' (tuples' true) p.1 q.1) (fun r s' => s' = s ∧ r = lexL (k p.1) (k q.1)) (fun _ _ => False) s
  generalize k p.1 = ns at h1 ⊢
  generalize k q.1 = ms at h2 ⊢
  obtain ⟨a, o, xs, n, e, ho, hc, hd, hv⟩ := h1
  obtain ⟨a', o', ys, n', e', ho', hc', hd', hv'⟩ := h2
  rw [e, e']
  exact PySem.W.kat_lt ho hd ho' hd' (kat_ints ns ms _ _ 0 hv hv' (by simp) ⟨rfl, rfl⟩)
theorem lexLt_lexL : ∀ ns ms : List Int, HT.lexLt ns ms = lexL ns ms
  | [], [] => by rw [HT.lexLt_nil_nil]; rfl
  | [], _ :: _ => by rw [HT.lexLt_nil_cons]; rfl
  | _ :: _, [] => by rw [HT.lexLt_cons_nil]; rfl
  | x :: xs, y :: ys => by
    rw [HT.lexLt_cons, lexL, lexLt_lexL xs ys]
theorem vals_ints : ∀ {ns : List Int} {us : List Value}, Vals (ns.map V.int) us → IntsAre us ns
  | [], _, r => by cases r; exact .nil
  | n :: ns, _, r => by
    cases r with
    | cons a r =>
      obtain ⟨t, rfl⟩ := a
      exact .cons n t (vals_ints r)
theorem tups_cmpG (hu : A.units < cLine) {vs : List Value} {k : Value → List Int} (hp : ∀ v ∈ vs, IsTup s.heap v (k v)) : SrtO.Cmp prog w A s general' (fun p => p.1 ∈ vs) (SrtO.lt2 fun v u => lexL (k v) (k u)) := by
  intro p q hm hm'
  have h1 := hp _ hm
  have h2 := hp _ hm'
  show wpAny (model prog w) A (oneLt' false p.1 q.1) (fun r s' => s' = s ∧ r = lexL (k p.1) (k q.1)) (fun _ _ => False) s
  generalize k p.1 = ns at h1 ⊢
  generalize k q.1 = ms at h2 ⊢
  obtain ⟨a, o, xs, n, e, ho, hc, hd, hv⟩ := h1
  obtain ⟨a', o', ys, n', e', ho', hc', hd', hv'⟩ := h2
  rw [e, e']
  refine PySem.W.kat_one _ _ (HT.lt_tupInts ⟨o, ho, hc, n, hd⟩ ⟨o', ho', hc', n', hd'⟩ (vals_ints hv) (vals_ints hv') hu ?_)
  exact ⟨rfl, lexLt_lexL ns ms⟩
theorem tups_cmpO (hu : A.units < cLine) {vs : List Value} {k : Value → List Int} (hp : ∀ v ∈ vs, IsTup s.heap v (k v)) : SrtO.Cmp prog w A s oneType' (fun p => p.1 ∈ vs) (SrtO.lt2 fun v u => lexL (k v) (k u)) := by
  intro p q hm hm'
  have h1 := hp _ hm
  have h2 := hp _ hm'
  show wpAny (model prog w) A (oneLt' true p.1 q.1) (fun r s' => s' = s ∧ r = lexL (k p.1) (k q.1)) (fun _ _ => False) s
  generalize k p.1 = ns at h1 ⊢
  generalize k q.1 = ms at h2 ⊢
  obtain ⟨a, ⟨cls, dd, data, sl⟩, xs, n, e, ho, hc, hd, hv⟩ := h1
  obtain ⟨a', ⟨cls', dd', data', sl'⟩, ys, n', e', ho', hc', hd', hv'⟩ := h2
  simp only at hc hd hc' hd'
  subst hc hd hc' hd'
  rw [e, e', oneLt'_eq]
  simp only [if_true]
  refine wpAny_bind (wpAny_cRoomFor hu ?_)
  refine wpAny_bind (wpAny_callSpecialIfBound?_slot (T := "tuple") ⟨_, ho, rfl⟩ PySem.F.slot_tuple_lt (call_meets PySem.F.slot_tuple_lt ⟨_, ho, rfl⟩ PySem.F.entry_tuple_lt (PySem.F.args_tuple_lt_2 _ _) (HT.tuple_lt_ints a a' xs ys n n' dd dd' sl sl' ns ms (vals_ints hv) (vals_ints hv')) ⟨ho, ho', ?_⟩))
  exact wpAny_truthy_bool ⟨rfl, lexLt_lexL ns ms⟩
theorem tups_firsts {h : Heap} : ∀ {vs : List Value} {k : Value → List Int}, (∀ v ∈ vs, IsTup h v (k v) ∧ k v ≠ []) → ∃ fs : List Value, PySem.W.KatTups h vs fs ∧ fs.length = vs.length ∧ ∀ f ∈ fs, ∃ x t, f = Value.int x t
  | [], _, _ => ⟨[], PySem.W.KatTups.nil, rfl, fun _ hm => by simp at hm⟩
  | v :: vs, k, hp => by
    obtain ⟨fs, h1, h2, h3⟩ := tups_firsts (vs := vs) (k := k) fun v' hm => hp v' (List.mem_cons_of_mem _ hm)
    obtain ⟨⟨a, o, its, n, e, ho, hc, hd, hv⟩, hne⟩ := hp v (List.mem_cons_self ..)
    generalize k v = ns at hv hne
    subst e
    cases ns with
    | nil => exact absurd rfl hne
    | cons m ns =>
      obtain ⟨l⟩ := its
      cases hv with
      | cons r hv =>
        obtain ⟨t, rfl⟩ := r
        refine ⟨.int m t :: fs, PySem.W.KatTups.cons ho hc hd rfl h1, by rw [List.length_cons, List.length_cons, h2], fun f hm => ?_⟩
        rcases List.mem_cons.mp hm with rfl | hm
        · exact ⟨_, _, rfl⟩
        · exact h3 f hm
theorem firsts_opt : ∀ (vs : List Value) (k : Value → List Int) {Q : List (Option Value) → Shared → Prop} {E : Value → Shared → Prop}, (∀ v ∈ vs, IsTup s.heap v (k v)) → (∀ fs : List (Option Value), fs.map (·.isSome) = vs.map (fun v => !(k v).isEmpty) → Q fs s) → wpAny (model prog w) A (vs.mapM firstOfTuple') Q E s
  | [], k, Q, E, _, h => by rw [List.mapM_nil]; exact wpAny_pure (h [] rfl)
  | v :: vs, k, Q, E, hp, h => by
    obtain ⟨a, o, its, n, e, ho, hc, hd, hv⟩ := hp v (List.mem_cons_self ..)
    have hl : (its[0]?).isSome = !(k v).isEmpty := by
      obtain ⟨l⟩ := its
      generalize k v = ns at hv
      cases ns with
      | nil => cases hv; rfl
      | cons n ns => cases hv; rfl
    subst e
    rw [List.mapM_cons]
    refine wpAny_bind ?_
    rw [PySem.W.kas_first_eq]
    refine wpAny_bind (PySem.W.Looks.here (show PySem.W.Looks (model prog w) s.heap (typeOf (.ref a)) o.cls from (PySem.W.Looks.ld ho).andThen .now) ?_)
    rw [hc, if_neg (by first | decide | simp)]
    refine wpAny_bind (listItems_at ho hd (wpAny_pure ?_))
    refine wpAny_bind (firsts_opt vs k (fun u hu => hp u (List.mem_cons_of_mem _ hu)) fun fs hfs => wpAny_pure ?_)
    refine h _ ?_
    rw [List.map_cons, List.map_cons, hfs, hl]
theorem tups_kind {v : Value} {vs : List Value} {k : Value → List Int} {Q : SortKind → Shared → Prop} {E : Value → Shared → Prop} (hp : ∀ u ∈ v :: vs, IsTup s.heap u (k u)) (hne : ¬ ∀ u ∈ v :: vs, k u ≠ []) (hq : Q (if (k v).isEmpty = true then oneType' else general') s) : wpAny (model prog w) A (keyKind' (v :: vs).toArray) Q E s := by
  rw [keyKind'_eq, List.mapM_toArray, map_eq_pure_bind]
  refine wpAny_bind (wpAny_bind (firsts_opt (v :: vs) k hp fun fs hfs => wpAny_pure ?_))
  have hall : ¬ (fs.toArray.all fun x => x.isSome) = true := by
    intro c
    apply hne
    intro u hu e
    have hm : (!(k u).isEmpty) ∈ (v :: vs).map (fun v => !(k v).isEmpty) := List.mem_map.mpr ⟨u, hu, rfl⟩
    rw [← hfs] at hm
    obtain ⟨f, hf, ef⟩ := List.mem_map.mp hm
    rw [e] at ef
    rw [List.all_toArray] at c
    have := List.all_eq_true.mp c f hf
    rw [this] at ef
    cases ef
  rw [if_neg hall]
  cases fs with
  | nil => cases hfs
  | cons f fs =>
    rw [List.map_cons, List.map_cons] at hfs
    have hf := (List.cons.inj hfs).1
    have e0 : ((f :: fs).toArray[0]?.bind id) = f := by simp
    rw [e0, hf]
    cases hk : (k v).isEmpty with
    | false =>
      rw [hk] at hq
      rw [if_pos (by decide)]
      exact wpAny_pure hq
    | true =>
      rw [hk, if_pos rfl] at hq
      rw [if_neg (by decide), oneTypeOnly'_eq, List.mapM_toArray, map_eq_pure_bind]
      refine wpAny_bind (wpAny_bind (wpAny_bind (PySem.W.kas_mapM (r := Value.type "tuple") _ (fun u hu Q' hq' => ?_) (wpAny_pure ?_))))
      · obtain ⟨a, o, its, n, e, ho, hc, hd, hv'⟩ := hp u hu
        subst e
        refine PySem.W.Looks.here (show PySem.W.Looks (model prog w) s.heap (typeOf (.ref a)) o.cls from (PySem.W.Looks.ld ho).andThen .now) ?_
        rw [hc]
        exact hq'
      · have hall2 : ((List.map (fun _ => Value.type "tuple") (v :: vs)).toArray.all fun x => x == Value.type "tuple") = true := by
          simp only [List.all_toArray, List.all_map, List.all_eq_true]
          intro _ _
          rfl
        have e0 : (List.map (fun _ => Value.type "tuple") (v :: vs)).toArray[0]? = some (Value.type "tuple") := by simp
        rw [e0]
        simp only [hall2, if_true]
        exact wpAny_pure (wpAny_pure hq)
theorem tups_sortable (hu : A.units < cLine) {a : Addr} {vs : List Value} {k : Value → List Int} (h0 : 0 < vs.length) (hp : ∀ v ∈ vs, IsTup s.heap v (k v)) (ha : ∀ o, s.heap.get? a = some o → o.cls ≠ .type "tuple") : SrtO.SortableO prog w A s a vs fun v u => lexL (k v) (k u) := by
  intro h' keep
  have hp' : ∀ v ∈ vs, IsTup h' v (k v) := fun v hm => (hp v hm).keeps fun b o e c => keep b o (fun z => by subst z; exact ha o e c) e
  by_cases hne : ∀ v ∈ vs, k v ≠ []
  · obtain ⟨fs, h1, h2, h3⟩ := tups_firsts (fun v hm => ⟨hp' v hm, hne v hm⟩)
    refine ⟨tuples' true, fun Q E hq => ?_, tups_cmp hp'⟩
    refine PySem.W.kat_kind (T := .type "int") h1 (by omega) (fun f hm => ?_) (by rfl) ?_
    · obtain ⟨x, t, rfl⟩ := h3 f hm
      exact PySem.W.Looks.now
    · have e : (Value.type "int" != Value.type "tuple") = true := by first | decide +kernel | rfl | decide
      rw [e]
      exact hq
  · cases vs with
    | nil => simp at h0
    | cons v vs =>
      refine ⟨_, fun Q E hq => tups_kind hp' hne hq, ?_⟩
      split
      · exact tups_cmpO hu hp'
      · exact tups_cmpG hu hp'
end
theorem insK_mem {α : Type} (k : α → List Int) (y : α) : ∀ (S : List α) (z : α), z ∈ insK k y S ↔ z = y ∨ z ∈ S
  | [], z => by simp [insK]
  | x :: xs, z => by
    rw [insK]
    split
    · simp
    · rw [List.mem_cons, insK_mem k y xs z, List.mem_cons]
      constructor
      · rintro (h | h | h)
        · exact .inr (.inl h)
        · exact .inl h
        · exact .inr (.inr h)
      · rintro (h | h | h)
        · exact .inr (.inl h)
        · exact .inl h
        · exact .inr (.inr h)
theorem insK_congr {α : Type} {k k' : α → List Int} {y : α} (hy : k y = k' y) : ∀ {S : List α}, (∀ x ∈ S, k x = k' x) → insK k y S = insK k' y S
  | [], _ => rfl
  | x :: xs, h => by
    rw [insK, insK, hy, h x (List.mem_cons_self ..), insK_congr hy fun z hz => h z (List.mem_cons_of_mem _ hz)]
theorem isortK_congr {α : Type} {k k' : α → List Int} (l : List α) (h : ∀ x ∈ l, k x = k' x) : isortK k l = isortK k' l := by
  have aux : ∀ (l S : List α), (∀ x ∈ l, k x = k' x) → (∀ x ∈ S, k x = k' x) → l.foldl (fun S y => insK k y S) S = l.foldl (fun S y => insK k' y S) S := by
    intro l
    induction l with
    | nil => intro S _ _; rfl
    | cons y l ih =>
      intro S h1 h2
      rw [List.foldl_cons, List.foldl_cons, insK_congr (h1 y (List.mem_cons_self ..)) h2]
      refine ih _ (fun x hx => h1 x (List.mem_cons_of_mem _ hx)) fun x hx => ?_
      rcases (insK_mem k' y S x).mp hx with rfl | hx
      · exact h1 _ (List.mem_cons_self ..)
      · exact h2 x hx
  exact aux l [] h (by simp)
/-- one item: as a value, in the layer, in the model -/
theorem triples {K : KF} {g : Gh} {H : Hp} : ∀ {ys : List PV} {vs : List V} {us : List Value}, Reps K g H ys vs → Vals vs us → ∃ L : List (PV × V × Value), L.map (·.1) = ys ∧ L.map (·.2.1) = vs ∧ L.map (·.2.2) = us ∧ ∀ t ∈ L, Rep K g H t.1 t.2.1 ∧ RelV t.2.1 t.2.2
  | _, _, _, .nil, r => by
    cases r
    exact ⟨[], rfl, rfl, rfl, by simp⟩
  | _, _, _, .cons a b, r => by
    cases r with
    | cons c d =>
      obtain ⟨L, e1, e2, e3, h⟩ := triples b d
      refine ⟨(_, _, _) :: L, by rw [List.map_cons, e1], by rw [List.map_cons, e2], by rw [List.map_cons, e3], fun t ht => ?_⟩
      rcases List.mem_cons.mp ht with rfl | ht
      · exact ⟨a, c⟩
      · exact h t ht
theorem reps_map {K : KF} {g : Gh} {H : Hp} : ∀ (L : List (PV × V × Value)), (∀ t ∈ L, Rep K g H t.1 t.2.1) → Reps K g H (L.map (·.1)) (L.map (·.2.1))
  | [], _ => .nil
  | t :: L, h => .cons (h t (List.mem_cons_self ..)) (reps_map L fun x hx => h x (List.mem_cons_of_mem _ hx))
theorem vals_map : ∀ (L : List (PV × V × Value)), (∀ t ∈ L, RelV t.2.1 t.2.2) → Vals (L.map (·.2.1)) (L.map (·.2.2))
  | [], _ => .nil
  | t :: L, h => .cons (h t (List.mem_cons_self ..)) (vals_map L fun x hx => h x (List.mem_cons_of_mem _ hx))
section
variable {X : Cx}
theorem rep_isTup {pins : List (Addr × Obj)} {σ : L2.St} {H : Hp} {s : Shared} {g : Gh} {y : PV} {v : V} {u : Value} (I : Inv X pins σ H s) (ry : Rep X.K g H y v) (rv : RelV v u) (hy : okT y = true) : IsTup s.heap u (keyT y) := by
  cases ry with
  | tup hF hr =>
    rename_i xs vs a
    obtain rfl : u = Value.ref a := rv
    unfold okT at hy
    cases c : pInts xs with
    | none => simp [c] at hy
    | some ns =>
      have ek : keyT (.tup xs) = ns := by simp [keyT, c]
      have ev := hr.ints c
      subst ev
      obtain ⟨its, rv, pl, hz⟩ := I.tuple hF.sq
      obtain ⟨o, ho, hc, m, hd⟩ := pl
      rw [ek]
      exact ⟨a, o, its.toArray, m, rfl, ho, hc, hd, by simpa using rv⟩
  | _ => cases hy
theorem c_sortedT (hu : X.A.units + 64 < cLine) : CallR X (.builtin "sorted") (rC1 X.K fun h a => (a.seq h).bind fun xs => if xs.all okT = true then some (.L false (isortK keyT xs)) else none) := by
  intro pins s σ H xs us Q I r hh
  obtain ⟨x, rfl, q, H0, g, h, ρ, σ', a, z, st, ra, e, k⟩ := hh
  have e0 : ((a.seq h).bind fun xs => if xs.all okT = true then some (RV.L false (isortK keyT xs)) else none) = some z := e
  cases c : a.seq h with
  | none => rw [c] at e0; cases e0
  | some ys =>
    rw [c] at e0
    have e1 : (if ys.all okT = true then some (RV.L false (isortK keyT ys)) else none) = some z := e0
    by_cases hok : ys.all okT = true
    · rw [if_pos hok] at e1
      obtain ⟨p, vs, rfl, h1, h2⟩ := res_seq st ra c
      obtain ⟨its, o, T, n, rv, hT, ho, hcl, hdt, hz⟩ := seq_obj I h1
      rw [Vals.ref1 r]
      obtain ⟨L, l1, l2, l3, hL⟩ := triples h2 rv
      have hz2 : its.length ≤ sizeLine := by rw [← rv.length]; exact hz
      have hkey : ∀ t ∈ L, IsTup s.heap t.2.2 (keyT t.1) := fun t ht => by
        obtain ⟨a1, a2⟩ := hL t ht
        exact rep_isTup I a1 a2 (List.all_eq_true.mp hok _ (by rw [← l1]; exact List.mem_map.mpr ⟨t, ht, rfl⟩))
      have hk2 : ∀ u ∈ its, IsTup s.heap u (kOf s.heap u) := fun u hu => by
        rw [← l3] at hu
        obtain ⟨t, ht, rfl⟩ := List.mem_map.mp hu
        rw [(hkey t ht).kOf]
        exact hkey t ht
      refine Calls.call_function_entry kind_sorted plain_sorted entry_sorted (args_sorted1 _) ?_
      unfold Builtin.«sorted»
      refine wpAny_bind (m := checkCount "sorted" 1 1 _) (wpAny_pure ?_)
      refine wpAny_bind (wpAny_collect_seq p hT ho hcl hdt ?_ (by simpa using hz2))
      intro h' keep
      have el : its.toArray.toList = its := by simp
      rw [el]
      refine wpAny_bind (wpAny_newList ?_ hz2)
      have hnew : (h'.push (seqObj "list" its.toArray 0)).get? h'.objs.size = some (seqObj "list" its.toArray 0) := Heap.get?_push_size _ rfl
      refine wpAny_bind (wpAny_holding (wpAny_call_entry slot_list_sort ⟨_, hnew, rfl⟩ entry_list_sort (SrtO.list_sort_ord (swoK (kOf s.heap)) hnew hz2 (fun h2 => tups_sortable (by show X.A.units + 2 < cLine; omega) (by omega) (fun v hv => (hk2 v hv).keeps fun b ob e _ => Heap.get?_push_of_some _ (keep b ob e)) fun o e => ?_) ?_) (args_list_sort _)))
      · have e' : some o = some (seqObj "list" its.toArray 0) := e.symm.trans hnew
        cases e'
        intro c
        exact absurd (Value.type.inj c) (by decide)
      intro out hs hb
      refine ⟨_, rfl, wpAny_pure ⟨_, rfl, ?_⟩⟩
      obtain ⟨L', hL'⟩ : ∃ L', L' = isortK (fun t : PV × V × Value => kOf s.heap t.2.2) L := ⟨_, rfl⟩
      obtain ⟨i1, i2⟩ := isortK_ok (fun t : PV × V × Value => kOf s.heap t.2.2) L
      rw [← hL'] at i1 i2
      have j1 : SrtO.Srtd (ltK (kOf s.heap)) (L'.map (·.2.2)) := SrtO.srtd_map i1
      have j2 : SrtO.Stb (ltK (kOf s.heap)) (L'.map (·.2.2)) (L.map (·.2.2)) := SrtO.Stb.map (swoK (kOf s.heap)) (fun t : PV × V × Value => t.2.2) i2
      rw [l3] at j2
      have eo : out = L'.map (·.2.2) := SrtO.stb_uniq (swoK (kOf s.heap)) hs j1 ⟨hb.perm.trans j2.perm.symm, fun x => (hb.cls x).trans (j2.cls x).symm⟩
      have mem : ∀ t ∈ L', t ∈ L := fun t ht => i2.perm.mem_iff.mp ht
      have hrep : Reps X.K g H (L'.map (·.1)) (L'.map (·.2.1)) := reps_map L' fun t ht => (hL t (mem t ht)).1
      have hval : Vals (L'.map (·.2.1)) out := by rw [eo]; exact vals_map L' fun t ht => (hL t (mem t ht)).2
      have es : L'.map (·.1) = isortK keyT ys := by
        rw [hL', isortK_congr (k' := fun t : PV × V × Value => keyT t.1) L fun t ht => (hkey t ht).kOf, isortK_map (fun t : PV × V × Value => t.1) keyT L, l1]
      rw [es] at hrep
      obtain ⟨ep, hat⟩ := sortedHeap_at (vs := its) (out := out.toArray) hnew
      have hold : ∀ b u, h'.get? b = some u → (sortedHeap (h'.push (seqObj "list" its.toArray 0)) h'.objs.size its out.toArray).get? b = some u := fun b u hu => by
        have hlt := Heap.lt_size hu
        rw [sortedHeap_old (Nat.ne_of_lt hlt) (by rw [size_push']; exact Nat.lt_succ_of_lt hlt)]
        exact Heap.get?_push_of_some _ hu
      have I1 : Inv X pins σ H { s with heap := h' } := I.kept (t' := s.toks) keep
      have hlen : (L'.map (·.2.1)).length ≤ sizeLine := by
        rw [hval.length, hb.len]
        exact hz2
      exact ⟨.ref _, upd H h'.objs.size (.lst (L'.map (·.2.1))), I1.laid (t' := s.toks) hold (Nat.le_refl _) ⟨hlen, out, ep, hval, hat⟩, rfl, fin_L st hrep e1 k _ (I1.hok.fresh (Nat.le_refl _))⟩
    · rw [if_neg hok] at e1
      cases e1
end
end WT
end
section
set_option Elab.async false
set_option linter.all false
set_option maxRecDepth 100000
set_option maxHeartbeats 4000000
/-! sorted(xs): pairs of an int and a tuple of ints. -/
namespace WT
open PySem PySem.Spec PyProof.Rows L2
def IsPr (h : Heap) (v : Value) (ks : List Int) : Prop := ∃ a o n t u ns m, v = .ref a ∧ h.get? a = some o ∧ o.cls = .type "tuple" ∧ o.data = .seq #[.int n t, u] m ∧ IsTup h u ns ∧ ks = n :: ns
theorem IsPr.keeps {h h' : Heap} {v : Value} {ns : List Int} (p : IsPr h v ns) (k : ∀ b o, h.get? b = some o → o.cls = .type "tuple" → h'.get? b = some o) : IsPr h' v ns := by
  obtain ⟨a, o, n, t, u, ns, m, e, ho, hc, hd, hu, e2⟩ := p
  exact ⟨a, o, n, t, u, ns, m, e, k _ _ ho hc, hc, hd, hu.keeps k, e2⟩
def kOfP (h : Heap) : Value → List Int
  | .ref a => (match h.get? a with
    | some o => (match o.data with
      | .seq its _ => (match its.toList with
        | [x, y] => SrtO.iv x :: kOf h y
        | _ => [])
      | _ => [])
    | none => [])
  | _ => []
theorem IsPr.kOfP {h : Heap} {v : Value} {ns : List Int} (p : IsPr h v ns) : WT.kOfP h v = ns := by
  obtain ⟨a, o, n, t, u, ns, m, rfl, ho, hc, hd, hu, rfl⟩ := p
  unfold WT.kOfP
  simp only [ho, hd]
  rw [hu.kOf]
  rfl
section
variable {prog : Program} {w : World} {A : Around} {s : Shared}
theorem vals_same : ∀ {ns ms : List Int} {us : List Value}, Vals (ns.map V.int) us → Vals (ms.map V.int) us → ns = ms := fun h1 h2 => by
  rw [← vals_iv h1, vals_iv h2]
theorem ints_at : ∀ {ns : List Int} {us : List Value} (j : Nat) (h : j < us.length), Vals (ns.map V.int) us → ∃ n t, ns[j]? = some n ∧ us[j] = .int n t
  | [], _, j, h, r => by cases r; simp at h
  | n :: ns, u :: us, j, h, r => by
    cases r with
    | cons a r =>
      obtain ⟨t, rfl⟩ := a
      cases j with
      | zero => exact ⟨n, t, rfl, rfl⟩
      | succ j =>
        obtain ⟨m, t', h1, h2⟩ := ints_at j (by simpa using h) r
        exact ⟨m, t', by simpa using h1, by simpa using h2⟩
theorem eqAt_tups {u v : Value} {ns ms : List Int} (hu : A.units < cLine) (h1 : IsTup s.heap u ns) (h2 : IsTup s.heap v ms) : SeqAt.EqAt A s u v (decide (ns = ms)) := by
  obtain ⟨a, o, xs, n, rfl, ho, hc, hd, hv⟩ := h1
  obtain ⟨b, o', ys, m, rfl, ho', hc', hd', hv'⟩ := h2
  by_cases e : a = b
  · subst e
    rw [ho] at ho'
    cases ho'
    rw [hd] at hd'
    cases hd'
    rw [decide_eq_true (vals_same hv hv')]
    exact SeqAt.EqAt.same _
  · have lx : xs.size = ns.length := by have := hv.length; simpa using this.symm
    have ly : ys.size = ms.length := by have := hv'.length; simpa using this.symm
    have key := SeqAt.RcAt.tuples (A := A) (s := s) (e := fun j => decide (ns[j]? = ms[j]?)) (l := a) (b := b) (items := xs) (items2 := ys) ⟨o, ho, hc, n, hd⟩ ⟨o', ho', hc', m, hd'⟩ hu (fun j j1 j2 => by
      obtain ⟨p, t, e1, e2⟩ := ints_at j (by simpa using j1) hv
      obtain ⟨q, t', e3, e4⟩ := ints_at j (by simpa using j2) hv'
      have e5 : xs[j] = .int p t := by simpa using e2
      have e6 : ys[j] = .int q t' := by simpa using e4
      rw [e1, e3, e5, e6]
      have : (decide (some p = some q)) = (p == q) := by
        rw [Bool.eq_iff_iff, decide_eq_true_eq, beq_iff_eq]
        exact ⟨fun h => Option.some.inj h, fun h => by rw [h]⟩
      rw [this]
      exact SeqAt.EqAt.int_int p t q t')
    have ev : ((List.range (min xs.size ys.size)).all (fun j => decide (ns[j]? = ms[j]?)) && xs.size == ys.size) = decide (ns = ms) := by
      rw [Bool.eq_iff_iff, Bool.and_eq_true, List.all_eq_true, beq_iff_eq, decide_eq_true_eq, lx, ly]
      constructor
      · rintro ⟨h1, h2⟩
        apply List.ext_getElem?
        intro j
        by_cases c : j < ns.length
        · exact of_decide_eq_true (h1 j (List.mem_range.mpr (by omega)))
        · rw [List.getElem?_eq_none (by omega), List.getElem?_eq_none (by omega)]
      · intro h
        subst h
        exact ⟨fun j _ => decide_eq_true rfl, rfl⟩
    rw [ev] at key
    exact SeqAt.EqAt.of_refs e key
theorem prs_cmp (hu : A.units < cLine) {vs : List Value} {k : Value → List Int} (hp : ∀ v ∈ vs, IsPr s.heap v (k v)) : SrtO.Cmp prog w A s (tuples' true) (fun p => p.1 ∈ vs) (SrtO.lt2 fun v u => lexL (k v) (k u)) := by
  intro p q hm hm'
  have h1 := hp _ hm
  have h2 := hp _ hm'
  show wpAny (model prog w) A (keyLt' (tuples' true) p.1 q.1) (fun r s' => s' = s ∧ r = lexL (k p.1) (k q.1)) (fun _ _ => False) s
  generalize k p.1 = ns at h1 ⊢
  generalize k q.1 = ms at h2 ⊢
  obtain ⟨a, o, n, t, u, ns, m, e, ho, hc, hd, hu1, rfl⟩ := h1
  obtain ⟨a', o', n', t', u', ns', m', e', ho', hc', hd', hu2, rfl⟩ := h2
  rw [e, e']
  refine PySem.W.kat_lt ho hd ho' hd' ?_
  show PySem.W.KatLex prog w A true (decide (2 < 2)) _ [(Value.int n t, Value.int n' t'), (u, u')] 0 s
  refine PySem.W.kat_cons (SeqAt.EqAt.int_int n t n' t' prog w _ _ ?_)
  refine PySem.W.kat_go (fun e1 => ?_) (fun e1 => ?_)
  · have ex : n = n' := by simpa using e1
    refine PySem.W.kat_yes (PySem.W.kat_cons (eqAt_tups hu hu1 hu2 prog w _ _ ?_))
    refine PySem.W.kat_go (fun e2 => ?_) (fun e2 => ?_)
    · have ey : ns = ns' := of_decide_eq_true e2
      refine PySem.W.kat_yes (PySem.W.kat_nil ⟨rfl, ?_⟩)
      subst ex ey
      have : ∀ l : List Int, lexL l l = false := by
        intro l
        induction l with
        | nil => rfl
        | cons x l ih => rw [lexL, if_pos rfl, ih]
      rw [this]
      rfl
    · obtain ⟨b, ob, xs, z, rfl, hob, hcb, hdb, hvb⟩ := hu1
      obtain ⟨b', ob', ys, z', rfl, hob', hcb', hdb', hvb'⟩ := hu2
      refine PySem.W.kat_no (PySem.W.kat_one _ _ (HT.lt_tupInts ⟨ob, hob, hcb, z, hdb⟩ ⟨ob', hob', hcb', z', hdb'⟩ (vals_ints hvb) (vals_ints hvb') hu ?_))
      refine ⟨rfl, ?_⟩
      rw [lexL, if_pos ex]
      exact lexLt_lexL ns ns'
  · have ex : ¬ n = n' := by simpa using e1
    refine PySem.W.kat_no (TS.oneLt_ints _ ⟨rfl, ?_⟩)
    rw [lexL, if_neg ex]
theorem prs_firsts {h : Heap} : ∀ {vs : List Value} {k : Value → List Int}, (∀ v ∈ vs, IsPr h v (k v)) → ∃ fs : List Value, PySem.W.KatTups h vs fs ∧ fs.length = vs.length ∧ ∀ f ∈ fs, ∃ x t, f = Value.int x t
  | [], _, _ => ⟨[], PySem.W.KatTups.nil, rfl, fun _ hm => by simp at hm⟩
  | v :: vs, k, hp => by
    obtain ⟨fs, h1, h2, h3⟩ := prs_firsts (vs := vs) (k := k) fun v' hm => hp v' (List.mem_cons_of_mem _ hm)
    obtain ⟨a, o, n, t, u, ns, m, e, ho, hc, hd, hu, e2⟩ := hp v (List.mem_cons_self ..)
    subst e
    refine ⟨.int n t :: fs, PySem.W.KatTups.cons ho hc hd rfl h1, by rw [List.length_cons, List.length_cons, h2], fun f hm => ?_⟩
    rcases List.mem_cons.mp hm with rfl | hm
    · exact ⟨_, _, rfl⟩
    · exact h3 f hm
theorem prs_sortable (hu : A.units < cLine) {a : Addr} {vs : List Value} {k : Value → List Int} (h0 : 0 < vs.length) (hp : ∀ v ∈ vs, IsPr s.heap v (k v)) (ha : ∀ o, s.heap.get? a = some o → o.cls ≠ .type "tuple") : SrtO.SortableO prog w A s a vs fun v u => lexL (k v) (k u) := by
  intro h' keep
  have hp' : ∀ v ∈ vs, IsPr h' v (k v) := fun v hm => (hp v hm).keeps fun b o e c => keep b o (fun z => by subst z; exact ha o e c) e
  obtain ⟨fs, h1, h2, h3⟩ := prs_firsts hp'
  refine ⟨tuples' true, fun Q E hq => ?_, prs_cmp hu hp'⟩
  refine PySem.W.kat_kind (T := .type "int") h1 (by omega) (fun f hm => ?_) (by rfl) ?_
  · obtain ⟨x, t, rfl⟩ := h3 f hm
    exact PySem.W.Looks.now
  · have e : (Value.type "int" != Value.type "tuple") = true := by first | decide +kernel | rfl | decide
    rw [e]
    exact hq
end
section
variable {X : Cx}
theorem rep_isPr (hu : X.A.units + 64 < cLine) {pins : List (Addr × Obj)} {σ : L2.St} {H : Hp} {s : Shared} {g : Gh} {y : PV} {v : V} {u : Value} (I : Inv X pins σ H s) (ry : Rep X.K g H y v) (rv : RelV v u) (hy : okP y = true) : IsPr s.heap u (keyP y) := by
  unfold okP at hy
  split at hy
  · rename_i n ys
    cases ry with
    | tup hF hr =>
      rename_i vs a
      obtain rfl : u = Value.ref a := rv
      cases hr with
      | cons r1 hr =>
        cases hr with
        | cons r2 hr =>
          cases hr
          cases r1
          obtain ⟨its, rv, pl, hz⟩ := I.tuple hF.sq
          obtain ⟨o, ho, hc, m, hd⟩ := pl
          cases rv with
          | cons q1 rv =>
            cases rv with
            | cons q2 rv =>
              cases rv
              obtain ⟨t, rfl⟩ := q1
              have ht := rep_isTup I r2 q2 (show okT (.tup ys) = true from hy)
              exact ⟨a, o, n, t, _, _, m, rfl, ho, hc, hd, ht, rfl⟩
  · cases hy
theorem c_sortedP (hu : X.A.units + 64 < cLine) : CallR X (.builtin "sorted") (rC1 X.K fun h a => (a.seq h).bind fun xs => if xs.all okP = true then some (.L false (isortK keyP xs)) else none) := by
  intro pins s σ H xs us Q I r hh
  obtain ⟨x, rfl, q, H0, g, h, ρ, σ', a, z, st, ra, e, k⟩ := hh
  have e0 : ((a.seq h).bind fun xs => if xs.all okP = true then some (RV.L false (isortK keyP xs)) else none) = some z := e
  cases c : a.seq h with
  | none => rw [c] at e0; cases e0
  | some ys =>
    rw [c] at e0
    have e1 : (if ys.all okP = true then some (RV.L false (isortK keyP ys)) else none) = some z := e0
    by_cases hok : ys.all okP = true
    · rw [if_pos hok] at e1
      obtain ⟨p, vs, rfl, h1, h2⟩ := res_seq st ra c
      obtain ⟨its, o, T, n, rv, hT, ho, hcl, hdt, hz⟩ := seq_obj I h1
      rw [Vals.ref1 r]
      obtain ⟨L, l1, l2, l3, hL⟩ := triples h2 rv
      have hz2 : its.length ≤ sizeLine := by rw [← rv.length]; exact hz
      have hkey : ∀ t ∈ L, IsPr s.heap t.2.2 (keyP t.1) := fun t ht => by
        obtain ⟨a1, a2⟩ := hL t ht
        exact rep_isPr hu I a1 a2 (List.all_eq_true.mp hok _ (by rw [← l1]; exact List.mem_map.mpr ⟨t, ht, rfl⟩))
      have hk2 : ∀ u ∈ its, IsPr s.heap u (kOfP s.heap u) := fun u hu => by
        rw [← l3] at hu
        obtain ⟨t, ht, rfl⟩ := List.mem_map.mp hu
        rw [(hkey t ht).kOfP]
        exact hkey t ht
      refine Calls.call_function_entry kind_sorted plain_sorted entry_sorted (args_sorted1 _) ?_
      unfold Builtin.«sorted»
      refine wpAny_bind (m := checkCount "sorted" 1 1 _) (wpAny_pure ?_)
      refine wpAny_bind (wpAny_collect_seq p hT ho hcl hdt ?_ (by simpa using hz2))
      intro h' keep
      have el : its.toArray.toList = its := by simp
      rw [el]
      refine wpAny_bind (wpAny_newList ?_ hz2)
      have hnew : (h'.push (seqObj "list" its.toArray 0)).get? h'.objs.size = some (seqObj "list" its.toArray 0) := Heap.get?_push_size _ rfl
      refine wpAny_bind (wpAny_holding (wpAny_call_entry slot_list_sort ⟨_, hnew, rfl⟩ entry_list_sort (SrtO.list_sort_ord (swoK (kOfP s.heap)) hnew hz2 (fun h2 => prs_sortable (by show X.A.units + 2 < cLine; omega) (by omega) (fun v hv => (hk2 v hv).keeps fun b ob e _ => Heap.get?_push_of_some _ (keep b ob e)) fun o e => ?_) ?_) (args_list_sort _)))
      · have e' : some o = some (seqObj "list" its.toArray 0) := e.symm.trans hnew
        cases e'
        intro c
        exact absurd (Value.type.inj c) (by decide)
      intro out hs hb
      refine ⟨_, rfl, wpAny_pure ⟨_, rfl, ?_⟩⟩
      obtain ⟨L', hL'⟩ : ∃ L', L' = isortK (fun t : PV × V × Value => kOfP s.heap t.2.2) L := ⟨_, rfl⟩
      obtain ⟨i1, i2⟩ := isortK_ok (fun t : PV × V × Value => kOfP s.heap t.2.2) L
      rw [← hL'] at i1 i2
      have j1 : SrtO.Srtd (ltK (kOfP s.heap)) (L'.map (·.2.2)) := SrtO.srtd_map i1
      have j2 : SrtO.Stb (ltK (kOfP s.heap)) (L'.map (·.2.2)) (L.map (·.2.2)) := SrtO.Stb.map (swoK (kOfP s.heap)) (fun t : PV × V × Value => t.2.2) i2
      rw [l3] at j2
      have eo : out = L'.map (·.2.2) := SrtO.stb_uniq (swoK (kOfP s.heap)) hs j1 ⟨hb.perm.trans j2.perm.symm, fun x => (hb.cls x).trans (j2.cls x).symm⟩
      have mem : ∀ t ∈ L', t ∈ L := fun t ht => i2.perm.mem_iff.mp ht
      have hrep : Reps X.K g H (L'.map (·.1)) (L'.map (·.2.1)) := reps_map L' fun t ht => (hL t (mem t ht)).1
      have hval : Vals (L'.map (·.2.1)) out := by rw [eo]; exact vals_map L' fun t ht => (hL t (mem t ht)).2
      have es : L'.map (·.1) = isortK keyP ys := by
        rw [hL', isortK_congr (k' := fun t : PV × V × Value => keyP t.1) L fun t ht => (hkey t ht).kOfP, isortK_map (fun t : PV × V × Value => t.1) keyP L, l1]
      rw [es] at hrep
      obtain ⟨ep, hat⟩ := sortedHeap_at (vs := its) (out := out.toArray) hnew
      have hold : ∀ b u, h'.get? b = some u → (sortedHeap (h'.push (seqObj "list" its.toArray 0)) h'.objs.size its out.toArray).get? b = some u := fun b u hu => by
        have hlt := Heap.lt_size hu
        rw [sortedHeap_old (Nat.ne_of_lt hlt) (by rw [size_push']; exact Nat.lt_succ_of_lt hlt)]
        exact Heap.get?_push_of_some _ hu
      have I1 : Inv X pins σ H { s with heap := h' } := I.kept (t' := s.toks) keep
      have hlen : (L'.map (·.2.1)).length ≤ sizeLine := by
        rw [hval.length, hb.len]
        exact hz2
      exact ⟨.ref _, upd H h'.objs.size (.lst (L'.map (·.2.1))), I1.laid (t' := s.toks) hold (Nat.le_refl _) ⟨hlen, out, ep, hval, hat⟩, rfl, fin_L st hrep e1 k _ (I1.hok.fresh (Nat.le_refl _))⟩
    · rw [if_neg hok] at e1
      cases e1
end
end WT
end
section
set_option Elab.async false
set_option linter.all false
set_option maxRecDepth 100000
set_option maxHeartbeats 4000000
/-! enumerate(t) of a tuple. -/
namespace PySem
open Sem (wp)
open AutoSeq1 (wpAny_loadPart')
theorem wt_meets_enum_newT (l : Addr) (items : Array Value) (n : Nat) (dct : Option Addr) (sl : Array (Option Value)) :
    Meets (Builtin.«enumerate.__new__» ⟨[.type "enumerate", .ref l], []⟩) (fun _ R s => s.heap.get? l = some { cls := .type "tuple", dict := dct, data := .seq items n, slots := sl } ∧
      R (.ok (.ret (.ref (s.heap.push { cls := .type "tuple_iterator", data := .fields #[.ref l, .int 0 0] }).objs.size)))
        { s with heap := (s.heap.push { cls := .type "tuple_iterator", data := .fields #[.ref l, .int 0 0] }).push { cls := .type "enumerate", data := .fields #[.none, .bool false, .ref s.heap.objs.size, rawInt 0, .none, .none] } }) :=
  .of_wp fun prog w A R s h => by
    obtain ⟨hp, g, d, tk, os⟩ := s; obtain ⟨hl, h⟩ := h
    have hsub := sub_enumerate
    have hL : Heap.IsTuple (Shared.heap ⟨hp, g, d, tk, os⟩) l items := ⟨_, hl, rfl, n, rfl⟩
    wp_walk using wpAny_loadPart' hl
    refine wpAny_stack_any fun st => wpAny_pure ?_
    split
    · rename_i c _ _ _ _ _
      cases (c == Value.type "enumerate")
      · wp_walk using wpAny_loadPart' hl, wpAny_pyIter_tuple hL
        exact ⟨_, rfl, h⟩
      · wp_walk using wpAny_loadPart' hl, wpAny_pyIter_tuple hL
        exact ⟨_, rfl, h⟩
    · wp_walk using wpAny_loadPart' hl, wpAny_pyIter_tuple hL
      exact ⟨_, rfl, h⟩
section
variable {prog : Program} {w : World} {A : Around} {E : Value → Shared → Prop} {s : Shared}
theorem wt_call_enum_tuple {l : Addr} {items : Array Value} {Q : Value → Shared → Prop} (hL : s.heap.IsTuple l items)
    (h : ∀ h', IsEnum h' (s.heap.objs.size + 1) s.heap.objs.size 0 .none → h'.IsTupleIter s.heap.objs.size l 0 → h'.objs.size = s.heap.objs.size + 2 →
      (∀ b o, s.heap.get? b = some o → h'.get? b = some o) → Q (.ref (s.heap.objs.size + 1)) { s with heap := h' }) :
    wpAny (model prog w) A (call (.type "enumerate") [.ref l]) Q E s := by
  obtain ⟨⟨c, dct, dt, sl⟩, hl, hc, n, hd⟩ := hL
  replace hc : c = .type "tuple" := hc
  replace hd : dt = .seq items n := hd
  subst hc hd
  refine callType_new F.called_enumerate (by decide) (F.typeCall_enumerate_1 _) (F.newCall_enumerate_1 _) (fun obj => F.args_object_init_2 obj _) F.entry_enumerate_new
    (wt_meets_enum_newT l items n dct sl) ⟨hl, ?_⟩
  have hz : (s.heap.push { cls := .type "tuple_iterator", data := .fields #[.ref l, .int 0 0] }).objs.size = s.heap.objs.size + 1 := Heap.size_push ..
  show _ ∧ _
  rw [hz]
  have he : IsEnum ((s.heap.push { cls := .type "tuple_iterator", data := .fields #[.ref l, .int 0 0] }).push
      { cls := .type "enumerate", data := .fields #[.none, .bool false, .ref s.heap.objs.size, rawInt 0, .none, .none] }) (s.heap.objs.size + 1) s.heap.objs.size 0 .none := by
    have := Heap.get?_push_size (s.heap.push { cls := .type "tuple_iterator", data := .fields #[.ref l, .int 0 0] })
      (o := { cls := .type "enumerate", data := .fields #[.none, .bool false, .ref s.heap.objs.size, rawInt 0, .none, .none] }) rfl
    rw [hz] at this; exact this
  refine ⟨⟨_, he, rfl⟩, h _ he ⟨_, Heap.get?_push_of_some _ (Heap.get?_push_size _ rfl), rfl, rfl⟩ (by rw [Heap.size_push, hz]) fun b o x => Heap.get?_push_of_some _ (Heap.get?_push_of_some _ x)⟩
end
end PySem
end
section
set_option Elab.async false
set_option linter.all false
set_option maxRecDepth 100000
set_option maxHeartbeats 4000000
/-! enumerate(t) of a tuple: the walk. -/
namespace WT
open PySem PySem.Spec PyProof.Rows L2
/-- the tuple at a, each item in a new pair -/
def Itet (K : PySem.W.Frag) (a : Addr) : L2.It :=
  ⟨fun i H => ∃ (xs : List V) (x : V), SqT K H a xs ∧ xs[i]? = some x, fun i H v H' => ∃ T x, v = .ref T ∧ H T = none ∧ H' = upd H T (.tup [.int (i : Nat), x]) ∧ ∀ xs, SqT K H a xs → xs[i]? = some x, fun i H => ∃ xs : List V, SqT K H a xs ∧ xs.length = i⟩
theorem enum_ne {h : Heap} {e it a : Addr} {i : Int} {old : Value} {k : Nat} {items : Array Value} (he : IsEnum h e it i old) (hi : h.IsTupleIter it a k) (ha : h.IsTuple a items) : e ≠ a ∧ it ≠ a := by
  obtain ⟨o, ho, hc, _⟩ := ha
  refine ⟨fun z => ?_, fun z => ?_⟩
  · subst z
    have e1 := ho.symm.trans he
    cases e1
    exact absurd (Value.type.inj hc) (by decide)
  · subst z
    obtain ⟨o2, ho2, hc2, _⟩ := hi
    have e1 := ho.symm.trans ho2
    cases e1
    exact absurd (Value.type.inj (hc.symm.trans hc2)) (by decide)
theorem turn_enumT {P : Program} {w : World} {K : PySem.W.Frag} {elts : List Expr} {kk : Nat} {tpos : Pos} (a e it : Addr) :
    Turn P w K (.Tuple elts kk tpos) (Itet K a) [e, it] e (fun i h => (∃ old, IsEnum h e it ((i : Nat) : Int) old) ∧ h.IsTupleIter it a i ∧ e ≠ it) where
  mem := by simp
  obj := fun i h st b hb => by
    obtain ⟨⟨old, he⟩, ⟨o, ho, hc, hd⟩, _⟩ := st
    have e' : b = e ∨ b = it := by simpa using hb
    rcases e' with z | z
    · rw [z]; exact ⟨_, he, fun v q => nomatch q⟩
    · rw [z]; exact ⟨o, ho, fun v q => by rw [hd] at q; cases q⟩
  keep := fun i h h' st k => let ⟨⟨old, he⟩, hi, hne⟩ := st; ⟨⟨old, k e (by simp) _ he⟩, hi.at fun o q => k it (by simp) o q, hne⟩
  item := by
    intro X hP hw hK hc i pins s σ H E I hf st hg
    subst hP hw hK
    obtain ⟨⟨old, he⟩, hit, hne⟩ := st
    obtain ⟨xs, x, hq, hx⟩ := hg
    obtain ⟨its, rv, p, hz⟩ := I.tuple hq
    obtain ⟨u, hu, ru⟩ := rv.get hx
    have hel : e < s.heap.objs.size := Heap.lt_size he
    have hil : it < s.heap.objs.size := by obtain ⟨_, q, _⟩ := hit; exact Heap.lt_size q
    obtain ⟨n1, n2⟩ := enum_ne he hit p
    have hlt : i < its.toArray.size := by
      have := (List.getElem?_eq_some_iff.mp hu).1
      simpa using this
    refine wpAny_pyNext_enum_itemD (Draws.tuple (A := X.A.in1) (I.ok.hd hc) it a (Ne.symm n2) its.toArray) he ⟨hit, p⟩ hlt hne (by simp [hne, n1]) fun y h' tk hy ho hst hT hsz hk => ?_
    have hyu : y = u := by
      have : its.toArray[i]? = some u := by simpa using hu
      exact Option.some.inj (hy.symm.trans this)
    subst hyu
    obtain ⟨hit', _⟩ := hst
    refine ⟨_, rfl, wpAny_letOwnedTupleGo_enum (s := { s with heap := h', toks := tk + 1 }) ho fun h'' he' sb => ?_⟩
    have hT2 : h''.get? s.heap.objs.size = some { cls := .type "tuple", data := .seq #[.int i tk, y] } := (sb.2 _ (Nat.ne_of_gt hel)).trans hT
    have new : ObjOk X.prog X.w (upd H s.heap.objs.size (.tup [.int (i : Nat), x])) h'' s.heap.objs.size (.tup [.int (i : Nat), x]) :=
      ⟨by show 2 ≤ sizeLine; decide, [.int i tk, y], .cons ⟨_, rfl⟩ (.cons ru .nil), ⟨_, hT2, rfl, _, rfl⟩⟩
    have I1 : Inv X pins σ (upd H s.heap.objs.size (.tup [.int (i : Nat), x])) { s with heap := h'', toks := tk + 1 } :=
      I.turnedNew (ch := [e, it]) (fun b ob hb q => (sb.2 b (fun z => hb (by simp [z]))).trans (hk b ob (fun z => hb (by simp [z])) (fun z => hb (by simp [z])) q)) hf (Nat.le_refl _) new
    refine ⟨.ref s.heap.objs.size, _, I1, rfl, ⟨_, x, rfl, I.hok.fresh (Nat.le_refl _), rfl, fun ys hy => by rw [I.tuple_inj hy hq]; exact hx⟩, ⟨⟨y, ?_⟩, hit'.at fun o q => (sb.2 it (Ne.symm hne)).trans q, hne⟩, fun b hb => ?_⟩
    · have e1 : ((i + 1 : Nat) : Int) = (i : Int) + 1 := by omega
      rw [e1]; exact he'
    · have hb' : b < s.heap.objs.size := by
        have e' : b = e ∨ b = it := by simpa using hb
        rcases e' with z | z
        · rw [z]; exact hel
        · rw [z]; exact hil
      rw [upd_ne (Nat.ne_of_lt hb')]
      exact (hf b hb).1
  done := by
    intro X hP hw hK hc i pins s σ H E I hf st hg
    subst hP hw hK
    obtain ⟨⟨old, he⟩, hit, hne⟩ := st
    obtain ⟨xs, hq, hx⟩ := hg
    obtain ⟨its, rv, p, hz⟩ := I.tuple hq
    obtain ⟨f0, f1, f2, f3, f4, f5⟩ := hf it (by simp)
    have hl := rv.length
    subst hx
    have e1 : xs.length = its.toArray.size := by rw [hl]; simp
    obtain ⟨n1, n2⟩ := enum_ne he hit p
    rw [e1] at hit
    exact wpAny_pyNext_enum_endD (Draws.tuple (A := X.A.in1) (I.ok.hd hc) it a (Ne.symm n2) its.toArray) he ⟨hit, p⟩ fun h' eb => ⟨rfl, I.turned (t' := s.toks) (fun b o hb q => eb b o hb q) f0 f1 f3 f4 f5⟩
  self := fun A i s Q E st h => let ⟨⟨_, he⟩, _⟩ := st; wpAny_pyIter_enum he h
def iEnumB (K : PySem.W.Frag) (ta : TA) : TI := fun σ H R => ta σ H fun vs H1 => ∃ a xs, vs = [.ref a] ∧ ((SqL K H1 a xs ∧ R (Ite K a) H1) ∨ (SqT K H1 a xs ∧ R (Itet K a) H1))
theorem pi_enumB {X : Cx} {e : Expr} {ta : TA} {p pos tpos : Pos} {elts : List Expr} {kk : Nat} (hg : Gl X "enumerate") (hm : X.mg "enumerate" = none) (ha : PA X [e] ta) (hs : starEach [e] X.env = [(false, eval e X.env)]) :
    PI X (.Tuple elts kk tpos) (.Call (.Name "enumerate" p) [e] [] pos) (iEnumB X.K ta) := by
  refine ⟨fun pins s σ H R I h => ?_⟩
  refine Call_ (ld_blt I hg hm boot_enumerate (PyProof.Rows.callWith_type1 (thn (ha.run pos pins s σ H _ I h) fun us s1 ⟨vs, H1, I1, r1, q1⟩ => ?_) hs rfl))
  obtain ⟨a, xs, ex, q1⟩ := q1
  subst ex
  have fp : ∀ b ∈ [s1.heap.objs.size + 1, s1.heap.objs.size], s1.heap.objs.size ≤ b := fun b hb => by
    have e' : b = s1.heap.objs.size + 1 ∨ b = s1.heap.objs.size := by simpa using hb
    rcases e' with z | z
    · rw [z]; exact Nat.le_add_right _ _
    · rw [z]; exact Nat.le_refl _
  cases r1 with
  | cons r rr =>
    cases rr
    cases r
    rcases q1 with ⟨hq, q⟩ | ⟨hq, q⟩
    · obtain ⟨its, rv, p', hz⟩ := I1.list hq
      refine call_enumerate_list p'.isList fun h' he hit hsz hk => wpAny_pyIter_enum he ?_
      have I2 : Inv X pins σ H1 { s1 with heap := h' } := I1.kept (t' := s1.toks) hk
      exact ⟨s1.heap.objs.size + 1, [s1.heap.objs.size + 1, s1.heap.objs.size], _, _, H1, rfl, I2, turn_enum a (s1.heap.objs.size + 1) s1.heap.objs.size, ⟨⟨.none, he⟩, hit, Nat.succ_ne_self _⟩, fun b hb => I1.fpOk (fp b hb) (I1.hok.fresh (fp b hb)), q⟩
    · obtain ⟨its, rv, p', hz⟩ := I1.tuple hq
      refine PySem.wt_call_enum_tuple p' fun h' he hit hsz hk => wpAny_pyIter_enum he ?_
      have I2 : Inv X pins σ H1 { s1 with heap := h' } := I1.kept (t' := s1.toks) hk
      exact ⟨s1.heap.objs.size + 1, [s1.heap.objs.size + 1, s1.heap.objs.size], _, _, H1, rfl, I2, turn_enumT a (s1.heap.objs.size + 1) s1.heap.objs.size, ⟨⟨.none, he⟩, hit, Nat.succ_ne_self _⟩, fun b hb => I1.fpOk (fp b hb) (I1.hok.fresh (fp b hb)), q⟩
theorem enumL_length : ∀ (xs : List PV) (n : Int), (enumL n xs).length = xs.length
  | [], _ => rfl
  | _ :: xs, n => by rw [enumL, List.length_cons, enumL_length xs, List.length_cons]
theorem enumL_get : ∀ (xs : List PV) (n : Int) (i : Nat), (enumL n xs)[i]? = xs[i]?.map fun x => .tup [.int (n + (i : Int)), x]
  | [], _, _ => by simp [enumL]
  | x :: xs, n, 0 => by simp [enumL]
  | x :: xs, n, i + 1 => by
    rw [enumL, List.getElem?_cons_succ, List.getElem?_cons_succ, enumL_get xs (n + 1) i]
    have : n + 1 + (i : Int) = n + ((i + 1 : Nat) : Int) := by omega
    rw [this]
section
variable {K : KF} {g : Gh} {H : Hp}
theorem serves_E {a : Addr} {xs : List PV} {vs : List V} (hl : SqL K H a vs) (r : Reps K g H xs vs) : Serves K g H (Ite K a) (enumL 0 xs) where
  go := fun i hi => by
    rw [enumL_length] at hi
    obtain ⟨e, v, _, h2, _⟩ := r.at hi
    exact ⟨vs, v, hl, h2⟩
  stop := ⟨vs, hl, by rw [enumL_length, r.length]; exact Nat.le_refl _⟩
  yld := fun i x H' y hi => by
    rw [enumL_length] at hi
    obtain ⟨e, v, h1, h2, h3⟩ := r.at hi
    obtain ⟨T, z, rfl, hT, rfl, y⟩ := y
    have := y vs hl
    rw [h2] at this
    cases this
    exact ⟨.tup [.int (0 + (i : Int)), e], by rw [enumL_get, h1]; rfl, .inr ⟨T, _, _, hT, rfl, rfl, rfl, .cons (by rw [Int.zero_add]; exact .int _) (.cons h3 .nil)⟩⟩
theorem serves_ET {a : Addr} {xs : List PV} {vs : List V} (hl : SqT K H a vs) (r : Reps K g H xs vs) : Serves K g H (Itet K a) (enumL 0 xs) where
  go := fun i hi => by
    rw [enumL_length] at hi
    obtain ⟨e, v, _, h2, _⟩ := r.at hi
    exact ⟨vs, v, hl, h2⟩
  stop := ⟨vs, hl, by rw [enumL_length, r.length]⟩
  yld := fun i x H' y hi => by
    rw [enumL_length] at hi
    obtain ⟨e, v, h1, h2, h3⟩ := r.at hi
    obtain ⟨T, z, rfl, hT, rfl, y⟩ := y
    have := y vs hl
    rw [h2] at this
    cases this
    exact ⟨.tup [.int (0 + (i : Int)), e], by rw [enumL_get, h1]; rfl, .inr ⟨T, _, _, hT, rfl, rfl, rfl, .cons (by rw [Int.zero_add]; exact .int _) (.cons h3 .nil)⟩⟩
end
section
variable {X : Cx} {e : Expr} {fe : FE}
theorem i_enum {p pos tpos : Pos} {elts : List Expr} {kk : Nat} (hg : Gl X "enumerate") (hm : X.mg "enumerate" = none) (he : SE X e fe) : SI X (.Tuple elts kk tpos) (.Call (.Name "enumerate" p) [e] [] pos) fun c ρ h => (fe ρ h).bind fun r h => .ofOpt ((itV c r).map (enumL 0)) h :=
  ⟨rfl, fun c => PI.weak (pi_enumB hg hm (pa_cons he.e pa_nil (plain_star he.px)) (by rw [plain_star he.px]; rfl)) fun σ H R w => by
    obtain ⟨q, g, h, ρ, st, xs, h', e, k⟩ := w
    obtain ⟨r, h1, e1, e⟩ := bind_ok e
    obtain ⟨e2, rfl⟩ := ofOpt_ok e
    cases e3 : itV c r with
    | none => rw [e3] at e2; cases e2
    | some ys =>
      rw [e3] at e2
      have e4 : enumL 0 ys = xs := Option.some.inj e2
      subst e4
      refine ⟨q, g, h, ρ, st, r, _, e1, fun g1 H1 v x1 s1 r1 => ?_⟩
      obtain ⟨g2, x2, s2, m2, l2, hl⟩ := held st s1 x1 r1 e3
      obtain ⟨a, vs, rfl, hh⟩ := id hl
      have hh' : (SqL X.K H1 a vs ∧ ∀ g3 H3, Lat c g2 H1 g3 H3 → Serves X.K g3 H3 (Ite X.K a) (enumL 0 ys)) ∨ (SqT X.K H1 a vs ∧ ∀ g3 H3, Lat c g2 H1 g3 H3 → Serves X.K g3 H3 (Itet X.K a) (enumL 0 ys)) := by
        rcases hh with ⟨f, r⟩ | ⟨f, r⟩ | ⟨hc, f, n, r⟩
        · refine .inl ⟨f.sq, fun g3 H3 l => ?_⟩
          obtain ⟨m, _⟩ := l
          refine serves_E (vs := vs) (.inl ?_) (r.mono m)
          rcases f.2 with h2 | ⟨o, h2⟩
          · exact .inl (m.k _ _ f.1 h2)
          · exact .inr ⟨o, m.k _ _ f.1 h2⟩
        · refine .inr ⟨f.sq, fun g3 H3 l => ?_⟩
          obtain ⟨m, _⟩ := l
          refine serves_ET (vs := vs) (FT.sq (g := g3) ?_) (r.mono m)
          rcases f with ⟨h1, h2⟩ | h1
          · exact .inl ⟨m.f _ h1, m.k _ _ h1 h2⟩
          · exact .inr h1
        · refine .inl ⟨.inl (.inl f), fun g3 H3 l => ?_⟩
          obtain ⟨m, x⟩ := l
          exact serves_E (vs := vs) (.inl (.inl ((x hc).hk a _ f n))) (r.mono m)
      rcases hh' with ⟨h1, h2⟩ | ⟨h1, h2⟩
      · exact ⟨a, vs, rfl, .inl ⟨h1, k g2 H1 _ x2 s2 h2⟩⟩
      · exact ⟨a, vs, rfl, .inr ⟨h1, k g2 H1 _ x2 s2 h2⟩⟩⟩
end
end WT
end
section
set_option Elab.async false
set_option linter.all false
set_option maxRecDepth 100000
set_option maxHeartbeats 4000000
/-! x.index(y) of a list; x.extend(list). -/
namespace WT
open PySem PySem.Spec PyProof.Rows L2
theorem idx_spec {x : PV} : ∀ {ys : List PV} {j : Nat}, idxP x ys = some j → ∃ z, ys[j]? = some z ∧ pyEq z x = true ∧ ∀ (m : Nat) z', m < j → ys[m]? = some z' → pyEq z' x = false
  | [], _, e => by cases e
  | y :: ys, j, e => by
    rw [idxP] at e
    split at e
    · rename_i c
      cases e
      exact ⟨y, rfl, c, fun m z' hm => by omega⟩
    · rename_i c
      cases d : idxP x ys with
      | none => rw [d] at e; cases e
      | some i =>
        rw [d] at e
        cases e
        obtain ⟨z, h1, h2, h3⟩ := idx_spec d
        refine ⟨z, by simpa using h1, h2, fun m z' hm hz => ?_⟩
        cases m with
        | zero =>
          cases hz
          exact Bool.eq_false_iff.mpr c
        | succ m => exact h3 m z' (Nat.lt_of_succ_lt_succ hm) (by simpa using hz)
theorem toDs_get : ∀ (xs : List PV) (j : Nat), (toDs xs)[j]? = (xs[j]?).map toD
  | [], j => by simp [toDs]
  | x :: xs, 0 => by simp [toDs]
  | x :: xs, j + 1 => by
    rw [toDs]
    simpa using toDs_get xs j
theorem flats_mem {n : Nat} : ∀ {xs : List PV} {x : PV}, flats n xs = true → x ∈ xs → flat n x = true
  | [], _, _, h => by cases h
  | y :: xs, x, e, h => by
    obtain ⟨e1, e2⟩ := Bool.and_eq_true_iff.mp (show (flat n y && flats n xs) = true from e)
    rcases List.mem_cons.mp h with rfl | h
    · exact e1
    · exact flats_mem e2 h
section
variable {X : Cx}
theorem e_index {a b : Expr} {fa fb : FE} {apos cpos : Pos} (hu : X.A.units + 100 < cLine) (hline : (apos.endLine == cpos.line) = true) (hbase : attributeBase a "index" X.env (eval a X.env) = eval a X.env) (ha : SE X a fa) (hb : SE X b fb) :
    SE X (.Call (.Attribute a "index" apos) [b] [] cpos) fun ρ h => (fa ρ h).bind fun x h => (fb ρ h).bind fun y h => .ofOpt (opSem h .index [x, y]) h :=
  .plain (PE.weak (pe_bm PySem.F.plainAttrs_list PySem.F.slot_list_index PySem.F.type_list_index (mt_indexD (by omega)) ha.e (pa_cons hb.e pa_nil (plain_star hb.px)) hbase (by rw [plain_star hb.px]; rfl) hline (plain_star hb.px) rfl) fun σ H Q w => by
    obtain ⟨q, g, h, ρ, st, r, h', e, k⟩ := w
    obtain ⟨x, h1, e1, e⟩ := bind_ok e
    obtain ⟨y, h2, e2, e⟩ := bind_ok e
    obtain ⟨e3, rfl⟩ := ofOpt_ok e
    have e3 : idxS x y = some r := e3
    obtain ⟨xs, hx, e3⟩ : ∃ xs, (x = .v (.lst xs) ∨ ∃ b, x = .L b xs) ∧ idxSem xs y = some r := by
      unfold idxS at e3
      split at e3
      · exact ⟨_, .inl rfl, e3⟩
      · exact ⟨_, .inr ⟨_, rfl⟩, e3⟩
      · cases e3
    unfold idxSem at e3
    split at e3
    · rename_i c
      obtain ⟨c1, c2⟩ := Bool.and_eq_true_iff.mp c
      cases d : idxP y.see xs with
      | none => rw [d] at e3; cases e3
      | some j =>
        rw [d] at e3
        cases e3
        have hl : ∀ h, x.lst? h = some xs := fun h => by rcases hx with rfl | ⟨b, rfl⟩ <;> rfl
        have hs : x.see = .lst xs := by rcases hx with rfl | ⟨b, rfl⟩ <;> rfl
        refine ⟨q, g, h, ρ, st, x, h1, e1, fun g1 H1 v x1 s1 r1 => ?_⟩
        obtain ⟨p, vs, rfl, hr, rr⟩ := res_lst s1 r1 (hl h1)
        refine ⟨.inl ⟨rfl, vs, .inl hr⟩, q, g1, h1, ρ, s1, y, _, e2, fun g2 H2 u x2 s2 r2 => ?_⟩
        have r3 := r1.ext s1 x2
        have dx : Dp X.K H2 (.ref p) (toD x.see) := see_dp r3 (by rw [hs]; exact c1)
        rw [hs] at dx
        obtain ⟨z, z1, z2, z3⟩ := idx_spec d
        have fl : flats 59 xs = true := c1
        refine ⟨p, u, toD y.see, toDs xs, j, toD z, rfl, rfl, dx, see_dp r2 c2, shaped_of c1, shaped_of c2, by rw [toDs_get, z1]; rfl, ?_, ?_, k g2 H2 _ (x1.trans x2) s2 (.int _)⟩
        · rw [eqv_of 59 60 _ _ (flats_mem fl (List.mem_of_getElem? z1)) c2]
          exact z2
        · intro m z' hm hz'
          rw [toDs_get] at hz'
          cases hh : xs[m]? with
          | none => rw [hh] at hz'; cases hz'
          | some w =>
            rw [hh] at hz'
            cases hz'
            rw [eqv_of 59 60 _ _ (flats_mem fl (List.mem_of_getElem? hh)) c2]
            exact z3 m w hm hh
    · cases e3) (fun _ => rfl) fun _ _ _ e => nomatch e
/-! extend -/
def rExt : V → List V → Hp → VK → Prop := fun x vs H Q => ∃ l b xs zs, x = .ref l ∧ vs = [.ref b] ∧ H l = some (.lst xs) ∧ Rd H b (.lst zs) ∧ xs.length + zs.length ≤ sizeLine ∧ Q .non (upd H l (.lst (xs ++ zs)))
theorem mt_ext : MtM X "list.extend" rExt := by
  intro pins s σ H x vs v us Q I rx rv h
  obtain ⟨l, b, xs, zs, rfl, rfl, hH, hB, hz, q⟩ := h
  cases rx
  obtain ⟨u, rfl, ru⟩ := rv.one
  cases ru
  obtain ⟨z, its, n, r, hl, e⟩ := I.lstM hH
  obtain ⟨z2, its2, n2, r2, e2⟩ := hB.ok I.hok
  have hl2 := r2.length
  have hsz : its.toArray.size + its2.toArray.size ≤ sizeLine := by rw [List.size_toArray, List.size_toArray]; omega
  have hlong : ¬ (!its.toArray.isEmpty && Builtin.List.listTooLong (its.toArray.size + its2.toArray.size)) = true := by
    rw [notLongL hsz, Bool.and_false]
    exact Bool.false_ne_true
  refine call_meets PySem.F.slot_list_extend ⟨_, e, rfl⟩ PySem.F.entry_list_extend (PySem.F.args_list_extend_2 _ _)
    (AutoSeq1.list_extend_list_list_0 l its.toArray n b its2.toArray n2 hlong (by rw [List.size_toArray]; omega) (by omega)) ⟨e, e2, ?_⟩
  refine ⟨.non, _, I.lset (its' := its ++ its2) hH e (by simp) (r.append r2) ?_, rfl, q⟩
  rw [List.length_append]
  omega
theorem s_ext {i : Nat} {x : Str} {e : Expr} {fe : FE} {px apos cpos pos : Pos} (hN : X.N[i]? = some x) (hv : Vis X.env.scope x) (hd : (x == ("__debug__" : Str)) = false) (hcd : (x == ("__classdict__" : Str)) = false) (hline : (apos.endLine == cpos.line) = true) (he : SE X e fe) :
    PS X (.Expr (.Call (.Attribute (.Name x px) "extend" apos) [e] [] cpos) pos) (tS X.K (extS i fe)) :=
  PS.weak (ps_expr (pe_bm PySem.F.plainAttrs_list PySem.F.slot_list_extend PySem.F.type_list_extend mt_ext (pe_var hN hv hd hcd) (pa_cons he.e pa_nil (plain_star he.px)) rfl (by rw [plain_star he.px]; rfl) hline (plain_star he.px) rfl) rfl) fun D σ H ⟨q, g, h, ρ, st, fl, ρ', h', e, k⟩ => by
    obtain ⟨r, h1, e1, e⟩ := bind_ok e
    cases d : r.lst? h1 with
    | none => rw [d] at e; cases e
    | some ys =>
    rw [d] at e
    have e : putL ρ h1 i (fun xs => if xs.length + ys.length ≤ SZ then some (xs ++ ys) else none) = .ok (fl, ρ') h' := e
    have rec_ : ∃ a vs, σ[i]? = some (some (.ref a)) ∧ H a = some (.lst vs) := by
      cases c : slot ρ i with
      | none =>
        exfalso
        unfold putL at e
        rw [c] at e
        cases e
      | some s =>
        obtain ⟨w, h2, h3⟩ := st.sl i _ c
        cases s with
        | L b xs =>
          obtain ⟨a, rfl, ⟨vs, h4, _⟩, _⟩ := h3
          exact ⟨a, vs, h2, h4⟩
        | D b ks vs => exact h3.elim
        | v y =>
          cases y with
          | loc n =>
            cases h3 with
            | loc hl =>
              have hlt : n < h.length := by rw [← st.hs.len]; exact (List.getElem?_eq_some_iff.mp hl).1
              obtain ⟨o, ho⟩ : ∃ o, hget h n = some o := ⟨h[n], by rw [hget_eq]; exact List.getElem?_eq_getElem hlt⟩
              have ob := st.hs.ob n o _ ho hl
              cases o with
              | l xs => obtain ⟨vs, h4, _⟩ := ob; exact ⟨_, vs, h2, h4⟩
              | d ks vs => exact ob.elim
          | _ =>
            exfalso
            unfold putL at e
            rw [c] at e
            cases e
    obtain ⟨a0, vs0, hv0, hH0⟩ := rec_
    refine ⟨.ref a0, hv0, .inl ⟨rfl, vs0, .inl (.inl hH0)⟩, q, g, h, ρ, st, r, h1, e1, fun g1 H1 v x1 s1 r1 => ?_⟩
    obtain ⟨b, zs, rfl, hb, rz⟩ := res_lst s1 r1 d
    obtain ⟨xs, ys', a, vs, hf, hv1, hH, rr, rfl, put⟩ := put_run s1 e
    rw [hv0] at hv1
    cases hv1
    have hf' : (if xs.length + ys.length ≤ SZ then some (xs ++ ys) else none) = some ys' := hf
    split at hf'
    · rename_i hz
      cases hf'
      obtain ⟨m3, s3⟩ := put (vs ++ zs) (rr.append rz)
      exact ⟨a0, b, vs, zs, rfl, rfl, hH, hb, by rw [rr.length, rz.length, ← SZ_eq]; exact hz, k g1 _ σ ((x1.mon st.hs).trans m3) s3⟩
    · cases hf'
end
end WT
end
section
set_option Elab.async false
set_option linter.all false
set_option maxRecDepth 100000
set_option maxHeartbeats 4000000
/-! set(xs): of a list of ints, of a tuple of tuples of ints (turned from the sets of HandS.SetFor and HandS.TupSets). -/
namespace WT
open PySem PySem.Spec PyProof.Rows L2
section
variable {P : Program} {w : World} {A : Around} {E : Value → Shared → Prop} {s : Shared}
theorem set_of_listI {l : Addr} {items : Array Value} (ns : List Int) {Q : Value → Shared → Prop} (hh : A.handled = none) (hl : s.heap.IsList l items) (hit : IntsAre items.toList ns) (hb : ns.length + 1 < scanBound)
    (h : ∀ (h' : Heap) (tk c : Nat), SetR w h' s.heap.objs.size (fun j => decide (j ∈ ns)) c → c ≤ ns.length → (∀ b o, s.heap.get? b = some o → h'.get? b = some o) → Q (.ref s.heap.objs.size) { s with heap := h', toks := tk }) :
    wpAny (model P w) A (call (.type "set") [.ref l]) Q E s := by
  have hisz : items.size = ns.length := by
    have q := IntsAre.length hit
    rw [Array.length_toList] at q
    exact q
  obtain ⟨c, tl, hmro⟩ := F.called_set.mro
  have hmade := F.called_set.made
  have hsub := F.called_set.sub
  refine wpAny_call (codeAny_of_tree ?_)
  show wpAny _ _ (callAny (.type "set") _) _ _ _
  refine wpAny_pure ⟨Code.quiet_builtin _ (by decide +kernel), codeAny_builtin F.entry_type_call ?_⟩
  rw [Around.under_plain (weight_type_call_type "set" [.ref l] []) rfl]
  have h1 := F.called_set.notType
  have h2 := F.called_set.canCreate
  have hct := F.typeCall_set_1 (.ref l)
  repeat (any_goals (first | assumption | wp_step))

  refine codeAny_mono (code_set_led1 (.ref l) (E := E) (Q₁ := fun obj s₁ => obj = .ref s.heap.objs.size ∧ s₁ = { s with heap := s.heap.push { cls := .type "set", dict := none, data := .set #[] 0 (.fresh 0 0 (!w.params.followText "set-order")) } }) ⟨rfl, rfl⟩) fun r s₁ hr => ?_
  cases r with
  | error e => exact hr
  | ok fl =>
    cases fl with
    | ret obj =>
      obtain ⟨rfl, rfl⟩ := hr
      have hS : (s.heap.push { cls := .type "set", dict := none, data := .set #[] 0 (.fresh 0 0 (!w.params.followText "set-order")) }).get? s.heap.objs.size = some { cls := .type "set", dict := none, data := .set #[] 0 (.fresh 0 0 (!w.params.followText "set-order")) } := Heap.get?_push_size _ rfl
      have hT : Shared.TypeIs { s with heap := s.heap.push { cls := .type "set", dict := none, data := .set #[] 0 (.fresh 0 0 (!w.params.followText "set-order")) } } (.ref s.heap.objs.size) "set" := ⟨_, hS, rfl⟩
      have hli := F.called_set.init.lookup
      have hbi := F.called_set.init.bind (.ref s.heap.objs.size)
      repeat (any_goals (first | assumption | wp_step))

      refine codeAny_mono (codeAny_call_builtin (R := wants (fun r s₂ => r = .none ∧ ∃ h' tk c, s₂ = { s with heap := h', toks := tk } ∧ SetR w h' s.heap.objs.size (fun j => decide (j ∈ ns)) c ∧ c ≤ ns.length ∧
          (∀ b o, s.heap.get? b = some o → h'.get? b = some o)) E) F.called_set.init.plain F.entry_set_init (check_set_init_1 hT ?_)) fun r₂ s₂ hr₂ => ?_
      · obtain ⟨ol, hol, hcl, nl, hdl⟩ := hl
        obtain ⟨ocls, odict, odata, oslots⟩ := ol
        simp only at hcl hdl
        subst hcl; subst hdl
        have hol' : (s.heap.push { cls := .type "set", dict := none, data := .set #[] 0 (.fresh 0 0 (!w.params.followText "set-order")) }).get? l = some { cls := .type "list", dict := odict, data := .seq items nl, slots := oslots } := Heap.get?_push_of_some _ hol
        have hsls := F.sub_list_set
        have hslf := F.sub_list_frozenset
        have hne : (Value.type "list" == Value.type "dict") = false := by decide
        have hl1 : (s.heap.push { cls := .type "set", dict := none, data := .set #[] 0 (.fresh 0 0 (!w.params.followText "set-order")) }).IsList l items := ⟨_, hol', rfl, nl, rfl⟩
        unfold Builtin.«set.__init__» noKeywords Builtin.Frozenset.updateFrom
        generalize hPI : pyIter = PI
        wp_walk
        subst hPI

        refine wpAny_pyIter_list hl1 ?_
        refine wpAny_bind (wpAny_runValue ?_)
        have hlS : l < s.heap.objs.size := Heap.lt_size hol
        have hh3 : A.in1.in1.in1.handled = none := by simp [hh]
        have hz1 : (s.heap.push { cls := .type "set", dict := none, data := .set #[] 0 (.fresh 0 0 (!w.params.followText "set-order")) }).objs.size = s.heap.objs.size + 1 := Heap.size_push ..
        have hneI : l ≠ (s.heap.push { cls := .type "set", dict := none, data := .set #[] 0 (.fresh 0 0 (!w.params.followText "set-order")) }).objs.size := by
          rw [Heap.size_push]; exact Nat.ne_of_lt (Nat.lt_succ_of_lt hlS)
        have hSf : s.heap.objs.size ∉ [(s.heap.push { cls := .type "set", dict := none, data := .set #[] 0 (.fresh 0 0 (!w.params.followText "set-order")) }).objs.size, l] := by
          rw [Heap.size_push]; simp only [List.mem_cons, List.mem_singleton, List.not_mem_nil, or_false, not_or]
          exact ⟨Nat.ne_of_lt (Nat.lt_succ_self _), Nat.ne_of_gt hlS⟩
        have hval : ∀ (i : Nat) (v : Value), items[i]? = some v → ∃ k t, ns[i]? = some k ∧ v = .int k t := fun i v hv => by
          have hi : i < ns.length := by rw [← hisz]; exact (Array.getElem?_eq_some_iff.mp hv).1
          obtain ⟨t, e⟩ := PyProof.Rows.IntsAre.int_at hit i v (by rw [Array.getElem?_toList]; exact hv)
          refine ⟨ns[i], t, List.getElem?_eq_getElem hi, ?_⟩
          rw [e, List.getD_eq_getElem?_getD, List.getElem?_eq_getElem hi] <;> rfl
        refine set_update_ints ((Walks.list hh3 _ l hneI items).toS) s.heap.objs.size
          hSf ns hisz hb hval (items.size - 0) 0 _ (by omega) (Nat.zero_le _)
          ⟨⟨_, Heap.get?_push_size _ rfl, rfl, rfl⟩, (hl1.push _)⟩ ?hS0 ?hR
        case hS0 =>
          have hget : ((s.heap.push { cls := .type "set", dict := none, data := .set #[] 0 (.fresh 0 0 (!w.params.followText "set-order")) }).push { cls := .type "list_iterator", data := .fields #[.ref l, .int 0 0] }).get? s.heap.objs.size
              = some { cls := .type "set", dict := none, data := .set #[] 0 (.fresh 0 0 (!w.params.followText "set-order")) } := Heap.get?_push_of_some _ hS
          exact ⟨0, Nat.le_refl 0, setR_new_at hget⟩
        case hR =>
          intro s' c' hm hc' hS'
          obtain ⟨h', g2, d', tk', os'⟩ := s'
          have eg : g2 = s.gens := hm.gens
          have ed : d' = s.drawn := hm.drawn
          have eo : os' = s.os := hm.os
          subst eg; subst ed; subst eo
          show wpAny _ _ _ _ _ _
          refine wpAny_pure ?_
          show wpAny _ _ (ret Value.none) _ _ _
          rw [hisz] at hc'
          refine wpAny_pure ⟨rfl, h', tk', c', rfl, hS', hc', fun b o e => ?_⟩
          have hb0 : b < s.heap.objs.size := Heap.lt_size e
          have hb1 : b ≠ s.heap.objs.size := Nat.ne_of_lt hb0
          have hb2 : b ≠ (s.heap.push { cls := .type "set", dict := none, data := .set #[] 0 (.fresh 0 0 (!w.params.followText "set-order")) }).objs.size := by
            rw [Heap.size_push]; exact Nat.ne_of_lt (Nat.lt_succ_of_lt hb0)
          exact hm.heap b o (by simp only [List.mem_cons, List.mem_singleton, List.not_mem_nil, or_false, not_or]; exact ⟨hb1, hb2⟩) (Heap.get?_push_of_some _ (Heap.get?_push_of_some _ e))

      · cases r₂ with
        | error e => exact hr₂
        | ok fl₂ =>
          cases fl₂ with
          | ret r =>
            obtain ⟨rfl, h', tk, c', rfl, hS', hc', hk'⟩ := hr₂
            repeat (any_goals (first | assumption | wp_step))
            exact h _ _ _ hS' hc' hk'
          | _ => exact hr₂.elim
    | _ => exact hr.elim

theorem set_of_tupT {l : Addr} {items : Array Value} (ks : List (Addr × List Int)) {Q : Value → Shared → Prop} (hh : A.handled = none) (hl : s.heap.IsTuple l items) (hit : items.toList = ks.map fun p => Value.ref p.1)
    (hk : ∀ p ∈ ks, IsT P w s.heap p.2 p.1) (hfew : ks.length < 64) (hu : A.units + 3 < cLine)
    (h : ∀ (h' : Heap) (tk : Nat) L es ep t, SetTR P w h' s.heap.objs.size L es ep t → Got ks ks.length L → (∀ b o, s.heap.get? b = some o → h'.get? b = some o) → Q (.ref s.heap.objs.size) { s with heap := h', toks := tk }) :
    wpAny (model P w) A (call (.type "set") [.ref l]) Q E s := by
  have hisz : items.size = ks.length := by
    have q := congrArg List.length hit
    rw [Array.length_toList, List.length_map] at q
    exact q
  obtain ⟨c, tl, hmro⟩ := F.called_set.mro
  have hmade := F.called_set.made
  have hsub := F.called_set.sub
  refine wpAny_call (codeAny_of_tree ?_)
  show wpAny _ _ (callAny (.type "set") _) _ _ _
  refine wpAny_pure ⟨Code.quiet_builtin _ (by decide +kernel), codeAny_builtin F.entry_type_call ?_⟩
  rw [Around.under_plain (weight_type_call_type "set" [.ref l] []) rfl]
  have h1 := F.called_set.notType
  have h2 := F.called_set.canCreate
  have hct := F.typeCall_set_1 (.ref l)
  repeat (any_goals (first | assumption | wp_step))

  refine codeAny_mono (code_set_led1 (.ref l) (E := E) (Q₁ := fun obj s₁ => obj = .ref s.heap.objs.size ∧ s₁ = { s with heap := s.heap.push { cls := .type "set", dict := none, data := .set #[] 0 (.fresh 0 0 (!w.params.followText "set-order")) } }) ⟨rfl, rfl⟩) fun r s₁ hr => ?_
  cases r with
  | error e => exact hr
  | ok fl =>
    cases fl with
    | ret obj =>
      obtain ⟨rfl, rfl⟩ := hr
      have hS : (s.heap.push { cls := .type "set", dict := none, data := .set #[] 0 (.fresh 0 0 (!w.params.followText "set-order")) }).get? s.heap.objs.size = some { cls := .type "set", dict := none, data := .set #[] 0 (.fresh 0 0 (!w.params.followText "set-order")) } := Heap.get?_push_size _ rfl
      have hT : Shared.TypeIs { s with heap := s.heap.push { cls := .type "set", dict := none, data := .set #[] 0 (.fresh 0 0 (!w.params.followText "set-order")) } } (.ref s.heap.objs.size) "set" := ⟨_, hS, rfl⟩
      have hli := F.called_set.init.lookup
      have hbi := F.called_set.init.bind (.ref s.heap.objs.size)
      repeat (any_goals (first | assumption | wp_step))

      refine codeAny_mono (codeAny_call_builtin (R := wants (fun r s₂ => r = .none ∧ ∃ h' tk L es ep t, s₂ = { s with heap := h', toks := tk } ∧ SetTR P w h' s.heap.objs.size L es ep t ∧ Got ks ks.length L ∧
          (∀ b o, s.heap.get? b = some o → h'.get? b = some o)) E) F.called_set.init.plain F.entry_set_init (check_set_init_1 hT ?_)) fun r₂ s₂ hr₂ => ?_
      · obtain ⟨ol, hol, hcl, nl, hdl⟩ := hl
        obtain ⟨ocls, odict, odata, oslots⟩ := ol
        simp only at hcl hdl
        subst hcl; subst hdl
        have hol' : (s.heap.push { cls := .type "set", dict := none, data := .set #[] 0 (.fresh 0 0 (!w.params.followText "set-order")) }).get? l = some { cls := .type "tuple", dict := odict, data := .seq items nl, slots := oslots } := Heap.get?_push_of_some _ hol
        have hsls := F.sub_tuple_set
        have hslf := F.sub_tuple_frozenset
        have hne : (Value.type "tuple" == Value.type "dict") = false := by decide
        have hl1 : (s.heap.push { cls := .type "set", dict := none, data := .set #[] 0 (.fresh 0 0 (!w.params.followText "set-order")) }).IsTuple l items := ⟨_, hol', rfl, nl, rfl⟩
        unfold Builtin.«set.__init__» noKeywords Builtin.Frozenset.updateFrom
        generalize hPI : pyIter = PI
        wp_walk
        subst hPI

        refine wpAny_pyIter_tuple hl1 ?_
        refine wpAny_bind (wpAny_runValue ?_)
        have hlS : l < s.heap.objs.size := Heap.lt_size hol
        have hh3 : A.in1.in1.in1.handled = none := by simp [hh]
        have hz1 : (s.heap.push { cls := .type "set", dict := none, data := .set #[] 0 (.fresh 0 0 (!w.params.followText "set-order")) }).objs.size = s.heap.objs.size + 1 := Heap.size_push ..
        have hneI : l ≠ (s.heap.push { cls := .type "set", dict := none, data := .set #[] 0 (.fresh 0 0 (!w.params.followText "set-order")) }).objs.size := by
          rw [Heap.size_push]; exact Nat.ne_of_lt (Nat.lt_succ_of_lt hlS)
        have hSf : s.heap.objs.size ∉ [(s.heap.push { cls := .type "set", dict := none, data := .set #[] 0 (.fresh 0 0 (!w.params.followText "set-order")) }).objs.size, l] := by
          rw [Heap.size_push]; simp only [List.mem_cons, List.mem_singleton, List.not_mem_nil, or_false, not_or]
          exact ⟨Nat.ne_of_lt (Nat.lt_succ_self _), Nat.ne_of_gt hlS⟩
        have hval : ∀ (i : Nat) (v : Value), items[i]? = some v → ∃ p, ks[i]? = some p ∧ v = .ref p.1 := fun i v hv => by
          have q : items.toList[i]? = some v := by rw [Array.getElem?_toList]; exact hv
          rw [hit, List.getElem?_map] at q
          cases hq : ks[i]? with
          | none => rw [hq] at q; cases q
          | some p =>
            rw [hq] at q
            exact ⟨p, rfl, (Option.some.inj q).symm⟩
        have none_of : ∀ b, s.heap.objs.size ≤ b → s.heap.get? b = none := fun b hb => by
          cases q : s.heap.get? b with
          | none => rfl
          | some o => exact absurd (Nat.lt_of_lt_of_le (Heap.lt_size q) hb) (Nat.lt_irrefl _)
        refine set_update_tups ((Walks.tuple hh3 _ l hneI items).toS) s.heap.objs.size
          hSf ks hisz hfew hval s.heap hk (none_of _ (Nat.le_refl _)) (fun b hb => none_of b (by
            rw [List.mem_singleton.mp hb, Heap.size_push]
            exact Nat.le_succ _)) hu (items.size - 0) 0 _ (by omega) (Nat.zero_le _)
          ⟨⟨_, Heap.get?_push_size _ rfl, rfl, rfl⟩, (hl1.push _)⟩ (fun b o e => Heap.get?_push_of_some _ (Heap.get?_push_of_some _ e)) ?hS0 ?hR
        case hS0 =>
          have hget : ((s.heap.push { cls := .type "set", dict := none, data := .set #[] 0 (.fresh 0 0 (!w.params.followText "set-order")) }).push { cls := .type "tuple_iterator", data := .fields #[.ref l, .int 0 0] }).get? s.heap.objs.size
              = some { cls := .type "set", dict := none, data := .set #[] 0 (.fresh 0 0 (!w.params.followText "set-order")) } := Heap.get?_push_of_some _ hS
          exact ⟨[], #[], 0, _, setTR_fresh hget, Got.zero ks⟩
        case hR =>
          intro s' L es ep t hm hS' g' hkp
          obtain ⟨h', g2, d', tk', os'⟩ := s'
          have eg : g2 = s.gens := hm.gens
          have ed : d' = s.drawn := hm.drawn
          have eo : os' = s.os := hm.os
          subst eg; subst ed; subst eo
          show wpAny _ _ _ _ _ _
          refine wpAny_pure ?_
          show wpAny _ _ (ret Value.none) _ _ _
          rw [hisz] at g'
          exact wpAny_pure ⟨rfl, h', tk', L, es, ep, t, rfl, hS', g', hkp⟩

      · cases r₂ with
        | error e => exact hr₂
        | ok fl₂ =>
          cases fl₂ with
          | ret r =>
            obtain ⟨rfl, h', tk, L, es, ep, t, rfl, hS', g', hk'⟩ := hr₂
            repeat (any_goals (first | assumption | wp_step))
            exact h _ _ _ _ _ _ hS' g' hk'
          | _ => exact hr₂.elim
    | _ => exact hr.elim

end
end WT
end
section
set_option Elab.async false
set_option linter.all false
set_option maxRecDepth 100000
set_option maxHeartbeats 4000000
/-! sorted(set(xs)): ints, tuples of ints; of a list or a tuple. -/
namespace WT
open PySem PySem.Spec PyProof.Rows L2
theorem dd_mem {α : Type} [BEq α] [LawfulBEq α] : ∀ (l acc : List α) (x : α), x ∈ l.foldl (fun acc x => if acc.any (· == x) then acc else acc ++ [x]) acc ↔ x ∈ acc ∨ x ∈ l
  | [], acc, x => by simp
  | y :: l, acc, x => by
    rw [List.foldl_cons, dd_mem l]
    by_cases c : acc.any (· == y) = true
    · rw [if_pos c]
      have hy : y ∈ acc := by
        obtain ⟨z, hz, e⟩ := List.any_eq_true.mp c
        have e := eq_of_beq e
        rw [← e]; exact hz
      rw [List.mem_cons]
      constructor
      · rintro (h | h)
        · exact .inl h
        · exact .inr (.inr h)
      · rintro (h | rfl | h)
        · exact .inl h
        · exact .inl hy
        · exact .inr h
    · rw [if_neg c]
      simp [or_assoc]
theorem dd_nodup {α : Type} [BEq α] [LawfulBEq α] : ∀ (l acc : List α), acc.Nodup → (l.foldl (fun acc x => if acc.any (· == x) then acc else acc ++ [x]) acc).Nodup
  | [], acc, h => h
  | y :: l, acc, h => by
    rw [List.foldl_cons]
    refine dd_nodup l _ ?_
    by_cases c : acc.any (· == y) = true
    · rw [if_pos c]; exact h
    · rw [if_neg c]
      refine List.nodup_append.mpr ⟨h, by simp, ?_⟩
      intro a ha b hb
      rw [List.mem_singleton.mp hb]
      rintro rfl
      exact c (List.any_eq_true.mpr ⟨_, ha, by simp⟩)
theorem dedupI_mem (ns : List Int) (x : Int) : x ∈ dedupI ns ↔ x ∈ ns := by
  unfold dedupI
  rw [dd_mem]
  simp
theorem dedupI_nodup (ns : List Int) : (dedupI ns).Nodup := dd_nodup ns [] (by simp)
theorem dedupL_mem (ns : List (List Int)) (x : List Int) : x ∈ dedupL ns ↔ x ∈ ns := by
  unfold dedupL
  rw [dd_mem]
  simp
theorem dedupL_nodup (ns : List (List Int)) : (dedupL ns).Nodup := dd_nodup ns [] (by simp)
theorem lexL_anti : ∀ a b : List Int, lexL a b = false → lexL b a = false → a = b
  | [], [], _, _ => rfl
  | [], _ :: _, h, _ => by cases h
  | _ :: _, [], _, h => by cases h
  | x :: xs, y :: ys, h1, h2 => by
    unfold lexL at h1 h2
    by_cases e : x = y
    · rw [if_pos e] at h1
      rw [if_pos e.symm] at h2
      rw [e, lexL_anti xs ys h1 h2]
    · rw [if_neg e, decide_eq_false_iff_not] at h1
      rw [if_neg (Ne.symm e), decide_eq_false_iff_not] at h2
      omega
theorem lexs_same : ∀ {l m : List (List Int)}, l.Perm m → SrtO.Srtd (ltK fun ns : List Int => ns) l → SrtO.Srtd (ltK fun ns : List Int => ns) m → l = m
  | [], m, p, _, _ => (List.nil_perm.mp p).symm
  | x :: l, [], p, _, _ => absurd p.length_eq (by simp)
  | x :: l, y :: m, p, h1, h2 => by
    have a := List.pairwise_cons.mp h1
    have b := List.pairwise_cons.mp h2
    have e : x = y := by
      have m1 : x ∈ y :: m := p.mem_iff.mp List.mem_cons_self
      have m2 : y ∈ x :: l := p.mem_iff.mpr List.mem_cons_self
      rcases List.mem_cons.mp m1 with h | h
      · exact h
      · rcases List.mem_cons.mp m2 with h' | h'
        · exact h'.symm
        · exact lexL_anti _ _ (b.1 x h) (a.1 y h')
    subst e
    rw [lexs_same p.cons_inv a.2 b.2]
/-- a strictly rising list of ints is known by its members -/
theorem isort_dedup {ns ms : List Int} (hs : ms.Pairwise (· < ·)) (hm : ∀ k, k ∈ ms ↔ k ∈ ns) : ms = isort (dedupI ns) := by
  have hnd : ms.Nodup := hs.imp fun {a b} h => by omega
  refine sorted_same ?_ (hs.imp fun {a b} h => by omega) (isort_sorted _)
  refine ((List.perm_ext_iff_of_nodup hnd (dedupI_nodup ns)).mpr fun k => ?_).trans (isort_perm _).symm
  rw [hm, dedupI_mem]
theorem isortK_dedup {ks ms : List (List Int)} (hs : SrtO.Srtd (ltK fun ns : List Int => ns) ms) (hnd : ms.Nodup) (hm : ∀ k, k ∈ ms ↔ k ∈ ks) : ms = isortK (fun ns => ns) (dedupL ks) := by
  obtain ⟨i1, i2⟩ := isortK_ok (fun ns : List Int => ns) (dedupL ks)
  refine lexs_same ?_ hs i1
  refine ((List.perm_ext_iff_of_nodup hnd (dedupL_nodup ks)).mpr fun k => ?_).trans i2.perm.symm
  rw [hm, dedupL_mem]
section
variable {P : Program} {w : World} {A : Around} {E : Value → Shared → Prop} {s : Shared}
theorem isT_tup {h : Heap} {k : List Int} {b : Addr} (x : IsT P w h k b) : IsTup h (.ref b) k := by
  obtain ⟨o, items, n, ho, hc, hd, hi⟩ := x
  exact ⟨b, o, items, n, rfl, ho, hc, hd, vals_of_ints (ints_of_items hi)⟩
/-- sorted(set of tuples of ints), of any lengths -/
theorem sorted_setG {a : Addr} {L : List (Addr × List Int)} {es : Array (Int × Value)} {ep : Nat} {t : SetTable} {Q : Value → Shared → Prop} (R : SetTR P w s.heap a L es ep t) (hh : A.handled = none) (hu : A.units + 64 < cLine)
    (hQ : ∀ s' p (out : List Value) (c : Nat) (L' : List (Addr × List Int)), (∀ b o, s.heap.get? b = some o → s'.heap.get? b = some o) → s'.gens = s.gens → s'.os = s.os → s.heap.objs.size ≤ p →
      s'.heap.get? p = some (seqObj "list" out.toArray c) → out = L'.map (fun q => Value.ref q.1) → L'.Perm L → SrtO.Srtd (ltK fun q : Addr × List Int => q.2) L' → Q (.ref p) s') :
    wpAny (model P w) A (call (.builtin "sorted") [.ref a]) Q E s := by
  obtain ⟨o, ho, hex, hd⟩ := R.ob
  have hsz := R.size
  have hfew := R.few
  refine Calls.call_function_entry kind_sorted plain_sorted entry_sorted (args_sorted1 _) ?_
  unfold Builtin.«sorted»
  refine wpAny_bind (m := checkCount "sorted" 1 1 _) (wpAny_pure ?_)
  refine wpAny_bind (collect_set (A := A.in1) hh ⟨o, ho, hex.1, hd⟩ R.fits (by unfold scanBound; omega) R.tab.ris R.led fun s1 vs k1 hz g1 o1 pm => ?_)
  have hes : es.toList.map (·.2) = L.map fun q => Value.ref q.1 := by
    rw [R.rows]
    unfold rowsOf
    rw [List.map_map] <;> rfl
  rw [hes] at pm
  have hvl : vs.length < 64 := by rw [pm.length_eq, List.length_map]; exact hfew
  have hvz : vs.length ≤ sizeLine := by rw [sizeLine_eq]; omega
  -- the addresses of the rows, in some order
  have ord : ∀ vs : List Value, (∀ v ∈ vs, ∃ q ∈ L, v = Value.ref q.1) → ∃ L1 : List (Addr × List Int), vs = L1.map (fun q => Value.ref q.1) ∧ ∀ q ∈ L1, q ∈ L := by
    intro vs
    induction vs with
    | nil => intro _; exact ⟨[], rfl, fun q hq => (by cases hq)⟩
    | cons v vs ih =>
      intro hv
      obtain ⟨q, hq, e⟩ := hv v List.mem_cons_self
      obtain ⟨L1, e1, hs⟩ := ih fun u hu => hv u (List.mem_cons_of_mem _ hu)
      refine ⟨q :: L1, by rw [List.map_cons, e, e1], fun r hr => ?_⟩
      rcases List.mem_cons.mp hr with z | z
      · rw [z]; exact hq
      · exact hs r z
  have one : ∀ q ∈ L, ∀ r ∈ L, q.1 = r.1 → q = r := fun q hq r hr e => by
    have a1 := R.tup q hq
    have a2 := R.tup r hr
    rw [e] at a1
    have e2 : q.2 = r.2 := a1.inj a2
    exact Prod.ext e e2
  have nL : L.Nodup := nodup_of_map R.nd
  have nref : (L.map fun q => Value.ref q.1).Nodup := by
    refine List.pairwise_map.mpr (List.Pairwise.imp_of_mem (fun {q r} hq hr hne e => ?_) nL)
    injection e with e
    exact hne (one q hq r hr e)
  have perm_of : ∀ L1 : List (Addr × List Int), (∀ q ∈ L1, q ∈ L) → (L1.map (fun q => Value.ref q.1)).Perm (L.map fun q => Value.ref q.1) → L1.Perm L := by
    intro L1 hs pm1
    have n1 : L1.Nodup := nodup_of_map (pm1.nodup_iff.mpr nref)
    refine (List.perm_ext_iff_of_nodup n1 nL).mpr fun q => ⟨hs q, fun hq => ?_⟩
    have hm : Value.ref q.1 ∈ L1.map (fun q => Value.ref q.1) := pm1.mem_iff.mpr (List.mem_map.mpr ⟨q, hq, rfl⟩)
    obtain ⟨r, hr, e⟩ := List.mem_map.mp hm
    injection e with e
    rw [← one r (hs r hr) q hq e]
    exact hr
  have tkey : ∀ (h' : Heap), (∀ b o, s.heap.get? b = some o → h'.get? b = some o) → ∀ q ∈ L, IsTup h' (.ref q.1) q.2 := fun h' kp q hq => isT_tup (P := P) (w := w) (isT_keep (R.tup q hq) fun b u e => kp b u e)
  have hkof : ∀ q ∈ L, kOf s.heap (.ref q.1) = q.2 := fun q hq => (tkey s.heap (fun _ _ e => e) q hq).kOf
  have hk2 : ∀ u ∈ vs, IsTup s.heap u (kOf s.heap u) := fun u hu => by
    obtain ⟨q, hq, e⟩ := List.mem_map.mp (pm.mem_iff.mp hu)
    rw [← e, hkof q hq]
    exact tkey s.heap (fun _ _ e => e) q hq
  refine wpAny_bind (wpAny_newList ?_ hvz)
  have hnew : (s1.heap.push (seqObj "list" vs.toArray 0)).get? s1.heap.objs.size = some (seqObj "list" vs.toArray 0) := Heap.get?_push_size _ rfl
  refine wpAny_bind (wpAny_holding (wpAny_call_entry slot_list_sort ⟨_, hnew, rfl⟩ entry_list_sort (SrtO.list_sort_ord (swoK (kOf s.heap)) hnew hvz (fun h2 => tups_sortable (by show A.units + 2 < cLine; omega) (by omega) (fun v hv => (hk2 v hv).keeps fun b ob e _ => Heap.get?_push_of_some _ (k1 b ob e)) fun o e => ?_) ?_) (args_list_sort _)))
  · have e' : some o = some (seqObj "list" vs.toArray 0) := e.symm.trans hnew
    cases e'
    intro c
    exact absurd (Value.type.inj c) (by decide)
  intro out hs hb
  obtain ⟨c, hc⟩ := sortedHeap_at (vs := vs) (out := out.toArray) hnew
  obtain ⟨L', e', hs'⟩ := ord out fun v hv => by
    obtain ⟨q, hq, e⟩ := List.mem_map.mp (pm.mem_iff.mp (hb.perm.mem_iff.mp hv))
    exact ⟨q, hq, e.symm⟩
  have pL : L'.Perm L := perm_of L' hs' (by rw [← e']; exact hb.perm.trans pm)
  have pw : SrtO.Srtd (ltK fun q : Addr × List Int => q.2) L' := by
    rw [e'] at hs
    refine List.Pairwise.imp_of_mem (fun {q r} hq hr hle => ?_) (List.pairwise_map.mp hs)
    have f : ltK (kOf s.heap) (Value.ref r.1) (Value.ref q.1) = false := hle
    unfold ltK at f ⊢
    rw [hkof r (hs' r hr), hkof q (hs' q hq)] at f
    exact f
  refine ⟨_, rfl, wpAny_pure ⟨_, rfl, hQ _ s1.heap.objs.size out c L' (fun b u e => ?_) g1 o1 hz hc e' pL pw⟩⟩
  have q := k1 b u e
  have hlt := Heap.lt_size q
  show (sortedHeap (s1.heap.push (seqObj "list" vs.toArray 0)) s1.heap.objs.size vs out.toArray).get? b = some u
  rw [sortedHeap_old (Nat.ne_of_lt hlt) (by rw [size_push']; exact Nat.lt_succ_of_lt hlt)]
  exact Heap.get?_push_of_some _ q
end
section
variable {X : Cx}
/-- set(xs) asked for: what it leaves -/
def tSortSet (K : PySem.W.Frag) (ta : TE) : TE := fun σ H Q => ta σ H fun x H1 => ∃ (l : Addr), x = V.ref l ∧
  ((∃ ns : List Int, (SqL K H1 l (ns.map V.int) ∨ SqT K H1 l (ns.map V.int)) ∧ ns.length < 64 ∧ ∀ p, H1 p = none → Q (.ref p) (upd H1 p (.lst ((isort (dedupI ns)).map V.int)))) ∨
   (∃ ks : List (Addr × List Int), (SqL K H1 l (ks.map fun p => V.ref p.1) ∨ SqT K H1 l (ks.map fun p => V.ref p.1)) ∧ (∀ p ∈ ks, SqT K H1 p.1 (p.2.map V.int)) ∧ ks.length < 64 ∧
     ∀ (L' : List (Addr × List Int)) (p : Addr), (∀ q ∈ L', q ∈ ks) → L'.map (·.2) = isortK (fun ns => ns) (dedupL (ks.map (·.2))) → L'.length < 64 → H1 p = none → Q (.ref p) (upd H1 p (.lst (L'.map fun q => V.ref q.1)))))
theorem eqS {s s' : Shared} (h : s'.os = s.os) : s' = { s with heap := s'.heap, gens := s'.gens, drawn := s'.drawn, toks := s'.toks } := by
  cases s'
  cases s
  cases h
  rfl
theorem pe_sortSet {e : Expr} {te : TE} {p1 p2 p3 p4 : Pos} (calm : X.calm = true) (hu : X.A.units + 64 < cLine) (hl : Gl X "sorted") (ml : X.mg "sorted" = none) (hs : Gl X "set") (ms : X.mg "set" = none) (he : PE X e te)
    (na : starEach [e] X.env = (false, eval e X.env) :: starEach [] X.env) : PE X (.Call (.Name "sorted" p1) [.Call (.Name "set" p2) [e] [] p3] [] p4) (tSortSet X.K te) := by
  constructor
  intro pins s σ H Q I w
  refine Call_ (ld_blt I hl ml boot_sorted ?_)
  refine PyProof.Rows.callWith_builtin1 (args_cons ?_ rfl) rfl rfl
  refine Call_ (ld_blt I hs ms boot_set ?_)
  refine PyProof.Rows.callWith_type1 (args_cons (thn (he.run pins s σ H _ I w) ?_) na) na rfl
  rintro v s1 ⟨x, H1, I1, r1, l, rfl, q1⟩
  apply args_nil
  cases r1
  have hd := I1.ok.hd calm
  rcases q1 with ⟨ns, hq, h64, q1⟩ | ⟨ks, hq, hk, h64, q1⟩
  · -- ints
    have key : ∀ (h' : Heap) (tk c : Nat), SetR X.w h' s1.heap.objs.size (fun j => decide (j ∈ ns)) c → c ≤ ns.length → (∀ b o, s1.heap.get? b = some o → h'.get? b = some o) →
        wpAny (model X.prog X.w) X.A (call (.builtin "sorted") [.ref s1.heap.objs.size]) (EP X pins σ Q) X.xe { s1 with heap := h', toks := tk } := fun h' tk c R hc kp => by
      have I2 : Inv X pins σ H1 { s1 with heap := h', toks := tk } := I1.kept kp
      refine sorted_set R hd (by omega) fun s' p out c2 ms k g o hp hg hi hsl hm hlen => ?_
      have em : ms = isort (dedupI ns) := isort_dedup hsl fun j => by rw [hm, decide_eq_true_eq]
      subst em
      have hlen2 : ((isort (dedupI ns)).map V.int).length ≤ sizeLine := by rw [List.length_map, hlen, sizeLine_eq]; omega
      have hn : H1 p = none := I2.hok.fresh hp
      have J : Inv X pins σ (upd H1 p (.lst ((isort (dedupI ns)).map V.int))) { { s1 with heap := h', toks := tk } with heap := s'.heap, gens := s'.gens, drawn := s'.drawn, toks := s'.toks } :=
        I2.call (ch := []) (Un.laid k hp hn) (I2.hok.laid k hp ⟨hlen2, out.toList, c2, vals_of_ints hi, hg⟩) (by rw [g]; exact I2.bare) (fun _ z => nomatch z)
      rw [eqS o]
      exact ⟨.ref p, _, J, rfl, q1 p hn⟩
    rcases hq with hq | hq
    · obtain ⟨its, rr, pl, hz⟩ := I1.list hq
      refine set_of_listI ns hd pl.isList (by simpa using rr.ints) (by unfold scanBound; omega) fun h' tk c R hc kp => ?_
      exact args_nil (key h' tk c R hc kp)
    · obtain ⟨its, rr, pl, hz⟩ := I1.tuple hq
      refine call_set_tupI ns hd pl (by simpa using rr.ints) (by unfold scanBound; omega) fun h' tk c R hc kp => ?_
      exact args_nil (key h' tk c R hc kp)
  · -- tuples
    have key : ∀ (h' : Heap) (tk : Nat) L es ep t, SetTR X.prog X.w h' s1.heap.objs.size L es ep t → Got ks ks.length L → (∀ b o, s1.heap.get? b = some o → h'.get? b = some o) →
        wpAny (model X.prog X.w) X.A (call (.builtin "sorted") [.ref s1.heap.objs.size]) (EP X pins σ Q) X.xe { s1 with heap := h', toks := tk } := fun h' tk L es ep t R g kp => by
      have I2 : Inv X pins σ H1 { s1 with heap := h', toks := tk } := I1.kept kp
      refine sorted_setG R hd hu fun s' p out c2 L' k g2 o hp hg hout pm pw => ?_
      have hfew : L'.length < 64 := by rw [pm.length_eq]; exact R.few
      have hlen2 : (L'.map fun q => V.ref q.1).length ≤ sizeLine := by rw [List.length_map, sizeLine_eq]; omega
      have hn : H1 p = none := I2.hok.fresh hp
      have hv : Vals (L'.map fun q => V.ref q.1) out := by rw [hout]; exact vals_of_refs L'
      have J : Inv X pins σ (upd H1 p (.lst (L'.map fun q => V.ref q.1))) { { s1 with heap := h', toks := tk } with heap := s'.heap, gens := s'.gens, drawn := s'.drawn, toks := s'.toks } :=
        I2.call (ch := []) (Un.laid k hp hn) (I2.hok.laid k hp ⟨hlen2, out, c2, hv, hg⟩) (by rw [g2]; exact I2.bare) (fun _ z => nomatch z)
      rw [eqS o]
      refine ⟨.ref p, _, J, rfl, q1 L' p (fun q hq => List.mem_of_mem_take (g.sub q (pm.mem_iff.mp hq))) ?_ hfew hn⟩
      refine isortK_dedup (List.pairwise_map.mpr pw) ((pm.map (·.2)).nodup_iff.mpr R.nd) fun j => ?_
      constructor
      · intro h
        obtain ⟨q, hq, e⟩ := List.mem_map.mp h
        exact List.mem_map.mpr ⟨q, List.mem_of_mem_take (g.sub q (pm.mem_iff.mp hq)), e⟩
      · intro h
        obtain ⟨q, hq, e⟩ := List.mem_map.mp h
        have h2 := g.all q (by rw [List.take_length]; exact hq)
        rw [e] at h2
        obtain ⟨r, hr, e2⟩ := List.mem_map.mp h2
        exact List.mem_map.mpr ⟨r, pm.mem_iff.mpr hr, e2⟩
    rcases hq with hq | hq
    · obtain ⟨its, rr, pl, hz⟩ := I1.list hq
      refine call_set_tups (P := X.prog) (w := X.w) ks hd pl.isList (by simpa using refs_of_vals rr) (fun p hp => I1.isT (hk p hp)) h64 (by omega) fun h' tk L es ep t R g kp => ?_
      exact args_nil (key h' tk L es ep t R g kp)
    · obtain ⟨its, rr, pl, hz⟩ := I1.tuple hq
      refine set_of_tupT (P := X.prog) (w := X.w) ks hd pl (by simpa using refs_of_vals rr) (fun p hp => I1.isT (hk p hp)) h64 (by omega) fun h' tk L es ep t R g kp => ?_
      exact args_nil (key h' tk L es ep t R g kp)
theorem pInts_eq : ∀ {xs : List PV} {ns : List Int}, pInts xs = some ns → xs = ns.map .int
  | [], ns, h => by
    cases h
    rfl
  | x :: xs, ns, h => by
    unfold pInts at h
    cases x with
    | int n =>
      simp only at h
      cases c : pInts xs with
      | none => rw [c] at h; cases h
      | some ms =>
        rw [c] at h
        cases h
        rw [pInts_eq c]
        rfl
    | _ => cases h
theorem reps_keys {K : KF} {g : Gh} {H : Hp} : ∀ {ys : List PV} {vs : List V}, Reps K g H ys vs → ys.all okT = true → ∃ ks : List (Addr × List Int), vs = ks.map (fun p => V.ref p.1) ∧ ys.map keyT = ks.map (·.2) ∧ (∀ p ∈ ks, SqT K H p.1 (p.2.map V.int)) ∧ ∀ p ∈ ks, Rep K g H (.tup (p.2.map .int)) (V.ref p.1)
  | _, _, .nil, _ => ⟨[], rfl, rfl, by simp, by simp⟩
  | y :: ys, v :: vs, .cons a b, h => by
    rw [List.all_cons, Bool.and_eq_true] at h
    obtain ⟨ks, e1, e2, h1, h2⟩ := reps_keys b h.2
    have hy := h.1
    cases a with
    | tup hF hr =>
      rename_i xs ws ad
      unfold okT at hy
      cases c : pInts xs with
      | none => simp [c] at hy
      | some ns =>
        have ek : keyT (.tup xs) = ns := by simp [keyT, c]
        have ev := hr.ints c
        subst ev
        have ex : xs = ns.map .int := pInts_eq c
        refine ⟨(ad, ns) :: ks, by rw [List.map_cons, e1], by rw [List.map_cons, List.map_cons, e2, ek], fun p hp => ?_, fun p hp => ?_⟩
        · rcases List.mem_cons.mp hp with rfl | hp
          · exact hF.sq
          · exact h1 p hp
        · rcases List.mem_cons.mp hp with rfl | hp
          · show Rep K g H (.tup (ns.map .int)) _
            rw [← ex]
            exact Rep.tup hF hr
          · exact h2 p hp
    | _ => cases hy
theorem reps_of_keys {K : KF} {g : Gh} {H : Hp} : ∀ (L : List (Addr × List Int)), (∀ p ∈ L, Rep K g H (.tup (p.2.map .int)) (V.ref p.1)) → Reps K g H ((L.map (·.2)).map fun ns => .tup (ns.map .int)) (L.map fun q => V.ref q.1)
  | [], _ => .nil
  | q :: L, h => .cons (h q List.mem_cons_self) (reps_of_keys L fun p hp => h p (List.mem_cons_of_mem _ hp))
theorem e_sortSet {a : Expr} {fa : FE} {p1 p2 p3 p4 : Pos} (calm : X.calm = true) (hu : X.A.units + 64 < cLine) (hl : Gl X "sorted") (ml : X.mg "sorted" = none) (hs : Gl X "set") (ms : X.mg "set" = none) (ha : SE X a fa) :
    SE X (.Call (.Name "sorted" p1) [.Call (.Name "set" p2) [a] [] p3] [] p4) fun ρ h => (fa ρ h).bind fun x h => .ofOpt (opSem h .sortSet [x]) h :=
  .plain (PE.weak (pe_sortSet calm hu hl ml hs ms ha.e (plain_star ha.px)) fun _ _ _ w => (one (sem := fun h x => opSem h .sortSet [x]) w).mono fun v H w => by
    obtain ⟨q, H0, g, h, ρ, σ, a, r, st, ra, e, k⟩ := w
    have e0 : ((a.seq h).bind fun xs => (sortSetV xs).map fun ys => RV.L false ys) = some r := e
    cases c : a.seq h with
    | none => rw [c] at e0; cases e0
    | some ys =>
      rw [c] at e0
      simp only [Option.bind_some] at e0
      unfold sortSetV at e0
      split at e0
      · rename_i hlt
        obtain ⟨p, vs, rfl, h1, h2⟩ := res_seq st ra c
        split at e0
        · rename_i ns d
          have ev := h2.ints d
          subst ev
          have hlen : ns.length = ys.length := by
            have := h2.length
            simpa using this
          exact ⟨p, rfl, .inl ⟨ns, h1, by omega, fin_L st (Reps.of_ints _) e0 k⟩⟩
        · split at e0
          · rename_i hok
            obtain ⟨ks, ev, ek, hk1, hk2⟩ := reps_keys h2 hok
            subst ev
            have hlen : ks.length = ys.length := by
              have := h2.length
              simpa using this
            refine ⟨p, rfl, .inr ⟨ks, h1, hk1, by omega, fun L' p' hsub hL' _ hp' => ?_⟩⟩
            have hr := reps_of_keys L' fun q hq => hk2 q (hsub q hq)
            rw [hL', ← ek] at hr
            exact fin_L st hr e0 k p' hp'
          · cases e0
      · cases e0) (fun _ => rfl) fun _ _ _ e => nomatch e
end
end WT
end
section
set_option Elab.async false
set_option linter.all false
set_option maxRecDepth 100000
set_option maxHeartbeats 4000000
/-! The checker: an own text is the erasure of a PySem text. -/
namespace WT
open PySem PySem.Spec PyProof.Rows L2
structure Ck where
  N : List Str
  sc : Scope
  blk : Option Scope
  ft : List (Str × Nat × List Str)
  fr : List Str
  gt : List (Str × GC)
def Ck.inb (c : Ck) (scope : Scope) : Ck := { c with sc := relS scope c.sc, blk := some scope }
/-! names -/
def visB (sc : Scope) (x : Str) : Bool := match sc.names.lookup x with
  | some .local => true
  | some .cell => true
  | some .free => true
  | _ => false
def locB (sc : Scope) (x : Str) : Bool := match sc.names.lookup x with
  | some .local => true
  | some .cell => true
  | _ => false
def fnB (c : Ck) (x : Str) : Bool := match c.blk with
  | none => true
  | some s => decide (s.names.lookup x = some .cell) || decide (c.sc.names.lookup x = some .local)
def oddB (x : Str) : Bool := x == ("__debug__" : Str) || x == ("__classdict__" : Str) || x == ("__name__" : Str)
def nmB (c : Ck) (i : Nat) (x : Str) : Bool := decide (c.N[i]? = some x) && visB c.sc x && !(oddB x)
def glB (c : Ck) (x : Str) : Bool := decide (c.sc.names.lookup x = some .globalImplicit) && !(oddB x)
/-- a built-in's name -/
def blB (c : Ck) (x : Str) (y : Str) : Bool := x == y && glB c x && c.fr.contains x
def storeB (c : Ck) (i : Nat) (x : Str) : Bool := decide (c.N[i]? = some x) && locB c.sc x && fnB c x
structure CkOk (X : Cx) (cf : CF) (c : Ck) : Prop where
  N : X.N = c.N
  nd : X.N.Nodup
  sc : X.env.scope = c.sc
  fn : ∀ x, fnB c x = true → X.fn x = true ∨ X.env.scope.names.lookup x = some .local
  calm : X.calm = true
  un : X.A.units + 100 < cLine
  ft : ∀ p ∈ c.ft, Callee X cf p.2.1 p.1 p.2.2
  fr : ∀ x ∈ c.fr, X.mg x = none
  gt : ∀ p ∈ c.gt, GcOk X.K X.w X.mg p.1 p.2
section
variable {X : Cx} {cf : CF} {G : Nat → Option PV} {c : Ck}
theorem odd_ok {x : Str} (h : oddB x = false) : (x == ("__debug__" : Str)) = false ∧ (x == ("__classdict__" : Str)) = false ∧ x ≠ "__name__" := by
  unfold oddB at h
  rw [Bool.or_eq_false_iff, Bool.or_eq_false_iff] at h
  exact ⟨h.1.1, h.1.2, fun e => by have := h.2; rw [e] at this; simp at this⟩
theorem vis_ok {sc : Scope} {x : Str} (h : visB sc x = true) : Vis sc x := by
  unfold visB at h
  split at h
  · rename_i e; exact .inl e
  · rename_i e; exact .inr (.inl e)
  · rename_i e; exact .inr (.inr e)
  · cases h
theorem loc_ok {sc : Scope} {x : Str} (h : locB sc x = true) : Loc sc x := by
  unfold locB at h
  split at h
  · rename_i e; exact .inl e
  · rename_i e; exact .inr e
  · cases h
theorem nm_ok (k : CkOk X cf c) {i : Nat} {x : Str} (h : nmB c i x = true) : X.N[i]? = some x ∧ Vis X.env.scope x ∧ (x == ("__debug__" : Str)) = false ∧ (x == ("__classdict__" : Str)) = false := by
  unfold nmB at h
  simp only [Bool.and_eq_true, decide_eq_true_eq, Bool.not_eq_true'] at h
  obtain ⟨⟨h1, h2⟩, h3⟩ := h
  exact ⟨by rw [k.N]; exact h1, by rw [k.sc]; exact vis_ok h2, (odd_ok h3).1, (odd_ok h3).2.1⟩
theorem gl_ok (k : CkOk X cf c) {x : Str} (h : glB c x = true) : Gl X x ∧ (x == ("__debug__" : Str)) = false ∧ x ≠ "__name__" := by
  unfold glB at h
  simp only [Bool.and_eq_true, decide_eq_true_eq, Bool.not_eq_true'] at h
  refine ⟨?_, (odd_ok h.2).1, (odd_ok h.2).2.2⟩
  show X.env.scope.names.lookup x = _
  rw [k.sc]
  exact h.1
theorem bl_ok (k : CkOk X cf c) {x y : Str} (h : blB c x y = true) : x = y ∧ Gl X x ∧ X.mg x = none ∧ (x == ("__debug__" : Str)) = false ∧ x ≠ "__name__" := by
  unfold blB at h
  simp only [Bool.and_eq_true] at h
  obtain ⟨⟨h1, h2⟩, h3⟩ := h
  obtain ⟨a, b, d⟩ := gl_ok k h2
  exact ⟨eq_of_beq h1, a, k.fr x (List.contains_iff_mem.mp h3), b, d⟩
theorem store_ok' (k : CkOk X cf c) {i : Nat} {x : Str} (h : storeB c i x = true) : X.N[i]? = some x ∧ Loc X.env.scope x ∧ (X.fn x = true ∨ X.env.scope.names.lookup x = some .local) := by
  unfold storeB at h
  simp only [Bool.and_eq_true, decide_eq_true_eq] at h
  exact ⟨by rw [k.N]; exact h.1.1, by rw [k.sc]; exact loc_ok h.1.2, k.fn x h.2⟩
theorem CkOk.inb (k : CkOk X cf c) (scope : Scope) (s : Shared) (H : Hp) (C : Addr) (cl : List (Str × Addr)) (fp : List Addr) : CkOk (X.blk s H scope (compEnvC scope cl C X.env) fp) cf (c.inb scope) where
  N := k.N
  nd := k.nd
  sc := by
    show relS scope X.env.scope = relS scope c.sc
    rw [k.sc]
  fn := fun x h => by
    have h' : (decide (scope.names.lookup x = some .cell) || decide ((relS scope c.sc).names.lookup x = some .local)) = true := h
    rw [Bool.or_eq_true, decide_eq_true_eq, decide_eq_true_eq] at h'
    rcases h' with h' | h'
    · left
      show (scope.names.lookup x == some .cell) = true
      rw [h']
      rfl
    · right
      show (relS scope X.env.scope).names.lookup x = some .local
      rw [k.sc]
      exact h'
  calm := k.calm
  un := k.un
  ft := fun p hp => ⟨(k.ft p hp).ex⟩
  fr := k.fr
  gt := k.gt
/-! operations -/
/-- one-place built-ins by their names -/
def bl1 : Op → Option String
  | .len => some "len" | .abs => some "abs" | .sum => some "sum" | .all => some "all" | .any => some "any"
  | .toInt => some "int" | .toTup => some "tuple" | .toLst => some "list" | .toStr => some "str" | .sortedI => some "sorted" | .minL => some "min" | .maxL => some "max" | .sortedT => some "sorted" | .sortedP => some "sorted"
  | _ => none
def cmpB : CmpO → CmpOp → Bool
  | .eq, .Eq => true | .ne, .NotEq => true | .lt, .Lt => true | .le, .LtE => true | .gt, .Gt => true | .ge, .GtE => true | .isin, .In => true | .notin, .NotIn => true
  | _, _ => false
def binB : BinO → Operator → Bool := fun o p => match o, p with
  | .add, .Add => true | .sub, .Sub => true | .mul, .Mult => true | .fdiv, .FloorDiv => true | .mod, .Mod => true | .pow, .Pow => true | .shl, .LShift => true | .shr, .RShift => true
  | .band, .BitAnd => true | .bor, .BitOr => true | .bxor, .BitXor => true
  | _, _ => false
/-- the parts of an operation's expression -/
def baseB : Expr → Bool
  | .Call (.Name _ _) (_ :: _) _ _ => true
  | .Name _ _ => true
  | _ => false
theorem base_ok {a : Expr} {m : Str} {env : PySem.Env} {w : Sem Value} (h : baseB a = true) : attributeBase a m env w = w := by
  unfold baseB at h
  split at h <;> first | rfl | cases h
def argsOf (c : Ck) : Op → Expr → Option (List Expr)
  | .bin o, .BinOp a p b _ => if binB o p then some [a, b] else none
  | .cmp o, .Compare a [p] [b] _ => if cmpB o p then some [a, b] else none
  | .isN false, .Compare a [.Is] [.Constant .none _ _] _ => some [a]
  | .isN true, .Compare a [.IsNot] [.Constant .none _ _] _ => some [a]
  | .neg, .UnaryOp .USub a _ => some [a]
  | .not, .UnaryOp .Not a _ => some [a]
  | .ix, .Subscript a b _ => some [a, b]
  | .sl false false, .Subscript a (.Slice none none none _) _ => some [a]
  | .sl true false, .Subscript a (.Slice (some l) none none _) _ => some [a, l]
  | .sl false true, .Subscript a (.Slice none (some h) none _) _ => some [a, h]
  | .sl true true, .Subscript a (.Slice (some l) (some h) none _) _ => some [a, l, h]
  | .rev, .Subscript a (.Slice none none (some (.UnaryOp .USub (.Constant (.int 1) _ _) _)) _) _ => some [a]
  | .slStep, .Subscript a (.Slice (some l) none (some s) _) _ => some [a, l, s]
  | .tup, .Tuple es _ _ => if es.length ≤ 16777216 then some es else none
  | .lst, .List es _ => if es.length ≤ 16777216 then some es else none
  | .min2, .Call (.Name f _) [a, b] [] _ => if blB c f "min" then some [a, b] else none
  | .max2, .Call (.Name f _) [a, b] [] _ => if blB c f "max" then some [a, b] else none
  | .isi [t], .Call (.Name f _) [a, .Name g _] [] _ => if blB c f "isinstance" && blB c g (Str.ofString (tyName t)) then some [a] else none
  | .isi ts, .Call (.Name f _) [a, .Tuple es _ _] [] _ => if blB c f "isinstance" && tysB ts es && (ts.all fun t => glB c (Str.ofString (tyName t)) && c.fr.contains (Str.ofString (tyName t))) && decide (ts.length ≤ 16777216) then some [a] else none
  | .lenSetI, .Call (.Name f _) [.Call (.Name g _) [a] [] _] [] _ => if blB c f "len" && blB c g "set" then some [a] else none
  | .sortSet, .Call (.Name f _) [.Call (.Name g _) [a] [] _] [] _ => if blB c f "sorted" && blB c g "set" then some [a] else none
  | .lstRange1, .Call (.Name f _) [.Call (.Name g _) [a] [] _] [] _ => if blB c f "list" && blB c g "range" then some [a] else none
  | .lstRange2, .Call (.Name f _) [.Call (.Name g _) [a, b] [] _] [] _ => if blB c f "list" && blB c g "range" then some [a, b] else none
  | .index, .Call (.Attribute a m apos) [b] [] cpos => if m == ("index" : Str) && apos.endLine == cpos.line && baseB a then some [a, b] else none
  | o, .Call (.Name f _) [a] [] _ => match bl1 o with
    | some s => if blB c f (Str.ofString s) then some [a] else none
    | none => none
  | _, _ => none
inductive SEl (X : Cx) : List Expr → FEs → Prop
  | nil : SEl X [] nilF
  | cons {e : Expr} {es : List Expr} {fe : FE} {fs : FEs} : SE X e fe → SEl X es fs → SEl X (e :: es) (consF fe fs)
theorem SEl.sa {es : List Expr} {fs : FEs} (h : SEl X es fs) : SA X es fs := by
  induction h with
  | nil => exact SA.nil
  | cons h _ ih => exact SA.cons h ih
def opF (o : Op) (fs : FEs) : FE := fun ρ h => (fs ρ h).bind fun rs h => .ofOpt (opSem h o rs) h
theorem op1 {o : Op} {fa : FE} : opF o (consF fa nilF) = fun ρ h => (fa ρ h).bind fun x h => .ofOpt (opSem h o [x]) h := by
  funext ρ h
  unfold opF consF nilF
  rw [Out.bind_bind]
  rfl
theorem op2 {o : Op} {fa fb : FE} : opF o (consF fa (consF fb nilF)) = fun ρ h => (fa ρ h).bind fun x h => (fb ρ h).bind fun y h => .ofOpt (opSem h o [x, y]) h := by
  funext ρ h
  unfold opF consF nilF
  rw [Out.bind_bind]
  congr 1
  funext x h
  rw [Out.bind_bind]
  show ((fb ρ h).bind fun r h => (Out.ok [] h).bind fun rs h => .ok (r :: rs) h).bind (fun rs h => (Out.ok (x :: rs) h).bind fun rs h => .ofOpt (opSem h o rs) h) = _
  rw [Out.bind_bind]
  rfl
theorem op3 {o : Op} {fa fb fd : FE} : opF o (consF fa (consF fb (consF fd nilF))) = fun ρ h => (fa ρ h).bind fun x h => (fb ρ h).bind fun y h => (fd ρ h).bind fun z h => .ofOpt (opSem h o [x, y, z]) h := by
  funext ρ h
  unfold opF consF nilF
  rw [Out.bind_bind]
  congr 1
  funext x h
  rw [Out.bind_bind, Out.bind_bind]
  congr 1
  funext y h
  rw [Out.bind_bind, Out.bind_bind]
  rfl
theorem e_isN' {a : Expr} {pos p2 : Pos} {j : Nat} {fa : FE} {n : Bool} (ha : SE X a fa) : SE X (.Compare a [if n then .IsNot else .Is] [.Constant .none j p2] pos) fun ρ h => (fa ρ h).bind fun x h => .ofOpt (opSem h (.isN n) [x]) h := by
  have e := e_isN (n := n) (j := j) (p2 := p2) (pos := pos) ha (fun _ _ _ => .bad) (fun _ => none)
  have ef : (fun (ρ : Env) h => (fa ρ h).bind fun x h => (evalE (fun _ _ _ => .bad) (fun _ => none) (.cst .non) ρ h).bind fun y h => .ofOpt (B (cmpSem h (if n then .notnone else .isnone) x y)) h) = fun ρ h => (fa ρ h).bind fun x h => .ofOpt (opSem h (.isN n) [x]) h := by
    funext ρ h
    congr 1
    funext x h
    cases n <;> rfl
  rw [ef] at e
  exact e
theorem SEl.one {a : Expr} {fs : FEs} (h : SEl X [a] fs) : ∃ fa, SE X a fa ∧ fs = consF fa nilF := by
  cases h with
  | cons h1 h2 => cases h2; exact ⟨_, h1, rfl⟩
theorem SEl.two {a b : Expr} {fs : FEs} (h : SEl X [a, b] fs) : ∃ fa fb, SE X a fa ∧ SE X b fb ∧ fs = consF fa (consF fb nilF) := by
  cases h with
  | cons h1 h2 =>
    obtain ⟨fb, h3, rfl⟩ := h2.one
    exact ⟨_, _, h1, h3, rfl⟩
theorem SEl.three {a b d : Expr} {fs : FEs} (h : SEl X [a, b, d] fs) : ∃ fa fb fd, SE X a fa ∧ SE X b fb ∧ SE X d fd ∧ fs = consF fa (consF fb (consF fd nilF)) := by
  cases h with
  | cons h1 h2 =>
    obtain ⟨fb, fd, h3, h4, rfl⟩ := h2.two
    exact ⟨_, _, _, h1, h3, h4, rfl⟩
theorem bin_eq {o : BinO} {p : Operator} (h : binB o p = true) : p = opOf o := by
  cases o <;> cases p <;> first
    | rfl
    | cases h
theorem cmp_ok (k : CkOk X cf c) {o : CmpO} {p : CmpOp} (h : cmpB o p = true) : OpR X (compareOp p) (rO X.K fun h a b => B (cmpSem h o a b)) := by
  have hu := k.un
  cases o <;> cases p <;> first
    | exact absurd h Bool.false_ne_true
    | skip
  · exact o_eq (by omega)
  · exact o_ne (by omega)
  · exact o_lt (by omega)
  · exact o_le
  · exact o_gt
  · exact o_ge
  · exact o_in (by omega)
  · exact o_notin (by omega)
theorem bl1_ok (k : CkOk X cf c) {o : Op} {x y : Str} {s : String} {a : Expr} {fa : FE} {p pos : Pos} (hb : bl1 o = some s) (h : blB c x (Str.ofString s) = true) (ha : SE X a fa) : SE X (.Call (.Name x p) [a] [] pos) fun ρ h => (fa ρ h).bind fun x h => .ofOpt (opSem h o [x]) h := by
  obtain ⟨rfl, hg, hm, hd, hn⟩ := bl_ok k h
  have hc := k.calm
  have hun := k.un
  cases o <;> first
    | cases hb
    | skip
  · exact e_call1 (sem := fun h x => opSem h .len [x]) c_len hg hm (by decide +kernel) hn hd ha
  · exact e_call1 (sem := fun h x => opSem h .abs [x]) c_abs hg hm (by decide +kernel) hn hd ha
  · exact e_call1 (sem := fun h x => opSem h .sum [x]) (c_sum hc) hg hm (by decide +kernel) hn hd ha
  · exact e_call1 (sem := fun h x => opSem h .all [x]) (c_all hc) hg hm (by decide +kernel) hn hd ha
  · exact e_call1 (sem := fun h x => opSem h .any [x]) (c_any hc) hg hm (by decide +kernel) hn hd ha
  · exact e_callT1 (sem := fun h x => opSem h .toInt [x]) c_toInt hg hm (by decide +kernel) hn hd ha
  · exact e_callT1 (sem := fun h x => opSem h .toTup [x]) c_toTup hg hm (by decide +kernel) hn hd ha
  · exact e_callT1 (sem := fun h x => opSem h .toLst [x]) c_toLst hg hm (by decide +kernel) hn hd ha
  · exact e_call1 (sem := fun h x => opSem h .sortedI [x]) c_sorted hg hm (by decide +kernel) hn hd ha
  · exact e_call1 (sem := fun h x => opSem h .minL [x]) (c_minL hc) hg hm (by decide +kernel) hn hd ha
  · exact e_call1 (sem := fun h x => opSem h .maxL [x]) (c_maxL hc) hg hm (by decide +kernel) hn hd ha
  · exact e_call1 (sem := fun h x => opSem h .sortedT [x]) (c_sortedT (by omega)) hg hm (by decide +kernel) hn hd ha
  · exact e_call1 (sem := fun h x => opSem h .sortedP [x]) (c_sortedP (by omega)) hg hm (by decide +kernel) hn hd ha
  · exact e_callT1 (sem := fun h x => opSem h .toStr [x]) c_toStr hg hm (by decide +kernel) hn hd ha
theorem szLine : (16777216 : Nat) = sizeLine := sizeLine_eq.symm
theorem op_ok (k : CkOk X cf c) {o : Op} {x : Expr} {xs : List Expr} {fs : FEs} (h : argsOf c o x = some xs) (hs : SEl X xs fs) : SX X x (opF o fs) := by
  have hu := k.un
  unfold argsOf at h
  split at h
  · split at h
    · rename_i hb
      cases h
      obtain ⟨fa, fb, ha, hb2, rfl⟩ := hs.two
      rw [op2, bin_eq hb]
      exact .of (e_bin ha hb2)
    · cases h
  · split at h
    · rename_i hb
      cases h
      obtain ⟨fa, fb, ha, hb2, rfl⟩ := hs.two
      rw [op2]
      exact .of (e_cmp (cmp_ok k hb) ha hb2)
    · cases h
  · cases h
    obtain ⟨fa, ha, rfl⟩ := hs.one
    rw [op1]
    exact .of (e_isN' (n := false) ha)
  · cases h
    obtain ⟨fa, ha, rfl⟩ := hs.one
    rw [op1]
    exact .of (e_isN' (n := true) ha)
  · cases h
    obtain ⟨fa, ha, rfl⟩ := hs.one
    rw [op1]
    exact .of (e_neg ha)
  · cases h
    obtain ⟨fa, ha, rfl⟩ := hs.one
    rw [op1]
    exact .of (e_not ha)
  · cases h
    obtain ⟨fa, fb, ha, hb2, rfl⟩ := hs.two
    rw [op2]
    exact .of (e_ix ha hb2)
  · cases h
    obtain ⟨fa, ha, rfl⟩ := hs.one
    rw [op1]
    exact .of (e_sl00 ha)
  · cases h
    obtain ⟨fa, fb, ha, hb2, rfl⟩ := hs.two
    rw [op2]
    exact .of (e_sl10 ha hb2)
  · cases h
    obtain ⟨fa, fb, ha, hb2, rfl⟩ := hs.two
    rw [op2]
    exact .of (e_sl01 ha hb2)
  · cases h
    obtain ⟨fa, fb, fd, ha, hb2, hd, rfl⟩ := hs.three
    rw [op3]
    exact .of (e_sl11 ha hb2 hd)
  · cases h
    obtain ⟨fa, ha, rfl⟩ := hs.one
    rw [op1]
    exact .of (e_rev ha)
  · cases h
    obtain ⟨fa, fb, fd, ha, hb2, hd, rfl⟩ := hs.three
    rw [op3]
    exact .of (e_step ha hb2 hd)
  · split at h
    · rename_i hz
      cases h
      exact .of (e_tup hs.sa (by rw [← szLine]; exact hz))
    · cases h
  · split at h
    · rename_i hz
      cases h
      exact .of (e_lst hs.sa (by rw [← szLine]; exact hz))
    · cases h
  · split at h
    · rename_i hb
      cases h
      obtain ⟨rfl, hg, hm, hd, hn⟩ := bl_ok k hb
      obtain ⟨fa, fb, ha, hb2, rfl⟩ := hs.two
      rw [op2]
      exact .of (e_call2 (sem := fun h a b => opSem h .min2 [a, b]) (c_min2 k.calm) hg hm (by decide +kernel) hn hd ha hb2)
    · cases h
  · split at h
    · rename_i hb
      cases h
      obtain ⟨rfl, hg, hm, hd, hn⟩ := bl_ok k hb
      obtain ⟨fa, fb, ha, hb2, rfl⟩ := hs.two
      rw [op2]
      exact .of (e_call2 (sem := fun h a b => opSem h .max2 [a, b]) (c_max2 k.calm) hg hm (by decide +kernel) hn hd ha hb2)
    · cases h
  · split at h
    · rename_i hb
      cases h
      rw [Bool.and_eq_true] at hb
      obtain ⟨rfl, hg, hm, hd, hn⟩ := bl_ok k hb.1
      obtain ⟨rfl, hg2, hm2, hd2, hn2⟩ := bl_ok k hb.2
      obtain ⟨fa, ha, rfl⟩ := hs.one
      rw [op1]
      exact .of (e_isi1 hg hm hg2 hm2 ha)
    · cases h
  · split at h
    · rename_i hb
      cases h
      simp only [Bool.and_eq_true, decide_eq_true_eq, List.all_eq_true] at hb
      obtain ⟨⟨⟨h1, h2⟩, h3⟩, h4⟩ := hb
      obtain ⟨rfl, hg, hm, hd, hn⟩ := bl_ok k h1
      obtain ⟨fa, ha, rfl⟩ := hs.one
      rw [op1]
      exact .of (e_isiT (by rw [← szLine]; exact h4) hg hm h2 (fun t ht => ⟨(gl_ok k (h3 t ht).1).1, k.fr _ (List.contains_iff_mem.mp (h3 t ht).2)⟩) ha)
    · cases h
  · split at h
    · rename_i hb
      cases h
      rw [Bool.and_eq_true] at hb
      obtain ⟨rfl, hg, hm, hd, hn⟩ := bl_ok k hb.1
      obtain ⟨rfl, hg2, hm2, hd2, hn2⟩ := bl_ok k hb.2
      obtain ⟨fa, ha, rfl⟩ := hs.one
      rw [op1]
      exact .of (e_lenSet k.calm hg hm hg2 hm2 ha)
    · cases h
  · split at h
    · rename_i hb
      cases h
      rw [Bool.and_eq_true] at hb
      obtain ⟨rfl, hg, hm, hd, hn⟩ := bl_ok k hb.1
      obtain ⟨rfl, hg2, hm2, hd2, hn2⟩ := bl_ok k hb.2
      obtain ⟨fa, ha, rfl⟩ := hs.one
      rw [op1]
      exact .of (e_sortSet k.calm (by omega) hg hm hg2 hm2 ha)
    · cases h
  · split at h
    · rename_i hb
      cases h
      rw [Bool.and_eq_true] at hb
      obtain ⟨rfl, hg, hm, hd, hn⟩ := bl_ok k hb.1
      obtain ⟨rfl, hg2, hm2, hd2, hn2⟩ := bl_ok k hb.2
      obtain ⟨fa, ha, rfl⟩ := hs.one
      rw [op1]
      exact .of (e_lstRg1 k.calm hg hm hg2 hm2 ha)
    · cases h
  · split at h
    · rename_i hb
      cases h
      rw [Bool.and_eq_true] at hb
      obtain ⟨rfl, hg, hm, hd, hn⟩ := bl_ok k hb.1
      obtain ⟨rfl, hg2, hm2, hd2, hn2⟩ := bl_ok k hb.2
      obtain ⟨fa, fb, ha, hb2, rfl⟩ := hs.two
      rw [op2]
      exact .of (e_lstRg2 k.calm hg hm hg2 hm2 ha hb2)
    · cases h
  · split at h
    · rename_i hb
      cases h
      rw [Bool.and_eq_true, Bool.and_eq_true] at hb
      obtain ⟨⟨h1, h2⟩, h3⟩ := hb
      have h1 := eq_of_beq h1
      subst h1
      obtain ⟨fa, fb, ha, hb2, rfl⟩ := hs.two
      rw [op2]
      exact .of (e_index (by omega) h2 (base_ok h3) ha hb2)
    · cases h
  · split at h
    · rename_i hb
      split at h
      · rename_i h2
        cases h
        obtain ⟨fa, ha, rfl⟩ := hs.one
        rw [op1]
        exact .of (bl1_ok (y := Str.ofString "") k hb h2 ha)
      · cases h
    · cases h
  · cases h
end
end WT
end
section
set_option Elab.async false
set_option linter.all false
set_option maxRecDepth 100000
set_option maxHeartbeats 4000000
/-! zip of any number of lists and tuples, at the library's level. -/
namespace WT
open PySem PySem.Spec PyProof.Rows
/-- one of the walked: a tuple or a list, its iterator, where it stands, its items -/
structure ZI where
  t : Bool
  it : Addr
  l : Addr
  xs : Array Value
def ZI.itr (a : ZI) (h : Heap) (k : Nat) : Prop := match a.t with
  | true => h.IsTupleIter a.it a.l k
  | false => h.IsListIter a.it a.l k
def ZI.sq (a : ZI) (h : Heap) : Prop := match a.t with
  | true => h.IsTuple a.l a.xs
  | false => h.IsList a.l a.xs
theorem ZI.itr_at {a : ZI} {h h' : Heap} {k : Nat} (x : a.itr h k) (e : ∀ o, h.get? a.it = some o → h'.get? a.it = some o) : a.itr h' k := by
  unfold ZI.itr at x ⊢
  cases c : a.t with
  | true => rw [c] at x; exact Heap.IsTupleIter.at x e
  | false => rw [c] at x; exact Heap.IsListIter.at x e
theorem ZI.sq_at {a : ZI} {h h' : Heap} (x : a.sq h) (e : ∀ o, h.get? a.l = some o → h'.get? a.l = some o) : a.sq h' := by
  unfold ZI.sq at x ⊢
  cases c : a.t with
  | true =>
    rw [c] at x
    obtain ⟨o, ho, r⟩ := x
    exact ⟨o, e _ ho, r⟩
  | false => rw [c] at x; exact Heap.IsList.at x e
theorem ZI.lt {a : ZI} {h : Heap} {k : Nat} (x : a.itr h k) : a.it < h.objs.size := by
  unfold ZI.itr at x
  cases c : a.t with
  | true => rw [c] at x; obtain ⟨_, e, _⟩ := x; exact Heap.lt_size e
  | false => rw [c] at x; obtain ⟨_, e, _⟩ := x; exact Heap.lt_size e
section
variable {prog : Program} {w : World} {A : Around} {E : Value → Shared → Prop} {s : Shared}
theorem ZI.next {a : ZI} {k : Nat} {x : Value} {Q : Value → Shared → Prop} (hi : a.itr s.heap k) (hl : a.sq s.heap) (hx : a.xs[k]? = some x) (hQ : ∀ h', a.itr h' (k + 1) → Heap.SameBut a.it s.heap h' → Q x { s with heap := h' }) :
    wpAny (model prog w) A (Builtin.SmallTypes.nextOf (.ref a.it)) Q E s := by
  unfold ZI.itr at hi hQ
  unfold ZI.sq at hl
  cases c : a.t with
  | true => rw [c] at hi hl; simp only [c] at hQ; exact RZ.nextOf_tuple_item hi hl hx hQ
  | false => rw [c] at hi hl; simp only [c] at hQ; exact wpAny_nextOf_list_item hi hl hx hQ
theorem ZI.end_ {a : ZI} {k : Nat} {Q : Value → Shared → Prop} (hh : A.handled = none) (hi : a.itr s.heap k) (hl : a.sq s.heap) (hx : a.xs[k]? = none)
    (hE : ∀ h' e, Heap.ExtBut a.it s.heap h' → (∃ o, h'.get? e = some o ∧ o.cls = .type "StopIteration") → E (.ref e) { s with heap := h' }) : wpAny (model prog w) A (Builtin.SmallTypes.nextOf (.ref a.it)) Q E s := by
  unfold ZI.itr at hi
  unfold ZI.sq at hl
  cases c : a.t with
  | true => rw [c] at hi hl; exact RZ.nextOf_tuple_end hh hi hl hx hE
  | false => rw [c] at hi hl; exact wpAny_nextOf_list_end hh hi hl hx hE
/-- a tuple of values at T -/
def IsTT (h : Heap) (T : Addr) (vs : List Value) : Prop := h.get? T = some { cls := .type "tuple", data := .seq vs.toArray }
/-- the addresses apart -/
structure ZA (z TI TO : Addr) (its : List ZI) : Prop where
  TIz : TI ≠ z
  TOz : TO ≠ z
  TITO : TI ≠ TO
  iz : ∀ a ∈ its, a.it ≠ z
  iTI : ∀ a ∈ its, a.it ≠ TI
  iTO : ∀ a ∈ its, a.it ≠ TO
  ii : (its.map (·.it)).Nodup
  lz : ∀ a ∈ its, a.l ≠ z
  lTO : ∀ a ∈ its, a.l ≠ TO
  li : ∀ a ∈ its, ∀ b ∈ its, a.l ≠ b.it
/-- the loop over the iterators: the owned tuple is filled from place j on -/
theorem zip_loop {z TO : Addr} {k : Nat} (f : Value × Nat → Option PySem.Fin × Unit → Sem (ForInStep (Option PySem.Fin × Unit))) (dr : Value → Nat → Sem (Option Value)) (G : Value → Nat → Option Value → Sem (ForInStep (Option PySem.Fin × Unit))) (G2 : Value → Nat → Value → Option (Array Value) → Sem (ForInStep (Option PySem.Fin × Unit)))
    (hf : ∀ v j, f (v, j) (none, ()) = (dr v j).onRaise (fun _ => setField (.ref z) 0 .none) >>= G v j)
    (hd : ∀ v j, dr v j = (do let x ← Builtin.SmallTypes.nextOf v; pure (some x)))
    (hG : ∀ v j x, G v j (some x) = seqItems? (.ref TO) >>= G2 v j x)
    (hG2 : ∀ v j x kept, G2 v j x (some kept) = (do updateSeq TO (·.setIfInBounds j x); letGo [kept.getD j .none]; pure (.yield (none, ())))) :
    ∀ (its : List ZI) (done xs old : List Value) (s : Shared) (Q : Option PySem.Fin × Unit → Shared → Prop),
      (∀ a ∈ its, a.itr s.heap k) → (∀ a ∈ its, a.sq s.heap) → IsTT s.heap TO (done ++ old) → old.length = its.length → (done ++ old).length ≤ sizeLine → xs.length = its.length → (∀ (i : Nat) a x, its[i]? = some a → xs[i]? = some x → a.xs[k]? = some x) →
      (∀ a ∈ its, a.it ≠ TO) → (its.map (·.it)).Nodup → (∀ a ∈ its, ∀ b ∈ its, a.l ≠ b.it) → (∀ a ∈ its, a.l ≠ TO) →
      (∀ h', IsTT h' TO (done ++ xs) → (∀ a ∈ its, a.itr h' (k + 1)) → h'.objs.size = s.heap.objs.size → (∀ c o, c ≠ TO → (∀ a ∈ its, c ≠ a.it) → s.heap.get? c = some o → h'.get? c = some o) → Q (none, ()) { s with heap := h' }) →
      wpAny (model prog w) A (forIn ((its.map fun a => Value.ref a.it).zipIdx done.length) (none, ()) f) Q E s
  | [], done, xs, old, s, Q, _, _, hTO, ho, _, hx, _, _, _, _, _, hQ => by
    cases old with
    | cons _ _ => cases ho
    | nil =>
      cases xs with
      | cons _ _ => cases hx
      | nil =>
        rw [List.map_nil, List.zipIdx_nil, List.forIn_nil]
        exact wpAny_pure (hQ s.heap hTO (fun a h => by cases h) rfl fun c o _ _ e => e)
  | a :: its, done, xs, old, s, Q, hi, hs, hTO, ho, hz, hx, hg, h1, h2, h3, h4, hQ => by
    cases old with
    | nil => cases ho
    | cons y old =>
      cases xs with
      | nil => cases hx
      | cons x xs =>
        rw [List.map_cons, List.zipIdx_cons, List.forIn_cons, hf, hd]
        rw [List.map_cons, List.nodup_cons] at h2
        have ha : a.xs[k]? = some x := hg 0 a x rfl rfl
        have aTO := h1 a List.mem_cons_self
        have ne2 : ∀ b ∈ its, b.it ≠ a.it := fun b hb e => h2.1 (e ▸ List.mem_map.mpr ⟨b, hb, rfl⟩)
        refine wpAny_bind (wpAny_bind (wpAny_onRaise (wpAny_bind (ZI.next (hi a List.mem_cons_self) (hs a List.mem_cons_self) ha fun hp i2 s2 => wpAny_pure ?_))))
        rw [hG]
        have t2 : IsTT hp TO (done ++ y :: old) := s2.extBut _ _ (Ne.symm aTO) hTO
        refine wpAny_bind (wpAny_seqItems t2 rfl ?_)
        rw [hG2]
        refine wpAny_bind (wpAny_updateSeq t2 rfl ?_ (by show (done ++ y :: old).toArray.size ≤ sizeLine; rw [List.size_toArray]; exact hz) (by show ((done ++ y :: old).toArray.setIfInBounds done.length x).size ≤ sizeLine + 1; rw [Array.size_setIfInBounds, List.size_toArray]; omega))
        refine wpAny_bind (wpAny_letGo (wpAny_pure ?_))
        have t3 : IsTT (hp.update TO (Obj.mapSeq fun v => v.setIfInBounds done.length x)) TO ((done ++ [x]) ++ old) := by
          show (hp.update TO _).get? TO = _
          rw [Heap.get?_update_self _ t2 rfl]
          simp [Obj.mapSeq]
        have k3 : ∀ c o, c ≠ TO → hp.get? c = some o → (hp.update TO (Obj.mapSeq fun v => v.setIfInBounds done.length x)).get? c = some o := fun c o hc e => by
          rw [Heap.get?_update_other _ _ (Ne.symm hc)]; exact e
        have el : done.length + 1 = (done ++ [x]).length := by simp
        show wpAny _ _ (forIn ((its.map fun a => Value.ref a.it).zipIdx (done.length + 1)) (none, ()) f) Q E _
        rw [el]
        refine zip_loop f dr G G2 hf hd hG hG2 its (done ++ [x]) xs old _ Q (fun b hb => ?_) (fun b hb => ?_) t3 (Nat.succ.inj ho) (by simp at hz ⊢; omega) (Nat.succ.inj hx) (fun i b u q1 q2 => hg (i + 1) b u (by simpa using q1) (by simpa using q2)) (fun b hb => h1 b (List.mem_cons_of_mem _ hb)) h2.2
          (fun b hb d hd => h3 b (List.mem_cons_of_mem _ hb) d (List.mem_cons_of_mem _ hd)) (fun b hb => h4 b (List.mem_cons_of_mem _ hb)) fun h' q1 q2 q3 q4 => ?_
        · exact ZI.itr_at (hi b (List.mem_cons_of_mem _ hb)) fun o e => k3 _ _ (h1 b (List.mem_cons_of_mem _ hb)) (s2.extBut _ _ (ne2 b hb) e)
        · exact ZI.sq_at (hs b (List.mem_cons_of_mem _ hb)) fun o e => k3 _ _ (h4 b (List.mem_cons_of_mem _ hb)) (s2.extBut _ _ (h3 b (List.mem_cons_of_mem _ hb) a List.mem_cons_self) e)
        · refine hQ h' (by rw [List.append_assoc] at q1; exact q1) (fun b hb => ?_) ?_ fun c o c1 c2 e => ?_
          · rcases List.mem_cons.mp hb with rfl | hb
            · exact ZI.itr_at i2 fun o e => q4 _ _ aTO (fun d hd => Ne.symm (ne2 d hd)) (k3 _ _ aTO e)
            · exact q2 b hb
          · rw [q3]
            show (hp.update TO _).objs.size = _
            rw [Heap.size_update, s2.1]
          · exact q4 c o c1 (fun d hd => c2 d (List.mem_cons_of_mem _ hd)) (k3 c o c1 (s2.extBut _ _ (c2 a List.mem_cons_self) e))
/-- a zip with any two first fields -/
def IsZg (h : Heap) (z TI TO : Addr) (x : Value) (f : Bool) : Prop := h.get? z = some { cls := .type "zip", data := .fields #[x, .bool f, .bool false, .ref TI, .ref TO] }
/-- one of them is at its end -/
theorem zip_loop_end {z TI TO : Addr} {k : Nat} (hh : A.handled = none) (f : Value × Nat → Option PySem.Fin × Unit → Sem (ForInStep (Option PySem.Fin × Unit))) (dr : Value → Nat → Sem (Option Value)) (G : Value → Nat → Option Value → Sem (ForInStep (Option PySem.Fin × Unit))) (G2 : Value → Nat → Value → Option (Array Value) → Sem (ForInStep (Option PySem.Fin × Unit)))
    (hf : ∀ v j, f (v, j) (none, ()) = (dr v j).onRaise (fun _ => setField (.ref z) 0 .none) >>= G v j)
    (hd : ∀ v j, dr v j = (do let x ← Builtin.SmallTypes.nextOf v; pure (some x)))
    (hG : ∀ v j x, G v j (some x) = seqItems? (.ref TO) >>= G2 v j x)
    (hG2 : ∀ v j x kept, G2 v j x (some kept) = (do updateSeq TO (·.setIfInBounds j x); letGo [kept.getD j .none]; pure (.yield (none, ())))) :
    ∀ (its : List ZI) (done old : List Value) (s : Shared) (Q : Option PySem.Fin × Unit → Shared → Prop),
      (∀ a ∈ its, a.itr s.heap k) → (∀ a ∈ its, a.sq s.heap) → IsTT s.heap TO (done ++ old) → old.length = its.length → (done ++ old).length ≤ sizeLine → (∃ a ∈ its, a.xs[k]? = none) → (∃ f, IsZg s.heap z TI TO .ellipsis f) → TO ≠ z → (∀ a ∈ its, a.it ≠ z) →
      (∀ a ∈ its, a.it ≠ TO) → (its.map (·.it)).Nodup → (∀ a ∈ its, ∀ b ∈ its, a.l ≠ b.it) → (∀ a ∈ its, a.l ≠ TO) →
      (∀ h' e, (∀ c o, c ≠ z → c ≠ TO → (∀ a ∈ its, c ≠ a.it) → s.heap.get? c = some o → h'.get? c = some o) → (∃ o, h'.get? e = some o ∧ o.cls = .type "StopIteration") → E (.ref e) { s with heap := h' }) →
      wpAny (model prog w) A (forIn ((its.map fun a => Value.ref a.it).zipIdx done.length) (none, ()) f) Q E s
  | [], _, _, _, _, _, _, _, _, _, he, _, _, _, _, _, _, _, _ => by obtain ⟨a, h, _⟩ := he; cases h
  | a :: its, done, old, s, Q, hi, hs, hTO, ho, hz, he, hZ, zTO, hiz, h1, h2, h3, h4, hE => by
    cases old with
    | nil => cases ho
    | cons y old =>
      rw [List.map_cons, List.zipIdx_cons, List.forIn_cons, hf, hd]
      rw [List.map_cons, List.nodup_cons] at h2
      have aTO := h1 a List.mem_cons_self
      have az := hiz a List.mem_cons_self
      have ne2 : ∀ b ∈ its, b.it ≠ a.it := fun b hb e => h2.1 (e ▸ List.mem_map.mpr ⟨b, hb, rfl⟩)
      cases ha : a.xs[k]? with
      | none =>
        refine wpAny_bind (wpAny_bind (wpAny_onRaise (wpAny_bind (ZI.end_ hh (hi a List.mem_cons_self) (hs a List.mem_cons_self) ha fun hp e x2 he2 => ?_))))
        obtain ⟨oe, hoe, hce⟩ := he2
        obtain ⟨ff, hZ⟩ := hZ
        have z2 : IsZg hp z TI TO .ellipsis ff := x2 _ _ (Ne.symm az) hZ
        have hez : e ≠ z := fun x => by subst x; rw [z2] at hoe; cases hoe; simp at hce
        refine wpAny_setField_rec z2 (by simp) fun h3' _ s3 => hE h3' e (fun c o c1 c2 c3 q => s3.extBut _ _ c1 (x2 _ _ (c3 a List.mem_cons_self) q)) ⟨oe, s3.extBut _ _ hez hoe, hce⟩
      | some x =>
        refine wpAny_bind (wpAny_bind (wpAny_onRaise (wpAny_bind (ZI.next (hi a List.mem_cons_self) (hs a List.mem_cons_self) ha fun hp i2 s2 => wpAny_pure ?_))))
        rw [hG]
        have t2 : IsTT hp TO (done ++ y :: old) := s2.extBut _ _ (Ne.symm aTO) hTO
        refine wpAny_bind (wpAny_seqItems t2 rfl ?_)
        rw [hG2]
        refine wpAny_bind (wpAny_updateSeq t2 rfl ?_ (by show (done ++ y :: old).toArray.size ≤ sizeLine; rw [List.size_toArray]; exact hz) (by show ((done ++ y :: old).toArray.setIfInBounds done.length x).size ≤ sizeLine + 1; rw [Array.size_setIfInBounds, List.size_toArray]; omega))
        refine wpAny_bind (wpAny_letGo (wpAny_pure ?_))
        have t3 : IsTT (hp.update TO (Obj.mapSeq fun v => v.setIfInBounds done.length x)) TO ((done ++ [x]) ++ old) := by
          show (hp.update TO _).get? TO = _
          rw [Heap.get?_update_self _ t2 rfl]
          simp [Obj.mapSeq]
        have k3 : ∀ c o, c ≠ TO → hp.get? c = some o → (hp.update TO (Obj.mapSeq fun v => v.setIfInBounds done.length x)).get? c = some o := fun c o hc e => by
          rw [Heap.get?_update_other _ _ (Ne.symm hc)]; exact e
        have el : done.length + 1 = (done ++ [x]).length := by simp
        have he' : ∃ a ∈ its, a.xs[k]? = none := by
          obtain ⟨b, hb, e⟩ := he
          rcases List.mem_cons.mp hb with rfl | hb
          · rw [ha] at e; cases e
          · exact ⟨b, hb, e⟩
        show wpAny _ _ (forIn ((its.map fun a => Value.ref a.it).zipIdx (done.length + 1)) (none, ()) f) Q E _
        rw [el]
        refine zip_loop_end hh f dr G G2 hf hd hG hG2 its (done ++ [x]) old _ Q (fun b hb => ?_) (fun b hb => ?_) t3 (Nat.succ.inj ho) (by simp at hz ⊢; omega) he' (hZ.imp fun _ hZ => k3 _ _ (Ne.symm zTO) (s2.extBut _ _ (Ne.symm az) hZ)) zTO (fun b hb => hiz b (List.mem_cons_of_mem _ hb)) (fun b hb => h1 b (List.mem_cons_of_mem _ hb)) h2.2
          (fun b hb d hd => h3 b (List.mem_cons_of_mem _ hb) d (List.mem_cons_of_mem _ hd)) (fun b hb => h4 b (List.mem_cons_of_mem _ hb)) fun h' e q4 q5 => ?_
        · exact ZI.itr_at (hi b (List.mem_cons_of_mem _ hb)) fun o e => k3 _ _ (h1 b (List.mem_cons_of_mem _ hb)) (s2.extBut _ _ (ne2 b hb) e)
        · exact ZI.sq_at (hs b (List.mem_cons_of_mem _ hb)) fun o e => k3 _ _ (h4 b (List.mem_cons_of_mem _ hb)) (s2.extBut _ _ (h3 b (List.mem_cons_of_mem _ hb) a List.mem_cons_self) e)
        · exact hE h' e (fun c o c1 c2 c3 q => q4 c o c1 c2 (fun d hd => c3 d (List.mem_cons_of_mem _ hd)) (k3 c o c2 (s2.extBut _ _ (c3 a List.mem_cons_self) q))) q5
/-- the next tuple -/
theorem zip_item {z TI TO : Addr} {its : List ZI} {k : Nat} {old xs : List Value} {Q : Value → Shared → Prop} (D : ZA z TI TO its) (hne : its ≠ []) (hz : IsZip s.heap z TI TO .none) (hTI : IsTT s.heap TI (its.map fun a => .ref a.it)) (hTO : IsTT s.heap TO old) (ho : old.length = its.length) (hl : its.length ≤ sizeLine)
    (hi : ∀ a ∈ its, a.itr s.heap k) (hs : ∀ a ∈ its, a.sq s.heap) (hx : xs.length = its.length) (hg : ∀ (i : Nat) a x, its[i]? = some a → xs[i]? = some x → a.xs[k]? = some x)
    (hQ : ∀ h', IsZip h' z TI TO (rawInt s.heap.objs.size) → IsTT h' TO xs → (∀ a ∈ its, a.itr h' (k + 1)) → IsTT h' s.heap.objs.size xs → h'.objs.size = s.heap.objs.size + 1 →
      (∀ c o, c ≠ z → c ≠ TO → (∀ a ∈ its, c ≠ a.it) → s.heap.get? c = some o → h'.get? c = some o) → Q (.ref s.heap.objs.size) { s with heap := h' }) :
    wpAny (model prog w) A (Builtin.«zip.__next__» ⟨[.ref z], []⟩) (fun fin s' => ∃ v, fin = .done (.ret v) ∧ Q v s') E s := by
  show wpAny _ _ (field (.ref z) 2 >>= _) _ _ _
  refine wpAny_bind (wpAny_field hz rfl (x := .bool false) rfl ?_)
  show wpAny _ _ (field (.ref z) 3 >>= _) _ _ _
  refine wpAny_bind (wpAny_field hz rfl (x := .ref TI) rfl ?_)
  refine wpAny_bind (wpAny_seqItems hTI rfl ?_)
  have hemp : (its.map fun a => Value.ref a.it).toArray.isEmpty = false := by
    cases its with
    | nil => exact absurd rfl hne
    | cons _ _ => rfl
  show wpAny _ _ (if (its.map fun a => Value.ref a.it).toArray.isEmpty = true then _ else _) _ _ _
  rw [if_neg (by rw [hemp]; exact Bool.false_ne_true)]
  show wpAny _ _ (Builtin.SmallTypes.ownedTupleIsFree (.ref z) >>= _) _ _ _
  refine wpAny_bind ?_
  unfold Builtin.SmallTypes.ownedTupleIsFree
  refine wpAny_bind (wpAny_field hz rfl (x := .none) rfl (wpAny_pure ?_))
  simp only [if_true]
  refine wpAny_bind (wpAny_rule ?_)
  refine wpAny_bind (wpAny_field hz rfl (x := .ref TO) rfl ?_)
  refine wpAny_bind (wpAny_setField_rec hz (by simp) fun h₁ hz₁ hs₁ => ?_)
  replace hz₁ : IsZip h₁ z TI TO .ellipsis := hz₁
  refine wpAny_bind ?_
  refine zip_loop (z := z) (TO := TO) (k := k) _ _ _ _ (fun v j => rfl) (fun v j => rfl) (fun v j x => rfl) (fun v j x kept => rfl) its [] xs old _ _ (fun a ha => ZI.itr_at (hi a ha) fun o e => hs₁.extBut _ _ (D.iz a ha) e) (fun a ha => ZI.sq_at (hs a ha) fun o e => hs₁.extBut _ _ (D.lz a ha) e) (hs₁.extBut _ _ D.TOz hTO) ho (by rw [List.nil_append, ho]; exact hl) hx hg D.iTO D.ii D.li D.lTO fun h₅ t5 i5 z5 k5 => ?_
  refine wpAny_bind (wpAny_seqItems t5 rfl ?_)
  refine wpAny_bind (wpAny_newTuple ?_ (by show xs.toArray.toList.length ≤ sizeLine; rw [List.toList_toArray, hx]; exact hl))
  have hsz : h₅.objs.size = s.heap.objs.size := by rw [z5]; exact hs₁.1
  have hz₅ : IsZip h₅ z TI TO .ellipsis := k5 _ _ (Ne.symm D.TOz) (fun a ha => Ne.symm (D.iz a ha)) hz₁
  have hzlt : z < h₅.objs.size := Heap.lt_size hz₅
  have hTOlt : TO < h₅.objs.size := Heap.lt_size t5
  show wpAny _ _ (Builtin.SmallTypes.ownedTupleHandOut (.ref z) (.ref h₅.objs.size) >>= _) _ _ _
  refine wpAny_bind ?_
  unfold Builtin.SmallTypes.ownedTupleHandOut
  have hz₆ : IsZip (h₅.push { cls := .type "tuple", data := .seq xs.toArray.toList.toArray }) z TI TO .ellipsis := Heap.get?_push_of_some _ hz₅
  refine wpAny_bind (wpAny_setField_rec hz₆ (by simp) fun h₇ hz₇ hs₇ => ?_)
  replace hz₇ : IsZip h₇ z TI TO (rawInt h₅.objs.size) := hz₇
  refine wpAny_setField_rec hz₇ (by simp) fun h₈ hz₈ hs₈ => ?_
  replace hz₈ : IsZip h₈ z TI TO (rawInt h₅.objs.size) := hz₈
  have up : ∀ c o, c ≠ z → h₅.get? c = some o → h₈.get? c = some o := fun c o c1 e => hs₈.extBut _ _ c1 (hs₇.extBut _ _ c1 (Heap.get?_push_of_some _ e))
  have hT₈ : IsTT h₈ h₅.objs.size xs := hs₈.extBut _ _ (Nat.ne_of_gt hzlt) (hs₇.extBut _ _ (Nat.ne_of_gt hzlt) (Heap.get?_push_size _ rfl))
  have hz8 : h₈.objs.size = h₅.objs.size + 1 := by rw [hs₈.1, hs₇.1, Heap.size_push]
  rw [hsz] at hz₈ hT₈ hz8
  refine wpAny_pure ⟨_, rfl, ?_⟩
  show Q (.ref h₅.objs.size) _
  rw [hsz]
  exact hQ h₈ hz₈ (up _ _ D.TOz t5) (fun a ha => ZI.itr_at (i5 a ha) fun o e => up _ o (D.iz a ha) e) hT₈ hz8 fun c o c1 c2 c3 e => up c o c1 (k5 c o c2 c3 (hs₁.extBut _ _ c1 e))
theorem zip_end {z TI TO : Addr} {its : List ZI} {k : Nat} {old : List Value} {Q : PySem.Fin → Shared → Prop} (hh : A.handled = none) (D : ZA z TI TO its) (hne : its ≠ []) (hz : IsZip s.heap z TI TO .none) (hTI : IsTT s.heap TI (its.map fun a => .ref a.it)) (hTO : IsTT s.heap TO old) (ho : old.length = its.length) (hl : its.length ≤ sizeLine)
    (hi : ∀ a ∈ its, a.itr s.heap k) (hs : ∀ a ∈ its, a.sq s.heap) (he : ∃ a ∈ its, a.xs[k]? = none)
    (hE : ∀ h' e, (∀ c o, c ≠ z → c ≠ TO → (∀ a ∈ its, c ≠ a.it) → s.heap.get? c = some o → h'.get? c = some o) → (∃ o, h'.get? e = some o ∧ o.cls = .type "StopIteration") → E (.ref e) { s with heap := h' }) :
    wpAny (model prog w) A (Builtin.«zip.__next__» ⟨[.ref z], []⟩) Q E s := by
  show wpAny _ _ (field (.ref z) 2 >>= _) _ _ _
  refine wpAny_bind (wpAny_field hz rfl (x := .bool false) rfl ?_)
  show wpAny _ _ (field (.ref z) 3 >>= _) _ _ _
  refine wpAny_bind (wpAny_field hz rfl (x := .ref TI) rfl ?_)
  refine wpAny_bind (wpAny_seqItems hTI rfl ?_)
  have hemp : (its.map fun a => Value.ref a.it).toArray.isEmpty = false := by
    cases its with
    | nil => exact absurd rfl hne
    | cons _ _ => rfl
  show wpAny _ _ (if (its.map fun a => Value.ref a.it).toArray.isEmpty = true then _ else _) _ _ _
  rw [if_neg (by rw [hemp]; exact Bool.false_ne_true)]
  show wpAny _ _ (Builtin.SmallTypes.ownedTupleIsFree (.ref z) >>= _) _ _ _
  refine wpAny_bind ?_
  unfold Builtin.SmallTypes.ownedTupleIsFree
  refine wpAny_bind (wpAny_field hz rfl (x := .none) rfl (wpAny_pure ?_))
  simp only [if_true]
  refine wpAny_bind (wpAny_rule ?_)
  refine wpAny_bind (wpAny_field hz rfl (x := .ref TO) rfl ?_)
  refine wpAny_bind (wpAny_setField_rec hz (by simp) fun h₁ hz₁ hs₁ => ?_)
  replace hz₁ : IsZip h₁ z TI TO .ellipsis := hz₁
  refine wpAny_bind ?_
  exact zip_loop_end (z := z) (TI := TI) (TO := TO) (k := k) hh _ _ _ _ (fun v j => rfl) (fun v j => rfl) (fun v j x => rfl) (fun v j x kept => rfl) its [] old _ _ (fun a ha => ZI.itr_at (hi a ha) fun o e => hs₁.extBut _ _ (D.iz a ha) e) (fun a ha => ZI.sq_at (hs a ha) fun o e => hs₁.extBut _ _ (D.lz a ha) e) (hs₁.extBut _ _ D.TOz hTO) ho (by rw [List.nil_append, ho]; exact hl) he ⟨false, hz₁⟩ D.TOz D.iz D.iTO D.ii D.li D.lTO fun h' e k5 q => hE h' e (fun c o c1 c2 c3 q => k5 c o c1 c2 c3 (hs₁.extBut _ _ c1 q)) q
theorem zip_next {z TI TO : Addr} {its : List ZI} {k : Nat} {old xs : List Value} {Q : Option Value → Shared → Prop} (D : ZA z TI TO its) (hne : its ≠ []) (hz : IsZip s.heap z TI TO .none) (hTI : IsTT s.heap TI (its.map fun a => .ref a.it)) (hTO : IsTT s.heap TO old) (ho : old.length = its.length) (hl : its.length ≤ sizeLine)
    (hi : ∀ a ∈ its, a.itr s.heap k) (hs : ∀ a ∈ its, a.sq s.heap) (hx : xs.length = its.length) (hg : ∀ (i : Nat) a x, its[i]? = some a → xs[i]? = some x → a.xs[k]? = some x)
    (hQ : ∀ h', IsZip h' z TI TO (rawInt s.heap.objs.size) → IsTT h' TO xs → (∀ a ∈ its, a.itr h' (k + 1)) → IsTT h' s.heap.objs.size xs → h'.objs.size = s.heap.objs.size + 1 →
      (∀ c o, c ≠ z → c ≠ TO → (∀ a ∈ its, c ≠ a.it) → s.heap.get? c = some o → h'.get? c = some o) → Q (some (.ref s.heap.objs.size)) { s with heap := h' }) :
    wpAny (model prog w) A (pyNext (.ref z)) Q E s := by
  have hT : s.TypeIs (.ref z) "zip" := ⟨_, hz, rfl⟩
  unfold pyNext
  exact wpAny_bind (wpAny_attempt (wpAny_callSpecial?_slot (name := Str.ofString "__next__") hT F.slot_zip_next
    (wpAny_call_entry F.slot_zip_next hT F.entry_zip_next
      (zip_item D hne hz hTI hTO ho hl hi hs hx hg fun h' a1 a2 a3 a4 a5 a6 => wpAny_pure (hQ h' a1 a2 a3 a4 a5 a6)) (F.args_zip_next_1 _))))
theorem zip_stop {z TI TO : Addr} {its : List ZI} {k : Nat} {old : List Value} {Q : Option Value → Shared → Prop} (hh : A.handled = none) (D : ZA z TI TO its) (hne : its ≠ []) (hz : IsZip s.heap z TI TO .none) (hTI : IsTT s.heap TI (its.map fun a => .ref a.it)) (hTO : IsTT s.heap TO old) (ho : old.length = its.length) (hl : its.length ≤ sizeLine)
    (hi : ∀ a ∈ its, a.itr s.heap k) (hs : ∀ a ∈ its, a.sq s.heap) (he : ∃ a ∈ its, a.xs[k]? = none)
    (hQ : ∀ h', (∀ c o, c ≠ z → c ≠ TO → (∀ a ∈ its, c ≠ a.it) → s.heap.get? c = some o → h'.get? c = some o) → Q none { s with heap := h' }) : wpAny (model prog w) A (pyNext (.ref z)) Q E s := by
  have hT : s.TypeIs (.ref z) "zip" := ⟨_, hz, rfl⟩
  unfold pyNext
  refine wpAny_bind (wpAny_attempt (wpAny_callSpecial?_slot (name := Str.ofString "__next__") hT F.slot_zip_next
    (wpAny_call_entry F.slot_zip_next hT F.entry_zip_next (zip_end hh D hne hz hTI hTO ho hl hi hs he fun h' e hk he => ?_) (F.args_zip_next_1 _))))
  obtain ⟨o, ho, hc⟩ := he
  refine wpAny_bind (wpAny_isInstance (T := "StopIteration") (b := true) ⟨o, ho, hc⟩ isSubtype_stop ?_)
  exact wpAny_pure (hQ _ hk)
end
end WT
end
section
set_option Elab.async false
set_option linter.all false
set_option maxRecDepth 100000
set_option maxHeartbeats 4000000
/-! zip is made. -/
namespace WT
open PySem PySem.Spec PyProof.Rows
abbrev ZL := List (Bool × Addr × Array Value)
def sqOf (a : Bool × Addr × Array Value) (h : Heap) : Prop := (ZI.mk a.1 0 a.2.1 a.2.2).sq h
def mkZ : Nat → ZL → List ZI
  | _, [] => []
  | n, a :: r => ⟨a.1, n, a.2.1, a.2.2⟩ :: mkZ (n + 1) r
theorem mkZ_len : ∀ (n : Nat) (ls : ZL), (mkZ n ls).length = ls.length
  | _, [] => rfl
  | n, _ :: r => by show (mkZ (n + 1) r).length + 1 = r.length + 1; rw [mkZ_len]
theorem mkZ_mem : ∀ {n : Nat} {ls : ZL} {a : ZI}, a ∈ mkZ n ls → n ≤ a.it ∧ a.it < n + ls.length ∧ (a.t, a.l, a.xs) ∈ ls
  | _, [], _, h => by cases h
  | n, b :: r, a, h => by
    rcases List.mem_cons.mp h with rfl | h
    · exact ⟨Nat.le_refl _, Nat.lt_add_of_pos_right (Nat.succ_pos _), List.mem_cons_self⟩
    · obtain ⟨h1, h2, h3⟩ := mkZ_mem h
      exact ⟨Nat.le_of_succ_le h1, by show a.it < n + (r.length + 1); rw [Nat.add_comm r.length 1, ← Nat.add_assoc]; exact h2, List.mem_cons_of_mem _ h3⟩
theorem mkZ_nd : ∀ (n : Nat) (ls : ZL), ((mkZ n ls).map (·.it)).Nodup
  | _, [] => List.nodup_nil
  | n, a :: r => by
    show (n :: (mkZ (n + 1) r).map (·.it)).Nodup
    rw [List.nodup_cons]
    refine ⟨fun h => ?_, mkZ_nd (n + 1) r⟩
    obtain ⟨b, hb, e⟩ := List.mem_map.mp h
    have := (mkZ_mem hb).1
    omega
section
variable {prog : Program} {w : World} {A : Around} {E : Value → Shared → Prop}
theorem pyIter_z {s : Shared} {a : Bool × Addr × Array Value} {Q : Value → Shared → Prop} (hs : sqOf a s.heap)
    (h : ∀ h', (ZI.mk a.1 s.heap.objs.size a.2.1 a.2.2).itr h' 0 → (∀ c o, s.heap.get? c = some o → h'.get? c = some o) → h'.objs.size = s.heap.objs.size + 1 → Q (.ref s.heap.objs.size) { s with heap := h' }) :
    wpAny (model prog w) A (pyIter (.ref a.2.1)) Q E s := by
  obtain ⟨t, l, xs⟩ := a
  cases t with
  | true =>
    exact wpAny_pyIter_tuple (show s.heap.IsTuple l xs from hs) (h _ ⟨_, Heap.get?_push_size _ rfl, rfl, rfl⟩ (fun c o e => Heap.get?_push_of_some _ e) (Heap.size_push ..))
  | false =>
    exact wpAny_pyIter_list (show s.heap.IsList l xs from hs) (h _ ⟨_, Heap.get?_push_size _ rfl, rfl, rfl⟩ (fun c o e => Heap.get?_push_of_some _ e) (Heap.size_push ..))
theorem iter_loop (f : Value → Array Value → Sem (ForInStep (Array Value))) (hf : ∀ x arr, f x arr = holding arr.toList (pyIter x) >>= fun v => pure (.yield (arr.push v))) :
    ∀ (ls : ZL) (acc : List Value) (s : Shared) (Q : Array Value → Shared → Prop), (∀ a ∈ ls, sqOf a s.heap) →
      (∀ h', (∀ a ∈ mkZ s.heap.objs.size ls, a.itr h' 0) → (∀ c o, s.heap.get? c = some o → h'.get? c = some o) → h'.objs.size = s.heap.objs.size + ls.length → Q (acc ++ (mkZ s.heap.objs.size ls).map fun a => Value.ref a.it).toArray { s with heap := h' }) →
      wpAny (model prog w) A (forIn (ls.map fun a => Value.ref a.2.1) acc.toArray f) Q E s
  | [], acc, s, Q, _, hQ => by
    rw [List.map_nil, List.forIn_nil]
    have := hQ s.heap (fun a h => by cases h) (fun c o e => e) rfl
    rw [mkZ, List.map_nil, List.append_nil] at this
    exact wpAny_pure this
  | a :: ls, acc, s, Q, hs, hQ => by
    rw [List.map_cons, List.forIn_cons, hf]
    refine wpAny_bind (wpAny_bind (wpAny_holding (pyIter_z (hs a List.mem_cons_self) fun h1 i1 k1 z1 => wpAny_pure ?_)))
    show wpAny _ _ (forIn (ls.map fun a => Value.ref a.2.1) (acc.toArray.push (.ref s.heap.objs.size)) f) Q E _
    rw [List.push_toArray]
    refine iter_loop f hf ls (acc ++ [.ref s.heap.objs.size]) { s with heap := h1 } Q (fun b hb => ZI.sq_at (h' := h1) (hs b (List.mem_cons_of_mem _ hb)) fun o e => k1 _ _ e) fun h' q1 q2 q3 => ?_
    have z1' : ({ s with heap := h1 } : Shared).heap.objs.size = s.heap.objs.size + 1 := z1
    rw [z1'] at q1 q3 ⊢
    have := hQ h' (fun b hb => by
      rcases List.mem_cons.mp hb with rfl | hb
      · exact ZI.itr_at i1 fun o e => q2 _ _ e
      · exact q1 b hb) (fun c o e => q2 _ _ (k1 _ _ e)) (by rw [q3]; show _ = _ + (ls.length + 1); omega)
    rw [mkZ, List.map_cons] at this
    rw [List.append_assoc]
    exact this
theorem iterAll_z {ls : ZL} {us : List Value} (hu : us = ls.map fun a => Value.ref a.2.1) {s : Shared} {Q : List Value → Shared → Prop} (hs : ∀ a ∈ ls, sqOf a s.heap)
    (hQ : ∀ h', (∀ a ∈ mkZ s.heap.objs.size ls, a.itr h' 0) → (∀ c o, s.heap.get? c = some o → h'.get? c = some o) → h'.objs.size = s.heap.objs.size + ls.length → Q ((mkZ s.heap.objs.size ls).map fun a => Value.ref a.it) { s with heap := h' }) :
    wpAny (model prog w) A (Builtin.SmallTypes.iterAll us) Q E s := by
  subst hu
  unfold Builtin.SmallTypes.iterAll
  refine wpAny_bind (iter_loop _ (fun x arr => rfl) ls [] s _ hs fun h' q1 q2 q3 => wpAny_pure ?_)
  exact hQ h' q1 q2 q3
end
theorem meets_zip (us : List Value) (ls : ZL) (hu : us = ls.map fun a => Value.ref a.2.1) (hl : ls.length ≤ sizeLine) :
    Meets (Builtin.«zip.__new__» ⟨.type "zip" :: us, []⟩) (fun _ R s => (∀ a ∈ ls, sqOf a s.heap) ∧
      ∀ h' z TI TO, IsZip h' z TI TO .none → IsTT h' TI ((mkZ s.heap.objs.size ls).map fun a => .ref a.it) → IsTT h' TO ((mkZ s.heap.objs.size ls).map fun _ => .none) → (∀ a ∈ mkZ s.heap.objs.size ls, a.itr h' 0) → TI = s.heap.objs.size + ls.length → TO = TI + 1 → z = TO + 1 →
        (∀ c o, s.heap.get? c = some o → h'.get? c = some o) → R (.ok (.ret (.ref z))) { s with heap := h' }) :=
  .of_wp fun prog w A R s h => by
    obtain ⟨hs, hR⟩ := h
    have hsub := sub_zip
    have hn : Builtin.SmallTypes.newClass "zip" ⟨.type "zip" :: us, []⟩ = pure (.type "zip", us) := by
      have ht : isType (.type "zip") = pure true := rfl
      unfold Builtin.SmallTypes.newClass
      simp [hsub, ht]
    unfold Builtin.«zip.__new__»
    rw [hn]
    refine wpAny_bind (wpAny_pure ?_)
    show wpAny _ _ (Builtin.SmallTypes.iterAll us >>= _) _ _ _
    refine wpAny_bind (iterAll_z hu hs fun h1 i1 k1 z1 => ?_)
    have z1' : h1.objs.size = s.heap.objs.size + ls.length := z1
    have hm : ∀ {f : ZI → Value}, ((mkZ s.heap.objs.size ls).map f).length = ls.length := by intro f; rw [List.length_map, mkZ_len]
    refine wpAny_bind (wpAny_newTuple ?_ (by rw [hm]; exact hl))
    refine wpAny_bind (wpAny_newTuple ?_ (by rw [List.length_map, hm]; exact hl))
    refine wpAny_bind ?_
    unfold Builtin.SmallTypes.newRecord
    refine wpAny_newObj_type ?_ (by show 5 ≤ sizeLine + 2; rw [← szLine]; decide)
    refine wpAny_pure ⟨_, rfl, ?_⟩
    generalize hv : ((mkZ s.heap.objs.size ls).map fun a => Value.ref a.it) = vs
    have kp : ∀ (h : Heap) (o1 o2 o3 : Obj) c o, h.get? c = some o → (((h.push o1).push o2).push o3).get? c = some o := fun h o1 o2 o3 c o e => Heap.get?_push_of_some _ (Heap.get?_push_of_some _ (Heap.get?_push_of_some _ e))
    have e2 : (h1.push { cls := .type "tuple", data := .seq vs.toArray }).objs.size = h1.objs.size + 1 := Heap.size_push ..
    have e3 : ((h1.push { cls := .type "tuple", data := .seq vs.toArray }).push { cls := .type "tuple", data := .seq (vs.map fun _ => Value.none).toArray }).objs.size = h1.objs.size + 1 + 1 := by rw [Heap.size_push, e2]
    refine hR _ _ h1.objs.size (h1.push { cls := .type "tuple", data := .seq vs.toArray }).objs.size ?_ ?_ ?_ (fun a ha => ZI.itr_at (i1 a ha) fun o e => kp _ _ _ _ _ _ e) z1' e2 ?_ fun c o e => kp _ _ _ _ _ _ (k1 c o e)
    · exact Heap.get?_push_size _ rfl
    · rw [hv]
      exact Heap.get?_push_of_some _ (Heap.get?_push_of_some _ (Heap.get?_push_size _ rfl))
    · have ev : ((mkZ s.heap.objs.size ls).map fun _ => Value.none) = vs.map fun _ => Value.none := by rw [← hv, List.map_map]; rfl
      rw [ev]
      exact Heap.get?_push_of_some _ (Heap.get?_push_size _ rfl)
    · exact Heap.size_push ..
section
variable {prog : Program} {w : World} {A : Around} {E : Value → Shared → Prop} {s : Shared}
theorem typeCall_zip_3 (a b c : Value) : checkTypeCall "zip" ⟨[a, b, c], []⟩ = pure () := by kernel_rfl
theorem newCall_zip_3 (a b c : Value) : checkBuiltinCall "zip.__new__" ⟨[.type "zip", a, b, c], []⟩ = pure () := by kernel_rfl
theorem args_object_init_4 (a b c d : Value) : argsOk "object.__init__" ⟨[a, b, c, d], []⟩ := by
  unfold argsOk; rw [signature?_of (id := "object.__init__") (n := ['_', '_', 't', 'i', 'n', 'i', '_', '_']) (o := ['t', 'c', 'e', 'j', 'b', 'o']) (by kernel_rfl) F.owner_object]; kernel_rfl
/-- zip of two or three -/
theorem call_zip {ls : ZL} {Q : Value → Shared → Prop} (h23 : ls.length = 2 ∨ ls.length = 3) (hs : ∀ a ∈ ls, sqOf a s.heap)
    (hQ : ∀ h' z TI TO, IsZip h' z TI TO .none → IsTT h' TI ((mkZ s.heap.objs.size ls).map fun a => .ref a.it) → IsTT h' TO ((mkZ s.heap.objs.size ls).map fun _ => .none) → (∀ a ∈ mkZ s.heap.objs.size ls, a.itr h' 0) → TI = s.heap.objs.size + ls.length → TO = TI + 1 → z = TO + 1 →
        (∀ c o, s.heap.get? c = some o → h'.get? c = some o) → Q (.ref z) { s with heap := h' }) : wpAny (model prog w) A (call (.type "zip") (ls.map fun a => .ref a.2.1)) Q E s := by
  have hl : ls.length ≤ sizeLine := by
    rw [← szLine]
    rcases h23 with h | h <;> rw [h] <;> decide
  have M := meets_zip _ ls rfl hl
  rcases h23 with h | h
  · match ls, h, hs, hQ, M with
    | [a, b], _, hs, hQ, M => exact callType_new F.called_zip (by decide) (F.typeCall_zip_2 _ _) (F.newCall_zip_2 _ _) (fun obj => F.args_object_init_3 obj _ _) F.entry_zip_new M ⟨hs, fun h' z TI TO a1 a2 a3 a4 a5 a6 a7 a8 => ⟨⟨_, a1, rfl⟩, hQ h' z TI TO a1 a2 a3 a4 a5 a6 a7 a8⟩⟩
  · match ls, h, hs, hQ, M with
    | [a, b, c], _, hs, hQ, M => exact callType_new F.called_zip (by decide) (typeCall_zip_3 _ _ _) (newCall_zip_3 _ _ _) (fun obj => args_object_init_4 obj _ _ _) F.entry_zip_new M ⟨hs, fun h' z TI TO a1 a2 a3 a4 a5 a6 a7 a8 => ⟨⟨_, a1, rfl⟩, hQ h' z TI TO a1 a2 a3 a4 a5 a6 a7 a8⟩⟩
end
end WT
end
section
set_option Elab.async false
set_option linter.all false
set_option maxRecDepth 100000
set_option maxHeartbeats 4000000
/-! zip as something that is walked. -/
namespace WT
open PySem PySem.Spec PyProof.Rows L2
def SqB (K : KF) (t : Bool) (H : Hp) (l : Addr) (xs : List V) : Prop := match t with
  | true => SqT K H l xs
  | false => SqL K H l xs
inductive ZV (K : KF) (H : Hp) : List ZI → List (List V) → Prop
  | nil : ZV K H [] []
  | cons {b : ZI} {xs : List V} {bs : List ZI} {xss : List (List V)} : SqB K b.t H b.l xs → ZV K H bs xss → ZV K H (b :: bs) (xs :: xss)
/-- with their items as they stand -/
inductive Fa (h : Heap) : List ZI → List (List V) → List ZI → Prop
  | nil : Fa h [] [] []
  | cons {b : ZI} {xs : List V} {its : List Value} {bs : List ZI} {xss : List (List V)} {zs : List ZI} : Vals xs its → (ZI.mk b.t b.it b.l its.toArray).sq h → Fa h bs xss zs → Fa h (b :: bs) (xs :: xss) (⟨b.t, b.it, b.l, its.toArray⟩ :: zs)
theorem ZV.build {X : Cx} {pins : List (Addr × Obj)} {σ : L2.St} {H : Hp} {s : Shared} (I : Inv X pins σ H s) {bs : List ZI} {xss : List (List V)} (z : ZV X.K H bs xss) : ∃ zs, Fa s.heap bs xss zs := by
  induction z with
  | nil => exact ⟨[], .nil⟩
  | @cons b xs bs xss h _ ih =>
    obtain ⟨zs, f⟩ := ih
    obtain ⟨t, it, l, ys⟩ := b
    cases t with
    | true =>
      obtain ⟨its, rv, p, _⟩ := I.tuple h
      exact ⟨_, .cons rv (show s.heap.IsTuple l its.toArray from p) f⟩
    | false =>
      obtain ⟨its, rv, p, _⟩ := I.list h
      exact ⟨_, .cons rv (show s.heap.IsList l its.toArray from p.isList) f⟩
theorem ZV.uniq {X : Cx} {pins : List (Addr × Obj)} {σ : L2.St} {H : Hp} {s : Shared} (I : Inv X pins σ H s) {bs : List ZI} {xss : List (List V)} (z : ZV X.K H bs xss) : ∀ {yss : List (List V)}, ZV X.K H bs yss → yss = xss := by
  induction z with
  | nil => intro yss q; cases q; rfl
  | @cons b xs bs xss h _ ih =>
    intro yss q
    cases q with
    | cons h2 q2 =>
      rw [ih q2]
      obtain ⟨t, it, l, ys⟩ := b
      cases t with
      | true => rw [I.tuple_inj (show SqT X.K H l _ from h2) (show SqT X.K H l _ from h)]
      | false => rw [I.list_inj (show SqL X.K H l _ from h2) (show SqL X.K H l _ from h)]
section
variable {h : Heap} {bs zs : List ZI} {xss : List (List V)}
theorem Fa.map (f : Fa h bs xss zs) : zs.map (fun a => Value.ref a.it) = bs.map (fun a => Value.ref a.it) ∧ zs.map (·.it) = bs.map (·.it) ∧ zs.length = bs.length ∧ xss.length = bs.length := by
  induction f with
  | nil => exact ⟨rfl, rfl, rfl, rfl⟩
  | cons _ _ _ ih => obtain ⟨h1, h2, h3, h4⟩ := ih; exact ⟨by rw [List.map_cons, List.map_cons, h1], by rw [List.map_cons, List.map_cons, h2], by rw [List.length_cons, List.length_cons, h3], by rw [List.length_cons, List.length_cons, h4]⟩
theorem Fa.mem (f : Fa h bs xss zs) : ∀ a ∈ zs, a.sq h ∧ ∃ b ∈ bs, a.t = b.t ∧ a.it = b.it ∧ a.l = b.l := by
  induction f with
  | nil => intro a h; cases h
  | @cons b _ _ _ _ _ _ hs _ ih =>
    intro a ha
    rcases List.mem_cons.mp ha with rfl | ha
    · exact ⟨hs, b, List.mem_cons_self, rfl, rfl, rfl⟩
    · obtain ⟨h1, c, hc, h2⟩ := ih a ha
      exact ⟨h1, c, List.mem_cons_of_mem _ hc, h2⟩
theorem Fa.mem' (f : Fa h bs xss zs) : ∀ b ∈ bs, ∃ a ∈ zs, a.t = b.t ∧ a.it = b.it ∧ a.l = b.l := by
  induction f with
  | nil => intro a h; cases h
  | @cons b _ _ _ _ _ _ hs _ ih =>
    intro c hc
    rcases List.mem_cons.mp hc with rfl | hc
    · exact ⟨_, List.mem_cons_self, rfl, rfl, rfl⟩
    · obtain ⟨a, ha, h2⟩ := ih c hc
      exact ⟨a, List.mem_cons_of_mem _ ha, h2⟩
theorem Fa.items {i : Nat} (f : Fa h bs xss zs) (hi : ∀ xs ∈ xss, i < xs.length) : ∃ us ys, us.length = zs.length ∧ ys.length = bs.length ∧ Vals ys us ∧ (∀ (j : Nat) a x, zs[j]? = some a → us[j]? = some x → a.xs[i]? = some x) ∧ (∀ (j : Nat) xs y, xss[j]? = some xs → ys[j]? = some y → xs[i]? = some y) := by
  induction f with
  | nil => exact ⟨[], [], rfl, rfl, .nil, fun j a x h => by simp at h, fun j a x h => by simp at h⟩
  | @cons b xs its bs xss zs rv _ _ ih =>
    obtain ⟨us, ys, h1, h2, h3, h4, h5⟩ := ih fun q hq => hi q (List.mem_cons_of_mem _ hq)
    have hxl : i < xs.length := hi xs List.mem_cons_self
    have hx : xs[i]? = some (xs[i]'hxl) := List.getElem?_eq_getElem hxl
    obtain ⟨u, hu, ru⟩ := rv.get hx
    refine ⟨u :: us, (xs[i]'hxl) :: ys, by rw [List.length_cons, List.length_cons, h1], by rw [List.length_cons, List.length_cons, h2], .cons ru h3, fun j a x q1 q2 => ?_, fun j q y q1 q2 => ?_⟩
    · cases j with
      | zero => simp at q1 q2; subst q1; subst q2; simpa using hu
      | succ j => exact h4 j a x (by simpa using q1) (by simpa using q2)
    · cases j with
      | zero => simp at q1 q2; subst q1; subst q2; exact hx
      | succ j => exact h5 j q y (by simpa using q1) (by simpa using q2)
theorem Fa.stop {i : Nat} (f : Fa h bs xss zs) (hi : ∃ xs ∈ xss, xs.length ≤ i) : ∃ a ∈ zs, a.xs[i]? = none := by
  induction f with
  | nil => obtain ⟨_, h, _⟩ := hi; cases h
  | @cons b xs its bs xss zs rv _ _ ih =>
    obtain ⟨q, hq, hl⟩ := hi
    rcases List.mem_cons.mp hq with rfl | hq
    · refine ⟨_, List.mem_cons_self, ?_⟩
      have := rv.length
      simp
      omega
    · obtain ⟨a, ha, h1⟩ := ih ⟨q, hq, hl⟩
      exact ⟨a, List.mem_cons_of_mem _ ha, h1⟩
end
def Itn (K : KF) (bs : List ZI) : L2.It :=
  ⟨fun i H => ∃ xss, ZV K H bs xss ∧ ∀ xs ∈ xss, i < xs.length,
    fun i H v H' => ∃ T ys, v = .ref T ∧ H T = none ∧ H' = upd H T (.tup ys) ∧ ys.length = bs.length ∧ ∀ xss, ZV K H bs xss → ∀ (j : Nat) xs y, xss[j]? = some xs → ys[j]? = some y → xs[i]? = some y,
    fun i H => ∃ xss, ZV K H bs xss ∧ ∃ xs ∈ xss, xs.length ≤ i⟩
theorem za_of {z TI TO : Addr} {h : Heap} {bs zs : List ZI} {xss : List (List V)} (D : ZA z TI TO bs) (f : Fa h bs xss zs) : ZA z TI TO zs where
  TIz := D.TIz
  TOz := D.TOz
  TITO := D.TITO
  iz := fun a ha => by obtain ⟨_, b, hb, _, e, _⟩ := f.mem a ha; rw [e]; exact D.iz b hb
  iTI := fun a ha => by obtain ⟨_, b, hb, _, e, _⟩ := f.mem a ha; rw [e]; exact D.iTI b hb
  iTO := fun a ha => by obtain ⟨_, b, hb, _, e, _⟩ := f.mem a ha; rw [e]; exact D.iTO b hb
  ii := by rw [f.map.2.1]; exact D.ii
  lz := fun a ha => by obtain ⟨_, b, hb, _, _, e⟩ := f.mem a ha; rw [e]; exact D.lz b hb
  lTO := fun a ha => by obtain ⟨_, b, hb, _, _, e⟩ := f.mem a ha; rw [e]; exact D.lTO b hb
  li := fun a ha c hc => by
    obtain ⟨_, b, hb, _, _, e⟩ := f.mem a ha
    obtain ⟨_, d, hd, _, e2, _⟩ := f.mem c hc
    rw [e, e2]; exact D.li b hb d hd
theorem itr_of {a b : ZI} {h : Heap} {k : Nat} (e1 : a.t = b.t) (e2 : a.it = b.it) (e3 : a.l = b.l) (x : b.itr h k) : a.itr h k := by
  unfold ZI.itr at x ⊢
  rw [e1, e2, e3]
  exact x
theorem turn_zipN {P : Program} {w : World} {K : KF} {elts : List Expr} {kk : Nat} {tpos : Pos} {z TI TO : Addr} {bs : List ZI} (D : ZA z TI TO bs) (hne : bs ≠ []) (hl : bs.length ≤ sizeLine) :
    Turn P w K (.Tuple elts kk tpos) (Itn K bs) (z :: TI :: TO :: bs.map (·.it)) z (fun i h => IsZip h z TI TO .none ∧ IsTT h TI (bs.map fun a => .ref a.it) ∧ (∃ old, old.length = bs.length ∧ IsTT h TO old) ∧ ∀ a ∈ bs, a.itr h i) where
  mem := List.mem_cons_self
  obj := fun i h st c hc => by
    obtain ⟨hz, hTI, ⟨old, _, hTO⟩, hi⟩ := st
    rcases List.mem_cons.mp hc with rfl | hc
    · exact ⟨_, hz, fun v q => nomatch q⟩
    · rcases List.mem_cons.mp hc with rfl | hc
      · exact ⟨_, hTI, fun v q => nomatch q⟩
      · rcases List.mem_cons.mp hc with rfl | hc
        · exact ⟨_, hTO, fun v q => nomatch q⟩
        · obtain ⟨a, ha, rfl⟩ := List.mem_map.mp hc
          have := hi a ha
          unfold ZI.itr at this
          cases e : a.t with
          | true => rw [e] at this; obtain ⟨o, e1, _, d1⟩ := this; exact ⟨o, e1, fun v q => by rw [d1] at q; cases q⟩
          | false => rw [e] at this; obtain ⟨o, e1, _, d1⟩ := this; exact ⟨o, e1, fun v q => by rw [d1] at q; cases q⟩
  keep := fun i h h' st k => by
    obtain ⟨hz, hTI, ⟨old, ho, hTO⟩, hi⟩ := st
    exact ⟨k z (by simp) _ hz, k TI (by simp) _ hTI, ⟨old, ho, k TO (by simp) _ hTO⟩, fun a ha => ZI.itr_at (hi a ha) fun o q => k _ (List.mem_cons_of_mem _ (List.mem_cons_of_mem _ (List.mem_cons_of_mem _ (List.mem_map.mpr ⟨a, ha, rfl⟩)))) o q⟩
  item := by
    intro X hP hw hK hc i pins s σ H E I hf st hg
    subst hP hw hK
    obtain ⟨hz, hTI, ⟨old, ho, hTO⟩, hi⟩ := st
    obtain ⟨xss, zv, hlt⟩ := hg
    obtain ⟨zs, f⟩ := zv.build I
    obtain ⟨m1, m2, m3, m4⟩ := f.map
    obtain ⟨us, ys, l1, l2, rv, g1, g2⟩ := f.items hlt
    have hzl : z < s.heap.objs.size := Heap.lt_size hz
    have hne' : zs ≠ [] := fun e => hne (by rw [e] at m3; exact List.length_eq_zero_iff.mp m3.symm)
    refine zip_next (its := zs) (za_of D f) hne' hz (by rw [m1]; exact hTI) hTO (by rw [ho, m3]) (by rw [m3]; exact hl) (fun a ha => ?_) (fun a ha => (f.mem a ha).1) l1 g1 fun h' z' TO' i' hT hsz hk => ?_
    · obtain ⟨_, b, hb, e1, e2, e3⟩ := f.mem a ha
      exact itr_of e1 e2 e3 (hi b hb)
    refine ⟨_, rfl, wpAny_letOwnedTupleGo_zip (s := { s with heap := h' }) z' fun h'' z'' sb => ?_⟩
    have hT2 : IsTT h'' s.heap.objs.size us := (sb.2 _ (Nat.ne_of_gt hzl)).trans hT
    have yl : ys.length ≤ sizeLine := by rw [l2]; exact hl
    have new : ObjOk X.prog X.w (upd H s.heap.objs.size (.tup ys)) h'' s.heap.objs.size (.tup ys) := ⟨yl, us, rv, ⟨_, hT2, rfl, _, rfl⟩⟩
    have inz : ∀ a ∈ zs, a.it ∈ bs.map (·.it) := fun a ha => by rw [← m2]; exact List.mem_map.mpr ⟨a, ha, rfl⟩
    have I1 : Inv X pins σ (upd H s.heap.objs.size (.tup ys)) { s with heap := h'' } :=
      I.turnedNew (t' := s.toks) (ch := z :: TI :: TO :: bs.map (·.it)) (fun c o hb q => (sb.2 c (fun q' => hb (by simp [q']))).trans (hk c o (fun q' => hb (by simp [q'])) (fun q' => hb (by simp [q'])) (fun a ha q' => hb (List.mem_cons_of_mem _ (List.mem_cons_of_mem _ (List.mem_cons_of_mem _ (by rw [q']; exact inz a ha))))) q)) hf (Nat.le_refl _) new
    refine ⟨.ref s.heap.objs.size, _, I1, rfl, ⟨_, ys, rfl, I.hok.fresh (Nat.le_refl _), rfl, l2, fun yss q j xs y q1 q2 => ?_⟩, ⟨z'', ?_, ⟨us, by rw [l1, m3], ?_⟩, fun a ha => ?_⟩, fun c hcm => ?_⟩
    · rw [zv.uniq I q] at q1
      exact g2 j xs y q1 q2
    · exact (sb.2 _ D.TIz).trans (hk _ _ D.TIz D.TITO (fun a ha q => by obtain ⟨_, b, hb, _, e, _⟩ := f.mem a ha; exact D.iTI b hb (e ▸ q.symm)) hTI)
    · exact (sb.2 _ D.TOz).trans TO'
    · obtain ⟨c, hc2, e1, e2, e3⟩ := f.mem' a ha
      exact ZI.itr_at (itr_of e1.symm e2.symm e3.symm (i' c hc2)) fun o q => (sb.2 _ (D.iz a ha)).trans q
    · have hlt : c < s.heap.objs.size := by
        rcases List.mem_cons.mp hcm with rfl | hcm
        · exact hzl
        · rcases List.mem_cons.mp hcm with rfl | hcm
          · exact Heap.lt_size hTI
          · rcases List.mem_cons.mp hcm with rfl | hcm
            · exact Heap.lt_size hTO
            · obtain ⟨a, ha, rfl⟩ := List.mem_map.mp hcm
              exact ZI.lt (hi a ha)
      rw [upd_ne (Nat.ne_of_lt hlt)]
      exact (hf c hcm).1
  done := by
    intro X hP hw hK hc i pins s σ H E I hf st hg
    subst hP hw hK
    obtain ⟨hz, hTI, ⟨old, ho, hTO⟩, hi⟩ := st
    obtain ⟨xss, zv, hst⟩ := hg
    obtain ⟨zs, f⟩ := zv.build I
    obtain ⟨m1, m2, m3, m4⟩ := f.map
    have hne' : zs ≠ [] := fun e => hne (by rw [e] at m3; exact List.length_eq_zero_iff.mp m3.symm)
    have inz : ∀ a ∈ zs, a.it ∈ bs.map (·.it) := fun a ha => by rw [← m2]; exact List.mem_map.mpr ⟨a, ha, rfl⟩
    refine zip_stop (its := zs) (I.ok.hd hc) (za_of D f) hne' hz (by rw [m1]; exact hTI) hTO (by rw [ho, m3]) (by rw [m3]; exact hl) (fun a ha => ?_) (fun a ha => (f.mem a ha).1) (f.stop hst) fun h' hk => ⟨rfl, I.turnedL (t' := s.toks) (ch := z :: TI :: TO :: bs.map (·.it)) (fun c o hb q =>
      hk c o (fun q' => hb (by simp [q'])) (fun q' => hb (by simp [q'])) (fun a ha q' => hb (List.mem_cons_of_mem _ (List.mem_cons_of_mem _ (List.mem_cons_of_mem _ (by rw [q']; exact inz a ha))))) q) hf⟩
    obtain ⟨_, b, hb, e1, e2, e3⟩ := f.mem a ha
    exact itr_of e1 e2 e3 (hi b hb)
  self := fun A i s Q E st h => wpAny_pyIter_zip st.1 h
end WT
end
section
set_option Elab.async false
set_option linter.all false
set_option maxRecDepth 100000
set_option maxHeartbeats 4000000
/-! zip of what the small interpreter walks. -/
namespace WT
open PySem PySem.Spec PyProof.Rows L2
abbrev tl (a : ZI) : Bool × Addr := (a.t, a.l)
theorem ZV.of {K : KF} {H : Hp} {bs : List ZI} {xss : List (List V)} (z : ZV K H bs xss) : ∀ {cs : List ZI}, cs.map tl = bs.map tl → ZV K H cs xss := by
  induction z with
  | nil =>
    intro cs e
    cases cs with
    | nil => exact .nil
    | cons _ _ => cases e
  | @cons b xs bs xss h _ ih =>
    intro cs e
    cases cs with
    | nil => cases e
    | cons c cs =>
      rw [List.map_cons, List.map_cons] at e
      injection e with e1 e2
      injection e1 with e3 e4
      refine .cons ?_ (ih e2)
      rw [e3, e4]
      exact h
def iZipN (K : KF) (ta : TA) : TI := fun σ H R => ta σ H fun vs H1 => ∃ (bs : List ZI) (xss : List (List V)), vs = bs.map (fun a => V.ref a.l) ∧ (bs.length = 2 ∨ bs.length = 3) ∧ ZV K H1 bs xss ∧ ∀ base : List ZI, base.map tl = bs.map tl → R (Itn K base) H1
theorem vals_refs : ∀ {bs : List ZI} {us : List Value}, Vals (bs.map fun a => V.ref a.l) us → us = bs.map fun a => Value.ref a.l
  | [], _, .nil => rfl
  | b :: bs, _, .cons r rr => by
    rw [vals_refs rr]
    cases r
    rfl
theorem mkZ_tl : ∀ (n : Nat) (ls : ZL), (mkZ n ls).map tl = ls.map fun a => (a.1, a.2.1)
  | _, [] => rfl
  | n, a :: r => by
    show tl ⟨a.1, n, a.2.1, a.2.2⟩ :: (mkZ (n + 1) r).map tl = _
    rw [mkZ_tl]
    rfl
theorem sq_lt {a : ZI} {h : Heap} (x : a.sq h) : a.l < h.objs.size := by
  unfold ZI.sq at x
  cases c : a.t with
  | true => rw [c] at x; obtain ⟨_, e, _⟩ := x; exact Heap.lt_size e
  | false => rw [c] at x; obtain ⟨_, e, _⟩ := x; exact Heap.lt_size e
theorem Fa.tl {h : Heap} {bs zs : List ZI} {xss : List (List V)} (f : Fa h bs xss zs) : zs.map WT.tl = bs.map WT.tl ∧ zs.map (fun a => Value.ref a.l) = bs.map (fun a => Value.ref a.l) := by
  induction f with
  | nil => exact ⟨rfl, rfl⟩
  | cons _ _ _ ih => exact ⟨by rw [List.map_cons, List.map_cons, ih.1], by rw [List.map_cons, List.map_cons, ih.2]⟩
theorem pi_zipN {X : Cx} {e : Expr} {es : List Expr} {ta : TA} {p pos tpos : Pos} {elts : List Expr} {kk : Nat} (hg : Gl X "zip") (hm : X.mg "zip" = none) (ha : PA X (e :: es) ta)
    (hs : starEach (e :: es) X.env = (false, eval e X.env) :: starEach es X.env) (hpl : (backTo pos (starEach es X.env)).any (·.1) = false) :
    PI X (.Tuple elts kk tpos) (.Call (.Name "zip" p) (e :: es) [] pos) (iZipN X.K ta) := by
  refine ⟨fun pins s σ H R I h => ?_⟩
  refine Call_ (ld_blt I hg hm PyProof.Rows.boot_zip (PyProof.Rows.callWith_type1 (thn (ha.run pos pins s σ H _ I h) fun us s1 ⟨vs, H1, I1, r1, q1⟩ => ?_) hs hpl))
  obtain ⟨bs, xss, rfl, h23, zv, q⟩ := q1
  obtain rfl := vals_refs r1
  obtain ⟨zs, f⟩ := zv.build I1
  obtain ⟨m1, m2, m3, m4⟩ := f.map
  obtain ⟨t1, t2⟩ := f.tl
  have hls : (bs.map fun a => Value.ref a.l) = (zs.map fun a => (a.t, a.l, a.xs)).map fun a => Value.ref a.2.1 := by rw [List.map_map, ← t2]; rfl
  rw [hls]
  have hlen : (zs.map fun a => (a.t, a.l, a.xs)).length = bs.length := by rw [List.length_map, m3]
  refine call_zip (by rw [hlen]; exact h23) (fun a ha => ?_) fun h' z TI TO hz hTI hTO hi e1 e2 e3 hk => wpAny_pyIter_zip hz ?_
  · obtain ⟨b, hb, rfl⟩ := List.mem_map.mp ha
    exact (f.mem b hb).1
  · generalize hb : mkZ s1.heap.objs.size (zs.map fun a => (a.t, a.l, a.xs)) = base at hTI hTO hi
    have bt : base.map tl = bs.map tl := by rw [← hb, mkZ_tl, List.map_map, ← t1]; rfl
    have bl : base.length = bs.length := by rw [← hb, mkZ_len, hlen]
    have I2 : Inv X pins σ H1 { s1 with heap := h' } := I1.kept (t' := s1.toks) hk
    have lo : ∀ a ∈ base, s1.heap.objs.size ≤ a.it ∧ a.it < s1.heap.objs.size + bs.length ∧ a.l < s1.heap.objs.size := fun a ha => by
      rw [← hb] at ha
      obtain ⟨k1, k2, k3⟩ := mkZ_mem ha
      rw [hlen] at k2
      obtain ⟨b, hb2, e⟩ := List.mem_map.mp k3
      have := sq_lt (f.mem b hb2).1
      injection e with _ e
      injection e with e _
      exact ⟨k1, k2, by rw [← e]; exact this⟩
    rw [hlen] at e1
    have hb0 : 0 < bs.length := by rcases h23 with h | h <;> rw [h] <;> decide
    have D : ZA z TI TO base := ⟨Nat.ne_of_lt (by rw [e3, e2]; exact Nat.lt_succ_of_lt (Nat.lt_succ_self _)), Nat.ne_of_lt (by rw [e3]; exact Nat.lt_succ_self _), Nat.ne_of_lt (by rw [e2]; exact Nat.lt_succ_self _),
      fun a ha => Nat.ne_of_lt (by have := (lo a ha).2.1; rw [e3, e2, e1]; exact Nat.lt_of_lt_of_le this (Nat.le_succ_of_le (Nat.le_succ _))), fun a ha => Nat.ne_of_lt (by have := (lo a ha).2.1; rw [e1]; exact this),
      fun a ha => Nat.ne_of_lt (by have := (lo a ha).2.1; rw [e2, e1]; exact Nat.lt_succ_of_lt this), by rw [← hb]; exact mkZ_nd _ _,
      fun a ha => Nat.ne_of_lt (by have := (lo a ha).2.2; rw [e3, e2, e1]; exact Nat.lt_of_lt_of_le this (Nat.le_succ_of_le (Nat.le_succ_of_le (Nat.le_add_right _ _)))), fun a ha => Nat.ne_of_lt (by have := (lo a ha).2.2; rw [e2, e1]; exact Nat.lt_of_lt_of_le this (Nat.le_succ_of_le (Nat.le_add_right _ _))),
      fun a ha b hb => Nat.ne_of_lt (Nat.lt_of_lt_of_le (lo a ha).2.2 (lo b hb).1)⟩
    have hne : base ≠ [] := fun e => by rw [e] at bl; rw [← bl] at hb0; exact absurd hb0 (Nat.lt_irrefl _)
    have hsz : base.length ≤ sizeLine := by rw [bl, ← szLine]; rcases h23 with h | h <;> rw [h] <;> decide
    refine ⟨z, z :: TI :: TO :: base.map (·.it), _, Itn X.K base, H1, rfl, I2, turn_zipN D hne hsz, ⟨hz, hTI, ⟨_, List.length_map .., hTO⟩, hi⟩, fun c hc => ?_, q base bt⟩
    have hle : s1.heap.objs.size ≤ c := by
      rcases List.mem_cons.mp hc with rfl | hc
      · rw [e3, e2, e1]; exact Nat.le_succ_of_le (Nat.le_succ_of_le (Nat.le_add_right _ _))
      · rcases List.mem_cons.mp hc with rfl | hc
        · rw [e1]; exact Nat.le_add_right _ _
        · rcases List.mem_cons.mp hc with rfl | hc
          · rw [e2, e1]; exact Nat.le_succ_of_le (Nat.le_add_right _ _)
          · obtain ⟨a, ha, rfl⟩ := List.mem_map.mp hc
            exact (lo a ha).1
    exact I1.fpOk hle (I1.hok.fresh hle)
/-! the rows -/
def HeldT (K : KF) (c : Bool) (t : Bool) (g : Gh) (H : Hp) (l : Addr) (xs : List PV) (vs : List V) : Prop := Reps K g H xs vs ∧ match t with
  | true => FT K g H l vs
  | false => FL K g H l vs ∨ (c = true ∧ H l = some (.lst vs) ∧ l ∉ g.L)
theorem HeldT.sq {K : KF} {c t : Bool} {g : Gh} {H : Hp} {l : Addr} {xs : List PV} {vs : List V} (h : HeldT K c t g H l xs vs) : SqB K t H l vs := by
  obtain ⟨_, h⟩ := h
  cases t with
  | true => exact FT.sq h
  | false =>
    rcases h with h | ⟨_, h, _⟩
    · exact FL.sq h
    · exact .inl (.inl h)
theorem HeldT.lat {K : KF} {c t : Bool} {g g' : Gh} {H H' : Hp} {l : Addr} {xs : List PV} {vs : List V} (h : HeldT K c t g H l xs vs) (x : Lat c g H g' H') : HeldT K c t g' H' l xs vs := by
  obtain ⟨r, h⟩ := h
  obtain ⟨m, e⟩ := x
  refine ⟨r.mono m, ?_⟩
  cases t with
  | true =>
    rcases h with ⟨h1, h2⟩ | h
    · exact .inl ⟨m.f _ h1, m.k _ _ h1 h2⟩
    · exact .inr h
  | false =>
    rcases h with ⟨h1, h2⟩ | ⟨hc, h1, h2⟩
    · refine .inl ⟨m.f _ h1, ?_⟩
      rcases h2 with h2 | ⟨o, h2⟩
      · exact .inl (m.k _ _ h1 h2)
      · exact .inr ⟨o, m.k _ _ h1 h2⟩
    · have e := e hc
      refine .inr ⟨hc, e.hk l _ h1 h2, fun z => ?_⟩
      rcases e.ln l z with z | z
      · exact h2 z
      · rw [h1] at z; cases z
inductive HH (K : KF) (c : Bool) (g : Gh) (H : Hp) : List ZI → List (List PV) → List (List V) → Prop
  | nil : HH K c g H [] [] []
  | cons {b : ZI} {xs : List PV} {vs : List V} {bs : List ZI} {xss : List (List PV)} {vss : List (List V)} : HeldT K c b.t g H b.l xs vs → HH K c g H bs xss vss → HH K c g H (b :: bs) (xs :: xss) (vs :: vss)
section
variable {K : KF} {c : Bool} {g g' : Gh} {H H' : Hp} {bs : List ZI} {xss : List (List PV)} {vss : List (List V)}
theorem HH.lat (h : HH K c g H bs xss vss) (x : Lat c g H g' H') : HH K c g' H' bs xss vss := by
  induction h with
  | nil => exact .nil
  | cons a _ ih => exact .cons (a.lat x) ih
theorem HH.zv (h : HH K c g H bs xss vss) : ZV K H bs vss := by
  induction h with
  | nil => exact .nil
  | cons a _ ih => exact .cons a.sq ih
theorem HH.lens (h : HH K c g H bs xss vss) : (∀ n, (∀ xs ∈ xss, n < xs.length) → ∀ vs ∈ vss, n < vs.length) ∧ (∀ n, (∃ xs ∈ xss, xs.length ≤ n) → ∃ vs ∈ vss, vs.length ≤ n) := by
  induction h with
  | nil => exact ⟨(fun n _ vs h => by cases h), (fun n ⟨_, h, _⟩ => by cases h)⟩
  | @cons b xs vs bs xss vss a _ ih =>
    have hl := a.1.length
    refine ⟨fun n hn ws hw => ?_, fun n ⟨ys, hy, hl2⟩ => ?_⟩
    · rcases List.mem_cons.mp hw with rfl | hw
      · rw [hl]; exact hn xs List.mem_cons_self
      · exact ih.1 n (fun q hq => hn q (List.mem_cons_of_mem _ hq)) ws hw
    · rcases List.mem_cons.mp hy with rfl | hy
      · exact ⟨vs, List.mem_cons_self, by rw [hl]; exact hl2⟩
      · obtain ⟨ws, h1, h2⟩ := ih.2 n ⟨ys, hy, hl2⟩
        exact ⟨ws, List.mem_cons_of_mem _ h1, h2⟩
theorem HH.reps {i : Nat} (h : HH K c g H bs xss vss) : ∀ {ys : List V}, ys.length = bs.length → (∀ xs ∈ xss, i < xs.length) → (∀ (j : Nat) vs y, vss[j]? = some vs → ys[j]? = some y → vs[i]? = some y) → Reps K g H (xss.map fun r => r.getD i .non) ys := by
  induction h with
  | nil =>
    intro ys hl _ _
    cases ys with
    | nil => exact .nil
    | cons _ _ => cases hl
  | @cons b xs vs bs xss vss a _ ih =>
    intro ys hl hi hp
    cases ys with
    | nil => cases hl
    | cons y ys =>
      obtain ⟨e, v, h1, h2, h3⟩ := a.1.at (hi xs List.mem_cons_self)
      have hv := hp 0 vs y rfl rfl
      rw [h2] at hv
      cases hv
      rw [List.map_cons, List.getD_eq_getElem?_getD, h1]
      exact .cons h3 (ih (Nat.succ.inj hl) (fun q hq => hi q (List.mem_cons_of_mem _ hq)) fun j vs y q1 q2 => hp (j + 1) vs y (by simpa using q1) (by simpa using q2))
end
theorem minLen_lt : ∀ {rs : List (List PV)} {i : Nat}, i < minLen rs → ∀ r ∈ rs, i < r.length
  | [], _, h, _, m => by cases m
  | [r], i, h, q, m => by
    have : q = r := by simpa using m
    subst this; exact h
  | r :: s :: rs, i, h, q, m => by
    have h' : i < min r.length (minLen (s :: rs)) := h
    rcases List.mem_cons.mp m with rfl | m
    · omega
    · exact minLen_lt (by omega) q m
theorem minLen_le : ∀ {rs : List (List PV)}, rs ≠ [] → ∃ r ∈ rs, r.length ≤ minLen rs
  | [], h => absurd rfl h
  | [r], _ => ⟨r, List.mem_cons_self, Nat.le_refl _⟩
  | r :: s :: rs, _ => by
    show ∃ q ∈ r :: s :: rs, q.length ≤ min r.length (minLen (s :: rs))
    obtain ⟨q, hq, hl⟩ := minLen_le (rs := s :: rs) (by simp)
    by_cases c : r.length ≤ minLen (s :: rs)
    · exact ⟨r, List.mem_cons_self, by omega⟩
    · exact ⟨q, List.mem_cons_of_mem _ hq, by omega⟩
theorem serves_Z {K : KF} {c : Bool} {g : Gh} {H : Hp} {bs : List ZI} {xss : List (List PV)} {vss : List (List V)} (hne : xss ≠ []) (h : HH K c g H bs xss vss) : Serves K g H (Itn K bs) (zipAll xss) := by
  have hl : (zipAll xss).length = minLen xss := by unfold zipAll; rw [List.length_map, List.length_range]
  refine ⟨fun i hi => ⟨vss, h.zv, h.lens.1 i (minLen_lt (by rw [← hl]; exact hi))⟩, ⟨vss, h.zv, h.lens.2 _ (by rw [hl]; exact minLen_le hne)⟩, fun i x H' y hi => ?_⟩
  obtain ⟨T, ys, rfl, hT, rfl, hlen, hp⟩ := y
  have hi' : i < minLen xss := by rw [← hl]; exact hi
  refine ⟨.tup (xss.map fun r => r.getD i .non), ?_, .inr ⟨T, _, ys, hT, rfl, rfl, rfl, h.reps hlen (minLen_lt hi') (hp vss h.zv)⟩⟩
  unfold zipAll
  rw [List.getElem?_map, List.getElem?_range hi']
  rfl
/-- an answer that is walked, before it is shared -/
def HF (K : KF) (c : Bool) (H0 : Hp) (g : Gh) (H : Hp) (xs : List PV) (v : V) : Prop := (∃ y, Fz K H0 g H y v ∧ (y = .lst xs ∨ y = .tup xs)) ∨ ∃ a vs, v = .ref a ∧ HeldT K c false g H a xs vs
inductive HFs (K : KF) (c : Bool) (H0 : Hp) (g : Gh) (H : Hp) : List (List PV) → List V → Prop
  | nil : HFs K c H0 g H [] []
  | cons {xs : List PV} {v : V} {xss : List (List PV)} {vs : List V} : HF K c H0 g H xs v → HFs K c H0 g H xss vs → HFs K c H0 g H (xs :: xss) (v :: vs)
section
variable {K : KF} {q : Fe} {H0 : Hp} {g g0 g' : Gh} {H H' : Hp} {h h0 h' : AH} {ρ : Env} {σ : L2.St} {c : Bool}
theorem HeldT.frz {t : Bool} {l : Addr} {xs : List PV} {vs : List V} (x : HeldT K c t g H l xs vs) (m : Mon g H g' H) (e : g'.L = g.L) : HeldT K c t g' H l xs vs := by
  obtain ⟨r, x⟩ := x
  refine ⟨r.mono m, ?_⟩
  cases t with
  | true =>
    rcases x with ⟨h1, h2⟩ | x
    · exact .inl ⟨m.f _ h1, h2⟩
    · exact .inr x
  | false =>
    rcases x with ⟨h1, h2⟩ | ⟨hc, h1, h2⟩
    · exact .inl ⟨m.f _ h1, h2⟩
    · exact .inr ⟨hc, h1, by rw [e]; exact h2⟩
theorem Fz.frz {x : PV} {v : V} (w : Fz K H0 g H x v) (m : Mon g H g' H) (e : g'.L = g.L) : Fz K H0 g' H x v := by
  rcases w with w | ⟨xs, a, e1, e2, ⟨vs, h1, h2⟩, n2, n3⟩
  · exact .inl (w.mono m)
  · exact .inr ⟨xs, a, e1, e2, ⟨vs, h1, h2.mono m⟩, by rw [e]; exact n2, n3⟩
theorem HFs.frz {xss : List (List PV)} {vs : List V} (w : HFs K c H0 g H xss vs) (m : Mon g H g' H) (e : g'.L = g.L) : HFs K c H0 g' H xss vs := by
  induction w with
  | nil => exact .nil
  | cons a _ ih =>
    refine .cons ?_ ih
    rcases a with ⟨y, f, hy⟩ | ⟨b, us, e1, x⟩
    · exact .inl ⟨y, f.frz m e, hy⟩
    · exact .inr ⟨b, us, e1, x.frz m e⟩
theorem HH.frz {bs : List ZI} {xss : List (List PV)} {vss : List (List V)} (x : HH K c g H bs xss vss) (m : Mon g H g' H) (e : g'.L = g.L) : HH K c g' H bs xss vss := by
  induction x with
  | nil => exact .nil
  | cons a _ ih => exact .cons (a.frz m e) ih
theorem hfs_of (st : St K q g H h ρ σ) : ∀ {rs : List RV} {vs : List V} {xss : List (List PV)}, Ress K H0 g H ρ σ rs vs → itVs c rs = some xss → HFs K c H0 g H xss vs
  | [], _, _, .nil, e => by cases e; exact .nil
  | r :: rs, _, xss, .cons a w, e => by
    have e' : (match itV c r, itVs c rs with | some x, some xs => some (x :: xs) | _, _ => none) = some xss := e
    cases e1 : itV c r with
    | none => rw [e1] at e'; cases e'
    | some xs =>
      cases e2 : itVs c rs with
      | none => rw [e1, e2] at e'; cases e'
      | some ys =>
        rw [e1, e2] at e'
        cases e'
        refine .cons ?_ (hfs_of st w e2)
        cases r with
        | v y =>
          cases y with
          | tup zs => cases e1; exact .inl ⟨_, a.fz rfl, .inr rfl⟩
          | lst zs => cases e1; exact .inl ⟨_, a.fz rfl, .inl rfl⟩
          | _ => cases e1
        | D b ks vs => exact a.elim
        | L b zs =>
          have ex : (if c || !b then some zs else none) = some xs := e1
          cases b with
          | false =>
            rw [show (c || !false) = true by cases c <;> rfl] at ex
            cases ex
            exact .inl ⟨_, a.fz rfl, .inl rfl⟩
          | true =>
            cases c with
            | false => cases ex
            | true =>
              cases ex
              obtain ⟨b, rfl, ⟨us, h1, h2⟩, i, d, ws, h3, h4⟩ := a
              obtain ⟨u, h5, h6⟩ := st.sl i _ h3
              rw [h4] at h5
              cases h5
              obtain ⟨a', ea, _, n1, n2, n3⟩ := h6
              cases ea
              exact .inr ⟨b, us, rfl, h2, .inr ⟨rfl, h1, n2⟩⟩
/-- all of them are shared, or slots' lists -/
theorem helds (st0 : St K q g0 H0 h0 ρ σ) : ∀ {xss : List (List PV)} {vs : List V} {g : Gh}, HFs K c H0 g H xss vs → St K q g H h ρ σ → Ext g0 H0 g H →
    ∃ g' bs vss, Ext g0 H0 g' H ∧ St K q g' H h ρ σ ∧ Mon g H g' H ∧ g'.L = g.L ∧ vs = bs.map (fun a => V.ref a.l) ∧ HH K c g' H bs xss vss
  | _, _, g, .nil, st, e => ⟨g, [], [], e, st, Mon.refl, rfl, rfl, .nil⟩
  | xs :: _, v :: _, g, .cons a w, st, e => by
    have head : ∃ g1 t l us, Ext g0 H0 g1 H ∧ St K q g1 H h ρ σ ∧ Mon g H g1 H ∧ g1.L = g.L ∧ v = V.ref l ∧ HeldT K c t g1 H l xs us := by
      rcases a with ⟨y, f, hy⟩ | ⟨b, us, e1, x⟩
      · obtain ⟨g1, e1, s1, m1, l1, r1⟩ := share1 st0 f st e
        rcases hy with rfl | rfl
        · cases r1 with
          | lst fl rr => exact ⟨g1, false, _, _, e1, s1, m1, l1, rfl, rr, .inl fl⟩
        · cases r1 with
          | tup ft rr => exact ⟨g1, true, _, _, e1, s1, m1, l1, rfl, rr, ft⟩
      · exact ⟨g, false, b, us, e, st, Mon.refl, rfl, e1, x⟩
    obtain ⟨g1, t, l, us, e1, s1, m1, l1, rfl, x1⟩ := head
    obtain ⟨g2, bs, vss, e2, s2, m2, l2, rfl, hh⟩ := helds st0 (w.frz m1 l1) s1 e1
    exact ⟨g2, ⟨t, 0, l, #[]⟩ :: bs, us :: vss, e2, s2, m1.trans m2, l2.trans l1, rfl, .cons (x1.frz m2 l2) hh⟩
theorem HH.len {bs : List ZI} {xss : List (List PV)} {vss : List (List V)} (x : HH K c g H bs xss vss) : xss.length = bs.length := by
  induction x with
  | nil => rfl
  | cons _ _ ih => rw [List.length_cons, List.length_cons, ih]
theorem HH.of {bs : List ZI} {xss : List (List PV)} {vss : List (List V)} (x : HH K c g H bs xss vss) : ∀ {cs : List ZI}, cs.map tl = bs.map tl → HH K c g H cs xss vss := by
  induction x with
  | nil =>
    intro cs e
    cases cs with
    | nil => exact .nil
    | cons _ _ => cases e
  | cons a _ ih =>
    intro cs e
    cases cs with
    | nil => cases e
    | cons d cs =>
      rw [List.map_cons, List.map_cons] at e
      injection e with e1 e2
      injection e1 with e3 e4
      refine .cons ?_ (ih e2)
      rw [e3, e4]
      exact a
end
theorem itVs_len {c : Bool} : ∀ {rs : List RV} {xss : List (List PV)}, itVs c rs = some xss → xss.length = rs.length
  | [], _, e => by cases e; rfl
  | r :: rs, xss, e => by
    have e' : (match itV c r, itVs c rs with | some x, some xs => some (x :: xs) | _, _ => none) = some xss := e
    cases e1 : itV c r with
    | none => rw [e1] at e'; cases e'
    | some xs =>
      cases e2 : itVs c rs with
      | none => rw [e1, e2] at e'; cases e'
      | some ys =>
        rw [e1, e2] at e'
        cases e'
        rw [List.length_cons, List.length_cons, itVs_len e2]
theorem i_zip {X : Cx} {e : Expr} {es : List Expr} {fs : FEs} {p pos tpos : Pos} {elts : List Expr} {kk : Nat} (hg : Gl X "zip") (hm : X.mg "zip" = none) (ha : SA X (e :: es) fs) (hpx : plainX e = true) (hfl : ∀ pos, (backTo pos (starEach es X.env)).any (·.1) = false) (h23 : (e :: es).length = 2 ∨ (e :: es).length = 3) :
    SI X (.Tuple elts kk tpos) (.Call (.Name "zip" p) (e :: es) [] pos) fun c ρ h => (fs ρ h).bind fun rs h => .ofOpt ((itVs c rs).map zipAll) h :=
  ⟨rfl, fun c => PI.weak (pi_zipN hg hm ha.p (plain_star hpx) (hfl pos)) fun σ H R w => by
    obtain ⟨q, g, h, ρ, st, xs, h', e0, k⟩ := w
    obtain ⟨rs, h1, e1, e0⟩ := bind_ok e0
    obtain ⟨e2, rfl⟩ := ofOpt_ok e0
    refine ⟨q, g, h, ρ, st, rs, _, e1, fun g1 H1 vs x1 s1 r1 _ => ?_⟩
    cases c1 : itVs c rs with
    | none => rw [c1] at e2; cases e2
    | some xss =>
      rw [c1] at e2
      cases e2
      obtain ⟨g2, bs, vss, x2, s2, m2, l2, rfl, hh⟩ := helds st (hfs_of s1 r1 c1) s1 x1
      have hl : bs.length = (e :: es).length := by rw [← hh.len, itVs_len c1, ha.len _ _ _ _ e1]
      have hne : xss ≠ [] := fun z => by
        have := hh.len
        rw [z, hl] at this
        cases this
      exact ⟨bs, vss, rfl, by rw [hl]; exact h23, hh.zv, fun base hb => k g2 H1 _ x2 s2 fun g3 H3 x3 => serves_Z hne ((hh.of hb).lat x3)⟩⟩
end WT
end
section
set_option Elab.async false
set_option linter.all false
set_option maxRecDepth 100000
set_option maxHeartbeats 4000000
/-! zip whose tuple may still be held by a name. -/
namespace WT
open PySem PySem.Spec PyProof.Rows
def ZF (x : Value) : Prop := x = .none ∨ ∃ a : Nat, x = rawInt a
section
variable {prog : Program} {w : World} {A : Around} {E : Value → Shared → Prop} {s : Shared}
theorem wpAny_lia {a : Addr} {Q : Option Obj → Shared → Prop} (h : Q (s.heap.get? a) s) : wpAny (model prog w) A (loadIfAlive a) Q E s := fun _ _ _ => h
theorem free_or {z TI TO : Addr} {x : Value} {f : Bool} {Q : Bool → Shared → Prop} (hz : IsZg s.heap z TI TO x f) (hx : ZF x) (h1 : Q true s) (h2 : ∀ h', IsZg h' z TI TO x true → Heap.SameBut z s.heap h' → Q false { s with heap := h' }) :
    wpAny (model prog w) A (Builtin.SmallTypes.ownedTupleIsFree (.ref z)) Q E s := by
  unfold Builtin.SmallTypes.ownedTupleIsFree
  refine wpAny_bind (wpAny_field hz rfl (x := x) rfl ?_)
  rcases hx with rfl | ⟨a, rfl⟩
  · exact wpAny_pure h1
  · show wpAny _ _ (loadIfAlive ((a : Int).toNat) >>= _) _ _ _
    rw [Int.toNat_natCast]
    refine wpAny_bind (wpAny_lia ?_)
    cases c : s.heap.get? a with
    | none => exact wpAny_pure h1
    | some o =>
      simp only [Option.isNone_some, Bool.false_eq_true, if_false]
      refine wpAny_bind (wpAny_field hz rfl (x := .bool f) rfl ?_)
      cases f with
      | true =>
        rw [if_neg (show ¬ ((Value.bool true != Value.bool true) = true) from Bool.false_ne_true)]
        exact wpAny_pure (h2 s.heap hz (Heap.SameBut.refl _ _))
      | false =>
        rw [if_pos (show (Value.bool false != Value.bool true) = true from rfl)]
        exact wpAny_bind (wpAny_setField_rec hz (by simp) fun h₁ hz₁ hs₁ => wpAny_pure (h2 h₁ hz₁ hs₁))
/-- the loop that collects -/
theorem held_loop {k : Nat} (f : Value → Option PySem.Fin × Array Value → Sem (ForInStep (Option PySem.Fin × Array Value))) (dr : Value → Sem (Option Value)) (G : Array Value → Option Value → Sem (ForInStep (Option PySem.Fin × Array Value)))
    (hf : ∀ v acc, f v (none, acc) = (holding acc.toList (dr v) >>= G acc))
    (hd : ∀ v, dr v = (do let x ← Builtin.SmallTypes.nextOf v; pure (some x)))
    (hG : ∀ acc x, G acc (some x) = pure (.yield (none, acc.push x))) :
    ∀ (its : List ZI) (acc xs : List Value) (s : Shared) (Q : Option PySem.Fin × Array Value → Shared → Prop),
      (∀ a ∈ its, a.itr s.heap k) → (∀ a ∈ its, a.sq s.heap) → xs.length = its.length → (∀ (i : Nat) a x, its[i]? = some a → xs[i]? = some x → a.xs[k]? = some x) →
      (its.map (·.it)).Nodup → (∀ a ∈ its, ∀ b ∈ its, a.l ≠ b.it) →
      (∀ h', (∀ a ∈ its, a.itr h' (k + 1)) → h'.objs.size = s.heap.objs.size → (∀ c o, (∀ a ∈ its, c ≠ a.it) → s.heap.get? c = some o → h'.get? c = some o) → Q (none, (acc ++ xs).toArray) { s with heap := h' }) →
      wpAny (model prog w) A (forIn (its.map fun a => Value.ref a.it) (none, acc.toArray) f) Q E s
  | [], acc, xs, s, Q, _, _, hx, _, _, _, hQ => by
    cases xs with
    | cons _ _ => cases hx
    | nil =>
      rw [List.map_nil, List.forIn_nil]
      have := hQ s.heap (fun a h => by cases h) rfl fun c o _ e => e
      rw [List.append_nil] at this
      exact wpAny_pure this
  | a :: its, acc, xs, s, Q, hi, hs, hx, hg, h2, h3, hQ => by
    cases xs with
    | nil => cases hx
    | cons x xs =>
      rw [List.map_cons, List.forIn_cons, hf, hd]
      rw [List.map_cons, List.nodup_cons] at h2
      have ha : a.xs[k]? = some x := hg 0 a x rfl rfl
      have ne2 : ∀ b ∈ its, b.it ≠ a.it := fun b hb e => h2.1 (e ▸ List.mem_map.mpr ⟨b, hb, rfl⟩)
      refine wpAny_bind (wpAny_bind (wpAny_holding (wpAny_bind (ZI.next (hi a List.mem_cons_self) (hs a List.mem_cons_self) ha fun hp i2 s2 => wpAny_pure ?_))))
      rw [hG]
      refine wpAny_pure ?_
      show wpAny _ _ (forIn (its.map fun a => Value.ref a.it) (none, acc.toArray.push x) f) Q E _
      rw [List.push_toArray]
      refine held_loop f dr G hf hd hG its (acc ++ [x]) xs _ Q (fun b hb => ?_) (fun b hb => ?_) (Nat.succ.inj hx) (fun i b u q1 q2 => hg (i + 1) b u (by simpa using q1) (by simpa using q2)) h2.2
        (fun b hb d hd => h3 b (List.mem_cons_of_mem _ hb) d (List.mem_cons_of_mem _ hd)) fun h' q2 q3 q4 => ?_
      · exact ZI.itr_at (hi b (List.mem_cons_of_mem _ hb)) fun o e => s2.extBut _ _ (ne2 b hb) e
      · exact ZI.sq_at (hs b (List.mem_cons_of_mem _ hb)) fun o e => s2.extBut _ _ (h3 b (List.mem_cons_of_mem _ hb) a List.mem_cons_self) e
      · have := hQ h' (fun b hb => ?_) (by rw [q3]; exact s2.1) fun c o c2 e => q4 c o (fun d hd => c2 d (List.mem_cons_of_mem _ hd)) (s2.extBut _ _ (c2 a List.mem_cons_self) e)
        · rw [List.append_assoc]
          exact this
        · rcases List.mem_cons.mp hb with rfl | hb
          · exact ZI.itr_at i2 fun o e => q4 _ _ (fun d hd => Ne.symm (ne2 d hd)) e
          · exact q2 b hb
theorem held_loop_end {k : Nat} (hh : A.handled = none) (f : Value → Option PySem.Fin × Array Value → Sem (ForInStep (Option PySem.Fin × Array Value))) (dr : Value → Sem (Option Value)) (G : Array Value → Option Value → Sem (ForInStep (Option PySem.Fin × Array Value)))
    (hf : ∀ v acc, f v (none, acc) = (holding acc.toList (dr v) >>= G acc))
    (hd : ∀ v, dr v = (do let x ← Builtin.SmallTypes.nextOf v; pure (some x)))
    (hG : ∀ acc x, G acc (some x) = pure (.yield (none, acc.push x))) :
    ∀ (its : List ZI) (acc : List Value) (s : Shared) (Q : Option PySem.Fin × Array Value → Shared → Prop),
      (∀ a ∈ its, a.itr s.heap k) → (∀ a ∈ its, a.sq s.heap) → (∃ a ∈ its, a.xs[k]? = none) → (its.map (·.it)).Nodup → (∀ a ∈ its, ∀ b ∈ its, a.l ≠ b.it) →
      (∀ h' e, (∀ c o, (∀ a ∈ its, c ≠ a.it) → s.heap.get? c = some o → h'.get? c = some o) → (∃ o, h'.get? e = some o ∧ o.cls = .type "StopIteration") → E (.ref e) { s with heap := h' }) →
      wpAny (model prog w) A (forIn (its.map fun a => Value.ref a.it) (none, acc.toArray) f) Q E s
  | [], _, _, _, _, _, he, _, _, _ => by obtain ⟨a, h, _⟩ := he; cases h
  | a :: its, acc, s, Q, hi, hs, he, h2, h3, hE => by
    rw [List.map_cons, List.forIn_cons, hf, hd]
    rw [List.map_cons, List.nodup_cons] at h2
    have ne2 : ∀ b ∈ its, b.it ≠ a.it := fun b hb e => h2.1 (e ▸ List.mem_map.mpr ⟨b, hb, rfl⟩)
    cases ha : a.xs[k]? with
    | none =>
      refine wpAny_bind (wpAny_bind (wpAny_holding (wpAny_bind (ZI.end_ (by simpa using hh) (hi a List.mem_cons_self) (hs a List.mem_cons_self) ha fun hp e x2 he2 => ?_))))
      exact hE hp e (fun c o c3 q => x2 _ _ (c3 a List.mem_cons_self) q) he2
    | some x =>
      refine wpAny_bind (wpAny_bind (wpAny_holding (wpAny_bind (ZI.next (hi a List.mem_cons_self) (hs a List.mem_cons_self) ha fun hp i2 s2 => wpAny_pure ?_))))
      rw [hG]
      refine wpAny_pure ?_
      have he' : ∃ a ∈ its, a.xs[k]? = none := by
        obtain ⟨b, hb, e⟩ := he
        rcases List.mem_cons.mp hb with rfl | hb
        · rw [ha] at e; cases e
        · exact ⟨b, hb, e⟩
      show wpAny _ _ (forIn (its.map fun a => Value.ref a.it) (none, acc.toArray.push x) f) Q E _
      rw [List.push_toArray]
      refine held_loop_end hh f dr G hf hd hG its (acc ++ [x]) _ Q (fun b hb => ?_) (fun b hb => ?_) he' h2.2
        (fun b hb d hd => h3 b (List.mem_cons_of_mem _ hb) d (List.mem_cons_of_mem _ hd)) fun h' e q4 q5 => ?_
      · exact ZI.itr_at (hi b (List.mem_cons_of_mem _ hb)) fun o e => s2.extBut _ _ (ne2 b hb) e
      · exact ZI.sq_at (hs b (List.mem_cons_of_mem _ hb)) fun o e => s2.extBut _ _ (h3 b (List.mem_cons_of_mem _ hb) a List.mem_cons_self) e
      · exact hE h' e (fun c o c3 q => q4 c o (fun d hd => c3 d (List.mem_cons_of_mem _ hd)) (s2.extBut _ _ (c3 a List.mem_cons_self) q)) q5
/-- the next tuple, whatever became of the one before -/
theorem zipg_item {z TI TO : Addr} {x0 : Value} {f0 : Bool} {its : List ZI} {k : Nat} {old xs : List Value} {Q : Value → Shared → Prop} (D : ZA z TI TO its) (hne : its ≠ []) (hz : IsZg s.heap z TI TO x0 f0) (hx0 : ZF x0) (hTI : IsTT s.heap TI (its.map fun a => .ref a.it)) (hTO : IsTT s.heap TO old) (ho : old.length = its.length) (hl : its.length ≤ sizeLine)
    (hi : ∀ a ∈ its, a.itr s.heap k) (hs : ∀ a ∈ its, a.sq s.heap) (hx : xs.length = its.length) (hg : ∀ (i : Nat) a x, its[i]? = some a → xs[i]? = some x → a.xs[k]? = some x)
    (hQ : ∀ h' x' f' old', IsZg h' z TI TO x' f' → ZF x' → IsTT h' TO old' → old'.length = its.length → (∀ a ∈ its, a.itr h' (k + 1)) → IsTT h' s.heap.objs.size xs → h'.objs.size = s.heap.objs.size + 1 →
      (∀ c o, c ≠ z → c ≠ TO → (∀ a ∈ its, c ≠ a.it) → s.heap.get? c = some o → h'.get? c = some o) → Q (.ref s.heap.objs.size) { s with heap := h' }) :
    wpAny (model prog w) A (Builtin.«zip.__next__» ⟨[.ref z], []⟩) (fun fin s' => ∃ v, fin = .done (.ret v) ∧ Q v s') E s := by
  show wpAny _ _ (field (.ref z) 2 >>= _) _ _ _
  refine wpAny_bind (wpAny_field hz rfl (x := .bool false) rfl ?_)
  show wpAny _ _ (field (.ref z) 3 >>= _) _ _ _
  refine wpAny_bind (wpAny_field hz rfl (x := .ref TI) rfl ?_)
  refine wpAny_bind (wpAny_seqItems hTI rfl ?_)
  have hemp : (its.map fun a => Value.ref a.it).toArray.isEmpty = false := by
    cases its with
    | nil => exact absurd rfl hne
    | cons _ _ => rfl
  show wpAny _ _ (if (its.map fun a => Value.ref a.it).toArray.isEmpty = true then _ else _) _ _ _
  rw [if_neg (by rw [hemp]; exact Bool.false_ne_true)]
  show wpAny _ _ (Builtin.SmallTypes.ownedTupleIsFree (.ref z) >>= _) _ _ _
  refine wpAny_bind (free_or hz hx0 ?_ fun h₁ hz₁ hs₁ => ?_)
  · simp only [if_true]
    refine wpAny_bind (wpAny_rule ?_)
    refine wpAny_bind (wpAny_field hz rfl (x := .ref TO) rfl ?_)
    refine wpAny_bind (wpAny_setField_rec hz (by simp) fun h₁ hz₁ hs₁ => ?_)
    replace hz₁ : IsZg h₁ z TI TO .ellipsis f0 := hz₁
    refine wpAny_bind ?_
    refine zip_loop (z := z) (TO := TO) (k := k) _ _ _ _ (fun v j => rfl) (fun v j => rfl) (fun v j x => rfl) (fun v j x kept => rfl) its [] xs old _ _ (fun a ha => ZI.itr_at (hi a ha) fun o e => hs₁.extBut _ _ (D.iz a ha) e) (fun a ha => ZI.sq_at (hs a ha) fun o e => hs₁.extBut _ _ (D.lz a ha) e) (hs₁.extBut _ _ D.TOz hTO) ho (by rw [List.nil_append, ho]; exact hl) hx hg D.iTO D.ii D.li D.lTO fun h₅ t5 i5 z5 k5 => ?_
    refine wpAny_bind (wpAny_seqItems t5 rfl ?_)
    refine wpAny_bind (wpAny_newTuple ?_ (by show xs.toArray.toList.length ≤ sizeLine; rw [List.toList_toArray, hx]; exact hl))
    have hsz : h₅.objs.size = s.heap.objs.size := by rw [z5]; exact hs₁.1
    have hz₅ : IsZg h₅ z TI TO .ellipsis f0 := k5 _ _ (Ne.symm D.TOz) (fun a ha => Ne.symm (D.iz a ha)) hz₁
    have hzlt : z < h₅.objs.size := Heap.lt_size hz₅
    have hTOlt : TO < h₅.objs.size := Heap.lt_size t5
    show wpAny _ _ (Builtin.SmallTypes.ownedTupleHandOut (.ref z) (.ref h₅.objs.size) >>= _) _ _ _
    refine wpAny_bind ?_
    unfold Builtin.SmallTypes.ownedTupleHandOut
    have hz₆ : IsZg (h₅.push { cls := .type "tuple", data := .seq xs.toArray.toList.toArray }) z TI TO .ellipsis f0 := Heap.get?_push_of_some _ hz₅
    refine wpAny_bind (wpAny_setField_rec hz₆ (by simp) fun h₇ hz₇ hs₇ => ?_)
    replace hz₇ : IsZg h₇ z TI TO (rawInt h₅.objs.size) f0 := hz₇
    refine wpAny_setField_rec hz₇ (by simp) fun h₈ hz₈ hs₈ => ?_
    replace hz₈ : IsZg h₈ z TI TO (rawInt h₅.objs.size) false := hz₈
    have up : ∀ c o, c ≠ z → h₅.get? c = some o → h₈.get? c = some o := fun c o c1 e => hs₈.extBut _ _ c1 (hs₇.extBut _ _ c1 (Heap.get?_push_of_some _ e))
    have hT₈ : IsTT h₈ h₅.objs.size xs := hs₈.extBut _ _ (Nat.ne_of_gt hzlt) (hs₇.extBut _ _ (Nat.ne_of_gt hzlt) (Heap.get?_push_size _ rfl))
    have hz8 : h₈.objs.size = h₅.objs.size + 1 := by rw [hs₈.1, hs₇.1, Heap.size_push]
    have hz9 : ZF (rawInt h₅.objs.size) := .inr ⟨_, rfl⟩
    rw [hsz] at hz₈ hT₈ hz8 hz9
    refine wpAny_pure ⟨_, rfl, ?_⟩
    show Q (.ref h₅.objs.size) _
    rw [hsz]
    exact hQ h₈ _ _ xs hz₈ hz9 (up _ _ D.TOz t5) hx (fun a ha => ZI.itr_at (i5 a ha) fun o e => up _ o (D.iz a ha) e) hT₈ hz8 fun c o c1 c2 c3 e => up c o c1 (k5 c o c2 c3 (hs₁.extBut _ _ c1 e))
  · simp only [Bool.false_eq_true, if_false]
    refine wpAny_bind ?_
    rw [← Array.forIn_toList]
    show wpAny _ _ (forIn (its.map fun a => Value.ref a.it) _ _) _ _ _
    refine held_loop (k := k) _ _ _ (fun v acc => rfl) (fun v => rfl) (fun acc x => rfl) its [] xs { s with heap := h₁ } _ (fun a ha => ZI.itr_at (hi a ha) fun o e => hs₁.extBut _ _ (D.iz a ha) e) (fun a ha => ZI.sq_at (hs a ha) fun o e => hs₁.extBut _ _ (D.lz a ha) e) hx hg D.ii D.li fun h₅ i5 z5 k5 => ?_
    rw [List.nil_append]
    refine wpAny_bind (wpAny_newTuple ?_ (by show xs.toArray.toList.length ≤ sizeLine; rw [List.toList_toArray, hx]; exact hl))
    have hsz : h₅.objs.size = s.heap.objs.size := by rw [z5]; exact hs₁.1
    have hz₅ : IsZg h₅ z TI TO x0 true := k5 _ _ (fun a ha => Ne.symm (D.iz a ha)) hz₁
    have up : ∀ c o, h₅.get? c = some o → (h₅.push { cls := .type "tuple", data := .seq xs.toArray.toList.toArray }).get? c = some o := fun c o e => Heap.get?_push_of_some _ e
    have hT₈ : IsTT (h₅.push { cls := .type "tuple", data := .seq xs.toArray.toList.toArray }) h₅.objs.size xs := Heap.get?_push_size _ rfl
    rw [hsz] at hT₈
    refine wpAny_pure ⟨_, rfl, ?_⟩
    show Q (.ref h₅.objs.size) _
    rw [hsz]
    exact hQ _ x0 true old (up _ _ hz₅) hx0 (up _ _ (k5 _ _ (fun a ha => Ne.symm (D.iTO a ha)) (hs₁.extBut _ _ D.TOz hTO))) ho (fun a ha => ZI.itr_at (i5 a ha) fun o e => up _ o e) hT₈ (by rw [Heap.size_push, hsz]) fun c o c1 c2 c3 e => up c o (k5 c o c3 (hs₁.extBut _ _ c1 e))
theorem zipg_end {z TI TO : Addr} {x0 : Value} {f0 : Bool} {its : List ZI} {k : Nat} {old : List Value} {Q : PySem.Fin → Shared → Prop} (hh : A.handled = none) (D : ZA z TI TO its) (hne : its ≠ []) (hz : IsZg s.heap z TI TO x0 f0) (hx0 : ZF x0) (hTI : IsTT s.heap TI (its.map fun a => .ref a.it)) (hTO : IsTT s.heap TO old) (ho : old.length = its.length) (hl : its.length ≤ sizeLine)
    (hi : ∀ a ∈ its, a.itr s.heap k) (hs : ∀ a ∈ its, a.sq s.heap) (he : ∃ a ∈ its, a.xs[k]? = none)
    (hE : ∀ h' e, (∀ c o, c ≠ z → c ≠ TO → (∀ a ∈ its, c ≠ a.it) → s.heap.get? c = some o → h'.get? c = some o) → (∃ o, h'.get? e = some o ∧ o.cls = .type "StopIteration") → E (.ref e) { s with heap := h' }) :
    wpAny (model prog w) A (Builtin.«zip.__next__» ⟨[.ref z], []⟩) Q E s := by
  show wpAny _ _ (field (.ref z) 2 >>= _) _ _ _
  refine wpAny_bind (wpAny_field hz rfl (x := .bool false) rfl ?_)
  show wpAny _ _ (field (.ref z) 3 >>= _) _ _ _
  refine wpAny_bind (wpAny_field hz rfl (x := .ref TI) rfl ?_)
  refine wpAny_bind (wpAny_seqItems hTI rfl ?_)
  have hemp : (its.map fun a => Value.ref a.it).toArray.isEmpty = false := by
    cases its with
    | nil => exact absurd rfl hne
    | cons _ _ => rfl
  show wpAny _ _ (if (its.map fun a => Value.ref a.it).toArray.isEmpty = true then _ else _) _ _ _
  rw [if_neg (by rw [hemp]; exact Bool.false_ne_true)]
  show wpAny _ _ (Builtin.SmallTypes.ownedTupleIsFree (.ref z) >>= _) _ _ _
  refine wpAny_bind (free_or hz hx0 ?_ fun h₁ hz₁ hs₁ => ?_)
  · simp only [if_true]
    refine wpAny_bind (wpAny_rule ?_)
    refine wpAny_bind (wpAny_field hz rfl (x := .ref TO) rfl ?_)
    refine wpAny_bind (wpAny_setField_rec hz (by simp) fun h₁ hz₁ hs₁ => ?_)
    replace hz₁ : IsZg h₁ z TI TO .ellipsis f0 := hz₁
    refine wpAny_bind ?_
    exact zip_loop_end (z := z) (TI := TI) (TO := TO) (k := k) hh _ _ _ _ (fun v j => rfl) (fun v j => rfl) (fun v j x => rfl) (fun v j x kept => rfl) its [] old _ _ (fun a ha => ZI.itr_at (hi a ha) fun o e => hs₁.extBut _ _ (D.iz a ha) e) (fun a ha => ZI.sq_at (hs a ha) fun o e => hs₁.extBut _ _ (D.lz a ha) e) (hs₁.extBut _ _ D.TOz hTO) ho (by rw [List.nil_append, ho]; exact hl) he ⟨f0, hz₁⟩ D.TOz D.iz D.iTO D.ii D.li D.lTO fun h' e k5 q => hE h' e (fun c o c1 c2 c3 q => k5 c o c1 c2 c3 (hs₁.extBut _ _ c1 q)) q
  · simp only [Bool.false_eq_true, if_false]
    refine wpAny_bind ?_
    rw [← Array.forIn_toList]
    show wpAny _ _ (forIn (its.map fun a => Value.ref a.it) _ _) _ _ _
    exact held_loop_end (k := k) hh _ _ _ (fun v acc => rfl) (fun v => rfl) (fun acc x => rfl) its [] { s with heap := h₁ } _ (fun a ha => ZI.itr_at (hi a ha) fun o e => hs₁.extBut _ _ (D.iz a ha) e) (fun a ha => ZI.sq_at (hs a ha) fun o e => hs₁.extBut _ _ (D.lz a ha) e) he D.ii D.li fun h' e q4 q5 => hE h' e (fun c o c1 c2 c3 q => q4 c o c3 (hs₁.extBut _ _ c1 q)) q5
theorem zipg_next {z TI TO : Addr} {x0 : Value} {f0 : Bool} {its : List ZI} {k : Nat} {old xs : List Value} {Q : Option Value → Shared → Prop} (D : ZA z TI TO its) (hne : its ≠ []) (hz : IsZg s.heap z TI TO x0 f0) (hx0 : ZF x0) (hTI : IsTT s.heap TI (its.map fun a => .ref a.it)) (hTO : IsTT s.heap TO old) (ho : old.length = its.length) (hl : its.length ≤ sizeLine)
    (hi : ∀ a ∈ its, a.itr s.heap k) (hs : ∀ a ∈ its, a.sq s.heap) (hx : xs.length = its.length) (hg : ∀ (i : Nat) a x, its[i]? = some a → xs[i]? = some x → a.xs[k]? = some x)
    (hQ : ∀ h' x' f' old', IsZg h' z TI TO x' f' → ZF x' → IsTT h' TO old' → old'.length = its.length → (∀ a ∈ its, a.itr h' (k + 1)) → IsTT h' s.heap.objs.size xs → h'.objs.size = s.heap.objs.size + 1 →
      (∀ c o, c ≠ z → c ≠ TO → (∀ a ∈ its, c ≠ a.it) → s.heap.get? c = some o → h'.get? c = some o) → Q (some (.ref s.heap.objs.size)) { s with heap := h' }) :
    wpAny (model prog w) A (pyNext (.ref z)) Q E s := by
  have hT : s.TypeIs (.ref z) "zip" := ⟨_, hz, rfl⟩
  unfold pyNext
  exact wpAny_bind (wpAny_attempt (wpAny_callSpecial?_slot (name := Str.ofString "__next__") hT F.slot_zip_next
    (wpAny_call_entry F.slot_zip_next hT F.entry_zip_next
      (zipg_item D hne hz hx0 hTI hTO ho hl hi hs hx hg fun h' x' f' old' a1 a2 a3 a4 a5 a6 a7 a8 => wpAny_pure (hQ h' x' f' old' a1 a2 a3 a4 a5 a6 a7 a8)) (F.args_zip_next_1 _))))
theorem zipg_stop {z TI TO : Addr} {x0 : Value} {f0 : Bool} {its : List ZI} {k : Nat} {old : List Value} {Q : Option Value → Shared → Prop} (hh : A.handled = none) (D : ZA z TI TO its) (hne : its ≠ []) (hz : IsZg s.heap z TI TO x0 f0) (hx0 : ZF x0) (hTI : IsTT s.heap TI (its.map fun a => .ref a.it)) (hTO : IsTT s.heap TO old) (ho : old.length = its.length) (hl : its.length ≤ sizeLine)
    (hi : ∀ a ∈ its, a.itr s.heap k) (hs : ∀ a ∈ its, a.sq s.heap) (he : ∃ a ∈ its, a.xs[k]? = none)
    (hQ : ∀ h', (∀ c o, c ≠ z → c ≠ TO → (∀ a ∈ its, c ≠ a.it) → s.heap.get? c = some o → h'.get? c = some o) → Q none { s with heap := h' }) : wpAny (model prog w) A (pyNext (.ref z)) Q E s := by
  have hT : s.TypeIs (.ref z) "zip" := ⟨_, hz, rfl⟩
  unfold pyNext
  refine wpAny_bind (wpAny_attempt (wpAny_callSpecial?_slot (name := Str.ofString "__next__") hT F.slot_zip_next
    (wpAny_call_entry F.slot_zip_next hT F.entry_zip_next (zipg_end hh D hne hz hx0 hTI hTO ho hl hi hs he fun h' e hk he => ?_) (F.args_zip_next_1 _))))
  obtain ⟨o, ho, hc⟩ := he
  refine wpAny_bind (wpAny_isInstance (T := "StopIteration") (b := true) ⟨o, ho, hc⟩ isSubtype_stop ?_)
  exact wpAny_pure (hQ _ hk)
end
end WT
end
section
set_option Elab.async false
set_option linter.all false
set_option maxRecDepth 100000
set_option maxHeartbeats 4000000
/-! for column in zip(*rows): one to four rows, the tuple kept by a name. -/
namespace WT
open PySem PySem.Spec PyProof.Rows L2
section
variable {prog : Program} {w : World} {A : Around} {E : Value → Shared → Prop} {s : Shared}
theorem typeCall_zip_1 (a : Value) : checkTypeCall "zip" ⟨[a], []⟩ = pure () := by kernel_rfl
theorem newCall_zip_1 (a : Value) : checkBuiltinCall "zip.__new__" ⟨[.type "zip", a], []⟩ = pure () := by kernel_rfl
theorem typeCall_zip_4 (a b c d : Value) : checkTypeCall "zip" ⟨[a, b, c, d], []⟩ = pure () := by kernel_rfl
theorem newCall_zip_4 (a b c d : Value) : checkBuiltinCall "zip.__new__" ⟨[.type "zip", a, b, c, d], []⟩ = pure () := by kernel_rfl
theorem args_object_init_2' (a b : Value) : argsOk "object.__init__" ⟨[a, b], []⟩ := by
  unfold argsOk; rw [signature?_of (id := "object.__init__") (n := ['_', '_', 't', 'i', 'n', 'i', '_', '_']) (o := ['t', 'c', 'e', 'j', 'b', 'o']) (by kernel_rfl) F.owner_object]; kernel_rfl
theorem args_object_init_5 (a b c d e : Value) : argsOk "object.__init__" ⟨[a, b, c, d, e], []⟩ := by
  unfold argsOk; rw [signature?_of (id := "object.__init__") (n := ['_', '_', 't', 'i', 'n', 'i', '_', '_']) (o := ['t', 'c', 'e', 'j', 'b', 'o']) (by kernel_rfl) F.owner_object]; kernel_rfl
/-- zip of one to four -/
theorem call_zipM {ls : ZL} {Q : Value → Shared → Prop} (h14 : 1 ≤ ls.length ∧ ls.length ≤ 4) (hs : ∀ a ∈ ls, sqOf a s.heap)
    (hQ : ∀ h' z TI TO, IsZip h' z TI TO .none → IsTT h' TI ((mkZ s.heap.objs.size ls).map fun a => .ref a.it) → IsTT h' TO ((mkZ s.heap.objs.size ls).map fun _ => .none) → (∀ a ∈ mkZ s.heap.objs.size ls, a.itr h' 0) → TI = s.heap.objs.size + ls.length → TO = TI + 1 → z = TO + 1 →
        (∀ c o, s.heap.get? c = some o → h'.get? c = some o) → Q (.ref z) { s with heap := h' }) : wpAny (model prog w) A (call (.type "zip") (ls.map fun a => .ref a.2.1)) Q E s := by
  have hl : ls.length ≤ sizeLine := by
    rw [← szLine]
    omega
  have M := meets_zip _ ls rfl hl
  match ls, h14, hs, hQ, M with
  | [a], _, hs, hQ, M => exact callType_new F.called_zip (by decide) (typeCall_zip_1 _) (newCall_zip_1 _) (fun obj => args_object_init_2' obj _) F.entry_zip_new M ⟨hs, fun h' z TI TO a1 a2 a3 a4 a5 a6 a7 a8 => ⟨⟨_, a1, rfl⟩, hQ h' z TI TO a1 a2 a3 a4 a5 a6 a7 a8⟩⟩
  | [a, b], _, hs, hQ, M => exact callType_new F.called_zip (by decide) (F.typeCall_zip_2 _ _) (F.newCall_zip_2 _ _) (fun obj => F.args_object_init_3 obj _ _) F.entry_zip_new M ⟨hs, fun h' z TI TO a1 a2 a3 a4 a5 a6 a7 a8 => ⟨⟨_, a1, rfl⟩, hQ h' z TI TO a1 a2 a3 a4 a5 a6 a7 a8⟩⟩
  | [a, b, c], _, hs, hQ, M => exact callType_new F.called_zip (by decide) (typeCall_zip_3 _ _ _) (newCall_zip_3 _ _ _) (fun obj => args_object_init_4 obj _ _ _) F.entry_zip_new M ⟨hs, fun h' z TI TO a1 a2 a3 a4 a5 a6 a7 a8 => ⟨⟨_, a1, rfl⟩, hQ h' z TI TO a1 a2 a3 a4 a5 a6 a7 a8⟩⟩
  | [a, b, c, d], _, hs, hQ, M => exact callType_new F.called_zip (by decide) (typeCall_zip_4 _ _ _ _) (newCall_zip_4 _ _ _ _) (fun obj => args_object_init_5 obj _ _ _ _) F.entry_zip_new M ⟨hs, fun h' z TI TO a1 a2 a3 a4 a5 a6 a7 a8 => ⟨⟨_, a1, rfl⟩, hQ h' z TI TO a1 a2 a3 a4 a5 a6 a7 a8⟩⟩
end
theorem zipg_iter {prog : Program} {w : World} {A : Around} {E : Value → Shared → Prop} {s : Shared} {z TI TO : Addr} {x : Value} {f : Bool} {Q : Value → Shared → Prop} (hz : IsZg s.heap z TI TO x f) (h : Q (.ref z) s) : wpAny (model prog w) A (pyIter (.ref z)) Q E s := by
  have hT : s.TypeIs (.ref z) "zip" := ⟨_, hz, rfl⟩
  refine wpAny_pyIter_slot hT F.slot_zip_iter (wpAny_call_entry F.slot_zip_iter hT F.entry_zip_iter ?_ (F.args_zip_iter_1 _))
  show wpAny _ _ (ret (.ref z)) _ _ s
  exact wpAny_pure ⟨_, rfl, "zip", _, hT, F.slot_zip_next.lookup, h⟩
theorem turn_zipM {P : Program} {w : World} {K : PySem.W.Frag} {nm : Str} {np : Pos} {z TI TO : Addr} {bs : List ZI} (D : ZA z TI TO bs) (hne : bs ≠ []) (hl : bs.length ≤ sizeLine) :
    Turn P w K (.Name nm np) (Itn K bs) (z :: TI :: TO :: bs.map (·.it)) z (fun i h => (∃ x f, IsZg h z TI TO x f ∧ ZF x) ∧ IsTT h TI (bs.map fun a => .ref a.it) ∧ (∃ old, old.length = bs.length ∧ IsTT h TO old) ∧ ∀ a ∈ bs, a.itr h i) where
  mem := List.mem_cons_self
  obj := fun i h st c hc => by
    obtain ⟨⟨x, f, hz, _⟩, hTI, ⟨old, _, hTO⟩, hi⟩ := st
    rcases List.mem_cons.mp hc with rfl | hc
    · exact ⟨_, hz, fun v q => nomatch q⟩
    · rcases List.mem_cons.mp hc with rfl | hc
      · exact ⟨_, hTI, fun v q => nomatch q⟩
      · rcases List.mem_cons.mp hc with rfl | hc
        · exact ⟨_, hTO, fun v q => nomatch q⟩
        · obtain ⟨a, ha, rfl⟩ := List.mem_map.mp hc
          have := hi a ha
          unfold ZI.itr at this
          cases e : a.t with
          | true => rw [e] at this; obtain ⟨o, e1, _, d1⟩ := this; exact ⟨o, e1, fun v q => by rw [d1] at q; cases q⟩
          | false => rw [e] at this; obtain ⟨o, e1, _, d1⟩ := this; exact ⟨o, e1, fun v q => by rw [d1] at q; cases q⟩
  keep := fun i h h' st k => by
    obtain ⟨⟨x, f, hz, hx⟩, hTI, ⟨old, ho, hTO⟩, hi⟩ := st
    exact ⟨⟨x, f, k z (by simp) _ hz, hx⟩, k TI (by simp) _ hTI, ⟨old, ho, k TO (by simp) _ hTO⟩, fun a ha => ZI.itr_at (hi a ha) fun o q => k _ (List.mem_cons_of_mem _ (List.mem_cons_of_mem _ (List.mem_cons_of_mem _ (List.mem_map.mpr ⟨a, ha, rfl⟩)))) o q⟩
  item := by
    intro X hP hw hK hc i pins s σ H E I hf st hg
    subst hP hw hK
    obtain ⟨⟨x, f0, hz, hx0⟩, hTI, ⟨old, ho, hTO⟩, hi⟩ := st
    obtain ⟨xss, zv, hlt⟩ := hg
    obtain ⟨zs, f⟩ := zv.build I
    obtain ⟨m1, m2, m3, m4⟩ := f.map
    obtain ⟨us, ys, l1, l2, rv, g1, g2⟩ := f.items hlt
    have hzl : z < s.heap.objs.size := Heap.lt_size hz
    have hne' : zs ≠ [] := fun e => hne (by rw [e] at m3; exact List.length_eq_zero_iff.mp m3.symm)
    refine zipg_next (its := zs) (za_of D f) hne' hz hx0 (by rw [m1]; exact hTI) hTO (by rw [ho, m3]) (by rw [m3]; exact hl) (fun a ha => ?_) (fun a ha => (f.mem a ha).1) l1 g1 fun h' x' f' old' z' hx' TO' ho' i' hT hsz hk => ?_
    · obtain ⟨_, b, hb, e1, e2, e3⟩ := f.mem a ha
      exact itr_of e1 e2 e3 (hi b hb)
    refine ⟨_, rfl, wpAny_pure ?_⟩
    have yl : ys.length ≤ sizeLine := by rw [l2]; exact hl
    have new : ObjOk X.prog X.w (upd H s.heap.objs.size (.tup ys)) h' s.heap.objs.size (.tup ys) := ⟨yl, us, rv, ⟨_, hT, rfl, _, rfl⟩⟩
    have inz : ∀ a ∈ zs, a.it ∈ bs.map (·.it) := fun a ha => by rw [← m2]; exact List.mem_map.mpr ⟨a, ha, rfl⟩
    have I1 : Inv X pins σ (upd H s.heap.objs.size (.tup ys)) { s with heap := h' } :=
      I.turnedNew (t' := s.toks) (ch := z :: TI :: TO :: bs.map (·.it)) (fun c o hb q => hk c o (fun q' => hb (by simp [q'])) (fun q' => hb (by simp [q'])) (fun a ha q' => hb (List.mem_cons_of_mem _ (List.mem_cons_of_mem _ (List.mem_cons_of_mem _ (by rw [q']; exact inz a ha))))) q) hf (Nat.le_refl _) new
    refine ⟨.ref s.heap.objs.size, _, I1, rfl, ⟨_, ys, rfl, I.hok.fresh (Nat.le_refl _), rfl, l2, fun yss q j xs y q1 q2 => ?_⟩, ⟨⟨x', f', z', hx'⟩, ?_, ⟨old', by rw [ho', m3], TO'⟩, fun a ha => ?_⟩, fun c hcm => ?_⟩
    · rw [zv.uniq I q] at q1
      exact g2 j xs y q1 q2
    · exact hk _ _ D.TIz D.TITO (fun a ha q => by obtain ⟨_, b, hb, _, e, _⟩ := f.mem a ha; exact D.iTI b hb (e ▸ q.symm)) hTI
    · obtain ⟨c, hc2, e1, e2, e3⟩ := f.mem' a ha
      exact itr_of e1.symm e2.symm e3.symm (i' c hc2)
    · have hlt : c < s.heap.objs.size := by
        rcases List.mem_cons.mp hcm with rfl | hcm
        · exact hzl
        · rcases List.mem_cons.mp hcm with rfl | hcm
          · exact Heap.lt_size hTI
          · rcases List.mem_cons.mp hcm with rfl | hcm
            · exact Heap.lt_size hTO
            · obtain ⟨a, ha, rfl⟩ := List.mem_map.mp hcm
              exact ZI.lt (hi a ha)
      rw [upd_ne (Nat.ne_of_lt hlt)]
      exact (hf c hcm).1
  done := by
    intro X hP hw hK hc i pins s σ H E I hf st hg
    subst hP hw hK
    obtain ⟨⟨x, f0, hz, hx0⟩, hTI, ⟨old, ho, hTO⟩, hi⟩ := st
    obtain ⟨xss, zv, hst⟩ := hg
    obtain ⟨zs, f⟩ := zv.build I
    obtain ⟨m1, m2, m3, m4⟩ := f.map
    have hne' : zs ≠ [] := fun e => hne (by rw [e] at m3; exact List.length_eq_zero_iff.mp m3.symm)
    have inz : ∀ a ∈ zs, a.it ∈ bs.map (·.it) := fun a ha => by rw [← m2]; exact List.mem_map.mpr ⟨a, ha, rfl⟩
    refine zipg_stop (its := zs) (I.ok.hd hc) (za_of D f) hne' hz hx0 (by rw [m1]; exact hTI) hTO (by rw [ho, m3]) (by rw [m3]; exact hl) (fun a ha => ?_) (fun a ha => (f.mem a ha).1) (f.stop hst) fun h' hk => ⟨rfl, I.turnedL (t' := s.toks) (ch := z :: TI :: TO :: bs.map (·.it)) (fun c o hb q =>
      hk c o (fun q' => hb (by simp [q'])) (fun q' => hb (by simp [q'])) (fun a ha q' => hb (List.mem_cons_of_mem _ (List.mem_cons_of_mem _ (List.mem_cons_of_mem _ (by rw [q']; exact inz a ha))))) q) hf⟩
    obtain ⟨_, b, hb, e1, e2, e3⟩ := f.mem a ha
    exact itr_of e1 e2 e3 (hi b hb)
  self := fun A i s Q E st h => by
    obtain ⟨⟨x, f, hz, _⟩, _⟩ := st
    exact zipg_iter hz h
def iZipS (K : KF) (te : TE) : TI := fun σ H R => te σ H fun x H1 => ∃ (p : Addr) (bs : List ZI) (xss : List (List V)), x = .ref p ∧ (SqT K H1 p (bs.map fun a => V.ref a.l) ∨ SqL K H1 p (bs.map fun a => V.ref a.l)) ∧ (1 ≤ bs.length ∧ bs.length ≤ 4) ∧ ZV K H1 bs xss ∧ ∀ base : List ZI, base.map tl = bs.map tl → R (Itn K base) H1
theorem pi_zipS {X : Cx} {e : Expr} {te : TE} {p sp pos np : Pos} {nm : Str} (hg : Gl X "zip") (hm : X.mg "zip" = none) (he : PE X e te) :
    PI X (.Name nm np) (.Call (.Name "zip" p) [.Starred e sp] [] pos) (iZipS X.K te) := by
  refine ⟨fun pins s σ H R I h => ?_⟩
  refine Call_ (ld_blt I hg hm PyProof.Rows.boot_zip ?_)
  have hs : starEach [.Starred e sp] X.env = [(true, eval e X.env)] := rfl
  rw [hs]
  refine PySem.W.ks_call (P := fun _ => True) rfl (fun h _ => ⟨.machine, .inr (.inl rfl), PySem.W.Looks.now⟩) (PySem.W.ks_lone (thn (he.run pins s σ H _ I h) fun v s1 ⟨y, H1, I1, ry, q1⟩ => ?_))
  obtain ⟨a, bs, xss, rfl, hxs, h14, zv, q⟩ := q1
  obtain rfl : v = Value.ref a := ry
  refine StX.star_any I1 hxs fun us s2 I2 rv => ⟨trivial, ?_⟩
  obtain rfl := vals_refs rv
  obtain ⟨zs, f⟩ := zv.build I2
  obtain ⟨m1, m2, m3, m4⟩ := f.map
  obtain ⟨t1, t2⟩ := f.tl
  have hls : (bs.map fun a => Value.ref a.l) = (zs.map fun a => (a.t, a.l, a.xs)).map fun a => Value.ref a.2.1 := by rw [List.map_map, ← t2]; rfl
  show wpAny _ _ (call (.type "zip") (bs.map fun a => Value.ref a.l) []) _ _ _
  rw [hls]
  have hlen : (zs.map fun a => (a.t, a.l, a.xs)).length = bs.length := by rw [List.length_map, m3]
  refine call_zipM (by rw [hlen]; exact h14) (fun a ha => ?_) fun h' z TI TO hz hTI hTO hi e1 e2 e3 hk => wpAny_pyIter_zip hz ?_
  · obtain ⟨b, hb, rfl⟩ := List.mem_map.mp ha
    exact (f.mem b hb).1
  · generalize hb : mkZ s2.heap.objs.size (zs.map fun a => (a.t, a.l, a.xs)) = base at hTI hTO hi
    have bt : base.map tl = bs.map tl := by rw [← hb, mkZ_tl, List.map_map, ← t1]; rfl
    have bl : base.length = bs.length := by rw [← hb, mkZ_len, hlen]
    have I3 : Inv X pins σ H1 { s2 with heap := h' } := I2.kept (t' := s2.toks) hk
    have lo : ∀ a ∈ base, s2.heap.objs.size ≤ a.it ∧ a.it < s2.heap.objs.size + bs.length ∧ a.l < s2.heap.objs.size := fun a ha => by
      rw [← hb] at ha
      obtain ⟨k1, k2, k3⟩ := mkZ_mem ha
      rw [hlen] at k2
      obtain ⟨b, hb2, e⟩ := List.mem_map.mp k3
      have := sq_lt (f.mem b hb2).1
      injection e with _ e
      injection e with e _
      exact ⟨k1, k2, by rw [← e]; exact this⟩
    rw [hlen] at e1
    have hb0 : 0 < bs.length := h14.1
    have D : ZA z TI TO base := ⟨Nat.ne_of_lt (by rw [e3, e2]; exact Nat.lt_succ_of_lt (Nat.lt_succ_self _)), Nat.ne_of_lt (by rw [e3]; exact Nat.lt_succ_self _), Nat.ne_of_lt (by rw [e2]; exact Nat.lt_succ_self _),
      fun a ha => Nat.ne_of_lt (by have := (lo a ha).2.1; rw [e3, e2, e1]; exact Nat.lt_of_lt_of_le this (Nat.le_succ_of_le (Nat.le_succ _))), fun a ha => Nat.ne_of_lt (by have := (lo a ha).2.1; rw [e1]; exact this),
      fun a ha => Nat.ne_of_lt (by have := (lo a ha).2.1; rw [e2, e1]; exact Nat.lt_succ_of_lt this), by rw [← hb]; exact mkZ_nd _ _,
      fun a ha => Nat.ne_of_lt (by have := (lo a ha).2.2; rw [e3, e2, e1]; exact Nat.lt_of_lt_of_le this (Nat.le_succ_of_le (Nat.le_succ_of_le (Nat.le_add_right _ _)))), fun a ha => Nat.ne_of_lt (by have := (lo a ha).2.2; rw [e2, e1]; exact Nat.lt_of_lt_of_le this (Nat.le_succ_of_le (Nat.le_add_right _ _))),
      fun a ha b hb => Nat.ne_of_lt (Nat.lt_of_lt_of_le (lo a ha).2.2 (lo b hb).1)⟩
    have hne : base ≠ [] := fun e => by rw [e] at bl; rw [← bl] at hb0; exact absurd hb0 (Nat.lt_irrefl _)
    have hsz : base.length ≤ sizeLine := by rw [bl, ← szLine]; omega
    refine ⟨z, z :: TI :: TO :: base.map (·.it), _, Itn X.K base, H1, rfl, I3, turn_zipM D hne hsz, ⟨⟨.none, false, hz, .inl rfl⟩, hTI, ⟨_, List.length_map .., hTO⟩, hi⟩, fun c hc => ?_, q base bt⟩
    have hle : s2.heap.objs.size ≤ c := by
      rcases List.mem_cons.mp hc with rfl | hc
      · rw [e3, e2, e1]; exact Nat.le_succ_of_le (Nat.le_succ_of_le (Nat.le_add_right _ _))
      · rcases List.mem_cons.mp hc with rfl | hc
        · rw [e1]; exact Nat.le_add_right _ _
        · rcases List.mem_cons.mp hc with rfl | hc
          · rw [e2, e1]; exact Nat.le_succ_of_le (Nat.le_add_right _ _)
          · obtain ⟨a, ha, rfl⟩ := List.mem_map.mp hc
            exact (lo a ha).1
    exact I2.fpOk hle (I2.hok.fresh hle)
theorem reps_rows {K : KF} {g : Gh} {H : Hp} {c : Bool} : ∀ {xs : List PV} {vs : List V} {xss : List (List PV)}, Reps K g H xs vs → itVs false (xs.map .v) = some xss → ∃ bs vss, vs = bs.map (fun a => V.ref a.l) ∧ HH K c g H bs xss vss
  | _, _, xss, .nil, e => by
    cases e
    exact ⟨[], [], rfl, .nil⟩
  | x :: xs, v :: vs, xss, .cons a r, e => by
    have e' : (match itV false (.v x), itVs false (xs.map .v) with | some y, some ys => some (y :: ys) | _, _ => none) = some xss := e
    cases e1 : itV false (.v x) with
    | none => rw [e1] at e'; cases e'
    | some y =>
      cases e2 : itVs false (xs.map RV.v) with
      | none => rw [e1, e2] at e'; cases e'
      | some ys =>
        rw [e1, e2] at e'
        cases e'
        obtain ⟨bs, vss, rfl, hh⟩ := reps_rows (c := c) r e2
        cases a with
        | tup hF hr => cases e1; exact ⟨⟨true, 0, _, #[]⟩ :: bs, _ :: vss, rfl, .cons ⟨hr, hF⟩ hh⟩
        | lst hF hr => cases e1; exact ⟨⟨false, 0, _, #[]⟩ :: bs, _ :: vss, rfl, .cons ⟨hr, .inl hF⟩ hh⟩
        | _ => cases e1
theorem i_zipS {X : Cx} {e : Expr} {fe : FE} {p sp pos np : Pos} {nm : Str} (hg : Gl X "zip") (hm : X.mg "zip" = none) (he : SE X e fe) :
    SI X (.Name nm np) (.Call (.Name "zip" p) [.Starred e sp] [] pos) fun c ρ h => (fe ρ h).bind fun r h => .ofOpt ((r.seq h).bind fun xs => if 1 ≤ xs.length ∧ xs.length ≤ 4 then (itVs false (xs.map .v)).map zipAll else none) h :=
  ⟨rfl, fun c => PI.weak (pi_zipS hg hm he.e) fun σ H R w => by
    obtain ⟨q, g, h, ρ, st, xs, h', e0, k⟩ := w
    obtain ⟨r, h1, e1, e0⟩ := bind_ok e0
    obtain ⟨e2, rfl⟩ := ofOpt_ok e0
    refine ⟨q, g, h, ρ, st, r, _, e1, fun g1 H1 v x1 s1 r1 => ?_⟩
    cases c0 : r.seq _ with
    | none => rw [c0] at e2; cases e2
    | some ys =>
      rw [c0] at e2
      simp only [Option.bind_some] at e2
      split at e2
      · rename_i h14
        cases c1 : itVs false (ys.map RV.v) with
        | none => rw [c1] at e2; cases e2
        | some xss =>
          rw [c1] at e2
          cases e2
          obtain ⟨a, vs, rfl, hq, hr⟩ := res_seq s1 r1 c0
          obtain ⟨bs, vss, rfl, hh⟩ := reps_rows (c := c) hr c1
          have hl : bs.length = ys.length := by
            have := hr.length
            simpa using this
          have hne : xss ≠ [] := fun z => by
            have := hh.len
            rw [z, hl] at this
            simp at this
            rw [← this] at h14
            simp at h14
          exact ⟨a, bs, vss, rfl, hq.symm, by rw [hl]; exact h14, hh.zv, fun base hb => k g1 H1 _ x1 s1 fun g3 H3 x3 => serves_Z hne ((hh.of hb).lat x3)⟩
      · cases e2⟩
end WT
end
section
set_option Elab.async false
set_option linter.all false
set_option maxRecDepth 100000
set_option maxHeartbeats 4000000
/-! The checker: expressions. -/
namespace WT
open PySem PySem.Spec PyProof.Rows L2
def cstB : PV → Const → Bool
  | .int i, .int j => decide (i = j)
  | .bl a, .bool b => decide (a = b)
  | .non, .none => true
  | .str x, .str y => x == y
  | _, _ => false
def ownP (c : Ck) (own : List Nat) : List (Str × Nat) := own.map fun i => ((c.N[i]?).getD "", i)
def tgB (c : Ck) : Tg → Expr → Bool
  | .var i, .Name x _ => storeB c i x
  | .tup is, .Tuple es _ _ => tgsB c is es
  | _, _ => false
where tgsB (c : Ck) : List Nat → List Expr → Bool
  | [], [] => true
  | i :: is, .Name x _ :: es => storeB c i x && tgsB c is es
  | _, _ => false
def subB (is js : List Nat) : Bool := is.all fun i => js.contains i
/-! a form's parts -/
def opt {α : Type} (o : Option α) (f : α → Bool) : Bool := match o with
  | some a => f a
  | none => false
theorem opt_ok {α : Type} {o : Option α} {f : α → Bool} (h : opt o f = true) : ∃ a, o = some a ∧ f a = true := by
  cases o with
  | none => cases h
  | some a => exact ⟨a, rfl, h⟩
def asName : Expr → Option Str
  | .Name y _ => some y
  | _ => none
def asConst : Expr → Option Const
  | .Constant k _ _ => some k
  | _ => none
/-- and: the first, what is behind it -/
def asAnd : Expr → Option (Expr × Expr)
  | .BoolOp .And [x, y] _ => some (x, y)
  | .BoolOp .And (x :: y :: r :: rs) p => some (x, .BoolOp .And (y :: r :: rs) p)
  | _ => none
def asOr : Expr → Option (Expr × Expr)
  | .BoolOp .Or [x, y] _ => some (x, y)
  | .BoolOp .Or (x :: y :: r :: rs) p => some (x, .BoolOp .Or (y :: r :: rs) p)
  | _ => none
def asIf : Expr → Option (Expr × Expr × Expr)
  | .IfExp x y z _ => some (x, y, z)
  | _ => none
def asChain : Expr → Option (CmpOp × CmpOp × Expr × Expr × Expr)
  | .Compare x [p1, p2] [y, z] _ => some (p1, p2, x, y, z)
  | _ => none
def asDlook : Expr → Option (List (Option Expr) × List Expr × Expr)
  | .Subscript (.Dict keys vals _) b _ => some (keys, vals, b)
  | _ => none
def asGlook : Expr → Option (Str × Expr)
  | .Subscript (.Name x _) b _ => some (x, b)
  | _ => none
/-- the same value -/
def pvB : PV → PV → Bool
  | .non, .non => true
  | .bl a, .bl b => decide (a = b)
  | .int a, .int b => decide (a = b)
  | .str a, .str b => decide (a = b)
  | .tup xs, .tup ys => pvsB xs ys
  | _, _ => false
where pvsB : List PV → List PV → Bool
  | [], [] => true
  | x :: xs, y :: ys => pvB x y && pvsB xs ys
  | _, _ => false
def gcstB (c : Ck) (y : Str) (v : PV) : Bool := glB c y && (match c.gt.lookup y with
  | some (.val w) => pvB v w
  | _ => false)
def gdicB (c : Ck) (y : Str) (ks : List DKey) (vs : List PV) : Bool := glB c y && (match c.gt.lookup y with
  | some (.dic ks' vs') => decide (ks = ks'.map .inr) && pvB.pvsB vs vs'
  | _ => false)
def asCall : Expr → Option (Str × List Expr × List Keyword)
  | .Call (.Name x _) args kws _ => some (x, args, kws)
  | _ => none
def asLC : Expr → Option (Expr × Expr × Expr × List Expr × List Comprehension × Scope)
  | .ListComp e (⟨tg, iter, cs, 0⟩ :: rest) scope _ => some (e, tg, iter, cs, rest, scope)
  | _ => none
def asGen : List Comprehension → Option (Expr × Expr × List Expr)
  | [⟨tg, iter, cs, 0⟩] => some (tg, iter, cs)
  | _ => none
def asCons : List Expr → Option (Expr × List Expr)
  | x :: xs => some (x, xs)
  | [] => none
def asOne : List Expr → Option Expr
  | [x] => some x
  | _ => none
def asKw : List Expr → List Keyword → Option (Expr × List Keyword)
  | [], ⟨some _, v, _⟩ :: ks => some (v, ks)
  | _, _ => none
def asC1 : Expr → Option (Str × Expr)
  | .Call (.Name f _) [x] [] _ => some (f, x)
  | _ => none
def asC2 : Expr → Option (Str × Expr × Expr)
  | .Call (.Name f _) [x, y] [] _ => some (f, x, y)
  | _ => none
def asZip : Expr → Option (Str × List Expr)
  | .Call (.Name f _) es [] _ => some (f, es)
  | _ => none
def isTup : Expr → Bool
  | .Tuple _ _ _ => true
  | _ => false
def asZipS : Expr → Option (Str × Expr)
  | .Call (.Name f _) [.Starred e _] [] _ => some (f, e)
  | _ => none
def isNm : Expr → Bool
  | .Name _ _ => true
  | _ => false
def calleeB (c : Ck) (f n : Nat) (x : Str) (ks : List Str) (is : List Nat) : Bool := match c.ft.find? (·.1 == x) with
  | some p => p.2.1 == f && permB p.2.2 n ks is
  | none => false
def nilE : Es → Bool
  | .nil => true
  | _ => false
def nilG : Gs → Bool
  | .nil => true
  | _ => false
mutual
def chkE (c : Ck) : E → Expr → Bool
  | .var i, x => opt (asName x) fun y => nmB c i y
  | .cst v, x => (opt (asConst x) fun k => cstB v k) || opt (asName x) fun y => gcstB c y v
  | .gl _, _ => false
  | .op o es, x => opt (argsOf c o x) fun xs => chkEs c es xs
  | .and a b, x => opt (asAnd x) fun p => chkE c a p.1 && chkE c b p.2
  | .or a b, x => opt (asOr x) fun p => chkE c a p.1 && chkE c b p.2
  | .ite t a b, x => opt (asIf x) fun p => chkE c t p.1 && chkE c a p.2.1 && chkE c b p.2.2
  | .chain o1 o2 a b d, x => opt (asChain x) fun p => cmpB o1 p.1 && cmpB o2 p.2.1 && chkE c a p.2.2.1 && chkE c b p.2.2.2.1 && chkE c d p.2.2.2.2
  | .dlook ks vs e, x => (opt (asDlook x) fun p => dictB ks vs p.1 p.2.1 && decide ks.Nodup && decide (ks.length ≠ 0) && decide (ks.length ≤ 15) && chkE c e p.2.2) || opt (asGlook x) fun p => gdicB c p.1 ks vs && chkE c e p.2
  | .call f is es, x => opt (asCall x) fun p => calleeB c f p.2.1.length p.1 (p.2.2.filterMap (·.arg)) is && glB c p.1 && chkAK c es p.2.1 p.2.2
  | .lc own elt t i ifs gs, x => opt (asLC x) fun p => blkC c.N c.sc p.2.2.2.2.2 (ownP c own) && subB (tgIdx t) own && chkI c i p.2.1 p.2.2.1 && tgB (c.inb p.2.2.2.2.2) t p.2.1 && chkC (c.inb p.2.2.2.2.2) ifs p.2.2.2.1 && chkG (c.inb p.2.2.2.2.2) own gs p.2.2.2.2.1 && chkE (c.inb p.2.2.2.2.2) elt p.1
def chkEs (c : Ck) : Es → List Expr → Bool
  | .nil, xs => xs.isEmpty
  | .cons e es, xs => opt (asCons xs) fun p => chkE c e p.1 && chkEs c es p.2
def chkC (c : Ck) : Es → List Expr → Bool
  | .nil, xs => xs.isEmpty
  | .cons e es, xs => nilE es && opt (asOne xs) fun x => chkE c e x
def chkAK (c : Ck) : Es → List Expr → List Keyword → Bool
  | .nil, xs, ks => xs.isEmpty && ks.isEmpty
  | .cons e es, xs, ks => (opt (asCons xs) fun p => chkE c e p.1 && chkAK c es p.2 ks) || (opt (asKw xs ks) fun p => chkE c e p.1 && chkAK c es [] p.2)
def chkI (c : Ck) : It → Expr → Expr → Bool
  | .range1 a, _, x => opt (asC1 x) fun p => blB c p.1 "range" && chkE c a p.2
  | .range2 a b, _, x => opt (asC2 x) fun p => blB c p.1 "range" && chkE c a p.2.1 && chkE c b p.2.2
  | .val e, _, x => chkE c e x
  | .zip es, tg, x => isTup tg && opt (asZip x) fun p => blB c p.1 "zip" && (p.2.length == 2 || p.2.length == 3) && chkEs c es p.2
  | .zipS e, tg, x => isNm tg && opt (asZipS x) fun p => blB c p.1 "zip" && chkE c e p.2
  | .enum e, tg, x => isTup tg && opt (asC1 x) fun p => blB c p.1 "enumerate" && chkE c e p.2
/-- a second clause, or none -/
def chkG (c : Ck) (own : List Nat) : Gs → List Comprehension → Bool
  | .nil, r => r.isEmpty
  | .cons own1 t i ifs gs, r => nilG gs && opt (asGen r) fun p => subB (tgIdx t) own1 && subB own1 own && chkI c i p.1 p.2.1 && tgB c t p.1 && chkC c ifs p.2.2 && plainX p.2.1
end
end WT
end
section
set_option Elab.async false
set_option linter.all false
set_option maxRecDepth 100000
set_option maxHeartbeats 4000000
/-! The checker is right: expressions. -/
namespace WT
open PySem PySem.Spec PyProof.Rows L2
section
variable (cf : CF) (G : Nat → Option PV)
theorem ev_op (o : Op) (es : Es) : evalE cf G (.op o es) = opF o (evalEs cf G es) := by
  funext ρ h
  rw [evalE]
  rfl
theorem ev_and (a b : E) : evalE cf G (.and a b) = andE (evalE cf G a) (evalE cf G b) := by
  funext ρ h
  rw [evalE]
  rfl
theorem ev_or (a b : E) : evalE cf G (.or a b) = orE (evalE cf G a) (evalE cf G b) := by
  funext ρ h
  rw [evalE]
  rfl
theorem ev_ite (t a b : E) : evalE cf G (.ite t a b) = iteE (evalE cf G t) (evalE cf G a) (evalE cf G b) := by
  funext ρ h
  rw [evalE]
  rfl
theorem ev_chain (o1 o2 : CmpO) (a b d : E) : evalE cf G (.chain o1 o2 a b d) = chainE o1 o2 (evalE cf G a) (evalE cf G b) (evalE cf G d) := by
  funext ρ h
  rw [evalE]
  rfl
theorem ev_dlook (ks : List DKey) (vs : List PV) (e : E) : evalE cf G (.dlook ks vs e) = fun ρ h => (evalE cf G e ρ h).bind fun r h => .ofOpt (dlookS ks vs r) h := by
  funext ρ h
  rw [evalE]
theorem ev_call (f : Nat) (is : List Nat) (es : Es) : evalE cf G (.call f is es) = callF cf f is (evalEs cf G es) := by
  funext ρ h
  rw [evalE]
  rfl
theorem ev_cst (v : PV) : evalE cf G (.cst v) = fun _ h => .ok (.v v) h := by
  funext ρ h
  rw [evalE]
theorem ev_lc (own : List Nat) (elt : E) (t : Tg) (i : It) (ifs : Es) (gs : Gs) : evalE cf G (.lc own elt t i ifs gs) = lcF (genF own t (evalI cf G i true) (evalC cf G ifs) (evalG cf G gs (appF (evalE cf G elt)))) := by
  funext ρ h
  rw [evalE]
theorem ev_nil : evalEs cf G .nil = nilF := by
  funext ρ h
  rw [evalEs]
  rfl
theorem ev_cons (e : E) (es : Es) : evalEs cf G (.cons e es) = consF (evalE cf G e) (evalEs cf G es) := by
  funext ρ h
  rw [evalEs]
  rfl
theorem ev_cnil : evalC cf G .nil = yesF := by rw [evalC]
theorem ev_cone (e : E) : evalC cf G (.cons e .nil) = truthE (evalE cf G e) := by rw [evalC]
theorem ev_gnil (k : FG) : evalG cf G .nil k = k := by rw [evalG]
theorem ev_gone (own : List Nat) (t : Tg) (i : It) (ifs : Es) (k : FG) : evalG cf G (.cons own t i ifs .nil) k = genF own t (evalI cf G i false) (evalC cf G ifs) k := by rw [evalG, evalG]
theorem ev_val (e : E) : (fun c => evalI cf G (.val e) c) = fun c ρ h => (evalE cf G e ρ h).bind fun r h => .ofOpt (itV c r) h := by
  funext c ρ h
  rw [evalI]
theorem ev_zip (es : Es) : (fun c => evalI cf G (.zip es) c) = fun c ρ h => (evalEs cf G es ρ h).bind fun rs h => .ofOpt ((itVs c rs).map zipAll) h := by
  funext c ρ h
  rw [evalI]
theorem ev_zipS (e : E) : (fun c => evalI cf G (.zipS e) c) = fun c ρ h => (evalE cf G e ρ h).bind fun r h => .ofOpt ((r.seq h).bind fun xs => if 1 ≤ xs.length ∧ xs.length ≤ 4 then (itVs false (xs.map .v)).map zipAll else none) h := by
  funext c ρ h
  rw [evalI]
theorem ev_enum (e : E) : (fun c => evalI cf G (.enum e) c) = fun c ρ h => (evalE cf G e ρ h).bind fun r h => .ofOpt ((itV c r).map (enumL 0)) h := by
  funext c ρ h
  rw [evalI]
theorem ev_range1 (a : E) : (fun c => evalI cf G (.range1 a) c) = fun _ ρ h => (evalE cf G a ρ h).bind fun r h => .ofOpt (rg1 r) h := by
  funext c ρ h
  rw [evalI]
theorem ev_range2 (a b : E) : (fun c => evalI cf G (.range2 a b) c) = fun _ ρ h => (evalE cf G a ρ h).bind fun r h => (evalE cf G b ρ h).bind fun s h => .ofOpt (rg2 r s) h := by
  funext c ρ h
  rw [evalI]
end
theorem cons_both {fe : FE} {fs fk : FEs} : bothF (consF fe fs) fk = consF fe (bothF fs fk) := by
  funext ρ h
  unfold bothF consF
  rw [Out.bind_bind]
  congr 1
  funext r h
  rw [Out.bind_bind, Out.bind_bind]
  congr 1
  funext rs h
  show (fk ρ h).bind _ = _
  rw [Out.bind_bind]
  rfl
theorem nil_both {fk : FEs} : bothF nilF fk = fk := by
  funext ρ h
  unfold bothF nilF
  show (fk ρ h).bind (fun zs h => .ok ([] ++ zs) h) = fk ρ h
  cases fk ρ h <;> rfl
theorem both_nil {fs : FEs} : bothF fs nilF = fs := by
  funext ρ h
  unfold bothF nilF
  cases fs ρ h with
  | ok a h => show Out.ok (a ++ []) h = _; rw [List.append_nil]
  | exc c v h => rfl
  | bad => rfl
inductive SKl (X : Cx) : List Keyword → List Str → FEs → Prop
  | nil : SKl X [] [] nilF
  | cons {n : Str} {e : Expr} {kp : Pos} {kws : List Keyword} {ks : List Str} {fe : FE} {fs : FEs} : SE X e fe → SKl X kws ks fs → SKl X (⟨some n, e, kp⟩ :: kws) (n :: ks) (consF fe fs)
theorem SKl.sk {X : Cx} {kws : List Keyword} {ks : List Str} {fs : FEs} (h : SKl X kws ks fs) : SK X kws ks fs := by
  induction h with
  | nil => exact SK.nil
  | cons h _ ih => exact SK.cons h ih
theorem SKl.nm {X : Cx} {kws : List Keyword} {ks : List Str} {fs : FEs} (h : SKl X kws ks fs) : kws.filterMap (·.arg) = ks := by
  induction h with
  | nil => rfl
  | cons h _ ih => rw [List.filterMap_cons]; show _ :: _ = _; rw [ih]
section
variable {X : Cx} {cf : CF} {c : Ck}
theorem call_ok (k : CkOk X cf c) {f : Nat} {x : Str} {is : List Nat} {args : List Expr} {kws : List Keyword} {fs fk : FEs} {ks : List Str} {p pos : Pos} (hg : glB c x = true)
    (hf : calleeB c f args.length x (kws.filterMap (·.arg)) is = true) (ha : SEl X args fs) (hk : SKl X kws ks fk) : SE X (.Call (.Name x p) args kws pos) (callF cf f is (bothF fs fk)) := by
  obtain ⟨g1, g2, g3⟩ := gl_ok k hg
  unfold calleeB at hf
  cases e : c.ft.find? (·.1 == x) with
  | none => rw [e] at hf; cases hf
  | some q =>
    rw [e] at hf
    have hf' : (q.2.1 == f && permB q.2.2 args.length (kws.filterMap (·.arg)) is) = true := hf
    rw [Bool.and_eq_true, hk.nm] at hf'
    obtain ⟨h1, h2⟩ := hf'
    have e1 : q.2.1 = f := eq_of_beq h1
    have e2 : (q.1 == x) = true := List.find?_some (p := fun (q : Str × Nat × List Str) => q.1 == x) e
    have e3 : q.1 = x := eq_of_beq e2
    have C := k.ft q (List.mem_of_find?_eq_some e)
    rw [e1, e3] at C
    cases ha with
    | nil =>
      cases hk with
      | nil => exact e_call00 C g1 g2 h2
      | cons h3 h4 => exact e_callK C g1 g2 (SKl.cons h3 h4).sk h2
    | cons h3 h4 =>
      cases hk with
      | nil => exact e_callP C g1 g2 (SEl.cons h3 h4).sa h3.px h4.sa.fl h2
      | cons h5 h6 => exact e_callPK C g1 g2 (SEl.cons h3 h4).sa h3.px (SKl.cons h5 h6).sk h2
theorem cst_ok {v : PV} {w : Const} {j : Nat} {pos : Pos} (h : cstB v w = true) : SE X (.Constant w j pos) (fun _ h => .ok (.v v) h) := by
  unfold cstB at h
  split at h
  · have := of_decide_eq_true h; subst this; exact e_int
  · have := of_decide_eq_true h; subst this; exact e_bl
  · exact e_non
  · have := eq_of_beq h; subst this; exact e_str
  · cases h
theorem ownP_map (c : Ck) (own : List Nat) : (ownP c own).map (·.2) = own := by
  unfold ownP
  rw [List.map_map]
  exact List.map_id _
theorem sub_ok {is js : List Nat} (h : subB is js = true) : ∀ i ∈ is, i ∈ js := fun i hi => by
  unfold subB at h
  rw [List.all_eq_true] at h
  exact List.contains_iff_mem.mp (h i hi)
theorem tgs_ok (k : CkOk X cf c) : ∀ {is : List Nat} {es : List Expr}, tgB.tgsB c is es = true → PGs X es (gNames is) ∧ (assignEach es X.env).length = is.length ∧ (assignEach es X.env).findIdx? (·.1) = none
  | [], [], _ => ⟨pgs_nil, rfl, rfl⟩
  | [], _ :: _, h => by cases h
  | _ :: _, [], h => by cases h
  | i :: is, e :: es, h => by
    cases e with
    | Name x p =>
      have h' : (storeB c i x && tgB.tgsB c is es) = true := h
      rw [Bool.and_eq_true] at h'
      obtain ⟨s1, s2, s3⟩ := store_ok' k h'.1
      obtain ⟨r1, r2, r3⟩ := tgs_ok k h'.2
      refine ⟨pgs_cons (pg_name k.nd s1 s2 s3) r1 rfl, ?_, ?_⟩
      · show (assignEach es X.env).length + 1 = _
        rw [r2]; rfl
      · show List.findIdx? _ ((false, assign (.Name x p) X.env) :: assignEach es X.env) = none
        rw [List.findIdx?_cons, r3]
        rfl
    | _ => cases h
theorem tg_ok (k : CkOk X cf c) {t : Tg} {e : Expr} (h : tgB c t e = true) : PG X e (tgG X.K t) := by
  cases t with
  | var i =>
    cases e with
    | Name x p =>
      obtain ⟨s1, s2, s3⟩ := store_ok' k (show storeB c i x = true from h)
      exact pg_name k.nd s1 s2 s3
    | _ => cases h
  | tup is =>
    cases e with
    | Tuple es j p =>
      obtain ⟨r1, r2, r3⟩ := tgs_ok k (show tgB.tgsB c is es = true from h)
      exact pg_tup k.calm r1 r2 r3
    | _ => cases h
variable {G : Nat → Option PV}
theorem and3 {a b : Bool} (h : (a && b) = true) : a = true ∧ b = true := Bool.and_eq_true_iff.mp h
theorem zip_si {X : Cx} {es : List Expr} {fs : FEs} {p pos tpos : Pos} {elts : List Expr} {kk : Nat} (hg : Gl X "zip") (hm : X.mg "zip" = none) (r : SEl X es fs) (h23 : es.length = 2 ∨ es.length = 3) :
    SI X (.Tuple elts kk tpos) (.Call (.Name "zip" p) es [] pos) fun c ρ h => (fs ρ h).bind fun rs h => .ofOpt ((itVs c rs).map zipAll) h := by
  cases r with
  | nil => rcases h23 with h | h <;> cases h
  | cons h3 h4 => exact i_zip hg hm (SEl.cons h3 h4).sa h3.px h4.sa.fl h23
mutual
theorem pvB_ok : ∀ {x y : PV}, pvB x y = true → x = y
  | .non, y, h => by cases y <;> first | rfl | (simp [pvB] at h)
  | .bl a, y, h => by cases y <;> first | (simp [pvB] at h; done) | (simp [pvB] at h; rw [h])
  | .int a, y, h => by cases y <;> first | (simp [pvB] at h; done) | (simp [pvB] at h; rw [h])
  | .str a, y, h => by cases y <;> first | (simp [pvB] at h; done) | (simp [pvB] at h; rw [h])
  | .tup xs, y, h => by
    cases y <;> first | (simp [pvB] at h; done) | skip
    rw [pvB] at h
    rw [pvsB_ok h]
  | .lst _, y, h => by cases y <;> (simp [pvB] at h)
  | .dic _ _, y, h => by cases y <;> (simp [pvB] at h)
  | .set _, y, h => by cases y <;> (simp [pvB] at h)
  | .loc _, y, h => by cases y <;> (simp [pvB] at h)
  | .exc _ _, y, h => by cases y <;> (simp [pvB] at h)
  | .sc _, y, h => by cases y <;> (simp [pvB] at h)
theorem pvsB_ok : ∀ {xs ys : List PV}, pvB.pvsB xs ys = true → xs = ys
  | [], [], _ => rfl
  | [], _ :: _, h => by simp [pvB.pvsB] at h
  | _ :: _, [], h => by simp [pvB.pvsB] at h
  | x :: xs, y :: ys, h => by
    rw [pvB.pvsB, Bool.and_eq_true] at h
    rw [pvB_ok h.1, pvsB_ok h.2]
end
theorem lookup_in {α β : Type} [BEq α] [LawfulBEq α] {a : α} {b : β} : ∀ {l : List (α × β)}, l.lookup a = some b → (a, b) ∈ l
  | [], h => by cases h
  | (k, v) :: l, h => by
    rw [List.lookup_cons] at h
    split at h
    · rename_i e
      cases h
      rw [eq_of_beq e]
      exact List.mem_cons_self ..
    · exact List.mem_cons_of_mem _ (lookup_in h)
theorem gcst_ok {X : Cx} {cf : CF} {c : Ck} (k : CkOk X cf c) {y : Str} {v : PV} (h : gcstB c y v = true) : Gl X y ∧ (y == ("__debug__" : Str)) = false ∧ GcOk X.K X.w X.mg y (.val v) := by
  unfold gcstB at h
  rw [Bool.and_eq_true] at h
  obtain ⟨h1, h2⟩ := h
  refine ⟨(gl_ok k h1).1, (gl_ok k h1).2.1, ?_⟩
  split at h2
  · rename_i w e
    rw [pvB_ok h2]
    exact k.gt _ (lookup_in e)
  · cases h2
theorem gdic_ok {X : Cx} {cf : CF} {c : Ck} (k : CkOk X cf c) {y : Str} {ks : List DKey} {vs : List PV} (h : gdicB c y ks vs = true) : ∃ ks' : List Str, Gl X y ∧ ks = ks'.map .inr ∧ (y == ("__debug__" : Str)) = false ∧ GcOk X.K X.w X.mg y (.dic ks' vs) := by
  unfold gdicB at h
  rw [Bool.and_eq_true] at h
  obtain ⟨h1, h2⟩ := h
  split at h2
  · rename_i ks' vs' e
    rw [Bool.and_eq_true, decide_eq_true_eq] at h2
    rw [pvsB_ok h2.2]
    exact ⟨ks', (gl_ok k h1).1, h2.1, (gl_ok k h1).2.1, k.gt _ (lookup_in e)⟩
  · cases h2
mutual
theorem chkE_ok : ∀ (e : E) {X : Cx} {c : Ck} (k : CkOk X cf c) {x : Expr}, chkE c e x = true → SX X x (evalE cf G e)
  | .var i, X, c, k, x, h => by
    rw [chkE] at h
    obtain ⟨y, hy, h⟩ := opt_ok h
    unfold asName at hy
    split at hy
    · cases hy
      obtain ⟨h1, h2, h3, h4⟩ := nm_ok k h
      exact .of (.plain (e_var h1 h2 h3 h4 cf G) (fun _ => rfl) fun _ _ _ e => nomatch e)
    · cases hy
  | .cst v, X, c, k, x, h => by
    rw [chkE] at h
    rw [Bool.or_eq_true] at h
    rcases h with h | h
    rotate_left
    · obtain ⟨y, hy, h⟩ := opt_ok h
      unfold asName at hy
      split at hy
      · cases hy
        obtain ⟨h1, h2, h3⟩ := gcst_ok k h
        rw [ev_cst]
        exact .of (e_glob h1 h3 h2)
      · cases hy
    obtain ⟨y, hy, h⟩ := opt_ok h
    unfold asConst at hy
    split at hy
    · cases hy
      rw [ev_cst]
      exact .of (cst_ok h)
    · cases hy
  | .gl g, X, c, k, x, h => by
    rw [chkE] at h
    cases h
  | .op o es, X, c, k, x, h => by
    rw [chkE] at h
    obtain ⟨xs, hx, h⟩ := opt_ok h
    rw [ev_op]
    exact op_ok k hx (chkEs_ok es k h)
  | .and a b, X, c, k, x, h => by
    rw [chkE] at h
    obtain ⟨p, hp, h⟩ := opt_ok h
    obtain ⟨h1, h2⟩ := and3 h
    have r1 := chkE_ok a k h1
    have r2 := chkE_ok b k h2
    rw [ev_and]
    unfold asAnd at hp
    split at hp
    · cases hp
      exact .of (e_and r1.s r2.s.boolOne)
    · cases hp
      exact .of (e_and r1.s r2.s)
    · cases hp
  | .or a b, X, c, k, x, h => by
    rw [chkE] at h
    obtain ⟨p, hp, h⟩ := opt_ok h
    obtain ⟨h1, h2⟩ := and3 h
    have r1 := chkE_ok a k h1
    have r2 := chkE_ok b k h2
    rw [ev_or]
    unfold asOr at hp
    split at hp
    · cases hp
      exact .of (e_or r1.s r2.s.boolOne)
    · cases hp
      exact .of (e_or r1.s r2.s)
    · cases hp
  | .ite t a b, X, c, k, x, h => by
    rw [chkE] at h
    obtain ⟨p, hp, h⟩ := opt_ok h
    obtain ⟨h1, h2⟩ := and3 h
    obtain ⟨h0, h1⟩ := and3 h1
    have r0 := chkE_ok t k h0
    have r1 := chkE_ok a k h1
    have r2 := chkE_ok b k h2
    rw [ev_ite]
    unfold asIf at hp
    split at hp
    · cases hp
      exact .of (e_ite r0.s r1.s r2.s)
    · cases hp
  | .chain o1 o2 a b d, X, c, k, x, h => by
    rw [chkE] at h
    obtain ⟨p, hp, h⟩ := opt_ok h
    obtain ⟨q4, h5⟩ := and3 h
    obtain ⟨q3, h4⟩ := and3 q4
    obtain ⟨q2, h3⟩ := and3 q3
    obtain ⟨h1, h2⟩ := and3 q2
    have r3 := chkE_ok a k h3
    have r4 := chkE_ok b k h4
    have r5 := chkE_ok d k h5
    rw [ev_chain]
    unfold asChain at hp
    split at hp
    · cases hp
      exact .of (e_chain (cmp_ok k h1) (cmp_ok k h2) r3.s r4.s r5.s)
    · cases hp
  | .dlook ks vs e, X, c, k, x, h => by
    rw [chkE] at h
    rw [Bool.or_eq_true] at h
    rcases h with h | h
    rotate_left
    · obtain ⟨p, hp, h⟩ := opt_ok h
      obtain ⟨h1, h2⟩ := and3 h
      have r2 := chkE_ok e k h2
      unfold asGlook at hp
      split at hp
      · cases hp
        obtain ⟨ks', h3, rfl, h4, h5⟩ := gdic_ok k h1
        rw [ev_dlook]
        exact .of (e_gdict h3 h5 h4 r2.s (plain_ix r2.s.px))
      · cases hp
    obtain ⟨p, hp, h⟩ := opt_ok h
    obtain ⟨q4, h5⟩ := and3 h
    obtain ⟨q3, h4⟩ := and3 q4
    obtain ⟨q2, h3⟩ := and3 q3
    obtain ⟨h1, h2⟩ := and3 q2
    have r5 := chkE_ok e k h5
    rw [ev_dlook]
    unfold asDlook at hp
    split at hp
    · cases hp
      have hu := k.un
      exact .of (e_dlook (by omega) h1 (of_decide_eq_true h2) (of_decide_eq_true h3) (of_decide_eq_true h4) r5.s (plain_ix r5.s.px))
    · cases hp
  | .call f is es, X, c, k, x, h => by
    rw [chkE] at h
    obtain ⟨p, hp, h⟩ := opt_ok h
    obtain ⟨q1, h2⟩ := and3 h
    obtain ⟨h1, h3⟩ := and3 q1
    obtain ⟨fs, fk, ks, ha, hk, e⟩ := chkAK_ok es k h2
    rw [ev_call, e]
    unfold asCall at hp
    split at hp
    · cases hp
      exact .of (call_ok k h3 h1 ha hk)
    · cases hp
  | .lc own elt t i ifs gs, X, c, k, x, h => by
    rw [chkE] at h
    obtain ⟨p, hp, h⟩ := opt_ok h
    obtain ⟨q6, h7⟩ := and3 h
    obtain ⟨q5, h6⟩ := and3 q6
    obtain ⟨q4, h5⟩ := and3 q5
    obtain ⟨q3, h4⟩ := and3 q4
    obtain ⟨q2, h3⟩ := and3 q3
    obtain ⟨h1, h2⟩ := and3 q2
    rw [ev_lc]
    have bk : BlkOk X.N X.env.scope p.2.2.2.2.2 (ownP c own) := by rw [k.N, k.sc]; exact blkOk_by h1
    have ho := ownP_map c own
    have r3 : SI X p.2.1 p.2.2.1 (fun b => evalI cf G i b) := chkI_ok i k h3
    have r4 := fun s H C cl fp => tg_ok (k.inb p.2.2.2.2.2 s H C cl fp) h4
    have r5 := fun s H C cl fp => chkC_ok ifs (k.inb p.2.2.2.2.2 s H C cl fp) h5
    have r7 := fun s H C cl fp => (chkE_ok elt (k.inb p.2.2.2.2.2 s H C cl fp) h7).s
    have r2 : ∀ j ∈ tgIdx t, j ∈ (ownP c own).map (·.2) := by rw [ho]; exact sub_ok h2
    have rG := chkG_ok gs (c := c.inb p.2.2.2.2.2) (own := own) h6
    unfold asLC at hp
    split at hp
    · cases hp
      rcases rG with ⟨rfl, e0⟩ | ⟨own1, t1, i1, ifs1, tg1, iter1, cs1, rfl, e0, g1, g2, g3, g4, g5, g6⟩
      · have e0 : _ = [] := e0
        subst e0
        rw [ev_gnil]
        have eo : lcF (genF own t (evalI cf G i true) (evalC cf G ifs) (appF (evalE cf G elt))) = lcF (genF ((ownP c own).map (·.2)) t (evalI cf G i true) (evalC cf G ifs) (appF (evalE cf G elt))) := by rw [ho]
        rw [eo]
        exact e_lc1 (fi := fun b => evalI cf G i b) k.calm k.nd r3 bk r2 r4 r5 r7
      · have e0 : _ = [_] := e0
        subst e0
        rw [ev_gone]
        have eo : lcF (genF own t (evalI cf G i true) (evalC cf G ifs) (genF own1 t1 (evalI cf G i1 false) (evalC cf G ifs1) (appF (evalE cf G elt)))) = lcF (genF ((ownP c own).map (·.2)) t (evalI cf G i true) (evalC cf G ifs) (genF own1 t1 (evalI cf G i1 false) (evalC cf G ifs1) (appF (evalE cf G elt)))) := by rw [ho]
        rw [eo]
        exact e_lc2 (fi := fun b => evalI cf G i b) (fi1 := fun b => evalI cf G i1 b) k.calm k.nd r3 bk r2 g1 (by rw [ho]; exact g2) r4 r5 (fun s H C cl fp => g3 (k.inb _ s H C cl fp)) (fun s H C cl fp => tg_ok (k.inb _ s H C cl fp) g4) (fun s H C cl fp => g5 (k.inb _ s H C cl fp)) r7 g6
    · cases hp
theorem chkEs_ok : ∀ (es : Es) {X : Cx} {c : Ck} (k : CkOk X cf c) {xs : List Expr}, chkEs c es xs = true → SEl X xs (evalEs cf G es)
  | .nil, X, c, k, xs, h => by
    rw [chkEs] at h
    have e0 := List.isEmpty_iff.mp h
    subst e0
    rw [ev_nil]
    exact .nil
  | .cons e es, X, c, k, xs, h => by
    rw [chkEs] at h
    obtain ⟨p, hp, h⟩ := opt_ok h
    obtain ⟨h1, h2⟩ := and3 h
    have r1 := chkE_ok e k h1
    have r2 := chkEs_ok es k h2
    rw [ev_cons]
    unfold asCons at hp
    split at hp
    · cases hp
      exact .cons r1.s r2
    · cases hp
theorem chkC_ok : ∀ (es : Es) {X : Cx} {c : Ck} (k : CkOk X cf c) {xs : List Expr}, chkC c es xs = true → PTs X xs (tOb X.K (evalC cf G es))
  | .nil, X, c, k, xs, h => by
    rw [chkC] at h
    have e0 := List.isEmpty_iff.mp h
    subst e0
    rw [ev_cnil]
    exact c_nil
  | .cons e es, X, c, k, xs, h => by
    rw [chkC] at h
    obtain ⟨h0, h⟩ := and3 h
    obtain ⟨p, hp, h⟩ := opt_ok h
    have r1 := chkE_ok e k h
    cases es with
    | cons _ _ => cases h0
    | nil =>
      rw [ev_cone]
      unfold asOne at hp
      split at hp
      · cases hp
        exact c_one r1.s
      · cases hp
theorem chkAK_ok : ∀ (es : Es) {X : Cx} {c : Ck} (k : CkOk X cf c) {xs : List Expr} {kws : List Keyword}, chkAK c es xs kws = true → ∃ fs fk ks, SEl X xs fs ∧ SKl X kws ks fk ∧ evalEs cf G es = bothF fs fk
  | .nil, X, c, k, xs, kws, h => by
    rw [chkAK] at h
    obtain ⟨h1, h2⟩ := and3 h
    have e0 := List.isEmpty_iff.mp h1
    have e1 := List.isEmpty_iff.mp h2
    subst e0
    subst e1
    exact ⟨nilF, nilF, [], .nil, .nil, by rw [ev_nil, nil_both]⟩
  | .cons e es, X, c, k, xs, kws, h => by
    rw [chkAK, Bool.or_eq_true] at h
    rcases h with h | h
    · obtain ⟨p, hp, h⟩ := opt_ok h
      obtain ⟨h1, h2⟩ := and3 h
      have r1 := chkE_ok e k h1
      obtain ⟨fs, fk, ks, ha, hk, ee⟩ := chkAK_ok es k h2
      unfold asCons at hp
      split at hp
      · cases hp
        exact ⟨_, fk, ks, .cons r1.s ha, hk, by rw [ev_cons, ee, cons_both]⟩
      · cases hp
    · obtain ⟨p, hp, h⟩ := opt_ok h
      obtain ⟨h1, h2⟩ := and3 h
      have r1 := chkE_ok e k h1
      obtain ⟨fs, fk, ks, ha, hk, ee⟩ := chkAK_ok es k h2
      unfold asKw at hp
      split at hp
      · cases hp
        cases ha
        exact ⟨nilF, _, _, .nil, .cons r1.s hk, by rw [ev_cons, ee, nil_both, nil_both]⟩
      · cases hp
theorem chkI_ok : ∀ (i : It) {X : Cx} {c : Ck} (k : CkOk X cf c) {tg x : Expr}, chkI c i tg x = true → SI X tg x (fun b => evalI cf G i b)
  | .val e, X, c, k, tg, x, h => by
    rw [chkI] at h
    rw [ev_val]
    exact i_val (chkE_ok e k h).s
  | .range1 a, X, c, k, tg, x, h => by
    rw [chkI] at h
    obtain ⟨p, hp, h⟩ := opt_ok h
    obtain ⟨h1, h2⟩ := and3 h
    have r := chkE_ok a k h2
    obtain ⟨e1, hg, hm, _, _⟩ := bl_ok k h1
    rw [ev_range1]
    unfold asC1 at hp
    split at hp
    · cases hp
      have e1 : _ = Str.ofString "range" := e1
      subst e1
      exact i_range1 hg hm r.s
    · cases hp
  | .range2 a b, X, c, k, tg, x, h => by
    rw [chkI] at h
    obtain ⟨p, hp, h⟩ := opt_ok h
    obtain ⟨h1, h3⟩ := and3 h
    obtain ⟨h1, h2⟩ := and3 h1
    have r := chkE_ok a k h2
    have r' := chkE_ok b k h3
    obtain ⟨e1, hg, hm, _, _⟩ := bl_ok k h1
    rw [ev_range2]
    unfold asC2 at hp
    split at hp
    · cases hp
      have e1 : _ = Str.ofString "range" := e1
      subst e1
      exact i_range2 hg hm r.s r'.s
    · cases hp
  | .zip es, X, c, k, tg, x, h => by
    rw [chkI] at h
    obtain ⟨h0, h⟩ := and3 h
    obtain ⟨p, hp, h⟩ := opt_ok h
    obtain ⟨h1, h3⟩ := and3 h
    obtain ⟨h1, h2⟩ := and3 h1
    have r := chkEs_ok es k h3
    obtain ⟨e1, hg, hm, _, _⟩ := bl_ok k h1
    rw [ev_zip]
    rw [Bool.or_eq_true] at h2
    have h23 : p.2.length = 2 ∨ p.2.length = 3 := h2.elim (fun z => .inl (eq_of_beq z)) (fun z => .inr (eq_of_beq z))
    unfold asZip at hp
    split at hp
    · cases hp
      have e1 : _ = Str.ofString "zip" := e1
      subst e1
      cases tg with
      | Tuple elts kk tp =>
        exact zip_si hg hm r h23
      | _ => cases h0
    · cases hp
  | .zipS e, X, c, k, tg, x, h => by
    rw [chkI] at h
    obtain ⟨h0, h⟩ := and3 h
    obtain ⟨p, hp, h⟩ := opt_ok h
    obtain ⟨h1, h2⟩ := and3 h
    have r := chkE_ok e k h2
    obtain ⟨e1, hg, hm, _, _⟩ := bl_ok k h1
    rw [ev_zipS]
    unfold asZipS at hp
    split at hp
    · cases hp
      have e1 : _ = Str.ofString "zip" := e1
      subst e1
      cases tg with
      | Name nm np =>
        exact i_zipS hg hm r.s
      | _ => cases h0
    · cases hp
  | .enum e, X, c, k, tg, x, h => by
    rw [chkI] at h
    obtain ⟨h0, h⟩ := and3 h
    obtain ⟨p, hp, h⟩ := opt_ok h
    obtain ⟨h1, h2⟩ := and3 h
    have r := chkE_ok e k h2
    obtain ⟨e1, hg, hm, _, _⟩ := bl_ok k h1
    rw [ev_enum]
    unfold asC1 at hp
    split at hp
    · cases hp
      have e1 : _ = Str.ofString "enumerate" := e1
      subst e1
      cases tg with
      | Tuple elts kk tp =>
        exact i_enum hg hm r.s
      | _ => cases h0
    · cases hp
theorem chkG_ok : ∀ (gs : Gs) {c : Ck} {own : List Nat} {r : List Comprehension}, chkG c own gs r = true → (gs = .nil ∧ r = []) ∨ ∃ own1 t1 i1 ifs1 tg1 iter1 cs1, gs = .cons own1 t1 i1 ifs1 .nil ∧ r = [⟨tg1, iter1, cs1, 0⟩] ∧ (∀ j ∈ tgIdx t1, j ∈ own1) ∧ (∀ j ∈ own1, j ∈ own) ∧
    (∀ {X : Cx} (_ : CkOk X cf c), SI X tg1 iter1 (fun b => evalI cf G i1 b)) ∧ tgB c t1 tg1 = true ∧ (∀ {X : Cx} (_ : CkOk X cf c), PTs X cs1 (tOb X.K (evalC cf G ifs1))) ∧ plainX iter1 = true
  | .nil, c, own, r, h => by
    rw [chkG] at h
    exact .inl ⟨rfl, List.isEmpty_iff.mp h⟩
  | .cons own1 t i ifs gs, c, own, r, h => by
    rw [chkG] at h
    obtain ⟨h0, h⟩ := and3 h
    obtain ⟨p, hp, h⟩ := opt_ok h
    obtain ⟨q5, g6⟩ := and3 h
    obtain ⟨q4, g5⟩ := and3 q5
    obtain ⟨q3, g4⟩ := and3 q4
    obtain ⟨q2, g3⟩ := and3 q3
    obtain ⟨g1, g2⟩ := and3 q2
    have r3 : ∀ {X : Cx} (_ : CkOk X cf c), SI X p.1 p.2.1 (fun b => evalI cf G i b) := fun k => chkI_ok i k g3
    have r5 : ∀ {X : Cx} (_ : CkOk X cf c), PTs X p.2.2 (tOb X.K (evalC cf G ifs)) := fun k => chkC_ok ifs k g5
    cases gs with
    | cons _ _ _ _ _ => cases h0
    | nil =>
      unfold asGen at hp
      split at hp
      · cases hp
        exact .inr ⟨own1, t, i, ifs, _, _, _, rfl, rfl, sub_ok g1, sub_ok g2, r3, g4, r5, g6⟩
      · cases hp
end
end
end WT
end
section
set_option Elab.async false
set_option linter.all false
set_option maxRecDepth 100000
set_option maxHeartbeats 4000000
/-! The checker: statements. -/
namespace WT
open PySem PySem.Spec PyProof.Rows L2
/-- what is stored in the same line as a comprehension is made -/
def swB (c : Ck) (tg x : Expr) : Bool := match tg, x with
  | .Name y py, .ListComp _ _ s p => decide (c.sc.names.lookup y = some .local) && py.line == p.line && !(s.names.any fun (n, k) => n == y && (k == .local || k == .cell))
  | _, _ => false
def okLC : Expr → Bool
  | .SetComp _ _ _ _ => false
  | .DictComp _ _ _ _ _ => false
  | _ => true
def noTT (tg x : Expr) : Bool := match tg, x with
  | .Tuple _ _ _, .Tuple _ _ _ => false
  | .List _ _, .Tuple _ _ _ => false
  | _, _ => true
section
variable {X : Cx} {cf : CF} {c : Ck}
theorem blk_kind {env : PySem.Env} (h : env.scope.kind = .function) : env.blockKind = .function := by
  unfold Env.blockKind
  rw [h]
  rfl
theorem sw_eq (k : CkOk X cf c) (hk : c.sc.kind = .function) {tg x : Expr} {l : Nat} (hx : okLC x = true) : swapsWithSole [tg] x l X.env = pure (swB c tg x) := by
  show swapsWith x (some tg) l X.env = _
  have hb : X.env.blockKind = .function := blk_kind (by rw [k.sc]; exact hk)
  have hkk : ∀ y, X.env.kindOf y = c.sc.names.lookup y := fun y => by unfold Env.kindOf; rw [k.sc]
  cases x <;> first
    | (cases hx; done)
    | (cases tg <;> first
        | rfl
        | (unfold swapsWith swB
           simp only [hb, hkk, Expr.pos]
           congr 1
           simp [Bool.beq_eq_decide_eq, beq_iff_eq]))
theorem tt_eq {tg x : Expr} {env : PySem.Env} (h : noTT tg x = true) : swappedStores [tg] x env = pure none := by
  unfold swappedStores
  cases tg <;> cases x <;> first
    | rfl
    | cases h
end
/-! a statement's form -/
def asExpr : Stmt → Option Expr
  | .Expr e _ => some e
  | _ => none
def asAsg : Stmt → Option (Expr × Expr)
  | .Assign [tg] x _ => some (tg, x)
  | _ => none
def asAsgN : Stmt → Option (Str × Expr × Expr)
  | .Assign [.Name y p] x _ => some (y, .Name y p, x)
  | _ => none
def asAsgNN : Stmt → Option (Str × Str)
  | .Assign [.Name y _] (.Name x _) _ => some (y, x)
  | _ => none
def asAug : Stmt → Option (Str × Operator × Expr)
  | .AugAssign (.Name x _) o e _ => some (x, o, e)
  | _ => none
def asApp : Stmt → Option (Str × Expr × Str × Bool)
  | .Expr (.Call (.Attribute (.Name x _) m apos) [e] [] cpos) _ => some (x, e, m, apos.endLine == cpos.line)
  | _ => none
def asSet : Stmt → Option (Str × Expr × Expr)
  | .Assign [.Subscript (.Name x _) ke _] e _ => some (x, ke, e)
  | _ => none
def asSwap : Stmt → Option ((Str × Expr) × (Str × Expr) × Expr × Expr)
  | .Assign [.Tuple [.Subscript (.Name x _) ke _, .Subscript (.Name y _) le _] _ _] (.Tuple [e1, e2] _ _) _ => some ((x, ke), (y, le), e1, e2)
  | _ => none
def asAugS : Stmt → Option (Str × Expr × Operator × Expr)
  | .AugAssign (.Subscript (.Name x _) ke _) o e _ => some (x, ke, o, e)
  | _ => none
def asRet : Stmt → Option (Option Expr)
  | .Return e _ => some e
  | _ => none
def asIfS : Stmt → Option (Expr × List Stmt × List Stmt)
  | .If t a b _ => some (t, a, b)
  | _ => none
def asFor : Stmt → Option (Expr × Expr × List Stmt)
  | .For tg i b [] _ => some (tg, i, b)
  | _ => none
def asWhile : Stmt → Option (Expr × List Stmt)
  | .While t b [] _ => some (t, b)
  | _ => none
def asBrk : Stmt → Bool
  | .Break _ => true
  | _ => false
def asCont : Stmt → Bool
  | .Continue _ => true
  | _ => false
def asPass : Stmt → Bool
  | .Pass _ => true
  | _ => false
def asConsS : List Stmt → Option (Stmt × List Stmt)
  | s :: r => some (s, r)
  | [] => none
/-- several names, several values -/
def asPar : Stmt → Option (List Expr × List Expr)
  | .Assign [.Tuple ts _ _] (.Tuple es _ _) _ => some (ts, es)
  | _ => none
def line1 : Expr → Nat
  | .Name _ p => p.line
  | _ => 0
def locals1 (c : Ck) : List Expr → Bool
  | [] => true
  | .Name x _ :: r => decide (c.sc.names.lookup x = some .local) && locals1 c r
  | _ :: _ => false
def nameOf : Expr → Str
  | .Name x _ => x
  | _ => ""
def allPx : List Expr → Bool
  | [] => true
  | e :: es => plainX e && allPx es
/-- stored from the right, without a tuple -/
def swapB (c : Ck) (ts es : List Expr) : Bool := locals1 c ts && (match ts with
  | [] => false
  | t :: r => r.all fun u => line1 u == line1 t) && decide ((ts.map nameOf).Nodup) && !(es.all (foldedForSure 8)) && !(es.all (constantsAlone 8)) && decide (c.sc.kind = .function)
def parB (c : Ck) (is : List (Nat × Bool)) (ts es : List Expr) : Bool := tgB.tgsB c (is.map (·.1)) ts && decide (ts.length = es.length) && decide ((is.map (·.1)).Nodup) && allPx es && decide (es.length ≤ 16777216) &&
  (if ts.length = 2 ∨ ts.length = 3 then swapB c ts es || es.all (foldedForSure 8) || !(locals1 c ts) else true)
def frzOf : S → Bool
  | .frz _ => true
  | .mkloc _ => true
  | _ => false
/-- x[k] = x[j].pop(0): the name twice, both places, the method, one line -/
def asSetpop : Stmt → Option (Str × Int × Str × Int × Str × Bool)
  | .Assign [.Subscript (.Name x _) (.Constant (.int k) _ _) _] (.Call (.Attribute (.Subscript (.Name y _) (.Constant (.int j) _ _) _) m apos) [.Constant (.int 0) _ _] [] cpos) _ => some (x, k, y, j, m, apos.endLine == cpos.line)
  | _ => none
mutual
def chkS (c : Ck) : S → Stmt → Bool
  | .expr e, st => opt (asExpr st) fun x => !(isLC x) && chkE c e x
  | .asg t e, st => opt (asAsg st) fun p => tgB c t p.1 && okLC p.2 && noTT p.1 p.2 && decide (c.sc.kind = .function) && chkE c e p.2
  | .par is es, st => opt (asPar st) fun p => parB c is p.1 p.2 && chkEs c es p.2
  | .own i e, st => opt (asAsgN st) fun p => storeB c i p.1 && okLC p.2.2 && decide (c.sc.kind = .function) && chkE c e p.2.2
  | .newl i e, st => opt (asAsgN st) fun p => storeB c i p.1 && okLC p.2.2 && !(swB c p.2.1 p.2.2) && decide (c.sc.kind = .function) && chkE c e p.2.2
  | .mv i j, st => opt (asAsgNN st) fun p => storeB c i p.1 && nmB c j p.2
  | .frz _, _ => false
  | .mkloc _, _ => false
  | .setpop i k j, st => opt (asSetpop st) fun p => nmB c i p.1 && p.2.2.1 == p.1 && decide (p.2.1 = k) && decide (p.2.2.2.1 = j) && p.2.2.2.2.1 == ("pop" : Str) && p.2.2.2.2.2
  | .aug i o e, st => opt (asAug st) fun p => storeB c i p.1 && binB o p.2.1 && decide (o ≠ .pow) && chkE c e p.2.2
  | .app i e, st => opt (asApp st) fun p => nmB c i p.1 && p.2.2.1 == ("append" : Str) && p.2.2.2 && chkE c e p.2.1
  | .ext i e, st => opt (asApp st) fun p => nmB c i p.1 && p.2.2.1 == ("extend" : Str) && p.2.2.2 && chkE c e p.2.1
  | .setix i k e, st => opt (asSet st) fun p => nmB c i p.1 && chkE c k p.2.1 && chkE c e p.2.2
  | .swapix i k l es, st => opt (asSwap st) fun p => nmB c i p.1.1 && p.2.1.1 == p.1.1 && chkE c k p.1.2 && chkE c l p.2.1.2 && allPx [p.2.2.1, p.2.2.2] && chkEs c es [p.2.2.1, p.2.2.2]
  | .augix i k o e, st => opt (asAugS st) fun p => nmB c i p.1 && binB o p.2.2.1 && decide (o ≠ .pow) && chkE c k p.2.1 && chkE c e p.2.2.2
  | .ret e, st => opt (asRet st) fun p => opt p fun x => chkE c e x
  | .retN, st => opt (asRet st) fun p => p.isNone
  | .ite t a b, st => opt (asIfS st) fun p => chkE c t p.1 && chkSs c a p.2.1 && chkSs c b p.2.2
  | .for_ t i b, st => opt (asFor st) fun p => tgB c t p.1 && chkI c i p.1 p.2.1 && chkSs c b p.2.2
  | .while_ t b, st => opt (asWhile st) fun p => chkE c t p.1 && chkSs c b p.2
  | .brk, st => asBrk st
  | .cont, st => asCont st
  | .pass, st => asPass st
  | .raise_ _ _, _ => true
def chkSs (c : Ck) : List S → List Stmt → Bool
  | [], sts => sts.isEmpty
  | s :: r, sts => (frzOf s && chkSs c r sts) || (opt (asConsS sts) fun p => chkS c s p.1 && chkSs c r p.2)
end
end WT
end
section
set_option Elab.async false
set_option linter.all false
set_option maxRecDepth 100000
set_option maxHeartbeats 4000000
/-! The checker is right: statements. -/
namespace WT
open PySem PySem.Spec PyProof.Rows L2
section
variable {X : Cx} {cf : CF} {c : Ck}
theorem par_none1 {ts es : List Expr} {kt k2 : Nat} {pt pt2 : Pos} {env : PySem.Env} (h : ¬ (ts.length = 2 ∨ ts.length = 3)) : swappedStores [.Tuple ts kt pt] (.Tuple es k2 pt2) env = pure none := by
  unfold swappedStores
  rw [not_or] at h
  have e1 : (ts.length == 2) = false := beq_false_of_ne h.1
  have e2 : (ts.length == 3) = false := beq_false_of_ne h.2
  simp [e1, e2]
theorem par_none2 {ts es : List Expr} {kt k2 : Nat} {pt pt2 : Pos} {env : PySem.Env} (h : es.all (foldedForSure 8) = true) : swappedStores [.Tuple ts kt pt] (.Tuple es k2 pt2) env = pure none := by
  unfold swappedStores
  simp only [h, if_true]
  split
  · rfl
  · split
    · rfl
    · split <;> rfl
theorem fm_short {f : Expr → Option Str} (h1 : ∀ x p, c.sc.names.lookup x ≠ some .local → f (.Name x p) = none) (h2 : ∀ e, (∀ x p, e ≠ .Name x p) → f e = none) : ∀ {ts : List Expr}, locals1 c ts = false → (ts.filterMap f).length < ts.length
  | [], h => by cases h
  | e :: r, h => by
    have none_ : f e = none → ((e :: r).filterMap f).length < (e :: r).length := fun q => by
      rw [List.filterMap_cons, q]
      exact Nat.lt_succ_of_le (List.length_filterMap_le _ _)
    cases e with
    | Name x p =>
      by_cases hx : c.sc.names.lookup x = some .local
      · have h' : (decide (c.sc.names.lookup x = some .local) && locals1 c r) = false := h
        rw [hx] at h'
        have hr : locals1 c r = false := by simpa using h'
        have := fm_short h1 h2 hr
        rw [List.filterMap_cons]
        cases f (.Name x p) with
        | none => exact Nat.lt_succ_of_lt this
        | some y => exact Nat.succ_lt_succ this
      · exact none_ (h1 x p hx)
    | _ => exact none_ (h2 _ fun _ _ e => nomatch e)
theorem par_none3 (k : CkOk X cf c) {ts es : List Expr} {kt k2 : Nat} {pt pt2 : Pos} (h : locals1 c ts = false) : swappedStores [.Tuple ts kt pt] (.Tuple es k2 pt2) X.env = pure none := by
  have hkk : ∀ y, X.env.kindOf y = c.sc.names.lookup y := fun y => by unfold Env.kindOf; rw [k.sc]
  unfold swappedStores
  dsimp only
  split
  · rfl
  · split
    · rfl
    · split
      · rfl
      · rename_i hn
        exfalso
        apply hn
        rw [Bool.or_eq_true]
        left
        rw [bne_iff_ne]
        refine Nat.ne_of_lt (fm_short (c := c) (fun x p hx => ?_) (fun e he => ?_) h)
        · show (if (X.env.kindOf x == some .local && _) = true then some x else none) = none
          rw [hkk, if_neg]
          intro z
          rw [Bool.and_eq_true] at z
          exact hx (eq_of_beq z.1)
        · cases e <;> first
            | rfl
            | exact absurd rfl (he _ _)
theorem px_star : ∀ {es : List Expr}, allPx es = true → (es.any fun | .Starred .. => true | _ => false) = false
  | [], _ => rfl
  | e :: es, h => by
    have h' : (plainX e && allPx es) = true := h
    rw [Bool.and_eq_true] at h'
    rw [List.any_cons, px_star h'.2, Bool.or_false]
    have := h'.1
    cases e <;> first
      | rfl
      | cases this
def starB : Expr → Bool := fun e => match e with
  | .Starred _ _ => true
  | _ => false
theorem no_star {e : Expr} (h1 : plainX e = true) (h2 : starB e = true) : False := by
  cases e <;> first
    | (cases h1; done)
    | cases h2
theorem px_two {es : List Expr} {e : Expr} (h : allPx (e :: es) = true) : plainX e = true ∧ allPx es = true := by
  have h' : (plainX e && allPx es) = true := h
  rw [Bool.and_eq_true] at h'
  exact h'
theorem par_some2 (k : CkOk X cf c) {x y : Str} {px py : Pos} {a b : Expr} {kt k2 : Nat} {pt pt2 : Pos} (h : swapB c [.Name x px, .Name y py] [a, b] = true) (hp : allPx [a, b] = true) :
    x ≠ y ∧ X.env.scope.names.lookup x = some .local ∧ X.env.scope.names.lookup y = some .local ∧ swappedStores [.Tuple [.Name x px, .Name y py] kt pt] (.Tuple [a, b] k2 pt2) X.env = pure (some [x, y]) := by
  unfold swapB at h
  simp only [Bool.and_eq_true, Bool.not_eq_true', decide_eq_true_eq] at h
  obtain ⟨⟨⟨⟨⟨h1, h2⟩, h3⟩, h4⟩, h5⟩, h6⟩ := h
  have h1' : (decide (c.sc.names.lookup x = some .local) && (decide (c.sc.names.lookup y = some .local) && true)) = true := h1
  simp only [Bool.and_eq_true, decide_eq_true_eq] at h1'
  have hxy : x ≠ y := by
    have : ([x, y] : List Str).Nodup := h3
    simpa using this
  have hl : (py.line == px.line) = true := by
    have : ((py.line == px.line) && true) = true := h2
    rw [Bool.and_true] at this; exact this
  have hb : X.env.blockKind = .function := blk_kind (by rw [k.sc]; exact h6)
  have hkk : ∀ y, X.env.kindOf y = c.sc.names.lookup y := fun y => by unfold Env.kindOf; rw [k.sc]
  refine ⟨hxy, by rw [k.sc]; exact h1'.1, by rw [k.sc]; exact h1'.2.1, ?_⟩
  have hst := px_star hp
  unfold swappedStores
  have ey : (y == x) = false := beq_false_of_ne (Ne.symm hxy)
  have ey2 : (x == y) = false := beq_false_of_ne hxy
  simp [hb, hkk, h1'.1, h1'.2.1, Expr.pos, eq_of_beq hl, hst, h4, h5, List.eraseDups, List.eraseDupsBy, List.eraseDupsBy.loop, ey, ey2]
  intro hc
  obtain ⟨p1, p2⟩ := px_two hp
  obtain ⟨p2, _⟩ := px_two p2
  rcases hc with hc | hc
  · exact (no_star p1 hc).elim
  · exact (no_star p2 hc).elim
theorem par_some3 (k : CkOk X cf c) {x y z : Str} {px py pz : Pos} {a b d : Expr} {kt k2 : Nat} {pt pt2 : Pos} (h : swapB c [.Name x px, .Name y py, .Name z pz] [a, b, d] = true) (hp : allPx [a, b, d] = true) :
    (x ≠ y ∧ x ≠ z ∧ y ≠ z) ∧ X.env.scope.names.lookup x = some .local ∧ X.env.scope.names.lookup y = some .local ∧ X.env.scope.names.lookup z = some .local ∧ swappedStores [.Tuple [.Name x px, .Name y py, .Name z pz] kt pt] (.Tuple [a, b, d] k2 pt2) X.env = pure (some [x, y, z]) := by
  unfold swapB at h
  simp only [Bool.and_eq_true, Bool.not_eq_true', decide_eq_true_eq] at h
  obtain ⟨⟨⟨⟨⟨h1, h2⟩, h3⟩, h4⟩, h5⟩, h6⟩ := h
  have h1' : (decide (c.sc.names.lookup x = some .local) && (decide (c.sc.names.lookup y = some .local) && (decide (c.sc.names.lookup z = some .local) && true))) = true := h1
  simp only [Bool.and_eq_true, decide_eq_true_eq] at h1'
  have hxy : x ≠ y ∧ x ≠ z ∧ y ≠ z := by
    have : ([x, y, z] : List Str).Nodup := h3
    simp at this
    exact ⟨this.1.1, this.1.2, this.2⟩
  have hl : (py.line == px.line) = true ∧ (pz.line == px.line) = true := by
    have : ((py.line == px.line) && ((pz.line == px.line) && true)) = true := h2
    rw [Bool.and_true, Bool.and_eq_true] at this; exact this
  have hb : X.env.blockKind = .function := blk_kind (by rw [k.sc]; exact h6)
  have hkk : ∀ y, X.env.kindOf y = c.sc.names.lookup y := fun y => by unfold Env.kindOf; rw [k.sc]
  refine ⟨hxy, by rw [k.sc]; exact h1'.1, by rw [k.sc]; exact h1'.2.1, by rw [k.sc]; exact h1'.2.2.1, ?_⟩
  unfold swappedStores
  have e1 : (y == x) = false := beq_false_of_ne (Ne.symm hxy.1)
  have e2 : (x == y) = false := beq_false_of_ne hxy.1
  have e3 : (z == x) = false := beq_false_of_ne (Ne.symm hxy.2.1)
  have e4 : (x == z) = false := beq_false_of_ne hxy.2.1
  have e5 : (z == y) = false := beq_false_of_ne (Ne.symm hxy.2.2)
  have e6 : (y == z) = false := beq_false_of_ne hxy.2.2
  simp [hb, hkk, h1'.1, h1'.2.1, h1'.2.2.1, Expr.pos, eq_of_beq hl.1, eq_of_beq hl.2, h4, h5, List.eraseDups, List.eraseDupsBy, List.eraseDupsBy.loop, e1, e2, e3, e4, e5, e6]
  intro hc
  obtain ⟨p1, p2⟩ := px_two hp
  obtain ⟨p2, p3⟩ := px_two p2
  obtain ⟨p3, _⟩ := px_two p3
  rcases hc with hc | hc | hc
  · exact (no_star p1 hc).elim
  · exact (no_star p2 hc).elim
  · exact (no_star p3 hc).elim
theorem tgs_names : ∀ {is : List Nat} {es : List Expr}, tgB.tgsB c is es = true → es.length = is.length ∧ ∀ e ∈ es, ∃ x p, e = .Name x p
  | [], [], _ => ⟨rfl, fun e he => by cases he⟩
  | [], _ :: _, h => by cases h
  | _ :: _, [], h => by cases h
  | i :: is, e :: es, h => by
    cases e with
    | Name x p =>
      have h' : (storeB c i x && tgB.tgsB c is es) = true := h
      rw [Bool.and_eq_true] at h'
      obtain ⟨l, q⟩ := tgs_names h'.2
      refine ⟨by rw [List.length_cons, List.length_cons, l], fun e he => ?_⟩
      rcases List.mem_cons.mp he with rfl | he
      · exact ⟨x, p, rfl⟩
      · exact q e he
    | _ => cases h
theorem par_ok (k : CkOk X cf c) {is : List (Nat × Bool)} {ts es : List Expr} {fs : FEs} {kt k2 : Nat} {pt pt2 pos : Pos} (h : parB c is ts es = true) (hs : SEl X es fs) : PS X (.Assign [.Tuple ts kt pt] (.Tuple es k2 pt2) pos) (tS X.K (parS is fs)) := by
  unfold parB at h
  simp only [Bool.and_eq_true, decide_eq_true_eq] at h
  obtain ⟨⟨⟨⟨⟨h1, h2⟩, h3⟩, h4⟩, h5⟩, h6⟩ := h
  obtain ⟨r1, r2, r3⟩ := tgs_ok k h1
  have gen : swappedStores [.Tuple ts kt pt] (.Tuple es k2 pt2) X.env = pure none → PS X (.Assign [.Tuple ts kt pt] (.Tuple es k2 pt2) pos) (tS X.K (parS is fs)) := fun hw =>
    s_parT (by rw [← szLine]; exact h5) hs.sa (pg_tup k.calm r1 r2 r3) hw
  by_cases h23 : ts.length = 2 ∨ ts.length = 3
  · rw [if_pos h23, Bool.or_eq_true, Bool.or_eq_true] at h6
    rcases h6 with (h6 | h6) | h6
    · obtain ⟨l1, nm⟩ := tgs_names h1
      rcases h23 with h23 | h23
      · match ts, es, is, h23, h2, l1 with
        | [t1, t2], [a, b], [(i, bi), (j, bj)], _, _, _ =>
          obtain ⟨x, px, rfl⟩ := nm t1 (by simp)
          obtain ⟨y, py, rfl⟩ := nm t2 (by simp)
          obtain ⟨hxy, lx, ly, hw⟩ := par_some2 (kt := kt) (k2 := k2) (pt := pt) (pt2 := pt2) k h6 h4
          have h1' : (storeB c i x && (storeB c j y && true)) = true := h1
          simp only [Bool.and_eq_true] at h1'
          have n3 : ([i, j] : List Nat).Nodup := h3
          exact s_par2 k.calm k.nd (store_ok' k h1'.1).1 (store_ok' k h1'.2.1).1 (by simpa using n3) lx ly hs.sa hw
      · match ts, es, is, h23, h2, l1 with
        | [t1, t2, t3], [a, b, d], [(i, bi), (j, bj), (l, bl)], _, _, _ =>
          obtain ⟨x, px, rfl⟩ := nm t1 (by simp)
          obtain ⟨y, py, rfl⟩ := nm t2 (by simp)
          obtain ⟨z, pz, rfl⟩ := nm t3 (by simp)
          obtain ⟨hxy, lx, ly, lz, hw⟩ := par_some3 (kt := kt) (k2 := k2) (pt := pt) (pt2 := pt2) k h6 h4
          have h1' : (storeB c i x && (storeB c j y && (storeB c l z && true))) = true := h1
          simp only [Bool.and_eq_true] at h1'
          have n3 : ([i, j, l] : List Nat).Nodup := h3
          simp at n3
          exact s_par3 k.calm k.nd (store_ok' k h1'.1).1 (store_ok' k h1'.2.1).1 (store_ok' k h1'.2.2.1).1 n3.1.1 n3.1.2 n3.2 lx ly lz hs.sa hw
    · exact gen (par_none2 h6)
    · exact gen (par_none3 k (by simpa using h6))
  · exact gen (par_none1 h23)
end
end WT
end
section
set_option Elab.async false
set_option linter.all false
set_option maxRecDepth 100000
set_option maxHeartbeats 4000000
/-! x[k], x[l] = two ints. -/
namespace WT
open PySem PySem.Spec PyProof.Rows L2
section
variable {K : KF} {q : Fe} {g g' : Gh} {H H' : Hp} {h h' : AH} {ρ ρ' : Env} {σ : L2.St} {a : Addr}
theorem setix_use {i : Nat} {y : PV} {v : V} {fk : FE} {fl : Fl} (s2 : St K q g H h ρ σ) (r2 : ∀ g3 H3, Ext g H g3 H3 → Rep K g3 H3 y v) (e : ((fk ρ h).bind fun k h => putL ρ h i fun xs => setAt xs k y) = .ok (fl, ρ') h') {Q : L2.St → Hp → Prop}
    (k : ∀ g4 H4, Mon g H g4 H4 → St K q g4 H4 h' ρ' σ → fl = .nx → Q σ H4) : gSub (tVar i) (tO K fk) rSetL v σ H Q := by
  obtain ⟨kk, h2, e2, e⟩ := bind_ok e
  cases c : slot ρ i with
  | none => unfold putL at e; rw [c] at e; cases e
  | some s =>
    obtain ⟨w, hw1, hw2⟩ := s2.sl i _ c
    refine ⟨w, hw1, q, g, h, ρ, s2, kk, h2, e2, fun g3 H3 u x3 s3 r3 => ?_⟩
    obtain ⟨xs, ys, a, vs, hf, hv1, hH, rr, rfl, put⟩ := put_run s3 e
    rw [hw1] at hv1
    cases hv1
    have hf' : setAt xs kk y = some ys := hf
    unfold setAt at hf'
    split at hf'
    · rename_i n
      cases r3
      cases pl : place xs.length n with
      | none => rw [pl] at hf'; cases hf'
      | some j =>
        rw [pl] at hf'
        cases hf'
        obtain ⟨m4, s4⟩ := put (vs.set j v) (rr.set j (r2 g3 H3 x3))
        exact ⟨a, vs, n, j, rfl, rfl, hH, by rw [rr.length]; exact pl, k g3 _ ((x3.mon s2.hs).trans m4) s4 rfl⟩
    · cases hf'
end
section
variable {X : Cx}
theorem pg_at {x : Str} {ke : Expr} {fk : FE} {px spos : Pos} {i : Nat} (hN : X.N[i]? = some x) (hv : Vis X.env.scope x) (hd : (x == ("__debug__" : Str)) = false) (hcd : (x == ("__classdict__" : Str)) = false) (hk : SE X ke fk) : PG X (.Subscript (.Name x px) ke spos) (gSub (tVar i) (tO X.K fk) rSetL) := by
  refine pg_sub (pe_var hN hv hd hcd) hk.e set_list ?_
  intro v
  have := hk.px
  cases ke <;> first
    | rfl
    | cases this
theorem s_swapix {i : Nat} {x : Str} {ke le e1 e2 : Expr} {fk fl : FE} {fs : FEs} {px spos px2 spos2 pos pt pt2 : Pos} {kt k2 : Nat} (hc : X.calm = true) (hN : X.N[i]? = some x) (hv : Vis X.env.scope x) (hd : (x == ("__debug__" : Str)) = false) (hcd : (x == ("__classdict__" : Str)) = false) (hk : SE X ke fk) (hl : SE X le fl) (hs : SA X [e1, e2] fs) :
    PS X (.Assign [.Tuple [.Subscript (.Name x px) ke spos, .Subscript (.Name x px2) le spos2] kt pt] (.Tuple [e1, e2] k2 pt2) pos) (tS X.K (swapixS i fk fl fs)) := by
  have hw : swappedStores [.Tuple [.Subscript (.Name x px) ke spos, .Subscript (.Name x px2) le spos2] kt pt] (.Tuple [e1, e2] k2 pt2) X.env = pure none := by
    unfold swappedStores
    simp only [List.length_cons, List.length_nil, List.filterMap_cons, List.filterMap_nil]
    split
    · rfl
    · split
      · rfl
      · rfl
  refine PS.weak (ps_asg (pe_tup hs.p) (pg_tup (n := 2) hc (pgs_cons (pg_at hN hv hd hcd hk) (pgs_cons (pg_at hN hv hd hcd hl) pgs_nil))) rfl hw rfl) fun D σ H ⟨q, g, h, ρ, st, fl', ρ', h', e, k⟩ => ?_
  obtain ⟨rs, h1, e1', e⟩ := bind_ok e
  refine ⟨q, g, h, ρ, st, rs, h1, e1', fun g1 H1 vs x1 s1 r1 d1 => ?_⟩
  have hlen := r1.length
  split at e
  · rename_i a b
    cases r1 with
    | cons p1 r1 =>
      cases r1 with
      | cons p2 r1 =>
        cases r1
        cases p1
        cases p2
        obtain ⟨⟨fl1, ρ1⟩, h2, e3, e4⟩ := bind_ok e
        refine ⟨by show 2 ≤ sizeLine; rw [sizeLine_eq]; decide, fun p hp => ?_⟩
        have x3 : Ext g1 H1 g1 (upd H1 p (.tup [V.int a, V.int b])) := Ext.new hp
        have s3 := s1.to x3 (s1.hs.new hp)
        refine ⟨p, _, rfl, .inl (.inl upd_same), rfl, V.int a, _, rfl, setix_use s3 (fun _ _ _ => .int a) e3 fun g4 H4 m4 s4 hn => ?_⟩
        refine ⟨V.int b, _, rfl, setix_use s4 (fun _ _ _ => .int b) e4 fun g5 H5 m5 s5 hn2 => ?_⟩
        subst hn2
        exact ⟨rfl, k g5 H5 _ ((((x1.mon st.hs).trans (x3.mon s1.hs)).trans m4).trans m5) s5⟩
  · cases e
end
end WT
end
section
set_option Elab.async false
set_option linter.all false
set_option maxRecDepth 100000
set_option maxHeartbeats 4000000
/-! The checker is right: bodies. -/
namespace WT
open PySem PySem.Spec PyProof.Rows L2
section
variable (cf : CF) (G : Nat → Option PV)
theorem ex_nil : execSs cf G [] = passS := by rw [execSs]
theorem ex_cons (s : S) (r : List S) : execSs cf G (s :: r) = seqS (execS cf G s) (execSs cf G r) := by rw [execSs]
end
section
variable {X : Cx} {cf : CF} {c : Ck} {G : Nat → Option PV}
theorem okLC_lc {x : Expr} (h : okLC x = true) (hl : swB c (.Name "" ⟨0, 0, 0, 0⟩) x = true) : isLC x = true := by
  cases x <;> first
    | rfl
    | cases hl
theorem swB_lc {tg x : Expr} (hl : swB c tg x = true) : isLC x = true := by
  unfold swB at hl
  split at hl
  · rfl
  · cases hl
theorem swB_loc {y : Str} {p : Pos} {x : Expr} (hl : swB c (.Name y p) x = true) : c.sc.names.lookup y = some .local := by
  cases x with
  | ListComp e gs s q =>
    have hl' : (decide (c.sc.names.lookup y = some .local) && p.line == q.line && !(s.names.any fun (n, k) => n == y && (k == .local || k == .cell))) = true := hl
    rw [Bool.and_eq_true, Bool.and_eq_true, decide_eq_true_eq] at hl'
    exact hl'.1.1
  | _ => cases hl
/-- name = value: stored plainly, or within the comprehension -/
theorem asgN_ok (k : CkOk X cf c) (hk : c.sc.kind = .function) {i : Nat} {y : Str} {p pos : Pos} {x : Expr} {fe : FE} (hs : storeB c i y = true) (ho : okLC x = true) (he : SX X x fe) : PS X (.Assign [.Name y p] x pos) (tS X.K (asgS (.var i) fe)) := by
  obtain ⟨s1, s2, s3⟩ := store_ok' k hs
  have sw := sw_eq (tg := .Name y p) (x := x) (l := pos.line) k hk ho
  cases b : swB c (.Name y p) x with
  | true =>
    rw [b] at sw
    exact s_asgLC he (swB_lc b) s1 (by rw [k.sc]; exact swB_loc b) sw
  | false =>
    rw [b] at sw
    exact s_asg (t := .var i) he.s (pg_name k.nd s1 s2 s3) sw rfl rfl
theorem ownN_ok (k : CkOk X cf c) (hk : c.sc.kind = .function) {i : Nat} {y : Str} {p pos : Pos} {x : Expr} {fe : FE} (hs : storeB c i y = true) (ho : okLC x = true) (he : SX X x fe) : PS X (.Assign [.Name y p] x pos) (tS X.K (ownS i fe)) := by
  obtain ⟨s1, s2, s3⟩ := store_ok' k hs
  have sw := sw_eq (tg := .Name y p) (x := x) (l := pos.line) k hk ho
  cases b : swB c (.Name y p) x with
  | true =>
    rw [b] at sw
    exact s_ownLC he (swB_lc b) s1 (by rw [k.sc]; exact swB_loc b) sw
  | false =>
    rw [b] at sw
    exact s_own he.s (pg_name k.nd s1 s2 s3) sw
theorem tup_h1 {es : List Expr} {j : Nat} {p : Pos} {env : PySem.Env} : (assignEach [.Tuple es j p] env).map (·.2) = [assign (.Tuple es j p) env] := rfl
theorem asg_any (k : CkOk X cf c) (hk : c.sc.kind = .function) {t : Tg} {tg x : Expr} {pos : Pos} {fe : FE} (h1 : tgB c t tg = true) (h2 : okLC x = true) (h3 : noTT tg x = true) (r : SX X x fe) : PS X (.Assign [tg] x pos) (tS X.K (asgS t fe)) := by
  cases t with
  | var i =>
    cases tg with
    | Name y py => exact asgN_ok k hk h1 h2 r
    | _ => cases h1
  | tup is =>
    cases tg with
    | Tuple es j p =>
      have hsw : swB c (.Tuple es j p) x = false := by unfold swB; rfl
      have sw := sw_eq (tg := .Tuple es j p) (x := x) (l := pos.line) k hk h2
      rw [hsw] at sw
      exact s_asg r.s (tg_ok k h1) sw (tt_eq h3) tup_h1
    | _ => cases h1
mutual
theorem chkS_ok : ∀ (s : S) {X : Cx} {c : Ck} (k : CkOk X cf c) (hp : PassesOwn (model X.prog X.w) X.A X.env X.xe) {st : Stmt}, chkS c s st = true → PS X st (tS X.K (execS cf G s))
  | .expr e, X, c, k, hp, st, h => by
    rw [chkS] at h
    obtain ⟨p, hq, h⟩ := opt_ok h
    obtain ⟨h1, h2⟩ := and3 h
    rw [Bool.not_eq_true'] at h1
    rw [execS]
    unfold asExpr at hq
    split at hq
    · cases hq
      exact s_expr (chkE_ok e k h2).s h1
    · cases hq
  | .asg t e, X, c, k, hp, st, h => by
    rw [chkS] at h
    obtain ⟨p, hq, h⟩ := opt_ok h
    obtain ⟨q4, h5⟩ := and3 h
    obtain ⟨q3, h4⟩ := and3 q4
    obtain ⟨q2, h3⟩ := and3 q3
    obtain ⟨h1, h2⟩ := and3 q2
    have hk := of_decide_eq_true h4
    have r := chkE_ok (G := G) e k h5
    rw [execS]
    unfold asAsg at hq
    split at hq
    · cases hq
      exact asg_any k hk h1 h2 h3 r
    · cases hq
  | .par is es, X, c, k, hp, st, h => by
    rw [chkS] at h
    obtain ⟨p, hq, h⟩ := opt_ok h
    obtain ⟨h1, h2⟩ := and3 h
    have r := chkEs_ok (G := G) es k h2
    rw [execS]
    unfold asPar at hq
    split at hq
    · cases hq
      exact par_ok k h1 r
    · cases hq
  | .own i e, X, c, k, hp, st, h => by
    rw [chkS] at h
    obtain ⟨p, hq, h⟩ := opt_ok h
    obtain ⟨q3, h4⟩ := and3 h
    obtain ⟨q2, h3⟩ := and3 q3
    obtain ⟨h1, h2⟩ := and3 q2
    have r := chkE_ok (G := G) e k h4
    rw [execS]
    unfold asAsgN at hq
    split at hq
    · cases hq
      exact ownN_ok k (of_decide_eq_true h3) h1 h2 r
    · cases hq
  | .newl i e, X, c, k, hp, st, h => by
    rw [chkS] at h
    obtain ⟨p, hq, h⟩ := opt_ok h
    obtain ⟨q4, h5⟩ := and3 h
    obtain ⟨q3, h4⟩ := and3 q4
    obtain ⟨q2, h3⟩ := and3 q3
    obtain ⟨h1, h2⟩ := and3 q2
    have r := chkE_ok (G := G) e k h5
    rw [execS]
    unfold asAsgN at hq
    split at hq
    · cases hq
      rw [Bool.not_eq_true'] at h3
      obtain ⟨s1, s2, s3⟩ := store_ok' k h1
      refine s_newl r.s (pg_name k.nd s1 s2 s3) ?_
      rw [sw_eq k (of_decide_eq_true h4) h2, h3]
    · cases hq
  | .mv i j, X, c, k, hp, st, h => by
    rw [chkS] at h
    obtain ⟨p, hq, h⟩ := opt_ok h
    obtain ⟨h1, h2⟩ := and3 h
    obtain ⟨s1, s2, s3⟩ := store_ok' k h1
    obtain ⟨n1, n2, n3, n4⟩ := nm_ok k h2
    rw [execS]
    unfold asAsgNN at hq
    split at hq
    · cases hq
      exact s_mv n1 n2 n3 n4 (pg_name k.nd s1 s2 s3)
    · cases hq
  | .frz i, X, c, k, hp, st, h => by
    rw [chkS] at h
    cases h
  | .mkloc i, X, c, k, hp, st, h => by
    rw [chkS] at h
    cases h
  | .setpop i kc jc, X, c, k, hp, st, h => by
    rw [chkS] at h
    obtain ⟨p, hq, h⟩ := opt_ok h
    obtain ⟨q5, h6⟩ := and3 h
    obtain ⟨q4, h5⟩ := and3 q5
    obtain ⟨q3, h4⟩ := and3 q4
    obtain ⟨q2, h3⟩ := and3 q3
    obtain ⟨h1, h2⟩ := and3 q2
    obtain ⟨n1, n2, n3, n4⟩ := nm_ok k h1
    have e2 := eq_of_beq h2
    have e3 := of_decide_eq_true h3
    have e4 := of_decide_eq_true h4
    have e5 := eq_of_beq h5
    rw [execS]
    unfold asSetpop at hq
    split at hq
    · cases hq
      have e5 : _ = Str.ofString "pop" := e5
      simp only at e2 e3 e4 h6
      subst e5 e2 e3 e4
      exact s_setpop n1 n2 n3 n4 h6
    · cases hq
  | .aug i o e, X, c, k, hp, st, h => by
    rw [chkS] at h
    obtain ⟨p, hq, h⟩ := opt_ok h
    obtain ⟨q3, h4⟩ := and3 h
    obtain ⟨q2, h3⟩ := and3 q3
    obtain ⟨h1, h2⟩ := and3 q2
    have r := chkE_ok (G := G) e k h4
    obtain ⟨s1, s2, s3⟩ := store_ok' k h1
    rw [execS]
    unfold asAug at hq
    split at hq
    · cases hq
      have e2 := bin_eq h2
      have e2 : _ = opOf o := e2
      subst e2
      exact s_aug (of_decide_eq_true h3) k.nd s1 s2 s3 r.s
    · cases hq
  | .app i e, X, c, k, hp, st, h => by
    rw [chkS] at h
    obtain ⟨p, hq, h⟩ := opt_ok h
    obtain ⟨q3, h4⟩ := and3 h
    obtain ⟨q2, h3⟩ := and3 q3
    obtain ⟨h1, h2⟩ := and3 q2
    have r := chkE_ok (G := G) e k h4
    obtain ⟨n1, n2, n3, n4⟩ := nm_ok k h1
    have e2 := eq_of_beq h2
    rw [execS]
    unfold asApp at hq
    split at hq
    · cases hq
      have e2 : _ = Str.ofString "append" := e2
      subst e2
      exact s_app n1 n2 n3 n4 h3 r.s
    · cases hq
  | .ext i e, X, c, k, hp, st, h => by
    rw [chkS] at h
    obtain ⟨p, hq, h⟩ := opt_ok h
    obtain ⟨q3, h4⟩ := and3 h
    obtain ⟨q2, h3⟩ := and3 q3
    obtain ⟨h1, h2⟩ := and3 q2
    have r := chkE_ok (G := G) e k h4
    obtain ⟨n1, n2, n3, n4⟩ := nm_ok k h1
    have e2 := eq_of_beq h2
    rw [execS]
    unfold asApp at hq
    split at hq
    · cases hq
      have e2 : _ = Str.ofString "extend" := e2
      subst e2
      exact s_ext n1 n2 n3 n4 h3 r.s
    · cases hq
  | .setix i ke e, X, c, k, hp, st, h => by
    rw [chkS] at h
    obtain ⟨p, hq, h⟩ := opt_ok h
    obtain ⟨q2, h3⟩ := and3 h
    obtain ⟨h1, h2⟩ := and3 q2
    have r := chkE_ok (G := G) e k h3
    have rk := chkE_ok (G := G) ke k h2
    obtain ⟨n1, n2, n3, n4⟩ := nm_ok k h1
    rw [execS]
    unfold asSet at hq
    split at hq
    · cases hq
      exact s_setix n1 n2 n3 n4 rk.s r.s
    · cases hq
  | .swapix i ke le es, X, c, k, hp, st, h => by
    rw [chkS] at h
    obtain ⟨p, hq, h⟩ := opt_ok h
    obtain ⟨q5, h6⟩ := and3 h
    obtain ⟨q4, h5⟩ := and3 q5
    obtain ⟨q3, h4⟩ := and3 q4
    obtain ⟨q2, h3⟩ := and3 q3
    obtain ⟨h1, h2⟩ := and3 q2
    have r := chkEs_ok (G := G) es k h6
    have rk := chkE_ok (G := G) ke k h3
    have rl := chkE_ok (G := G) le k h4
    obtain ⟨n1, n2, n3, n4⟩ := nm_ok k h1
    rw [execS]
    unfold asSwap at hq
    split at hq
    · cases hq
      have e2 := eq_of_beq h2
      dsimp only at e2
      subst e2
      exact s_swapix k.calm n1 n2 n3 n4 rk.s rl.s r.sa
    · cases hq
  | .augix i ke o e, X, c, k, hp, st, h => by
    rw [chkS] at h
    obtain ⟨p, hq, h⟩ := opt_ok h
    obtain ⟨q4, h5⟩ := and3 h
    obtain ⟨q3, h4⟩ := and3 q4
    obtain ⟨q2, h3⟩ := and3 q3
    obtain ⟨h1, h2⟩ := and3 q2
    have r := chkE_ok (G := G) e k h5
    have rk := chkE_ok (G := G) ke k h4
    obtain ⟨n1, n2, n3, n4⟩ := nm_ok k h1
    rw [execS]
    unfold asAugS at hq
    split at hq
    · cases hq
      have e2 : _ = opOf o := bin_eq h2
      subst e2
      exact s_augix (of_decide_eq_true h3) n1 n2 n3 n4 rk.s r.s
    · cases hq
  | .ret e, X, c, k, hp, st, h => by
    rw [chkS] at h
    obtain ⟨p, hq, h⟩ := opt_ok h
    obtain ⟨x, hx, h⟩ := opt_ok h
    have r := chkE_ok (G := G) e k h
    rw [execS]
    unfold asRet at hq
    split at hq
    · cases hq
      subst hx
      exact s_ret r.s
    · cases hq
  | .retN, X, c, k, hp, st, h => by
    rw [chkS] at h
    obtain ⟨p, hq, h⟩ := opt_ok h
    rw [execS]
    unfold asRet at hq
    split at hq
    · cases hq
      have h0 := Option.isNone_iff_eq_none.mp h
      subst h0
      exact s_retN
    · cases hq
  | .ite t a b, X, c, k, hp, st, h => by
    rw [chkS] at h
    obtain ⟨p, hq, h⟩ := opt_ok h
    obtain ⟨q2, h3⟩ := and3 h
    obtain ⟨h1, h2⟩ := and3 q2
    have r := chkE_ok (G := G) t k h1
    have ra := chkSs_ok a k hp h2
    have rb := chkSs_ok b k hp h3
    rw [execS]
    unfold asIfS at hq
    split at hq
    · cases hq
      exact s_if r.s ra rb
    · cases hq
  | .for_ t i b, X, c, k, hp, st, h => by
    rw [chkS] at h
    obtain ⟨p, hq, h⟩ := opt_ok h
    obtain ⟨q2, h3⟩ := and3 h
    obtain ⟨h1, h2⟩ := and3 q2
    have rt := tg_ok k h1
    have ri : SI X p.1 p.2.1 (fun b => evalI cf G i b) := chkI_ok i k h2
    have rb := chkSs_ok b k hp h3
    rw [execS]
    unfold asFor at hq
    split at hq
    · cases hq
      exact s_for (fi := fun b => evalI cf G i b) hp k.calm ri rt rb
    · cases hq
  | .while_ t b, X, c, k, hp, st, h => by
    rw [chkS] at h
    obtain ⟨p, hq, h⟩ := opt_ok h
    obtain ⟨h1, h2⟩ := and3 h
    have r := chkE_ok (G := G) t k h1
    have rb := chkSs_ok b k hp h2
    rw [execS]
    unfold asWhile at hq
    split at hq
    · cases hq
      exact s_while hp r.s rb
    · cases hq
  | .brk, X, c, k, hp, st, h => by
    rw [chkS] at h
    rw [execS]
    unfold asBrk at h
    split at h
    · exact s_brk
    · cases h
  | .cont, X, c, k, hp, st, h => by
    rw [chkS] at h
    rw [execS]
    unfold asCont at h
    split at h
    · exact s_cont
    · cases h
  | .pass, X, c, k, hp, st, h => by
    rw [chkS] at h
    rw [execS]
    unfold asPass at h
    split at h
    · exact s_pass
    · cases h
  | .raise_ cl e, X, c, k, hp, st, h => PS.weak ps_never fun D σ H ⟨q, g, hh, ρ, st, fl, ρ', h', e1, _⟩ => by
    rw [execS] at e1
    obtain ⟨r, h1, e2, e3⟩ := bind_ok e1
    cases d : r.toPV with
    | none => rw [d] at e3; cases e3
    | some y => rw [d] at e3; cases e3
theorem chkSs_ok : ∀ (ss : List S) {X : Cx} {c : Ck} (k : CkOk X cf c) (hp : PassesOwn (model X.prog X.w) X.A X.env X.xe) {sts : List Stmt}, chkSs c ss sts = true → PSs X sts (tS X.K (execSs cf G ss))
  | [], X, c, k, hp, sts, h => by
    rw [chkSs] at h
    have h0 := List.isEmpty_iff.mp h
    subst h0
    rw [ex_nil]
    exact s_nil
  | s :: r, X, c, k, hp, sts, h => by
    rw [chkSs, Bool.or_eq_true] at h
    rw [ex_cons]
    rcases h with h | h
    · obtain ⟨h1, h2⟩ := and3 h
      have rr := chkSs_ok r k hp h2
      cases s with
      | frz i =>
        rw [execS]
        exact s_frz rr
      | mkloc i =>
        rw [execS]
        exact s_mkloc rr
      | _ => cases h1
    · obtain ⟨p, hq, h⟩ := opt_ok h
      obtain ⟨h1, h2⟩ := and3 h
      have r1 := chkS_ok s k hp h1
      have rr := chkSs_ok r k hp h2
      unfold asConsS at hq
      split at hq
      · cases hq
        exact s_cons r1 rr
      · cases hq
end
end
end WT
end
section
set_option Elab.async false
set_option linter.all false
set_option maxRecDepth 100000
set_option maxHeartbeats 4000000
/-! Every def of a checked text keeps its promise, at any call depth. -/
namespace WT
open PySem PySem.Spec PyProof.Rows L2
section
variable {K : KF} {g : Gh} {H : Hp} {n : Nat}
def Gh.trim (g : Gh) (n : Nat) : Gh := ⟨g.F, g.L.take n⟩
mutual
theorem Rep.trim : ∀ {x : PV} {v : V}, Rep K g H x v → under n x = true → Rep K (g.trim n) H x v
  | _, _, .non, _ => .non
  | _, _, .bl b, _ => .bl b
  | _, _, .int i, _ => .int i
  | _, _, .str s, _ => .str s
  | _, _, .tup h r, u => .tup h (Reps.trim r (by rw [under] at u; exact u))
  | _, _, .lst h r, u => .lst h (Reps.trim r (by rw [under] at u; exact u))
  | _, _, .sc h r, u => .sc h (Reps.trim r (by rw [under] at u; exact u))
  | .loc m, _, .loc h, u => .loc (by
      have hm : m < n := by rw [under] at u; exact of_decide_eq_true u
      show (g.L.take n)[m]? = _
      rw [List.getElem?_take_of_lt hm]
      exact h)
theorem Reps.trim : ∀ {xs : List PV} {vs : List V}, Reps K g H xs vs → unders n xs = true → Reps K (g.trim n) H xs vs
  | _, _, .nil, _ => .nil
  | _, _, .cons h r, u => by
    rw [unders, Bool.and_eq_true] at u
    exact .cons (Rep.trim h u.1) (Reps.trim r u.2)
end
theorem hunder_get : ∀ {h : AH} {i : Nat} {o : HObj}, hunder n h = true → hget h i = some o → o.under n = true
  | [], _, _, _, e => by cases e
  | u :: r, 0, o, h, e => by
    have h' : (u.under n && hunder n r) = true := h
    rw [Bool.and_eq_true] at h'
    cases e
    exact h'.1
  | u :: r, i + 1, o, h, e => by
    have h' : (u.under n && hunder n r) = true := h
    rw [Bool.and_eq_true] at h'
    exact hunder_get h'.2 (show hget r i = some o from e)
theorem Hs.trim {h : AH} (s : Hs K g H h) (hu : hunder n (h.take n) = true) : Hs K (g.trim n) H (h.take n) where
  len := by show (g.L.take n).length = _; rw [List.length_take, List.length_take, s.len]
  nd := s.nd.sublist (List.take_sublist n g.L)
  nf := fun a m => s.nf a (List.mem_of_mem_take m)
  tr := fun a m => s.tr a (List.mem_of_mem_take m)
  fd := s.fd
  ob := fun i o a k1 k2 => by
    have hi : i < n := by
      have := hget_lt k1
      rw [List.length_take] at this
      omega
    have k3 : hget h i = some o := by
      rw [hget_eq] at k1 ⊢
      rw [List.getElem?_take_of_lt hi] at k1
      exact k1
    have k4 : g.L[i]? = some a := by
      have k2 : (g.L.take n)[i]? = some a := k2
      rw [List.getElem?_take_of_lt hi] at k2
      exact k2
    have ob := s.ob i o a k3 k4
    have uo := hunder_get hu k1
    cases o with
    | l xs =>
      obtain ⟨vs, h1, h2⟩ := ob
      exact ⟨vs, h1, h2.trim uo⟩
    | d ks vs => exact ob.elim
theorem BRes.trim {H0 : Hp} {r : RV} {v : V} (x : BRes K H0 g H r v) (u : r.under n = true) : BRes K H0 (g.trim n) H r v := by
  cases r with
  | v y => exact Rep.trim x u
  | D b ks vs => cases b <;> exact x.elim
  | L b xs =>
    cases b with
    | true => exact x.elim
    | false =>
      obtain ⟨a, rfl, ⟨vs, h1, h2⟩, n1, n2, n3⟩ := x
      exact ⟨a, rfl, ⟨vs, h1, h2.trim u⟩, n1, fun z => n2 (List.mem_of_mem_take z), n3⟩
theorem Ext.trim {g0 : Gh} {H0 : Hp} (e : Ext g0 H0 g H) : Ext g0 H0 (g.trim g0.L.length) H :=
  ⟨e.fm, e.fn, ⟨[], by
    obtain ⟨m, hm⟩ := e.lm
    show g.L.take g0.L.length = _
    rw [hm, List.take_left', List.append_nil]
    rfl⟩, fun a m => e.ln a (List.mem_of_mem_take m), e.hk, e.hs⟩
end
/-- behind a call -/
theorem leave_run {K : KF} {g0 : Gh} {H0 : Hp} {h0 h1 h' : AH} {r0 r : RV} {Q : VK} (s0 : Hs K g0 H0 h0) (e : leave h0.length r0 h1 = .ok r h') (k : ∀ g' H' v, Ext g0 H0 g' H' → Hs K g' H' h' → BRes K H0 g' H' r v → Q v H') :
    ∀ g' H' v, Ext g0 H0 g' H' → Hs K g' H' h1 → BRes K H0 g' H' r0 v → Q v H' := by
  intro g' H' v x s b
  unfold leave at e
  split at e
  · cases e; exact k g' H' v x s b
  · split at e
    · rename_i hu
      cases e
      rw [Bool.and_eq_true] at hu
      have hl : g0.L.length = h0.length := s0.len
      rw [← hl] at hu k
      exact k _ H' v x.trim (s.trim hu.2) (b.trim hu.1)
    · cases e; exact k g' H' v x s b
theorem args_ok : ∀ {xs : List PV} {n : Nat} {ρ : Env}, args xs n = some ρ → ρ.length = n ∧ xs.length ≤ n ∧ ∀ i r, slot ρ i = some r → ∃ x, xs[i]? = some x ∧ r = .v x
  | [], n, ρ, e => by
    cases e
    refine ⟨List.length_replicate, Nat.zero_le _, fun i r h => ?_⟩
    rw [slot_eq, List.getElem?_replicate] at h
    split at h <;> cases h
  | _ :: _, 0, _, e => by cases e
  | x :: xs, n + 1, ρ, e => by
    have e' : (match args xs n with | some ρ => some (some (RV.v x) :: ρ) | none => none) = some ρ := e
    cases c : args xs n with
    | none => rw [c] at e'; cases e'
    | some ρ1 =>
      rw [c] at e'
      cases e'
      obtain ⟨h1, h2, h3⟩ := args_ok c
      refine ⟨by rw [List.length_cons, h1], Nat.succ_le_succ h2, fun i r h => ?_⟩
      cases i with
      | zero => cases h; exact ⟨x, rfl, rfl⟩
      | succ i =>
        obtain ⟨y, h4, h5⟩ := h3 i r h
        exact ⟨y, by simpa using h4, h5⟩
structure DT where
  nm : Str
  dd : He.DefD
  N : List Str
  ps : List Str
  d : Def
def scB (N ps : List Str) (sc : Scope) : Bool := decide (sc.kind = .function) && !sc.isCoroutine && !sc.isGenerator && decide N.Nodup && decide (N.take ps.length = ps) && (ps.all fun x => locB sc x) && (sc.names.all fun y => decide (y.2 ≠ .free))
theorem sc_ok {N ps : List Str} {sc : Scope} (h : scB N ps sc = true) : FnScope N ps sc := by
  unfold scB at h
  simp only [Bool.and_eq_true, decide_eq_true_eq, Bool.not_eq_true', List.all_eq_true] at h
  obtain ⟨⟨⟨⟨⟨⟨h1, h2⟩, h3⟩, h4⟩, h5⟩, h6⟩, h7⟩ := h
  exact ⟨h1, h2, h3, h4, h5, fun x hx => loc_ok (h6 x hx), h7⟩
def ftOf (tab : List (Nat × DT)) : List (Str × Nat × List Str) := tab.map fun p => (p.2.nm, p.1, p.2.ps)
def tabOf (tab : List (Nat × DT)) (f : Nat) : Option Def := (tab.find? (·.1 == f)).map (·.2.d)
def chkD (tab : List (Nat × DT)) (ft : List (Str × Nat × List Str)) (fr : List Str) (gt : List (Str × GC)) (p : Nat × DT) : Bool := plainP p.2.dd.params p.2.ps && scB p.2.N p.2.ps p.2.dd.scope && decide (p.2.d.np = p.2.ps.length) && decide (p.2.d.ns = p.2.N.length) && p.2.dd.dfl.isEmpty && p.2.dd.kwd.isEmpty && chkSs ⟨p.2.N, p.2.dd.scope, none, ft, fr, gt⟩ p.2.d.body p.2.dd.body
/-- what the head says of the defs -/
structure Fcts (K : KF) (w : World) (mg : Str → Option Value) (tab : List (Nat × DT)) (fr : List Str) (gt : List (Str × GC)) : Prop where
  d : ∀ p ∈ tab, ∃ a fd, FunD K p.2.dd.name p.2.dd.qual p.2.dd.params p.2.dd.body p.2.dd.scope [] [] a fd ∧ mg p.2.nm = some (.ref a)
  f : ∀ x ∈ fr, mg x = none
  g : ∀ p ∈ gt, GcOk K w mg p.1 p.2
theorem funD_dfl {K : KF} {x qual : Str} {params : Arguments} {body : List Stmt} {scope : Scope} {a : Addr} {fd : FuncData} (F : FunD K x qual params body scope [] [] a fd) : fd.params = params ∧ fd.defaults = .none := by
  obtain ⟨oc, od, dV, kV, doc, pm, an, cdv, ct, osl, rfl, lk, hcd, hD, hK⟩ := F.ex
  refine ⟨rfl, ?_⟩
  rcases hD with ⟨_, e⟩ | ⟨e, _⟩
  · exact e
  · exact absurd rfl e
section
variable {P : Program} {w : World} {K : KF} {mg : Str → Option Value} {base : Heap} {G : Nat → Option PV} {tab : List (Nat × DT)} {fr : List Str} {gt : List (Str × GC)}
/-- one def, those that it calls being right one call deeper -/
theorem def_ok {p : Nat × DT} {n : Nat} {a : Addr} {fd : FuncData} (hc : chkD tab (ftOf tab) fr gt p = true) (hT : tabOf tab p.1 = some p.2.d) (F : FunD K p.2.dd.name p.2.dd.qual p.2.dd.params p.2.dd.body p.2.dd.scope [] [] a fd) (hfr : ∀ x ∈ fr, mg x = none) (hgt : ∀ p ∈ gt, GcOk K w mg p.1 p.2)
    (ih : ∀ q ∈ tab, ∃ b fe, FnOk P w K mg base CX0 n b fe q.2.ps (spF K (runFn G (tabOf tab) n) q.1) ∧ mg q.2.nm = some (.ref b) ∧ PySem.W.keepIn K (.ref b) = true ∧ plainP fe.params q.2.ps = true ∧ fe.defaults = .none) :
    FnOk P w K mg base CX0 (n + 1) a fd p.2.ps (spF K (runFn G (tabOf tab) (n + 1)) p.1) := by
  unfold chkD at hc
  simp only [Bool.and_eq_true, decide_eq_true_eq, List.isEmpty_iff] at hc
  obtain ⟨⟨⟨⟨⟨⟨c1, c2⟩, c3⟩, c4⟩, c5⟩, c6⟩, c8⟩ := hc
  have S := sc_ok c2
  have look : ∀ {vs : List V} {H : Hp} {Q : VK} {E : XK}, spF K (runFn G (tabOf tab) (n + 1)) p.1 vs H Q E → ∃ g h xs r h' ρ fl ρ' h1, Hs K g H h ∧ Reps K g H xs vs ∧ xs.length = p.2.d.np ∧ args xs p.2.d.ns = some ρ ∧ execSs (runFn G (tabOf tab) n) G p.2.d.body ρ h = .ok (fl, ρ') h1 ∧
      (match fl with | .ret r => leave h.length r h1 | .nx => leave h.length (.v .non) h1 | _ => .bad) = .ok r h' ∧ ∀ g' H' v, Ext g H g' H' → Hs K g' H' h' → BRes K H g' H' r v → Q v H' := fun {vs H Q E} hsp => by
    obtain ⟨g, h, xs, r, h', s0, rr, e, k⟩ := hsp
    unfold runFn at e
    rw [hT] at e
    have e1 : (if xs.length = p.2.d.np then match args xs p.2.d.ns with
      | some ρ => (execSs (runFn G (tabOf tab) n) G p.2.d.body ρ h).bind fun q h' => match q.1 with
        | .ret r => leave h.length r h'
        | .nx => leave h.length (.v .non) h'
        | _ => .bad
      | none => .bad
      else .bad) = .ok r h' := e
    split at e1
    · rename_i hl
      cases ca : args xs p.2.d.ns with
      | none => rw [ca] at e1; cases e1
      | some ρ =>
        rw [ca] at e1
        obtain ⟨⟨fl, ρ'⟩, h1, e2, e3⟩ := bind_ok e1
        exact ⟨g, h, xs, r, h', ρ, fl, ρ', h1, s0, rr, hl, ca, e2, e3, k⟩
    · cases e1
  refine F.ok (N := p.2.N) S (fun vs H Q E hsp => ?_) fun cdv A outer s H vs Q E hr hsp => ⟨tS K (execSs (runFn G (tabOf tab) n) G p.2.d.body), PSs.nox ?_, ?_⟩
  · obtain ⟨g, h, xs, r, h', ρ, fl, ρ', h1, s0, rr, hl, _⟩ := look hsp
    rw [rr.length, hl, c3]
  · refine chkSs_ok p.2.d.body (c := ⟨p.2.N, p.2.dd.scope, none, ftOf tab, fr, gt⟩) ⟨rfl, S.nd, rfl, fun x _ => .inl rfl, rfl, ?_, fun q hq => ?_, hfr, hgt⟩ PassesOwn.never c8
    · have := hr.un
      show (A.deeper _).units + 100 < cLine
      omega
    · obtain ⟨q', hq', rfl⟩ := List.mem_map.mp hq
      obtain ⟨b, fe, h1, h2, h3, h4, h5⟩ := ih q' hq'
      exact ⟨n, b, fe, h1, hr, h2, h3, h4, h5⟩
  · obtain ⟨g, h, xs, r, h', ρ, fl, ρ', h1, s0, rr, hl, ca, e2, e3, k⟩ := look hsp
    obtain ⟨a1, a2, a3⟩ := args_ok ca
    have lv : vs.length = xs.length := rr.length
    refine ⟨⟨g, H⟩, g, h, ρ, ⟨s0, Ext.refl g H, ?_, fun i r hi => ?_, fun i j r s v h1 h2 o1 _ _ _ => ?_⟩, fl, ρ', h1, e2, ?_⟩
    · unfold L2.start
      rw [List.length_append, List.length_map, List.length_replicate, a1, c4]
      omega
    · obtain ⟨x, h2, rfl⟩ := a3 i r hi
      obtain ⟨v, h3, h4⟩ := rr.get h2
      refine ⟨v, ?_, h4⟩
      have hlt : i < vs.length := (List.getElem?_eq_some_iff.mp h3).1
      unfold L2.start
      rw [List.getElem?_append_left (by rw [List.length_map]; exact hlt), List.getElem?_map, h3]
      rfl
    · obtain ⟨x, _, rfl⟩ := a3 i r h1
      cases o1
    · cases fl with
      | nx => exact fun g' H' σ' m st => leave_run s0 e3 k g' H' .non st.ex st.hs .non
      | ret r0 => exact fun g' H' v x st b => leave_run s0 e3 k g' H' v x st b
      | brk => cases e3
      | cont => cases e3
theorem find_ok : ∀ {tab : List (Nat × DT)} {p : Nat × DT}, (tab.map (·.1)).Nodup → p ∈ tab → tab.find? (·.1 == p.1) = some p
  | [], _, _, h => by cases h
  | q :: r, p, nd, h => by
    rw [List.map_cons, List.nodup_cons] at nd
    rw [List.find?_cons]
    rcases List.mem_cons.mp h with rfl | h
    · rw [show (p.1 == p.1) = true from beq_self_eq_true _]
    · have e : (q.1 == p.1) = false := beq_false_of_ne fun e => nd.1 (e ▸ List.mem_map.mpr ⟨p, h, rfl⟩)
      rw [e]
      exact find_ok nd.2 h
theorem all_ok (hn : (tab.map (·.1)).Nodup) (hc : tab.all (chkD tab (ftOf tab) fr gt) = true) (Fc : Fcts K w mg tab fr gt) : ∀ n, ∀ p ∈ tab, ∃ a fd, FnOk P w K mg base CX0 n a fd p.2.ps (spF K (runFn G (tabOf tab) n) p.1) ∧ mg p.2.nm = some (.ref a) ∧ PySem.W.keepIn K (.ref a) = true ∧ plainP fd.params p.2.ps = true ∧ fd.defaults = .none
  | 0, p, hp => by
    obtain ⟨a, fd, F, hm⟩ := Fc.d p hp
    have hcp := List.all_eq_true.mp hc p hp
    unfold chkD at hcp
    simp only [Bool.and_eq_true, decide_eq_true_eq, List.isEmpty_iff] at hcp
    have no : ∀ {vs : List V} {H : Hp} {Q : VK} {E : XK}, ¬ spF K (runFn G (tabOf tab) 0) p.1 vs H Q E := fun ⟨g, h, xs, r, h', _, _, e, _⟩ => by cases e
    exact ⟨a, fd, ⟨fun vs H Q E h => (no h).elim, fun A outer s H args us vs Q E _ _ _ _ h => (no h).elim⟩, hm, F.kp, by rw [(funD_dfl F).1]; exact hcp.1.1.1.1.1.1, (funD_dfl F).2⟩
  | n + 1, p, hp => by
    obtain ⟨a, fd, F, hm⟩ := Fc.d p hp
    have hcp := List.all_eq_true.mp hc p hp
    have hT : tabOf tab p.1 = some p.2.d := by unfold tabOf; rw [find_ok hn hp]; rfl
    have hcp2 := hcp
    unfold chkD at hcp2
    simp only [Bool.and_eq_true, decide_eq_true_eq, List.isEmpty_iff] at hcp2
    exact ⟨a, fd, def_ok hcp hT F Fc.f Fc.g (all_ok hn hc Fc n), hm, F.kp, by rw [(funD_dfl F).1]; exact hcp2.1.1.1.1.1.1, (funD_dfl F).2⟩
end
end WT
end
section
set_option Elab.async false
set_option linter.all false
set_option maxRecDepth 100000
set_option maxHeartbeats 4000000
/-! The law's entry. -/
namespace WT
open PySem PySem.Spec PyProof.Rows L2
theorem entry {K : KF} {H : Hp} {a : Addr} {ns : List Int} {cf : CF} {f : Nat} {E : XK} (hS : SqL K H a (ns.map V.int)) (run : ∃ h', cf f [.sc (ns.map .int)] [] = .ok (.v (.bl true)) h') : spF K cf f [.ref a] H (fun v _ => v = .bl true) E := by
  obtain ⟨h', e⟩ := run
  have s : Hs K ⟨fun b => H b ≠ none, []⟩ H [] := ⟨rfl, List.nodup_nil, fun a m => (by cases m), fun a m => (by cases m), fun a m => m, fun n o a k _ => (by cases k)⟩
  refine ⟨⟨fun b => H b ≠ none, []⟩, [], [.sc (ns.map .int)], .v (.bl true), h', s, .cons (.sc ?_ (Reps.of_ints ns)) .nil, e, fun g' H' v _ _ b => by cases b; rfl⟩
  rcases hS with h | h
  · refine .inl ⟨?_, h⟩
    rcases h with h | ⟨o, h⟩
    · show H a ≠ none
      rw [h]; simp
    · show H a ≠ none
      rw [h]; simp
  · exact .inr h
theorem bind_one {K : KF} {x qual p : Str} {params : Arguments} {body : List Stmt} {scope : Scope} {a : Addr} {fd : FuncData} (F : FunD K x qual params body scope [] [] a fd) (hp : plainP params [p] = true) (s : Shared) (u : Value) : BindsTo s fd ⟨[u], []⟩ [(p, u)] := by
  have h := bind_perm (fd := fd) (ps := [p]) (ks := []) (is := [0]) (us := [u]) (ws := []) (us' := [u]) (by rw [(funD_dfl F).1]; exact hp) (funD_dfl F).2 (by simp [permB]) rfl rfl
  exact .of_eq h
/-- what the head tells of the table -/
theorem fcts_of {w : World} {tab : List (Nat × DT)} {fn : List He.DefD} {fa : List He.Fa} {fr : List Str} {gt : List (Str × GC)} {K : KF} {mg : Str → Option Value} {h : Heap} (X : K.In h) (G : h.Ns mainGlobals mg) (c : He.SaysX fa fn (gcT gt) [] (gcsB gt) w h K) (e1 : fn = tab.map (·.2.dd))
    (e2 : fa = tab.map (fun p => He.Fa.glo p.2.nm) ++ fr.map He.Fa.free) (e3 : tab.all (fun p => decide (p.2.dd.at_ = (p.2.nm, none)) && p.2.dd.dfl.isEmpty && p.2.dd.kwd.isEmpty) = true) : Fcts K w mg tab fr gt := by
  subst e1
  subst e2
  refine ⟨fun p hp => ?_, fun x hx => ?_, gcs_ok X G c⟩
  · have e := List.all_eq_true.mp e3 p hp
    simp only [Bool.and_eq_true, decide_eq_true_eq, List.isEmpty_iff] at e
    obtain ⟨⟨h1, h2⟩, h3⟩ := e
    obtain ⟨fd, F⟩ := c.t.d.defs (d := p.2.dd) (List.mem_map.mpr ⟨p, hp, rfl⟩)
    have g := He.glo_ok X G (c.t.d.facts (f := .glo p.2.nm) (List.mem_append_left _ (List.mem_map.mpr ⟨p, hp, rfl⟩)))
    refine ⟨_, fd, ?_, g⟩
    have ed : p.2.dd.dvs K = [] := by unfold He.DefD.dvs; rw [h2]; rfl
    have ek : p.2.dd.kws K = [] := by unfold He.DefD.kws; rw [h3]; rfl
    rw [ed, ek, h1] at F
    exact F
  · exact He.free_ok X G (c.t.d.facts (f := .free x) (List.mem_append_right _ (List.mem_map.mpr ⟨x, hx, rfl⟩)))
theorem law_fn {P : Program} {w : World} {K : KF} {mg : Str → Option Value} {base : Heap} {G : Nat → Option PV} {tab : List (Nat × DT)} {fr : List Str} {gt : List (Str × GC)} (hn : (tab.map (·.1)).Nodup) (hc : tab.all (chkD tab (ftOf tab) fr gt) = true) (Fc : Fcts K w mg tab fr gt) {p : Nat × DT} (hp : p ∈ tab)
    {a : Addr} {fd : FuncData} (F : FunD K p.2.dd.name p.2.dd.qual p.2.dd.params p.2.dd.body p.2.dd.scope [] [] a fd) (n : Nat) : FnOk P w K mg base CX0 (n + 1) a fd p.2.ps (spF K (runFn G (tabOf tab) (n + 1)) p.1) :=
  def_ok (List.all_eq_true.mp hc p hp) (by unfold tabOf; rw [find_ok hn hp]; rfl) F Fc.f Fc.g (all_ok hn hc Fc n)
/-- all that walk_ofE asks of the law -/
theorem law_end {P : Program} {K : KF} {h : Heap} {mg : Str → Option Value} {G : Nat → Option PV} {tab : List (Nat × DT)} {fn : List He.DefD} {fa : List He.Fa} {fr : List Str} {gt : List (Str × GC)} {p : Nat × DT} {f : Addr} {n : Nat} (w : World) (X : K.In h) (N : h.Ns mainGlobals mg) (c : He.SaysX fa fn (gcT gt) [] (gcsB gt) w h K)
    (e1 : fn = tab.map (·.2.dd)) (e2 : fa = tab.map (fun p => He.Fa.glo p.2.nm) ++ fr.map He.Fa.free) (e3 : tab.all (fun p => decide (p.2.dd.at_ = (p.2.nm, none)) && p.2.dd.dfl.isEmpty && p.2.dd.kwd.isEmpty) = true)
    (hn : (tab.map (·.1)).Nodup) (hc : tab.all (chkD tab (ftOf tab) fr gt) = true) (hp : p ∈ tab) (hps : p.2.ps = [("script" : Str)]) (hmg : mg p.2.nm = some (.ref f)) (plain : ∀ ns : List Int, ns.length ≤ 63 → ∃ h', runFn G (tabOf tab) (n + 1) p.1 [.sc (ns.map .int)] [] = .ok (.v (.bl true)) h') :
    ∃ (K : PySem.W.Frag) (fd : FuncData) (sp : Sp), K.In h ∧ (∀ (s : Shared) (u : Value), BindsTo s fd ⟨[u], []⟩ [(("script" : Str), u)]) ∧
        (∀ (H : Hp) (a : Addr) (ns : List Int), ns.length ≤ 63 → Only H → SqL K H a (ns.map V.int) → sp [.ref a] H (fun v _ => v = .bl true) fun _ _ _ => False) ∧
        ∀ base : Heap, K.In base → base.Ns mainGlobals mg → FnOk P w K mg base CX0 (n + 1) f fd [("script" : Str)] sp := by
  have Fc := fcts_of X N c e1 e2 e3
  obtain ⟨a, fd, F, hm⟩ := Fc.d p hp
  rw [hmg] at hm
  cases hm
  have hcp := List.all_eq_true.mp hc p hp
  unfold chkD at hcp
  simp only [Bool.and_eq_true] at hcp
  have hpl : plainP p.2.dd.params [("script" : Str)] = true := by rw [← hps]; exact hcp.1.1.1.1.1.1
  exact ⟨K, fd, spF K (runFn G (tabOf tab) (n + 1)) p.1, X, bind_one F hpl, fun H a ns hl _ hS => entry hS (plain ns hl), fun base _ _ => by
    have := law_fn (P := P) (w := w) (base := base) (G := G) hn hc Fc hp F n
    rw [hps] at this
    exact this⟩
end WT
end
section
set_option linter.all false
set_option maxRecDepth 100000
namespace WT
open PySem
/-- _law_at(f, row); slots: 0=f 1=row 2=k 3=truth -/
def D__law_at : Def := ⟨2, 4, [(.asg (.var 2) (.cst (.int 0))),
      (.for_ (.var 3) (.val (.var 1)) [(.asg (.var 2) (.op (.bin .add) (.cons (.op (.bin .mul) (.cons (.cst (.int 2)) (.cons (.var 2) .nil))) (.cons (.var 3) .nil))))]),
      (.ret (.op .ix (.cons (.op .ix (.cons (.var 0) (.cons (.cst (.int 1)) .nil))) (.cons (.var 2) .nil))))]⟩
class K__law_at (T : Nat → Option Def) : Prop where
  d : T 17 = some D__law_at
end WT
end
section
set_option linter.all false
set_option maxRecDepth 100000
namespace WT
open PySem
/-- _law_applied(f, some); slots: 0=f 1=some 2=j 3=row -/
def D__law_applied : Def := ⟨2, 4, [(.ret (.op .toTup (.cons (.lc [2] (.call 17 [0, 1] (.cons (.var 0) (.cons (.op .toTup (.cons (.lc [3] (.op .ix (.cons (.var 3) (.cons (.var 2) .nil))) (.var 3) (.val (.var 1)) .nil .nil) .nil)) .nil))) (.var 2) (.range1 (.op .len (.cons (.op .ix (.cons (.var 1) (.cons (.cst (.int 0)) .nil))) .nil))) .nil .nil) .nil)))]⟩
class K__law_applied (T : Nat → Option Def) : Prop where
  d : T 59 = some D__law_applied
  c0 : K__law_at T
instance {T : Nat → Option Def} [h : K__law_applied T] : K__law_at T := h.c0
end WT
end
section
set_option linter.all false
set_option maxRecDepth 100000
namespace WT
open PySem
/-- _law_choices(rows_now, many); slots: 0=rows_now 1=many 2=found 3=turn 4=longer 5=some 6=row -/
def D__law_choices : Def := ⟨2, 7, [(.asg (.var 2) (.op .lst (.cons (.op .tup .nil) .nil))),
      (.for_ (.var 3) (.range1 (.var 1)) [(.asg (.var 4) (.op .lst .nil)),
      (.for_ (.var 5) (.val (.var 2)) [(.asg (.var 4) (.op (.bin .add) (.cons (.var 4) (.cons (.lc [6] (.op (.bin .add) (.cons (.var 5) (.cons (.op .tup (.cons (.var 6) .nil)) .nil))) (.var 6) (.val (.var 0)) .nil .nil) .nil))))]),
      (.asg (.var 2) (.var 4))]),
      (.ret (.var 2))]⟩
class K__law_choices (T : Nat → Option Def) : Prop where
  d : T 58 = some D__law_choices
end WT
end
section
set_option linter.all false
set_option maxRecDepth 100000
namespace WT
open PySem
/-- _law_breach(f, relation); slots: 0=f 1=relation 2=some -/
def D__law_breach : Def := ⟨2, 3, [(.for_ (.var 2) (.val (.call 58 [0, 1] (.cons (.op .ix (.cons (.var 1) (.cons (.cst (.int 1)) .nil))) (.cons (.op .ix (.cons (.var 0) (.cons (.cst (.int 0)) .nil))) .nil)))) [(.ite (.op (.cmp .notin) (.cons (.call 59 [0, 1] (.cons (.var 0) (.cons (.var 2) .nil))) (.cons (.op .ix (.cons (.var 1) (.cons (.cst (.int 1)) .nil))) .nil))) [(.ret (.var 2))] [])]),
      (.ret (.cst .non))]⟩
class K__law_breach (T : Nat → Option Def) : Prop where
  d : T 60 = some D__law_breach
  c0 : K__law_applied T
  c1 : K__law_choices T
instance {T : Nat → Option Def} [h : K__law_breach T] : K__law_applied T := h.c0
instance {T : Nat → Option Def} [h : K__law_breach T] : K__law_choices T := h.c1
end WT
end
section
set_option linter.all false
set_option maxRecDepth 100000
namespace WT
open PySem
/-- _law_rows(many); slots: 0=many 1=found 2=turn 3=longer 4=row -/
def D__law_rows : Def := ⟨1, 5, [(.asg (.var 1) (.op .lst (.cons (.op .tup .nil) .nil))),
      (.for_ (.var 2) (.range1 (.var 0)) [(.asg (.var 3) (.op .lst .nil)),
      (.for_ (.var 4) (.val (.var 1)) [(.asg (.var 3) (.op (.bin .add) (.cons (.var 3) (.cons (.op .lst (.cons (.op (.bin .add) (.cons (.var 4) (.cons (.op .tup (.cons (.cst (.int 0)) .nil)) .nil))) (.cons (.op (.bin .add) (.cons (.var 4) (.cons (.op .tup (.cons (.cst (.int 1)) .nil)) .nil))) .nil))) .nil))))]),
      (.asg (.var 1) (.var 3))]),
      (.ret (.var 1))]⟩
class K__law_rows (T : Nat → Option Def) : Prop where
  d : T 16 = some D__law_rows
end WT
end
section
set_option linter.all false
set_option maxRecDepth 100000
namespace WT
open PySem
/-- _law_take(pot, many); slots: 0=pot 1=many 2=cell 3=drawn_now 4=mixed -/
def D__law_take : Def := ⟨2, 5, [(.ite (.and (.op (.cmp .eq) (.cons (.op .ix (.cons (.var 0) (.cons (.cst (.int 0)) .nil))) (.cons (.cst (.int 0)) .nil))) (.op (.cmp .lt) (.cons (.op .ix (.cons (.var 0) (.cons (.cst (.int 2)) .nil))) (.cons (.op .len (.cons (.var 0) .nil)) .nil)))) [(.asg (.var 2) (.op .ix (.cons (.var 0) (.cons (.op .ix (.cons (.var 0) (.cons (.cst (.int 2)) .nil))) .nil)))),
      (.augix 0 (.cst (.int 2)) .add (.cst (.int 1))),
      (.ite (.op (.cmp .ge) (.cons (.var 2) (.cons (.op (.bin .pow) (.cons (.cst (.int 10)) (.cons (.cst (.int 18)) .nil))) .nil))) [(.setix 0 (.cst (.int 0)) (.op (.bin .sub) (.cons (.var 2) (.cons (.op (.bin .pow) (.cons (.cst (.int 10)) (.cons (.cst (.int 18)) .nil))) .nil))))] [(.asg (.var 4) (.op (.bin .mod) (.cons (.op .toInt (.cons (.var 2) .nil)) (.cons (.cst (.int 2147483647)) .nil)))),
      (.asg (.var 4) (.op (.bin .mod) (.cons (.op .toInt (.cons (.op (.bin .add) (.cons (.op (.bin .add) (.cons (.op (.bin .mul) (.cons (.var 4) (.cons (.var 4) .nil))) (.cons (.op (.bin .mul) (.cons (.cst (.int 69621)) (.cons (.var 4) .nil))) .nil))) (.cons (.op (.bin .mul) (.cons (.cst (.int 977)) (.cons (.op .ix (.cons (.var 0) (.cons (.cst (.int 2)) .nil))) .nil))) .nil))) .nil)) (.cons (.cst (.int 2147483629)) .nil)))),
      (.setix 0 (.cst (.int 1)) (.op (.bin .mod) (.cons (.op .toInt (.cons (.op (.bin .add) (.cons (.op .ix (.cons (.var 0) (.cons (.cst (.int 1)) .nil))) (.cons (.var 4) .nil))) .nil)) (.cons (.cst (.int 2147483629)) .nil))))])] []),
      (.ite (.op (.cmp .gt) (.cons (.op .ix (.cons (.var 0) (.cons (.cst (.int 0)) .nil))) (.cons (.cst (.int 0)) .nil))) [(.asg (.var 3) (.op (.bin .mod) (.cons (.op .toInt (.cons (.op .ix (.cons (.var 0) (.cons (.cst (.int 0)) .nil))) .nil)) (.cons (.var 1) .nil)))),
      (.setix 0 (.cst (.int 0)) (.op (.bin .fdiv) (.cons (.op .ix (.cons (.var 0) (.cons (.cst (.int 0)) .nil))) (.cons (.var 1) .nil)))),
      (.ret (.var 3))] []),
      (.setix 0 (.cst (.int 1)) (.op (.bin .mod) (.cons (.op .toInt (.cons (.op (.bin .add) (.cons (.op (.bin .add) (.cons (.op (.bin .mul) (.cons (.op .ix (.cons (.var 0) (.cons (.cst (.int 1)) .nil))) (.cons (.cst (.int 48271)) .nil))) (.cons (.op (.bin .mul) (.cons (.cst (.int 40692)) (.cons (.op .ix (.cons (.var 0) (.cons (.cst (.int 2)) .nil))) .nil))) .nil))) (.cons (.cst (.int 11)) .nil))) .nil)) (.cons (.cst (.int 2147483647)) .nil)))),
      (.setix 0 (.cst (.int 1)) (.op (.bin .mod) (.cons (.op .toInt (.cons (.op (.bin .add) (.cons (.op (.bin .mul) (.cons (.op .ix (.cons (.var 0) (.cons (.cst (.int 1)) .nil))) (.cons (.op .ix (.cons (.var 0) (.cons (.cst (.int 1)) .nil))) .nil))) (.cons (.cst (.int 7)) .nil))) .nil)) (.cons (.cst (.int 2147483629)) .nil)))),
      (.ret (.op (.bin .mod) (.cons (.op .toInt (.cons (.op (.bin .fdiv) (.cons (.op .ix (.cons (.var 0) (.cons (.cst (.int 1)) .nil))) (.cons (.cst (.int 8)) .nil))) .nil)) (.cons (.var 1) .nil))))]⟩
class K__law_take (T : Nat → Option Def) : Prop where
  d : T 14 = some D__law_take
end WT
end
section
set_option linter.all false
set_option maxRecDepth 100000
namespace WT
open PySem
/-- _law_function(pot, k); slots: 0=pot 1=k 2=some 3=rows_now 4=way 5=weights 6=least 7=signs 8=half 9=chosen 10=lone 11=row 12=place 13=truth 14=j 15=one 16=c 17=t 18=w 19=s -/
def D__law_function : Def := ⟨2, 20, [(.par [(3, false), (4, false)] (.cons (.call 16 [0] (.cons (.var 1) .nil)) (.cons (.call 14 [0, 1] (.cons (.var 0) (.cons (.cst (.int 8)) .nil))) .nil))),
      (.asg (.var 2) (.lc [11] (.call 14 [0, 1] (.cons (.var 0) (.cons (.cst (.int 2)) .nil))) (.var 11) (.val (.var 3)) .nil .nil)),
      (.ite (.op (.cmp .eq) (.cons (.var 4) (.cons (.cst (.int 0)) .nil))) [(.asg (.var 5) (.lc [14] (.call 14 [0, 1] (.cons (.var 0) (.cons (.cst (.int 3)) .nil))) (.var 14) (.range1 (.var 1)) .nil .nil)),
      (.asg (.var 6) (.call 14 [0, 1] (.cons (.var 0) (.cons (.cst (.int 5)) .nil)))),
      (.asg (.var 2) (.lc [11] (.op .toInt (.cons (.op (.cmp .ge) (.cons (.op .sum (.cons (.lc [18, 17] (.op (.bin .mul) (.cons (.var 18) (.cons (.var 17) .nil))) (.tup [18, 17]) (.zip (.cons (.var 5) (.cons (.var 11) .nil))) .nil .nil) .nil)) (.cons (.var 6) .nil))) .nil)) (.var 11) (.val (.var 3)) .nil .nil))] []),
      (.ite (.op (.cmp .eq) (.cons (.var 4) (.cons (.cst (.int 1)) .nil))) [(.asg (.var 7) (.lc [14] (.call 14 [0, 1] (.cons (.var 0) (.cons (.cst (.int 2)) .nil))) (.var 14) (.range1 (.op (.bin .add) (.cons (.var 1) (.cons (.cst (.int 1)) .nil)))) .nil .nil)),
      (.asg (.var 2) (.lc [11] (.op (.bin .mod) (.cons (.op .toInt (.cons (.op (.bin .add) (.cons (.op .ix (.cons (.var 7) (.cons (.var 1) .nil))) (.cons (.op .sum (.cons (.lc [19, 17] (.op (.bin .mul) (.cons (.var 19) (.cons (.var 17) .nil))) (.tup [19, 17]) (.zip (.cons (.var 7) (.cons (.var 11) .nil))) .nil .nil) .nil)) .nil))) .nil)) (.cons (.cst (.int 2)) .nil))) (.var 11) (.val (.var 3)) .nil .nil))] []),
      (.ite (.op (.cmp .eq) (.cons (.var 4) (.cons (.cst (.int 2)) .nil))) [(.asg (.var 8) (.op (.sl false true) (.cons (.var 2) (.cons (.op (.bin .fdiv) (.cons (.op .len (.cons (.var 2) .nil)) (.cons (.cst (.int 2)) .nil))) .nil)))),
      (.asg (.var 2) (.op (.bin .add) (.cons (.var 8) (.cons (.lc [15] (.op (.bin .sub) (.cons (.cst (.int 1)) (.cons (.var 15) .nil))) (.var 15) (.val (.op .rev (.cons (.var 8) .nil))) .nil .nil) .nil))))] []),
      (.ite (.op (.cmp .eq) (.cons (.var 4) (.cons (.cst (.int 3)) .nil))) [(.asg (.var 9) (.lc [14] (.call 14 [0, 1] (.cons (.var 0) (.cons (.cst (.int 2)) .nil))) (.var 14) (.range1 (.var 1)) .nil .nil)),
      (.asg (.var 2) (.lc [11] (.op .toInt (.cons (.op .all (.cons (.lc [16, 17] (.or (.op (.cmp .eq) (.cons (.var 17) (.cons (.cst (.int 1)) .nil))) (.op (.cmp .eq) (.cons (.var 16) (.cons (.cst (.int 0)) .nil)))) (.tup [16, 17]) (.zip (.cons (.var 9) (.cons (.var 11) .nil))) .nil .nil) .nil)) .nil)) (.var 11) (.val (.var 3)) .nil .nil))] []),
      (.ite (.op (.cmp .eq) (.cons (.var 4) (.cons (.cst (.int 4)) .nil))) [(.asg (.var 9) (.lc [14] (.call 14 [0, 1] (.cons (.var 0) (.cons (.cst (.int 2)) .nil))) (.var 14) (.range1 (.var 1)) .nil .nil)),
      (.asg (.var 2) (.lc [11] (.op .toInt (.cons (.op .any (.cons (.lc [16, 17] (.and (.op (.cmp .eq) (.cons (.var 17) (.cons (.cst (.int 1)) .nil))) (.op (.cmp .eq) (.cons (.var 16) (.cons (.cst (.int 1)) .nil)))) (.tup [16, 17]) (.zip (.cons (.var 9) (.cons (.var 11) .nil))) .nil .nil) .nil)) .nil)) (.var 11) (.val (.var 3)) .nil .nil))] []),
      (.ite (.op (.cmp .eq) (.cons (.var 4) (.cons (.cst (.int 5)) .nil))) [(.asg (.var 10) (.call 14 [0, 1] (.cons (.var 0) (.cons (.op .len (.cons (.var 2) .nil)) .nil)))),
      (.asg (.var 2) (.lc [14] (.op .toInt (.cons (.op (.cmp .eq) (.cons (.var 14) (.cons (.var 10) .nil))) .nil)) (.var 14) (.range1 (.op .len (.cons (.var 2) .nil))) .nil .nil)),
      (.asg (.var 2) (.ite (.op (.cmp .eq) (.cons (.call 14 [0, 1] (.cons (.var 0) (.cons (.cst (.int 2)) .nil))) (.cons (.cst (.int 0)) .nil))) (.lc [15] (.op (.bin .sub) (.cons (.cst (.int 1)) (.cons (.var 15) .nil))) (.var 15) (.val (.var 2)) .nil .nil) (.var 2)))] []),
      (.ite (.op (.cmp .eq) (.cons (.var 4) (.cons (.cst (.int 6)) .nil))) [(.par [(12, false), (13, false)] (.cons (.call 14 [0, 1] (.cons (.var 0) (.cons (.var 1) .nil))) (.cons (.call 14 [0, 1] (.cons (.var 0) (.cons (.cst (.int 2)) .nil))) .nil))),
      (.asg (.var 2) (.lc [11] (.op .toInt (.cons (.op (.cmp .eq) (.cons (.op .ix (.cons (.var 11) (.cons (.var 12) .nil))) (.cons (.var 13) .nil))) .nil)) (.var 11) (.val (.var 3)) .nil .nil))] []),
      (.ret (.op .tup (.cons (.var 1) (.cons (.op .toTup (.cons (.var 2) .nil)) .nil))))]⟩
class K__law_function (T : Nat → Option Def) : Prop where
  d : T 18 = some D__law_function
  c0 : K__law_rows T
  c1 : K__law_take T
instance {T : Nat → Option Def} [h : K__law_function T] : K__law_rows T := h.c0
instance {T : Nat → Option Def} [h : K__law_function T] : K__law_take T := h.c1
end WT
end
section
set_option linter.all false
set_option maxRecDepth 100000
namespace WT
open PySem
/-- _law_relation(pot, many); slots: 0=pot 1=many 2=some 3=rows_now 4=part 5=row -/
def D__law_relation : Def := ⟨2, 6, [(.par [(3, false), (4, false)] (.cons (.call 16 [0] (.cons (.var 1) .nil)) (.cons (.op (.bin .add) (.cons (.cst (.int 2)) (.cons (.call 14 [0, 1] (.cons (.var 0) (.cons (.cst (.int 3)) .nil))) .nil))) .nil))),
      (.asg (.var 2) (.lc [5] (.var 5) (.var 5) (.val (.var 3)) (.cons (.op (.cmp .eq) (.cons (.call 14 [0, 1] (.cons (.var 0) (.cons (.var 4) .nil))) (.cons (.cst (.int 0)) .nil))) .nil) .nil)),
      (.ret (.op .tup (.cons (.var 1) (.cons (.op .toTup (.cons (.ite (.op (.cmp .ne) (.cons (.var 2) (.cons (.op .lst .nil) .nil))) (.var 2) (.op .lst (.cons (.op .ix (.cons (.var 3) (.cons (.call 14 [0, 1] (.cons (.var 0) (.cons (.op .len (.cons (.var 3) .nil)) .nil))) .nil))) .nil))) .nil)) .nil))))]⟩
class K__law_relation (T : Nat → Option Def) : Prop where
  d : T 57 = some D__law_relation
  c0 : K__law_rows T
  c1 : K__law_take T
instance {T : Nat → Option Def} [h : K__law_relation T] : K__law_rows T := h.c0
instance {T : Nat → Option Def} [h : K__law_relation T] : K__law_take T := h.c1
end WT
end
section
set_option linter.all false
set_option maxRecDepth 100000
namespace WT
open PySem
/-- _law_same(got, due); slots: 0=got 1=due 2=k -/
def D__law_same : Def := ⟨2, 3, [(.ite (.op (.isN false) (.cons (.var 1) .nil)) [(.ret (.op (.isN false) (.cons (.var 0) .nil)))] []),
      (.ite (.op (.isi [.bool, .str]) (.cons (.var 1) .nil)) [(.ret (.and (.op (.cmp .eq) (.cons (.op (.isi [.bool]) (.cons (.var 0) .nil)) (.cons (.op (.isi [.bool]) (.cons (.var 1) .nil)) .nil))) (.and (.op (.isi [.bool, .str]) (.cons (.var 0) .nil)) (.op (.cmp .eq) (.cons (.var 0) (.cons (.var 1) .nil))))))] []),
      (.ite (.op (.isi [.int]) (.cons (.var 1) .nil)) [(.ret (.and (.op (.isi [.int]) (.cons (.var 0) .nil)) (.and (.op .not (.cons (.op (.isi [.bool]) (.cons (.var 0) .nil)) .nil)) (.op (.cmp .eq) (.cons (.var 0) (.cons (.var 1) .nil))))))] []),
      (.ite (.or (.op (.cmp .ne) (.cons (.op (.isi [.list]) (.cons (.var 1) .nil)) (.cons (.op (.isi [.list]) (.cons (.var 0) .nil)) .nil))) (.op (.cmp .ne) (.cons (.op (.isi [.tuple]) (.cons (.var 1) .nil)) (.cons (.op (.isi [.tuple]) (.cons (.var 0) .nil)) .nil)))) [(.ret (.cst (.bl false)))] []),
      (.ret (.and (.op (.cmp .eq) (.cons (.op .len (.cons (.var 0) .nil)) (.cons (.op .len (.cons (.var 1) .nil)) .nil))) (.op .all (.cons (.lc [2] (.call 15 [0, 1] (.cons (.op .ix (.cons (.var 0) (.cons (.var 2) .nil))) (.cons (.op .ix (.cons (.var 1) (.cons (.var 2) .nil))) .nil))) (.var 2) (.range1 (.op .len (.cons (.var 1) .nil))) .nil .nil) .nil))))]⟩
class K__law_same (T : Nat → Option Def) : Prop where
  d : T 15 = some D__law_same
end WT
end
section
set_option linter.all false
set_option maxRecDepth 100000
namespace WT
open PySem
/-- index_of(row); slots: 0=row 1=found 2=truth -/
def D_index_of : Def := ⟨1, 3, [(.asg (.var 1) (.cst (.int 0))),
      (.for_ (.var 2) (.val (.var 0)) [(.asg (.var 1) (.op (.bin .add) (.cons (.op (.bin .mul) (.cons (.cst (.int 2)) (.cons (.var 1) .nil))) (.cons (.var 2) .nil))))]),
      (.ret (.var 1))]⟩
class K_index_of (T : Nat → Option Def) : Prop where
  d : T 6 = some D_index_of
end WT
end
section
set_option linter.all false
set_option maxRecDepth 100000
namespace WT
open PySem
/-- value_at(f, row); slots: 0=f 1=row -/
def D_value_at : Def := ⟨2, 2, [(.ret (.op .ix (.cons (.op .ix (.cons (.var 0) (.cons (.cst (.int 1)) .nil))) (.cons (.call 6 [0] (.cons (.var 1) .nil)) .nil))))]⟩
class K_value_at (T : Nat → Option Def) : Prop where
  d : T 11 = some D_value_at
  c0 : K_index_of T
instance {T : Nat → Option Def} [h : K_value_at T] : K_index_of T := h.c0
end WT
end
section
set_option linter.all false
set_option maxRecDepth 100000
namespace WT
open PySem
/-- breach_from(f, relation, some); slots: 0=f 1=relation 2=some 3=row 4=found 5=column -/
def D_breach_from : Def := ⟨3, 6, [(.ite (.op (.cmp .eq) (.cons (.op .len (.cons (.var 2) .nil)) (.cons (.op .ix (.cons (.var 0) (.cons (.cst (.int 0)) .nil))) .nil))) [(.asg (.var 3) (.op .toTup (.cons (.lc [5] (.call 11 [0, 1] (.cons (.var 0) (.cons (.var 5) .nil))) (.var 5) (.zipS (.var 2)) .nil .nil) .nil))),
      (.ret (.ite (.op (.cmp .isin) (.cons (.var 3) (.cons (.op .ix (.cons (.var 1) (.cons (.cst (.int 1)) .nil))) .nil))) (.cst .non) (.var 2)))] []),
      (.for_ (.var 3) (.val (.op .ix (.cons (.var 1) (.cons (.cst (.int 1)) .nil)))) [(.asg (.var 4) (.call 50 [0, 1, 2] (.cons (.var 0) (.cons (.var 1) (.cons (.op (.bin .add) (.cons (.var 2) (.cons (.op .tup (.cons (.var 3) .nil)) .nil))) .nil))))),
      (.ite (.op (.isN true) (.cons (.var 4) .nil)) [(.ret (.var 4))] [])]),
      (.ret (.cst .non))]⟩
class K_breach_from (T : Nat → Option Def) : Prop where
  d : T 50 = some D_breach_from
  c0 : K_value_at T
instance {T : Nat → Option Def} [h : K_breach_from T] : K_value_at T := h.c0
end WT
end
section
set_option linter.all false
set_option maxRecDepth 100000
namespace WT
open PySem
/-- breach_of(f, relation); slots: 0=f 1=relation -/
def D_breach_of : Def := ⟨2, 2, [(.ret (.call 50 [0, 1, 2] (.cons (.var 0) (.cons (.var 1) (.cons (.op .tup .nil) .nil)))))]⟩
class K_breach_of (T : Nat → Option Def) : Prop where
  d : T 51 = some D_breach_of
  c0 : K_breach_from T
instance {T : Nat → Option Def} [h : K_breach_of T] : K_breach_from T := h.c0
end WT
end
section
set_option linter.all false
set_option maxRecDepth 100000
namespace WT
open PySem
/-- is_integer(told); slots: 0=told -/
def D_is_integer : Def := ⟨1, 1, [(.ret (.and (.op (.isi [.int]) (.cons (.var 0) .nil)) (.op .not (.cons (.op (.isi [.bool]) (.cons (.var 0) .nil)) .nil))))]⟩
class K_is_integer (T : Nat → Option Def) : Prop where
  d : T 0 = some D_is_integer
end WT
end
section
set_option linter.all false
set_option maxRecDepth 100000
namespace WT
open PySem
/-- is_truth(told); slots: 0=told -/
def D_is_truth : Def := ⟨1, 1, [(.ret (.and (.call 0 [0] (.cons (.var 0) .nil)) (.op (.cmp .isin) (.cons (.var 0) (.cons (.op .tup (.cons (.cst (.int 0)) (.cons (.cst (.int 1)) .nil))) .nil)))))]⟩
class K_is_truth (T : Nat → Option Def) : Prop where
  d : T 2 = some D_is_truth
  c0 : K_is_integer T
instance {T : Nat → Option Def} [h : K_is_truth T] : K_is_integer T := h.c0
end WT
end
section
set_option linter.all false
set_option maxRecDepth 100000
namespace WT
open PySem
/-- is_row(told, many); slots: 0=told 1=many 2=one -/
def D_is_row : Def := ⟨2, 3, [(.ret (.and (.op (.isi [.tuple]) (.cons (.var 0) .nil)) (.and (.op (.cmp .eq) (.cons (.op .len (.cons (.var 0) .nil)) (.cons (.var 1) .nil))) (.op .all (.cons (.lc [2] (.call 2 [0] (.cons (.var 2) .nil)) (.var 2) (.val (.var 0)) .nil .nil) .nil)))))]⟩
class K_is_row (T : Nat → Option Def) : Prop where
  d : T 3 = some D_is_row
  c0 : K_is_truth T
instance {T : Nat → Option Def} [h : K_is_row T] : K_is_truth T := h.c0
end WT
end
section
set_option linter.all false
set_option maxRecDepth 100000
namespace WT
open PySem
/-- is_function_of(told); slots: 0=told -/
def D_is_function_of : Def := ⟨1, 1, [(.ite (.or (.op .not (.cons (.op (.isi [.tuple]) (.cons (.var 0) .nil)) .nil)) (.or (.op (.cmp .ne) (.cons (.op .len (.cons (.var 0) .nil)) (.cons (.cst (.int 2)) .nil))) (.or (.op .not (.cons (.call 0 [0] (.cons (.op .ix (.cons (.var 0) (.cons (.cst (.int 0)) .nil))) .nil)) .nil)) (.or (.op (.cmp .lt) (.cons (.op .ix (.cons (.var 0) (.cons (.cst (.int 0)) .nil))) (.cons (.cst (.int 1)) .nil))) (.op (.cmp .gt) (.cons (.op .ix (.cons (.var 0) (.cons (.cst (.int 0)) .nil))) (.cons (.cst (.int 24)) .nil))))))) [(.ret (.cst (.bl false)))] []),
      (.ret (.call 3 [0, 1] (.cons (.op .ix (.cons (.var 0) (.cons (.cst (.int 1)) .nil))) (.cons (.op (.bin .shl) (.cons (.cst (.int 1)) (.cons (.op .ix (.cons (.var 0) (.cons (.cst (.int 0)) .nil))) .nil))) .nil))))]⟩
class K_is_function_of (T : Nat → Option Def) : Prop where
  d : T 7 = some D_is_function_of
  c0 : K_is_integer T
  c1 : K_is_row T
instance {T : Nat → Option Def} [h : K_is_function_of T] : K_is_integer T := h.c0
instance {T : Nat → Option Def} [h : K_is_function_of T] : K_is_row T := h.c1
end WT
end
section
set_option linter.all false
set_option maxRecDepth 100000
namespace WT
open PySem
/-- check_function(told); slots: 0=told -/
def D_check_function : Def := ⟨1, 1, [(.ite (.op .not (.cons (.call 7 [0] (.cons (.var 0) .nil)) .nil)) [(.raise_ 1 (.var 0))] [])]⟩
class K_check_function (T : Nat → Option Def) : Prop where
  d : T 8 = some D_check_function
  c0 : K_is_function_of T
instance {T : Nat → Option Def} [h : K_check_function T] : K_is_function_of T := h.c0
end WT
end
section
set_option linter.all false
set_option maxRecDepth 100000
namespace WT
open PySem
/-- is_ascending(row); slots: 0=row 1=at -/
def D_is_ascending : Def := ⟨1, 2, [(.ret (.op .all (.cons (.lc [1] (.op (.cmp .lt) (.cons (.op .ix (.cons (.var 0) (.cons (.var 1) .nil))) (.cons (.op .ix (.cons (.var 0) (.cons (.op (.bin .add) (.cons (.var 1) (.cons (.cst (.int 1)) .nil))) .nil))) .nil))) (.var 1) (.range1 (.op (.bin .sub) (.cons (.op .len (.cons (.var 0) .nil)) (.cons (.cst (.int 1)) .nil)))) .nil .nil) .nil)))]⟩
class K_is_ascending (T : Nat → Option Def) : Prop where
  d : T 45 = some D_is_ascending
end WT
end
section
set_option linter.all false
set_option maxRecDepth 100000
namespace WT
open PySem
/-- is_relation_of(told); slots: 0=told 1=row -/
def D_is_relation_of : Def := ⟨1, 2, [(.ite (.or (.op .not (.cons (.op (.isi [.tuple]) (.cons (.var 0) .nil)) .nil)) (.or (.op (.cmp .ne) (.cons (.op .len (.cons (.var 0) .nil)) (.cons (.cst (.int 2)) .nil))) (.or (.op .not (.cons (.call 0 [0] (.cons (.op .ix (.cons (.var 0) (.cons (.cst (.int 0)) .nil))) .nil)) .nil)) (.op (.cmp .lt) (.cons (.op .ix (.cons (.var 0) (.cons (.cst (.int 0)) .nil))) (.cons (.cst (.int 1)) .nil)))))) [(.ret (.cst (.bl false)))] []),
      (.ite (.or (.op .not (.cons (.op (.isi [.tuple]) (.cons (.op .ix (.cons (.var 0) (.cons (.cst (.int 1)) .nil))) .nil)) .nil)) (.or (.op (.cmp .eq) (.cons (.op .len (.cons (.op .ix (.cons (.var 0) (.cons (.cst (.int 1)) .nil))) .nil)) (.cons (.cst (.int 0)) .nil))) (.op .not (.cons (.op .all (.cons (.lc [1] (.call 3 [0, 1] (.cons (.var 1) (.cons (.op .ix (.cons (.var 0) (.cons (.cst (.int 0)) .nil))) .nil))) (.var 1) (.val (.op .ix (.cons (.var 0) (.cons (.cst (.int 1)) .nil)))) .nil .nil) .nil)) .nil)))) [(.ret (.cst (.bl false)))] []),
      (.ret (.call 45 [0] (.cons (.op .ix (.cons (.var 0) (.cons (.cst (.int 1)) .nil))) .nil)))]⟩
class K_is_relation_of (T : Nat → Option Def) : Prop where
  d : T 46 = some D_is_relation_of
  c0 : K_is_ascending T
  c1 : K_is_integer T
  c2 : K_is_row T
instance {T : Nat → Option Def} [h : K_is_relation_of T] : K_is_ascending T := h.c0
instance {T : Nat → Option Def} [h : K_is_relation_of T] : K_is_integer T := h.c1
instance {T : Nat → Option Def} [h : K_is_relation_of T] : K_is_row T := h.c2
end WT
end
section
set_option linter.all false
set_option maxRecDepth 100000
namespace WT
open PySem
/-- check_relation(told); slots: 0=told -/
def D_check_relation : Def := ⟨1, 1, [(.ite (.op .not (.cons (.call 46 [0] (.cons (.var 0) .nil)) .nil)) [(.raise_ 9 (.var 0))] [])]⟩
class K_check_relation (T : Nat → Option Def) : Prop where
  d : T 47 = some D_check_relation
  c0 : K_is_relation_of T
instance {T : Nat → Option Def} [h : K_check_relation T] : K_is_relation_of T := h.c0
end WT
end
section
set_option linter.all false
set_option maxRecDepth 100000
namespace WT
open PySem
/-- breach(f, relation); slots: 0=f 1=relation -/
def D_breach : Def := ⟨2, 2, [(.expr (.call 8 [0] (.cons (.var 0) .nil))),
      (.expr (.call 47 [0] (.cons (.var 1) .nil))),
      (.ret (.call 51 [0, 1] (.cons (.var 0) (.cons (.var 1) .nil))))]⟩
class K_breach (T : Nat → Option Def) : Prop where
  d : T 56 = some D_breach
  c0 : K_breach_of T
  c1 : K_check_function T
  c2 : K_check_relation T
instance {T : Nat → Option Def} [h : K_breach T] : K_breach_of T := h.c0
instance {T : Nat → Option Def} [h : K_breach T] : K_check_function T := h.c1
instance {T : Nat → Option Def} [h : K_breach T] : K_check_relation T := h.c2
end WT
end
section
set_option linter.all false
set_option maxRecDepth 100000
namespace WT
open PySem
/-- is_relation(told); slots: 0=told -/
def D_is_relation : Def := ⟨1, 1, [(.ret (.call 46 [0] (.cons (.var 0) .nil)))]⟩
class K_is_relation (T : Nat → Option Def) : Prop where
  d : T 53 = some D_is_relation
  c0 : K_is_relation_of T
instance {T : Nat → Option Def} [h : K_is_relation T] : K_is_relation_of T := h.c0
end WT
end
section
set_option linter.all false
set_option maxRecDepth 100000
namespace WT
open PySem
/-- keeps_it(f, relation); slots: 0=f 1=relation -/
def D_keeps_it : Def := ⟨2, 2, [(.ret (.op (.isN false) (.cons (.call 51 [0, 1] (.cons (.var 0) (.cons (.var 1) .nil))) .nil)))]⟩
class K_keeps_it (T : Nat → Option Def) : Prop where
  d : T 52 = some D_keeps_it
  c0 : K_breach_of T
instance {T : Nat → Option Def} [h : K_keeps_it T] : K_breach_of T := h.c0
end WT
end
section
set_option linter.all false
set_option maxRecDepth 100000
namespace WT
open PySem
/-- keeps(f, relation); slots: 0=f 1=relation -/
def D_keeps : Def := ⟨2, 2, [(.expr (.call 8 [0] (.cons (.var 0) .nil))),
      (.expr (.call 47 [0] (.cons (.var 1) .nil))),
      (.ret (.call 52 [0, 1] (.cons (.var 0) (.cons (.var 1) .nil))))]⟩
class K_keeps (T : Nat → Option Def) : Prop where
  d : T 55 = some D_keeps
  c0 : K_check_function T
  c1 : K_check_relation T
  c2 : K_keeps_it T
instance {T : Nat → Option Def} [h : K_keeps T] : K_check_function T := h.c0
instance {T : Nat → Option Def} [h : K_keeps T] : K_check_relation T := h.c1
instance {T : Nat → Option Def} [h : K_keeps T] : K_keeps_it T := h.c2
end WT
end
section
set_option linter.all false
set_option maxRecDepth 100000
namespace WT
open PySem
/-- check_below(told, many); slots: 0=told 1=many -/
def D_check_below : Def := ⟨2, 2, [(.ite (.or (.op .not (.cons (.call 0 [0] (.cons (.var 0) .nil)) .nil)) (.or (.op (.cmp .lt) (.cons (.var 0) (.cons (.cst (.int 0)) .nil))) (.op (.cmp .ge) (.cons (.var 0) (.cons (.var 1) .nil))))) [(.raise_ 3 (.var 0))] [])]⟩
class K_check_below (T : Nat → Option Def) : Prop where
  d : T 21 = some D_check_below
  c0 : K_is_integer T
instance {T : Nat → Option Def} [h : K_check_below T] : K_is_integer T := h.c0
end WT
end
section
set_option linter.all false
set_option maxRecDepth 100000
namespace WT
open PySem
/-- check_from(told, least); slots: 0=told 1=least -/
def D_check_from : Def := ⟨2, 2, [(.ite (.or (.op .not (.cons (.call 0 [0] (.cons (.var 0) .nil)) .nil)) (.op (.cmp .lt) (.cons (.var 0) (.cons (.var 1) .nil)))) [(.raise_ 3 (.var 0))] [])]⟩
class K_check_from (T : Nat → Option Def) : Prop where
  d : T 1 = some D_check_from
  c0 : K_is_integer T
instance {T : Nat → Option Def} [h : K_check_from T] : K_is_integer T := h.c0
end WT
end
section
set_option linter.all false
set_option maxRecDepth 100000
namespace WT
open PySem
/-- all_rows(many); slots: 0=many 1=found 2=turn 3=row 4=truth -/
def D_all_rows : Def := ⟨1, 5, [(.own 1 (.op .lst (.cons (.op .tup .nil) .nil))),
      (.for_ (.var 2) (.range1 (.var 0)) [(.own 1 (.lc [3, 4] (.op (.bin .add) (.cons (.var 3) (.cons (.op .tup (.cons (.var 4) .nil)) .nil))) (.var 3) (.val (.var 1)) .nil (.cons [4] (.var 4) (.val (.op .tup (.cons (.cst (.int 0)) (.cons (.cst (.int 1)) .nil)))) .nil .nil)))]),
      (.ret (.var 1))]⟩
class K_all_rows (T : Nat → Option Def) : Prop where
  d : T 5 = some D_all_rows
end WT
end
section
set_option linter.all false
set_option maxRecDepth 100000
namespace WT
open PySem
/-- projection_to(k, i); slots: 0=k 1=i 2=row -/
def D_projection_to : Def := ⟨2, 3, [(.ret (.op .tup (.cons (.var 0) (.cons (.op .toTup (.cons (.lc [2] (.op .ix (.cons (.var 2) (.cons (.var 1) .nil))) (.var 2) (.val (.call 5 [0] (.cons (.var 0) .nil))) .nil .nil) .nil)) .nil))))]⟩
class K_projection_to (T : Nat → Option Def) : Prop where
  d : T 22 = some D_projection_to
  c0 : K_all_rows T
instance {T : Nat → Option Def} [h : K_projection_to T] : K_all_rows T := h.c0
end WT
end
section
set_option linter.all false
set_option maxRecDepth 100000
namespace WT
open PySem
/-- projection(k, i); slots: 0=k 1=i -/
def D_projection : Def := ⟨2, 2, [(.expr (.call 1 [0, 1] (.cons (.var 0) (.cons (.cst (.int 1)) .nil)))),
      (.expr (.call 21 [0, 1] (.cons (.var 1) (.cons (.var 0) .nil)))),
      (.ret (.call 22 [0, 1] (.cons (.var 0) (.cons (.var 1) .nil))))]⟩
class K_projection (T : Nat → Option Def) : Prop where
  d : T 23 = some D_projection
  c0 : K_check_below T
  c1 : K_check_from T
  c2 : K_projection_to T
instance {T : Nat → Option Def} [h : K_projection T] : K_check_below T := h.c0
instance {T : Nat → Option Def} [h : K_projection T] : K_check_from T := h.c1
instance {T : Nat → Option Def} [h : K_projection T] : K_projection_to T := h.c2
end WT
end
section
set_option linter.all false
set_option maxRecDepth 100000
namespace WT
open PySem
/-- is_test_of(told); slots: 0=told -/
def D_is_test_of_v1 : Def := ⟨1, 1, [(.ite (.op (.isi [.str]) (.cons (.var 0) .nil)) [(.ret (.op (.cmp .isin) (.cons (.var 0) (.cons (.cst (.tup [(.str (Str.ofString "nought")), (.str (Str.ofString "one")), (.str (Str.ofString "up")), (.str (Str.ofString "other")), (.str (Str.ofString "even")), (.str (Str.ofString "and")), (.str (Str.ofString "or")), (.str (Str.ofString "single"))])) .nil))))] []),
      (.ite (.or (.op .not (.cons (.op (.isi [.tuple]) (.cons (.var 0) .nil)) .nil)) (.or (.op (.cmp .ne) (.cons (.op .len (.cons (.var 0) .nil)) (.cons (.cst (.int 2)) .nil))) (.op .not (.cons (.op (.isi [.str]) (.cons (.op .ix (.cons (.var 0) (.cons (.cst (.int 0)) .nil))) .nil)) .nil)))) [(.ret (.cst (.bl false)))] []),
      (.ret (.and (.op (.cmp .isin) (.cons (.op .ix (.cons (.var 0) (.cons (.cst (.int 0)) .nil))) (.cons (.op .tup (.cons (.cst (.str (Str.ofString "ones"))) (.cons (.cst (.str (Str.ofString "noughts"))) .nil))) .nil))) (.and (.call 0 [0] (.cons (.op .ix (.cons (.var 0) (.cons (.cst (.int 1)) .nil))) .nil)) (.op (.cmp .gt) (.cons (.op .ix (.cons (.var 0) (.cons (.cst (.int 1)) .nil))) (.cons (.cst (.int 1)) .nil))))))]⟩
class K_is_test_of_v1 (T : Nat → Option Def) : Prop where
  d : T 102 = some D_is_test_of_v1
  c0 : K_is_integer T
instance {T : Nat → Option Def} [h : K_is_test_of_v1 T] : K_is_integer T := h.c0
end WT
end
section
set_option linter.all false
set_option maxRecDepth 100000
namespace WT
open PySem
/-- test_relation(name); slots: 0=name 1=left_out 2=row -/
def D_test_relation_v1 : Def := ⟨1, 3, [(.ite (.op (.isi [.tuple]) (.cons (.var 0) .nil)) [(.asg (.var 1) (.op (.bin .mul) (.cons (.op .tup (.cons (.op .toInt (.cons (.op (.cmp .eq) (.cons (.op .ix (.cons (.var 0) (.cons (.cst (.int 0)) .nil))) (.cons (.cst (.str (Str.ofString "ones"))) .nil))) .nil)) .nil)) (.cons (.op .ix (.cons (.var 0) (.cons (.cst (.int 1)) .nil))) .nil)))),
      (.ret (.op .tup (.cons (.op .ix (.cons (.var 0) (.cons (.cst (.int 1)) .nil))) (.cons (.op .toTup (.cons (.lc [2] (.var 2) (.var 2) (.val (.call 5 [0] (.cons (.op .ix (.cons (.var 0) (.cons (.cst (.int 1)) .nil))) .nil))) (.cons (.op (.cmp .ne) (.cons (.var 2) (.cons (.var 1) .nil))) .nil) .nil) .nil)) .nil))))] []),
      (.ite (.op (.cmp .eq) (.cons (.var 0) (.cons (.cst (.str (Str.ofString "even"))) .nil))) [(.ret (.op .tup (.cons (.cst (.int 4)) (.cons (.op .toTup (.cons (.lc [2] (.var 2) (.var 2) (.val (.call 5 [0] (.cons (.cst (.int 4)) .nil))) (.cons (.op (.cmp .eq) (.cons (.op (.bin .mod) (.cons (.op .sum (.cons (.var 2) .nil)) (.cons (.cst (.int 2)) .nil))) (.cons (.cst (.int 0)) .nil))) .nil) .nil) .nil)) .nil))))] []),
      (.ite (.op (.cmp .eq) (.cons (.var 0) (.cons (.cst (.str (Str.ofString "single"))) .nil))) [(.ret (.op .tup (.cons (.cst (.int 4)) (.cons (.op .toTup (.cons (.lc [2] (.var 2) (.var 2) (.val (.call 5 [0] (.cons (.cst (.int 4)) .nil))) (.cons (.or (.op (.cmp .eq) (.cons (.op .ix (.cons (.var 2) (.cons (.cst (.int 0)) .nil))) (.cons (.op .ix (.cons (.var 2) (.cons (.cst (.int 1)) .nil))) .nil))) (.op (.cmp .eq) (.cons (.op .ix (.cons (.var 2) (.cons (.cst (.int 2)) .nil))) (.cons (.op .ix (.cons (.var 2) (.cons (.cst (.int 3)) .nil))) .nil)))) .nil) .nil) .nil)) .nil))))] []),
      (.ret (.dlook [.inr (Str.ofString "nought"), .inr (Str.ofString "one"), .inr (Str.ofString "up"), .inr (Str.ofString "other"), .inr (Str.ofString "and"), .inr (Str.ofString "or")] [(.tup [(.int 1), (.tup [(.tup [(.int 0)])])]), (.tup [(.int 1), (.tup [(.tup [(.int 1)])])]), (.tup [(.int 2), (.tup [(.tup [(.int 0), (.int 0)]), (.tup [(.int 0), (.int 1)]), (.tup [(.int 1), (.int 1)])])]), (.tup [(.int 2), (.tup [(.tup [(.int 0), (.int 1)]), (.tup [(.int 1), (.int 0)])])]), (.tup [(.int 3), (.tup [(.tup [(.int 0), (.int 0), (.int 0)]), (.tup [(.int 0), (.int 1), (.int 0)]), (.tup [(.int 1), (.int 0), (.int 0)]), (.tup [(.int 1), (.int 1), (.int 1)])])]), (.tup [(.int 3), (.tup [(.tup [(.int 0), (.int 0), (.int 0)]), (.tup [(.int 0), (.int 1), (.int 1)]), (.tup [(.int 1), (.int 0), (.int 1)]), (.tup [(.int 1), (.int 1), (.int 1)])])])] (.var 0)))]⟩
class K_test_relation_v1 (T : Nat → Option Def) : Prop where
  d : T 103 = some D_test_relation_v1
  c0 : K_all_rows T
instance {T : Nat → Option Def} [h : K_test_relation_v1 T] : K_all_rows T := h.c0
end WT
end
section
set_option linter.all false
set_option maxRecDepth 100000
namespace WT
open PySem
/-- test(name); slots: 0=name -/
def D_test_v1 : Def := ⟨1, 1, [(.ite (.op .not (.cons (.call 102 [0] (.cons (.var 0) .nil)) .nil)) [(.raise_ 10 (.var 0))] []),
      (.ret (.call 103 [0] (.cons (.var 0) .nil)))]⟩
class K_test_v1 (T : Nat → Option Def) : Prop where
  d : T 105 = some D_test_v1
  c0 : K_is_test_of_v1 T
  c1 : K_test_relation_v1 T
instance {T : Nat → Option Def} [h : K_test_v1 T] : K_is_test_of_v1 T := h.c0
instance {T : Nat → Option Def} [h : K_test_v1 T] : K_test_relation_v1 T := h.c1
end WT
end
section
set_option linter.all false
set_option maxRecDepth 100000
namespace WT
open PySem
/-- law(script); slots: 0=script 1=pot 2=names 3=turn 4=f 5=relation 6=due 7=fit 8=odd 9=many 10=rows_now -/
def D_law_k08 : Def := ⟨1, 11, [(.newl 1 (.op (.bin .add) (.cons (.op .lst (.cons (.cst (.int 0)) (.cons (.cst (.int 7)) (.cons (.cst (.int 3)) .nil)))) (.cons (.op .toLst (.cons (.var 0) .nil)) .nil)))),
      (.asg (.var 2) (.op .lst (.cons (.cst (.str (Str.ofString "nought"))) (.cons (.cst (.str (Str.ofString "one"))) (.cons (.cst (.str (Str.ofString "up"))) (.cons (.cst (.str (Str.ofString "other"))) (.cons (.cst (.str (Str.ofString "even"))) (.cons (.cst (.str (Str.ofString "and"))) (.cons (.cst (.str (Str.ofString "or"))) (.cons (.op .tup (.cons (.cst (.str (Str.ofString "ones"))) (.cons (.cst (.int 2)) .nil))) (.cons (.op .tup (.cons (.cst (.str (Str.ofString "noughts"))) (.cons (.cst (.int 3)) .nil))) .nil))))))))))),
      (.for_ (.var 3) (.range1 (.cst (.int 6))) [(.asg (.var 4) (.call 18 [0, 1] (.cons (.var 1) (.cons (.op (.bin .add) (.cons (.cst (.int 1)) (.cons (.call 14 [0, 1] (.cons (.var 1) (.cons (.cst (.int 3)) .nil))) .nil))) .nil)))),
      (.asg (.var 5) (.call 57 [0, 1] (.cons (.var 1) (.cons (.op (.bin .add) (.cons (.cst (.int 1)) (.cons (.call 14 [0, 1] (.cons (.var 1) (.cons (.cst (.int 3)) .nil))) .nil))) .nil)))),
      (.ite (.and (.op (.cmp .eq) (.cons (.call 14 [0, 1] (.cons (.var 1) (.cons (.cst (.int 3)) .nil))) (.cons (.cst (.int 0)) .nil))) (.op (.cmp .lt) (.cons (.op .ix (.cons (.var 4) (.cons (.cst (.int 0)) .nil))) (.cons (.cst (.int 3)) .nil)))) [(.asg (.var 5) (.call 105 [0] (.cons (.op .ix (.cons (.var 2) (.cons (.call 14 [0, 1] (.cons (.var 1) (.cons (.cst (.int 9)) .nil))) .nil))) .nil)))] []),
      (.asg (.var 6) (.call 60 [0, 1] (.cons (.var 4) (.cons (.var 5) .nil)))),
      (.ite (.op .not (.cons (.call 15 [0, 1] (.cons (.op .lst (.cons (.call 56 [0, 1] (.cons (.var 4) (.cons (.var 5) .nil))) (.cons (.call 56 [1, 0] (.cons (.var 5) (.cons (.var 4) .nil))) .nil))) (.cons (.op .lst (.cons (.var 6) (.cons (.var 6) .nil))) .nil))) .nil)) [(.ret (.cst (.bl false)))] []),
      (.asg (.var 7) (.op (.isN false) (.cons (.var 6) .nil))),
      (.ite (.op .not (.cons (.call 15 [0, 1] (.cons (.op .lst (.cons (.call 55 [0, 1] (.cons (.var 4) (.cons (.var 5) .nil))) (.cons (.call 55 [1, 0] (.cons (.var 5) (.cons (.var 4) .nil))) .nil))) (.cons (.op .lst (.cons (.var 7) (.cons (.var 7) .nil))) .nil))) .nil)) [(.ret (.cst (.bl false)))] []),
      (.ite (.op .not (.cons (.call 15 [0, 1] (.cons (.op .lst (.cons (.call 55 [0, 1] (.cons (.call 23 [0, 1] (.cons (.cst (.int 2)) (.cons (.cst (.int 1)) .nil))) (.cons (.var 5) .nil))) (.cons (.call 53 [0] (.cons (.var 5) .nil)) .nil))) (.cons (.op .lst (.cons (.cst (.bl true)) (.cons (.cst (.bl true)) .nil))) .nil))) .nil)) [(.ret (.cst (.bl false)))] []),
      (.asg (.tup [9, 10]) (.var 5)),
      (.own 8 (.op .lst (.cons (.op .tup (.cons (.var 9) (.cons (.op .tup .nil) .nil))) (.cons (.op .tup (.cons (.var 9) (.cons (.op (.bin .add) (.cons (.op .rev (.cons (.var 10) .nil)) (.cons (.op (.sl false true) (.cons (.var 10) (.cons (.cst (.int 1)) .nil))) .nil))) .nil))) (.cons (.op .tup (.cons (.op (.bin .add) (.cons (.var 9) (.cons (.cst (.int 1)) .nil))) (.cons (.var 10) .nil))) (.cons (.op .lst (.cons (.var 9) (.cons (.var 10) .nil))) (.cons (.var 10) .nil))))))),
      (.own 8 (.op (.bin .add) (.cons (.var 8) (.cons (.op .lst (.cons (.cst .non) (.cons (.op .tup (.cons (.var 9) (.cons (.op .toLst (.cons (.var 10) .nil)) .nil))) (.cons (.op .tup (.cons (.var 9) (.cons (.op (.bin .add) (.cons (.var 10) (.cons (.op .tup (.cons (.op (.bin .mul) (.cons (.op .tup (.cons (.cst (.int 2)) .nil)) (.cons (.var 9) .nil))) .nil)) .nil))) .nil))) (.cons (.op .tup (.cons (.cst (.int 0)) (.cons (.op .tup (.cons (.op .tup .nil) .nil)) .nil))) .nil))))) .nil)))),
      (.app 8 (.op .tup (.cons (.var 9) (.cons (.op .tup (.cons (.op .toLst (.cons (.op .ix (.cons (.var 10) (.cons (.cst (.int 0)) .nil))) .nil)) .nil)) .nil)))),
      (.ite (.op .not (.cons (.call 15 [0, 1] (.cons (.call 53 [0] (.cons (.op .ix (.cons (.var 8) (.cons (.call 14 [0, 1] (.cons (.var 1) (.cons (.cst (.int 10)) .nil))) .nil))) .nil)) (.cons (.cst (.bl false)) .nil))) .nil)) [(.ret (.cst (.bl false)))] [])]),
      (.ret (.cst (.bl true)))]⟩
class K_law_k08 (T : Nat → Option Def) : Prop where
  d : T 107 = some D_law_k08
  c0 : K__law_breach T
  c1 : K__law_function T
  c2 : K__law_relation T
  c3 : K__law_same T
  c4 : K__law_take T
  c5 : K_breach T
  c6 : K_is_relation T
  c7 : K_keeps T
  c8 : K_projection T
  c9 : K_test_v1 T
instance {T : Nat → Option Def} [h : K_law_k08 T] : K__law_breach T := h.c0
instance {T : Nat → Option Def} [h : K_law_k08 T] : K__law_function T := h.c1
instance {T : Nat → Option Def} [h : K_law_k08 T] : K__law_relation T := h.c2
instance {T : Nat → Option Def} [h : K_law_k08 T] : K__law_same T := h.c3
instance {T : Nat → Option Def} [h : K_law_k08 T] : K__law_take T := h.c4
instance {T : Nat → Option Def} [h : K_law_k08 T] : K_breach T := h.c5
instance {T : Nat → Option Def} [h : K_law_k08 T] : K_is_relation T := h.c6
instance {T : Nat → Option Def} [h : K_law_k08 T] : K_keeps T := h.c7
instance {T : Nat → Option Def} [h : K_law_k08 T] : K_projection T := h.c8
instance {T : Nat → Option Def} [h : K_law_k08 T] : K_test_v1 T := h.c9
end WT
end
section
set_option Elab.async false
set_option linter.all false
set_option maxRecDepth 100000
set_option maxHeartbeats 0
namespace WT
open PySem PySem.Spec PyProof.Rows L2
def top (i : Nat) : Stmt := PySem.Challenge.pw_wholetruths_k08_whole_keeping_and_breach.main.body.getD i (.Pass ⟨0, 0, 0, 0⟩)
def d_is_integer : He.DefD := ⟨("is_integer", none), "is_integer", "is_integer", defArgs (top 7), defBody (top 7), defScope (top 7), [], []⟩
def d_check_from : He.DefD := ⟨("check_from", none), "check_from", "check_from", defArgs (top 8), defBody (top 8), defScope (top 8), [], []⟩
def d_is_truth : He.DefD := ⟨("is_truth", none), "is_truth", "is_truth", defArgs (top 10), defBody (top 10), defScope (top 10), [], []⟩
def d_is_row : He.DefD := ⟨("is_row", none), "is_row", "is_row", defArgs (top 11), defBody (top 11), defScope (top 11), [], []⟩
def d_all_rows : He.DefD := ⟨("all_rows", none), "all_rows", "all_rows", defArgs (top 12), defBody (top 12), defScope (top 12), [], []⟩
def d_index_of : He.DefD := ⟨("index_of", none), "index_of", "index_of", defArgs (top 13), defBody (top 13), defScope (top 13), [], []⟩
def d_is_function_of : He.DefD := ⟨("is_function_of", none), "is_function_of", "is_function_of", defArgs (top 15), defBody (top 15), defScope (top 15), [], []⟩
def d_check_function : He.DefD := ⟨("check_function", none), "check_function", "check_function", defArgs (top 16), defBody (top 16), defScope (top 16), [], []⟩
def d_value_at : He.DefD := ⟨("value_at", none), "value_at", "value_at", defArgs (top 20), defBody (top 20), defScope (top 20), [], []⟩
def d__law_take : He.DefD := ⟨("_law_take", none), "_law_take", "_law_take", defArgs (top 37), defBody (top 37), defScope (top 37), [], []⟩
def d__law_same : He.DefD := ⟨("_law_same", none), "_law_same", "_law_same", defArgs (top 38), defBody (top 38), defScope (top 38), [], []⟩
def d__law_rows : He.DefD := ⟨("_law_rows", none), "_law_rows", "_law_rows", defArgs (top 39), defBody (top 39), defScope (top 39), [], []⟩
def d__law_at : He.DefD := ⟨("_law_at", none), "_law_at", "_law_at", defArgs (top 40), defBody (top 40), defScope (top 40), [], []⟩
def d__law_function : He.DefD := ⟨("_law_function", none), "_law_function", "_law_function", defArgs (top 41), defBody (top 41), defScope (top 41), [], []⟩
def d_check_below : He.DefD := ⟨("check_below", none), "check_below", "check_below", defArgs (top 9), defBody (top 9), defScope (top 9), [], []⟩
def d_projection_to : He.DefD := ⟨("projection_to", none), "projection_to", "projection_to", defArgs (top 21), defBody (top 21), defScope (top 21), [], []⟩
def d_projection : He.DefD := ⟨("projection", none), "projection", "projection", defArgs (top 22), defBody (top 22), defScope (top 22), [], []⟩
def d_is_ascending : He.DefD := ⟨("is_ascending", none), "is_ascending", "is_ascending", defArgs (top 14), defBody (top 14), defScope (top 14), [], []⟩
def d_is_relation_of : He.DefD := ⟨("is_relation_of", none), "is_relation_of", "is_relation_of", defArgs (top 17), defBody (top 17), defScope (top 17), [], []⟩
def d_check_relation : He.DefD := ⟨("check_relation", none), "check_relation", "check_relation", defArgs (top 18), defBody (top 18), defScope (top 18), [], []⟩
def d_breach_from : He.DefD := ⟨("breach_from", none), "breach_from", "breach_from", defArgs (top 28), defBody (top 28), defScope (top 28), [], []⟩
def d_breach_of : He.DefD := ⟨("breach_of", none), "breach_of", "breach_of", defArgs (top 29), defBody (top 29), defScope (top 29), [], []⟩
def d_keeps_it : He.DefD := ⟨("keeps_it", none), "keeps_it", "keeps_it", defArgs (top 30), defBody (top 30), defScope (top 30), [], []⟩
def d_is_relation : He.DefD := ⟨("is_relation", none), "is_relation", "is_relation", defArgs (top 32), defBody (top 32), defScope (top 32), [], []⟩
def d_keeps : He.DefD := ⟨("keeps", none), "keeps", "keeps", defArgs (top 34), defBody (top 34), defScope (top 34), [], []⟩
def d_breach : He.DefD := ⟨("breach", none), "breach", "breach", defArgs (top 35), defBody (top 35), defScope (top 35), [], []⟩
def d__law_relation : He.DefD := ⟨("_law_relation", none), "_law_relation", "_law_relation", defArgs (top 42), defBody (top 42), defScope (top 42), [], []⟩
def d__law_choices : He.DefD := ⟨("_law_choices", none), "_law_choices", "_law_choices", defArgs (top 43), defBody (top 43), defScope (top 43), [], []⟩
def d__law_applied : He.DefD := ⟨("_law_applied", none), "_law_applied", "_law_applied", defArgs (top 44), defBody (top 44), defScope (top 44), [], []⟩
def d__law_breach : He.DefD := ⟨("_law_breach", none), "_law_breach", "_law_breach", defArgs (top 45), defBody (top 45), defScope (top 45), [], []⟩
def d_is_test_of : He.DefD := ⟨("is_test_of", none), "is_test_of", "is_test_of", defArgs (top 26), defBody (top 26), defScope (top 26), [], []⟩
def d_test_relation : He.DefD := ⟨("test_relation", none), "test_relation", "test_relation", defArgs (top 27), defBody (top 27), defScope (top 27), [], []⟩
def d_test : He.DefD := ⟨("test", none), "test", "test", defArgs (top 33), defBody (top 33), defScope (top 33), [], []⟩
def d_law : He.DefD := ⟨("law", none), "law", "law", defArgs (top 46), defBody (top 46), defScope (top 46), [], []⟩
def fn : List He.DefD := [d_is_integer, d_check_from, d_is_truth, d_is_row, d_all_rows, d_index_of, d_is_function_of, d_check_function, d_value_at, d__law_take, d__law_same, d__law_rows, d__law_at, d__law_function, d_check_below, d_projection_to, d_projection, d_is_ascending, d_is_relation_of, d_check_relation, d_breach_from, d_breach_of, d_keeps_it, d_is_relation, d_keeps, d_breach, d__law_relation, d__law_choices, d__law_applied, d__law_breach, d_is_test_of, d_test_relation, d_test, d_law]
def fr : List Str := (["all", "any", "bool", "int", "isinstance", "len", "list", "range", "str", "sum", "tuple", "zip"] : List Str)
def fa : List He.Fa := [.glo "is_integer", .glo "check_from", .glo "is_truth", .glo "is_row", .glo "all_rows", .glo "index_of", .glo "is_function_of", .glo "check_function", .glo "value_at", .glo "_law_take", .glo "_law_same", .glo "_law_rows", .glo "_law_at", .glo "_law_function", .glo "check_below", .glo "projection_to", .glo "projection", .glo "is_ascending", .glo "is_relation_of", .glo "check_relation", .glo "breach_from", .glo "breach_of", .glo "keeps_it", .glo "is_relation", .glo "keeps", .glo "breach", .glo "_law_relation", .glo "_law_choices", .glo "_law_applied", .glo "_law_breach", .glo "is_test_of", .glo "test_relation", .glo "test", .glo "law", .free "all", .free "any", .free "bool", .free "int", .free "isinstance", .free "len", .free "list", .free "range", .free "str", .free "sum", .free "tuple", .free "zip"]
def tab : List (Nat × DT) := [(0, ⟨"is_integer", d_is_integer, (["told"] : List Str), (["told"] : List Str), D_is_integer⟩),
  (1, ⟨"check_from", d_check_from, (["told", "least"] : List Str), (["told", "least"] : List Str), D_check_from⟩),
  (2, ⟨"is_truth", d_is_truth, (["told"] : List Str), (["told"] : List Str), D_is_truth⟩),
  (3, ⟨"is_row", d_is_row, (["told", "many", "one"] : List Str), (["told", "many"] : List Str), D_is_row⟩),
  (5, ⟨"all_rows", d_all_rows, (["many", "found", "turn", "row", "truth"] : List Str), (["many"] : List Str), D_all_rows⟩),
  (6, ⟨"index_of", d_index_of, (["row", "found", "truth"] : List Str), (["row"] : List Str), D_index_of⟩),
  (7, ⟨"is_function_of", d_is_function_of, (["told"] : List Str), (["told"] : List Str), D_is_function_of⟩),
  (8, ⟨"check_function", d_check_function, (["told"] : List Str), (["told"] : List Str), D_check_function⟩),
  (11, ⟨"value_at", d_value_at, (["f", "row"] : List Str), (["f", "row"] : List Str), D_value_at⟩),
  (14, ⟨"_law_take", d__law_take, (["pot", "many", "cell", "drawn_now", "mixed"] : List Str), (["pot", "many"] : List Str), D__law_take⟩),
  (15, ⟨"_law_same", d__law_same, (["got", "due", "k"] : List Str), (["got", "due"] : List Str), D__law_same⟩),
  (16, ⟨"_law_rows", d__law_rows, (["many", "found", "turn", "longer", "row"] : List Str), (["many"] : List Str), D__law_rows⟩),
  (17, ⟨"_law_at", d__law_at, (["f", "row", "k", "truth"] : List Str), (["f", "row"] : List Str), D__law_at⟩),
  (18, ⟨"_law_function", d__law_function, (["pot", "k", "some", "rows_now", "way", "weights", "least", "signs", "half", "chosen", "lone", "row", "place", "truth", "j", "one", "c", "t", "w", "s"] : List Str), (["pot", "k"] : List Str), D__law_function⟩),
  (21, ⟨"check_below", d_check_below, (["told", "many"] : List Str), (["told", "many"] : List Str), D_check_below⟩),
  (22, ⟨"projection_to", d_projection_to, (["k", "i", "row"] : List Str), (["k", "i"] : List Str), D_projection_to⟩),
  (23, ⟨"projection", d_projection, (["k", "i"] : List Str), (["k", "i"] : List Str), D_projection⟩),
  (45, ⟨"is_ascending", d_is_ascending, (["row", "at"] : List Str), (["row"] : List Str), D_is_ascending⟩),
  (46, ⟨"is_relation_of", d_is_relation_of, (["told", "row"] : List Str), (["told"] : List Str), D_is_relation_of⟩),
  (47, ⟨"check_relation", d_check_relation, (["told"] : List Str), (["told"] : List Str), D_check_relation⟩),
  (50, ⟨"breach_from", d_breach_from, (["f", "relation", "some", "row", "found", "column"] : List Str), (["f", "relation", "some"] : List Str), D_breach_from⟩),
  (51, ⟨"breach_of", d_breach_of, (["f", "relation"] : List Str), (["f", "relation"] : List Str), D_breach_of⟩),
  (52, ⟨"keeps_it", d_keeps_it, (["f", "relation"] : List Str), (["f", "relation"] : List Str), D_keeps_it⟩),
  (53, ⟨"is_relation", d_is_relation, (["told"] : List Str), (["told"] : List Str), D_is_relation⟩),
  (55, ⟨"keeps", d_keeps, (["f", "relation"] : List Str), (["f", "relation"] : List Str), D_keeps⟩),
  (56, ⟨"breach", d_breach, (["f", "relation"] : List Str), (["f", "relation"] : List Str), D_breach⟩),
  (57, ⟨"_law_relation", d__law_relation, (["pot", "many", "some", "rows_now", "part", "row"] : List Str), (["pot", "many"] : List Str), D__law_relation⟩),
  (58, ⟨"_law_choices", d__law_choices, (["rows_now", "many", "found", "turn", "longer", "some", "row"] : List Str), (["rows_now", "many"] : List Str), D__law_choices⟩),
  (59, ⟨"_law_applied", d__law_applied, (["f", "some", "j", "row"] : List Str), (["f", "some"] : List Str), D__law_applied⟩),
  (60, ⟨"_law_breach", d__law_breach, (["f", "relation", "some"] : List Str), (["f", "relation"] : List Str), D__law_breach⟩),
  (102, ⟨"is_test_of", d_is_test_of, (["told"] : List Str), (["told"] : List Str), D_is_test_of_v1⟩),
  (103, ⟨"test_relation", d_test_relation, (["name", "left_out", "row"] : List Str), (["name"] : List Str), D_test_relation_v1⟩),
  (105, ⟨"test", d_test, (["name"] : List Str), (["name"] : List Str), D_test_v1⟩),
  (107, ⟨"law", d_law, (["script", "pot", "names", "turn", "f", "relation", "due", "fit", "odd", "many", "rows_now"] : List Str), (["script"] : List Str), D_law_k08⟩)]
def gt : List (Str × GC) := [(Str.ofString "SMALL", .dic [Str.ofString "nought", Str.ofString "one", Str.ofString "up", Str.ofString "other", Str.ofString "and", Str.ofString "or"] [(.tup [(.int 1), (.tup [(.tup [(.int 0)])])]), (.tup [(.int 1), (.tup [(.tup [(.int 1)])])]), (.tup [(.int 2), (.tup [(.tup [(.int 0), (.int 0)]), (.tup [(.int 0), (.int 1)]), (.tup [(.int 1), (.int 1)])])]), (.tup [(.int 2), (.tup [(.tup [(.int 0), (.int 1)]), (.tup [(.int 1), (.int 0)])])]), (.tup [(.int 3), (.tup [(.tup [(.int 0), (.int 0), (.int 0)]), (.tup [(.int 0), (.int 1), (.int 0)]), (.tup [(.int 1), (.int 0), (.int 0)]), (.tup [(.int 1), (.int 1), (.int 1)])])]), (.tup [(.int 3), (.tup [(.tup [(.int 0), (.int 0), (.int 0)]), (.tup [(.int 0), (.int 1), (.int 1)]), (.tup [(.int 1), (.int 0), (.int 1)]), (.tup [(.int 1), (.int 1), (.int 1)])])])]), (Str.ofString "TESTS", .val (.tup [(.str (Str.ofString "nought")), (.str (Str.ofString "one")), (.str (Str.ofString "up")), (.str (Str.ofString "other")), (.str (Str.ofString "even")), (.str (Str.ofString "and")), (.str (Str.ofString "or")), (.str (Str.ofString "single"))]))]
theorem chk_tab : tab.all (chkD tab (ftOf tab) fr gt) = true := by decide +kernel
theorem nd_tab : (tab.map (·.1)).Nodup := by decide +kernel
theorem tk_is_integer : K_is_integer (tabOf tab) := ⟨rfl⟩
theorem tk_check_from : K_check_from (tabOf tab) := ⟨rfl, tk_is_integer⟩
theorem tk_is_truth : K_is_truth (tabOf tab) := ⟨rfl, tk_is_integer⟩
theorem tk_is_row : K_is_row (tabOf tab) := ⟨rfl, tk_is_truth⟩
theorem tk_all_rows : K_all_rows (tabOf tab) := ⟨rfl⟩
theorem tk_index_of : K_index_of (tabOf tab) := ⟨rfl⟩
theorem tk_is_function_of : K_is_function_of (tabOf tab) := ⟨rfl, tk_is_integer, tk_is_row⟩
theorem tk_check_function : K_check_function (tabOf tab) := ⟨rfl, tk_is_function_of⟩
theorem tk_value_at : K_value_at (tabOf tab) := ⟨rfl, tk_index_of⟩
theorem tk__law_take : K__law_take (tabOf tab) := ⟨rfl⟩
theorem tk__law_same : K__law_same (tabOf tab) := ⟨rfl⟩
theorem tk__law_rows : K__law_rows (tabOf tab) := ⟨rfl⟩
theorem tk__law_at : K__law_at (tabOf tab) := ⟨rfl⟩
theorem tk__law_function : K__law_function (tabOf tab) := ⟨rfl, tk__law_rows, tk__law_take⟩
theorem tk_check_below : K_check_below (tabOf tab) := ⟨rfl, tk_is_integer⟩
theorem tk_projection_to : K_projection_to (tabOf tab) := ⟨rfl, tk_all_rows⟩
theorem tk_projection : K_projection (tabOf tab) := ⟨rfl, tk_check_below, tk_check_from, tk_projection_to⟩
theorem tk_is_ascending : K_is_ascending (tabOf tab) := ⟨rfl⟩
theorem tk_is_relation_of : K_is_relation_of (tabOf tab) := ⟨rfl, tk_is_ascending, tk_is_integer, tk_is_row⟩
theorem tk_check_relation : K_check_relation (tabOf tab) := ⟨rfl, tk_is_relation_of⟩
theorem tk_breach_from : K_breach_from (tabOf tab) := ⟨rfl, tk_value_at⟩
theorem tk_breach_of : K_breach_of (tabOf tab) := ⟨rfl, tk_breach_from⟩
theorem tk_keeps_it : K_keeps_it (tabOf tab) := ⟨rfl, tk_breach_of⟩
theorem tk_is_relation : K_is_relation (tabOf tab) := ⟨rfl, tk_is_relation_of⟩
theorem tk_keeps : K_keeps (tabOf tab) := ⟨rfl, tk_check_function, tk_check_relation, tk_keeps_it⟩
theorem tk_breach : K_breach (tabOf tab) := ⟨rfl, tk_breach_of, tk_check_function, tk_check_relation⟩
theorem tk__law_relation : K__law_relation (tabOf tab) := ⟨rfl, tk__law_rows, tk__law_take⟩
theorem tk__law_choices : K__law_choices (tabOf tab) := ⟨rfl⟩
theorem tk__law_applied : K__law_applied (tabOf tab) := ⟨rfl, tk__law_at⟩
theorem tk__law_breach : K__law_breach (tabOf tab) := ⟨rfl, tk__law_applied, tk__law_choices⟩
theorem tk_is_test_of_v1 : K_is_test_of_v1 (tabOf tab) := ⟨rfl, tk_is_integer⟩
theorem tk_test_relation_v1 : K_test_relation_v1 (tabOf tab) := ⟨rfl, tk_all_rows⟩
theorem tk_test_v1 : K_test_v1 (tabOf tab) := ⟨rfl, tk_is_test_of_v1, tk_test_relation_v1⟩
theorem tk_law_k08 : K_law_k08 (tabOf tab) := ⟨rfl, tk__law_breach, tk__law_function, tk__law_relation, tk__law_same, tk__law_take, tk_breach, tk_is_relation, tk_keeps, tk_projection, tk_test_v1⟩
def loose : List Str := (["TruthError", "InvalidFunction", "InvalidInteger", "InvalidRelation", "InvalidTest", "is_integer", "check_from", "check_below", "is_truth", "is_row", "all_rows", "index_of", "is_ascending", "is_function_of", "check_function", "is_relation_of", "check_relation", "value_at", "projection_to", "projection", "TESTS", "SMALL", "is_test_of", "test_relation", "breach_from", "breach_of", "keeps_it", "is_relation", "test", "keeps"] : List Str) ++ (["breach", "_law_take", "_law_same", "_law_rows", "_law_at", "_law_function", "_law_relation", "_law_choices", "_law_applied", "_law_breach"] : List Str)
def lawI : Nat := 46
abbrev R : PySem.W.OpenRow := PySem.W.OpenLaw.row PySem.Challenge.rw_wholetruths_k08_whole_keeping_and_breach
abbrev hk : PySem.W.Hook := He.hookX 4 fa fn (gcT gt) [] (gcsB gt)
def ob (s : PySem.W.SharedT) : He.AlX := He.obsX 4 fa fn (gcT gt) [] (gcsB gt) (HandSHeadRun.getT s)
theorem ob_eq (s : PySem.W.SharedT) : ob s = hk.obs s.abs := He.obsX_eq (HandSHeadRun.getT_eq s)
theorem run (w : World) : HandSHeadRun.RunEq R (PySem.W.view R.prog [lawI]) hk ob 6000 loose w := by
  refine PySem.W.byRow2 "special-get-raises" (P := fun w => HandSHeadRun.RunEq R (PySem.W.view R.prog [lawI]) hk ob 6000 loose w) (fun w => ?_) (fun w => ?_) w
  · intro os
    kernel_rfl
  · intro os
    kernel_rfl
end WT
end
section
set_option linter.all false
set_option autoImplicit true
set_option maxRecDepth 100000
/-! The plain side: running the small interpreter by rewriting. -/
namespace WT
open PySem
/-- a mark whose kind hangs on a value: what stands ahead of it is not rewritten -/
structure Tag {α : Type} (x : α) : Type where
/-- one after the other; the second is not looked into -/
def Out.bnd {α β : Type} (o : Out α) (k : α → AH → Out β) (_ : Tag k := ⟨⟩) : Out β := o.bind k
theorem bnd_eq {α β : Type} (o : Out α) (k : α → AH → Out β) (t : Tag k) : o.bnd k t = o.bind k := rfl
theorem rbind_ok {α β : Type} (a : α) (h : AH) (k : α → AH → Out β) : (Out.ok a h).bind k = k a h := rfl
@[simp] theorem p_bind_ok {α β : Type} (a : α) (h : AH) (k : α → AH → Out β) (t : Tag k) : (Out.ok a h).bnd k t = k a h := (rfl)
@[simp] theorem bind_bad {α β : Type} (k : α → AH → Out β) (t : Tag k) : (Out.bad).bnd k t = .bad := (rfl)
@[simp] theorem bind_exc {α β : Type} (c : Nat) (v : PV) (h : AH) (k : α → AH → Out β) (t : Tag k) : (Out.exc c v h).bnd k t = .exc c v h := (rfl)
@[simp] theorem bind_assoc {α β γ : Type} (o : Out α) (k : α → AH → Out β) (l : β → AH → Out γ) (t : Tag k) (u : Tag l) : (o.bnd k t).bnd l u = o.bnd fun a h => (k a h).bnd l := by cases o <;> rfl
theorem rbind_assoc {α β γ : Type} (o : Out α) (k : α → AH → Out β) (l : β → AH → Out γ) : (o.bind k).bind l = o.bind fun a h => (k a h).bind l := by cases o <;> rfl
@[simp] theorem ofOpt_some {α : Type} (a : α) (h : AH) : Out.ofOpt (some a) h = .ok a h := (rfl)
@[simp] theorem ofOpt_none {α : Type} (h : AH) : (Out.ofOpt none h : Out α) = .bad := (rfl)

def lookE (x : Option RV) (h : AH) : Out RV := match x with
  | some (.v x) => .ok (.v x) h
  | some (.L _ xs) => .ok (.L true xs) h
  | some (.D _ ks vs) => .ok (.D true ks vs) h
  | none => .bad
@[simp] theorem lookE_v (x : PV) (h : AH) : lookE (some (.v x)) h = .ok (.v x) h := (rfl)
@[simp] theorem lookE_L (b : Bool) (xs : List PV) (h : AH) : lookE (some (.L b xs)) h = .ok (.L true xs) h := (rfl)
@[simp] theorem slot_zero (x : Option RV) (r : Env) : slot (x :: r) 0 = x := (rfl)
@[simp] theorem slot_succ (x : Option RV) (r : Env) (n : Nat) : slot (x :: r) (n + 1) = slot r n := (rfl)
@[simp] theorem hget_zero (x : HObj) (r : AH) : hget (x :: r) 0 = some x := (rfl)
@[simp] theorem hget_succ (x : HObj) (r : AH) (n : Nat) : hget (x :: r) (n + 1) = hget r n := (rfl)
section
variable (cf : CF) (G : Nat → Option PV)
@[simp] theorem ev_var (i : Nat) (ρ : Env) (h : AH) : evalE cf G (.var i) ρ h = lookE (slot ρ i) h := (rfl)
@[simp] theorem p_ev_cst (c : PV) (ρ : Env) (h : AH) : evalE cf G (.cst c) ρ h = .ok (.v c) h := (rfl)
@[simp] theorem ev_gl (g : Nat) (ρ : Env) (h : AH) : evalE cf G (.gl g) ρ h = .ofOpt ((G g).map .v) h := (rfl)
@[simp] theorem p_ev_op (o : Op) (es : Es) (ρ : Env) (h : AH) : evalE cf G (.op o es) ρ h = (evalEs cf G es ρ h).bnd fun rs h => .ofOpt (opSem h o rs) h := (rfl)
def andK (r : RV) (k : AH → Out RV) (h : AH) : Out RV := match r.truth h with
    | some true => k h
    | some false => .ok r h
    | none => .bad
def orK (r : RV) (k : AH → Out RV) (h : AH) : Out RV := match r.truth h with
    | some true => .ok r h
    | some false => k h
    | none => .bad
def iteK (r : RV) (k l : AH → Out RV) (h : AH) : Out RV := match r.truth h with
    | some true => k h
    | some false => l h
    | none => .bad
@[simp] theorem p_ev_and (a b : E) (ρ : Env) (h : AH) : evalE cf G (.and a b) ρ h = (evalE cf G a ρ h).bnd fun r h => andK r (evalE cf G b ρ) h := (rfl)
@[simp] theorem p_ev_or (a b : E) (ρ : Env) (h : AH) : evalE cf G (.or a b) ρ h = (evalE cf G a ρ h).bnd fun r h => orK r (evalE cf G b ρ) h := (rfl)
@[simp] theorem p_ev_ite (c a b : E) (ρ : Env) (h : AH) : evalE cf G (.ite c a b) ρ h = (evalE cf G c ρ h).bnd fun r h => iteK r (evalE cf G a ρ) (evalE cf G b ρ) h := (rfl)
@[simp] theorem andK_bl (b : Bool) (k : AH → Out RV) (h : AH) : andK (.v (.bl b)) k h = if b = true then k h else .ok (.v (.bl false)) h := by cases b <;> rfl
@[simp] theorem orK_bl (b : Bool) (k : AH → Out RV) (h : AH) : orK (.v (.bl b)) k h = if b = true then .ok (.v (.bl true)) h else k h := by cases b <;> rfl
@[simp] theorem iteK_bl (b : Bool) (k l : AH → Out RV) (h : AH) : iteK (.v (.bl b)) k l h = if b = true then k h else l h := by cases b <;> rfl
def chainK (r : Option Bool) (k : AH → Out RV) (h : AH) : Out RV := match r with
    | some true => k h
    | some false => .ok (.v (.bl false)) h
    | none => .bad
@[simp] theorem chainK_some (b : Bool) (k : AH → Out RV) (h : AH) : chainK (some b) k h = if b = true then k h else .ok (.v (.bl false)) h := by cases b <;> rfl
@[simp] theorem p_ev_chain (o1 o2 : CmpO) (a b c : E) (ρ : Env) (h : AH) : evalE cf G (.chain o1 o2 a b c) ρ h = (evalE cf G a ρ h).bnd fun x h => (evalE cf G b ρ h).bnd fun y h => chainK (cmpSem h o1 x y) (fun h => (evalE cf G c ρ h).bnd fun z h => .ofOpt (B (cmpSem h o2 y z)) h) h := (rfl)
def callK (f : Nat) (xs : Option (List PV)) (h : AH) : Out RV := match xs with
    | some xs => cf f xs h
    | none => .bad
@[simp] theorem callK_some (f : Nat) (xs : List PV) (h : AH) : callK cf f (some xs) h = cf f xs h := (rfl)
@[simp] theorem p_ev_call (f : Nat) (ps : List Nat) (es : Es) (ρ : Env) (h : AH) : evalE cf G (.call f ps es) ρ h = (evalEs cf G es ρ h).bnd fun rs h => callK cf f ((toPVs rs).bind fun xs => permute xs ps) h := (rfl)
@[simp] theorem p_ev_dlook (ks : List DKey) (vs : List PV) (e : E) (ρ : Env) (h : AH) : evalE cf G (.dlook ks vs e) ρ h = (evalE cf G e ρ h).bnd fun r h => .ofOpt (dlookS ks vs r) h := (rfl)
@[simp] theorem evs_nil (ρ : Env) (h : AH) : evalEs cf G .nil ρ h = .ok [] h := (rfl)
@[simp] theorem evs_cons (e : E) (es : Es) (ρ : Env) (h : AH) : evalEs cf G (.cons e es) ρ h = (evalE cf G e ρ h).bnd fun r h => (evalEs cf G es ρ h).bnd fun rs h => .ok (r :: rs) h := (rfl)
@[simp] theorem toPVs_nil : toPVs [] = some [] := (rfl)
def consO (x : Option PV) (xs : Option (List PV)) : Option (List PV) := match x, xs with
    | some x, some xs => some (x :: xs)
    | _, _ => none
@[simp] theorem consO_some (x : PV) (xs : List PV) : consO (some x) (some xs) = some (x :: xs) := (rfl)
@[simp] theorem toPVs_cons (r : RV) (rs : List RV) : toPVs (r :: rs) = consO r.toPV (toPVs rs) := (rfl)
@[simp] theorem toPV_v (x : PV) : (RV.v x).toPV = some x := (rfl)
@[simp] theorem toPV_L (xs : List PV) : (RV.L false xs).toPV = some (.lst xs) := (rfl)
@[simp] theorem permute_nil {α : Type} (rs : List α) : permute rs [] = some [] := (rfl)
def consA {α : Type} (x : Option α) (xs : Option (List α)) : Option (List α) := match x, xs with
    | some x, some xs => some (x :: xs)
    | _, _ => none
@[simp] theorem consA_some {α : Type} (x : α) (xs : List α) : consA (some x) (some xs) = some (x :: xs) := (rfl)
@[simp] theorem p_permute_cons {α : Type} (rs : List α) (p : Nat) (ps : List Nat) : permute rs (p :: ps) = consA rs[p]? (permute rs ps) := (rfl)

/-! statements -/
def seqK (q : Fl × Env) (b : FS) (h : AH) : Out (Fl × Env) := match q.1 with
  | .nx => b q.2 h
  | _ => .ok q h
@[simp] theorem seqK_nx (ρ : Env) (b : FS) (h : AH) : seqK (.nx, ρ) b h = b ρ h := (rfl)
@[simp] theorem seqK_ret (r : RV) (ρ : Env) (b : FS) (h : AH) : seqK (.ret r, ρ) b h = .ok (.ret r, ρ) h := (rfl)
@[simp] theorem seqK_brk (ρ : Env) (b : FS) (h : AH) : seqK (.brk, ρ) b h = .ok (.brk, ρ) h := (rfl)
@[simp] theorem seqK_cont (ρ : Env) (b : FS) (h : AH) : seqK (.cont, ρ) b h = .ok (.cont, ρ) h := (rfl)
@[simp] theorem p_ex_nil (ρ : Env) (h : AH) : execSs cf G [] ρ h = .ok (.nx, ρ) h := (rfl)
@[simp] theorem p_ex_cons (s : S) (r : List S) (ρ : Env) (h : AH) : execSs cf G (s :: r) ρ h = (execS cf G s ρ h).bnd fun q h => seqK q (execSs cf G r) h := (rfl)
@[simp] theorem ex_expr (e : E) (ρ : Env) (h : AH) : execS cf G (.expr e) ρ h = (evalE cf G e ρ h).bnd fun _ h => .ok (.nx, ρ) h := (rfl)
def setK (ρ : Option Env) (h : AH) : Out (Fl × Env) := match ρ with
    | some ρ => .ok (.nx, ρ) h
    | none => .bad
@[simp] theorem setK_some (ρ : Env) (h : AH) : setK (some ρ) h = .ok (.nx, ρ) h := (rfl)
@[simp] theorem ex_asg (t : Tg) (e : E) (ρ : Env) (h : AH) : execS cf G (.asg t e) ρ h = (evalE cf G e ρ h).bnd fun r h => setK (r.toPV.bind fun x => bindTg t x ρ) h := by
  show asgS t _ ρ h = _
  unfold asgS
  refine congrArg (Out.bind _) ?_
  funext r h
  cases r.toPV with
  | none => rfl
  | some x =>
    show (match bindTg t x ρ with | some ρ => nextE ρ h | none => .bad) = setK (bindTg t x ρ) h
    cases bindTg t x ρ <;> rfl
@[simp] theorem bindTg_var (i : Nat) (x : PV) (ρ : Env) : bindTg (.var i) x ρ = some (setSlot ρ i (some (.v x))) := (rfl)
@[simp] theorem bindTg_tup (is : List Nat) (xs : List PV) (ρ : Env) : bindTg (.tup is) (.tup xs) ρ = setSlots ρ is xs := (rfl)
@[simp] theorem setSlots_nil (ρ : Env) : setSlots ρ [] [] = some ρ := (rfl)
@[simp] theorem setSlots_cons (ρ : Env) (i : Nat) (is : List Nat) (x : PV) (xs : List PV) : setSlots ρ (i :: is) (x :: xs) = setSlots (setSlot ρ i (some (.v x))) is xs := (rfl)
@[simp] theorem setSlot_zero (x : Option RV) (r : Env) (y : Option RV) : setSlot (x :: r) 0 y = y :: r := (rfl)
@[simp] theorem setSlot_succ (x : Option RV) (r : Env) (n : Nat) (y : Option RV) : setSlot (x :: r) (n + 1) y = x :: setSlot r n y := (rfl)
@[simp] theorem wipe_nil (ρ : Env) : wipe ρ [] = ρ := (rfl)
@[simp] theorem wipe_cons (ρ : Env) (i : Nat) (is : List Nat) : wipe ρ (i :: is) = setSlot (wipe ρ is) i none := (rfl)
@[simp] theorem ex_par (is : List (Nat × Bool)) (es : Es) (ρ : Env) (h : AH) : execS cf G (.par is es) ρ h = (evalEs cf G es ρ h).bnd fun rs h => setK (setOwns ρ is rs) h := by
  show parS is _ ρ h = _
  unfold parS
  refine congrArg (Out.bind _) ?_
  funext r h
  cases setOwns ρ is r <;> rfl
@[simp] theorem setOwns_nil (ρ : Env) : setOwns ρ [] [] = some ρ := (rfl)
@[simp] theorem setOwns_t (ρ : Env) (i : Nat) (is : List (Nat × Bool)) (xs : List PV) (rs : List RV) : setOwns ρ ((i, true) :: is) (.L false xs :: rs) = setOwns (setSlot ρ i (some (.L false xs))) is rs := (rfl)
@[simp] theorem setOwns_f (ρ : Env) (i : Nat) (is : List (Nat × Bool)) (r : RV) (rs : List RV) : setOwns ρ ((i, false) :: is) (r :: rs) = r.toPV.bind fun x => setOwns (setSlot ρ i (some (.v x))) is rs := by
  cases e : r.toPV <;> simp [setOwns, e]
def ownK (i : Nat) (ρ : Env) (r : RV) (h : AH) : Out (Fl × Env) := match r with
  | .L false xs => nextE (setSlot ρ i (some (.L false xs))) h
  | _ => .bad
@[simp] theorem ownK_L (i : Nat) (ρ : Env) (xs : List PV) (h : AH) : ownK i ρ (.L false xs) h = .ok (.nx, setSlot ρ i (some (.L false xs))) h := (rfl)
@[simp] theorem ex_own (i : Nat) (e : E) (ρ : Env) (h : AH) : execS cf G (.own i e) ρ h = (evalE cf G e ρ h).bnd fun r h => ownK i ρ r h := (rfl)
def newlK (i : Nat) (ρ : Env) (r : RV) (h : AH) : Out (Fl × Env) := match r with
  | .L false xs => nextE (setSlot ρ i (some (.v (.loc h.length)))) (h ++ [.l xs])
  | _ => .bad
@[simp] theorem newlK_L (i : Nat) (ρ : Env) (xs : List PV) (h : AH) : newlK i ρ (.L false xs) h = .ok (.nx, setSlot ρ i (some (.v (.loc h.length)))) (h ++ [.l xs]) := (rfl)
@[simp] theorem ex_newl (i : Nat) (e : E) (ρ : Env) (h : AH) : execS cf G (.newl i e) ρ h = (evalE cf G e ρ h).bnd fun r h => newlK i ρ r h := (rfl)
def augK (o : BinO) (i : Nat) (a : Int) (ρ : Env) (r : RV) (h : AH) : Out (Fl × Env) := match r with
  | .v (.int b) => (match augInt o a b with
        | some c => nextE (setSlot ρ i (some (.v (.int c)))) h
        | none => .bad)
  | _ => .bad
theorem ex_aug {i : Nat} {ρ : Env} {a : Int} (o : BinO) (e : E) (h : AH) (hs : slot ρ i = some (.v (.int a))) : execS cf G (.aug i o e) ρ h = (evalE cf G e ρ h).bnd fun r h => augK o i a ρ r h := by
  show augS i o _ ρ h = _
  unfold augS
  rw [hs]
  rfl
@[simp] theorem ex_ret (e : E) (ρ : Env) (h : AH) : execS cf G (.ret e) ρ h = (evalE cf G e ρ h).bnd fun r h => .ok (.ret r.back, ρ) h := (rfl)
@[simp] theorem ex_retN (ρ : Env) (h : AH) : execS cf G .retN ρ h = .ok (.ret (.v .non), ρ) h := (rfl)
@[simp] theorem back_v (x : PV) : (RV.v x).back = .v x := (rfl)
@[simp] theorem back_L (b : Bool) (xs : List PV) : (RV.L b xs).back = .L false xs := (rfl)
def boolK {α : Type} (r : RV) (h : AH) (k : Bool → AH → Out α) : Out α := match r.truth h with
  | some b => k b h
  | none => .bad
@[simp] theorem boolK_bl {α : Type} (b : Bool) (h : AH) (k : Bool → AH → Out α) : boolK (.v (.bl b)) h k = k b h := by cases b <;> rfl
def iteFK (r : RV) (k l : AH → Out (Fl × Env)) (h : AH) : Out (Fl × Env) := match r.truth h with
  | some true => k h
  | some false => l h
  | none => .bad
@[simp] theorem iteFK_bl (b : Bool) (k l : AH → Out (Fl × Env)) (h : AH) : iteFK (.v (.bl b)) k l h = if b = true then k h else l h := by cases b <;> rfl
@[simp] theorem ex_ite (c : E) (a b : List S) (ρ : Env) (h : AH) : execS cf G (.ite c a b) ρ h = (evalE cf G c ρ h).bnd fun r h => iteFK r (execSs cf G a ρ) (execSs cf G b ρ) h := by
  show iteS (evalE cf G c) (execSs cf G a) (execSs cf G b) ρ h = _
  unfold iteS truthE Out.bnd
  rw [rbind_assoc]
  congr 1
  funext r h
  unfold iteFK
  cases r.truth h with
  | none => rfl
  | some b => cases b <;> rfl
theorem ex_for (t : Tg) (i : It) (b : List S) (ρ : Env) (h : AH) : execS cf G (.for_ t i b) ρ h = (evalI cf G i false ρ h).bind fun xs h => forL (fun x ρ h => match bindTg t x ρ with
  | some ρ => execSs cf G b ρ h
  | none => .bad) xs ρ h := rfl
@[simp] theorem ex_brk (ρ : Env) (h : AH) : execS cf G .brk ρ h = .ok (.brk, ρ) h := (rfl)
@[simp] theorem ex_cont (ρ : Env) (h : AH) : execS cf G .cont ρ h = .ok (.cont, ρ) h := (rfl)
@[simp] theorem ex_pass (ρ : Env) (h : AH) : execS cf G .pass ρ h = .ok (.nx, ρ) h := (rfl)
def raiseK (c : Nat) (r : RV) (h : AH) : Out (Fl × Env) := match r.toPV with
  | some x => .exc c x h
  | none => .bad
@[simp] theorem ex_raise (c : Nat) (e : E) (ρ : Env) (h : AH) : execS cf G (.raise_ c e) ρ h = (evalE cf G e ρ h).bnd fun r h => raiseK c r h := (rfl)
def appK (i : Nat) (ρ : Env) (r : RV) (h : AH) : Out (Fl × Env) := match r.toPV with
  | some y => putL ρ h i fun xs => if xs.length < SZ then some (xs ++ [y]) else none
  | none => .bad
@[simp] theorem ex_app (i : Nat) (e : E) (ρ : Env) (h : AH) : execS cf G (.app i e) ρ h = (evalE cf G e ρ h).bnd fun r h => appK i ρ r h := (rfl)
def extK (i : Nat) (ρ : Env) (r : RV) (h : AH) : Out (Fl × Env) := match r.lst? h with
    | some ys => putL ρ h i fun xs => if xs.length + ys.length ≤ SZ then some (xs ++ ys) else none
    | none => .bad
@[simp] theorem ex_ext (i : Nat) (e : E) (ρ : Env) (h : AH) : execS cf G (.ext i e) ρ h = (evalE cf G e ρ h).bnd fun r h => extK i ρ r h := (rfl)
def setixK (i : Nat) (fk : FE) (ρ : Env) (r : RV) (h : AH) : Out (Fl × Env) := match r.toPV with
  | some y => (fk ρ h).bnd fun k h => putL ρ h i fun xs => setAt xs k y
  | none => .bad
@[simp] theorem ex_setix (i : Nat) (k e : E) (ρ : Env) (h : AH) : execS cf G (.setix i k e) ρ h = (evalE cf G e ρ h).bnd fun r h => setixK i (evalE cf G k) ρ r h := (rfl)
@[simp] theorem setixK_v (i : Nat) (fk : FE) (ρ : Env) (x : PV) (h : AH) : setixK i fk ρ (.v x) h = (fk ρ h).bnd fun k h => putL ρ h i fun xs => setAt xs k x := (rfl)

def swapK (i : Nat) (fk fl : FE) (ρ : Env) (rs : List RV) (h : AH) : Out (Fl × Env) := match rs with
  | [.v (.int a), .v (.int b)] => ((fk ρ h).bnd fun k h => putL ρ h i fun xs => setAt xs k (.int a)).bnd fun q h => (fl q.2 h).bnd fun l h => putL q.2 h i fun xs => setAt xs l (.int b)
  | _ => .bad
@[simp] theorem swapK_ints (i : Nat) (fk fl : FE) (ρ : Env) (a b : Int) (h : AH) : swapK i fk fl ρ [.v (.int a), .v (.int b)] h = ((fk ρ h).bnd fun k h => putL ρ h i fun xs => setAt xs k (.int a)).bnd fun q h => (fl q.2 h).bnd fun l h => putL q.2 h i fun xs => setAt xs l (.int b) := (rfl)
@[simp] theorem ex_swapix (i : Nat) (k l : E) (es : Es) (ρ : Env) (h : AH) : execS cf G (.swapix i k l es) ρ h = (evalEs cf G es ρ h).bnd fun rs h => swapK i (evalE cf G k) (evalE cf G l) ρ rs h := (rfl)
theorem ex_setpop (i : Nat) (k j : Int) (ρ : Env) (h : AH) : execS cf G (.setpop i k j) ρ h = setpopS i k j ρ h := (rfl)
def mklocK (i : Nat) (ρ : Env) (r : Option RV) (h : AH) : Out (Fl × Env) := match r with
  | some (.L _ xs) => nextE (setSlot ρ i (some (.v (.loc h.length)))) (h ++ [.l xs])
  | _ => .bad
@[simp] theorem mklocK_L (i : Nat) (ρ : Env) (b : Bool) (xs : List PV) (h : AH) : mklocK i ρ (some (.L b xs)) h = .ok (.nx, setSlot ρ i (some (.v (.loc h.length)))) (h ++ [.l xs]) := (rfl)
@[simp] theorem ex_mkloc (i : Nat) (ρ : Env) (h : AH) : execS cf G (.mkloc i) ρ h = mklocK i ρ (slot ρ i) h := (rfl)
/-! what is walked -/
@[simp] theorem ei_val (e : E) (c : Bool) (ρ : Env) (h : AH) : evalI cf G (.val e) c ρ h = (evalE cf G e ρ h).bnd fun r h => .ofOpt (itV c r) h := (rfl)
@[simp] theorem ei_r1 (a : E) (c : Bool) (ρ : Env) (h : AH) : evalI cf G (.range1 a) c ρ h = (evalE cf G a ρ h).bnd fun r h => .ofOpt (rg1 r) h := (rfl)
@[simp] theorem ei_r2 (a b : E) (c : Bool) (ρ : Env) (h : AH) : evalI cf G (.range2 a b) c ρ h = (evalE cf G a ρ h).bnd fun r h => (evalE cf G b ρ h).bnd fun s h => .ofOpt (rg2 r s) h := (rfl)
@[simp] theorem ei_zipS (e : E) (c : Bool) (ρ : Env) (h : AH) : evalI cf G (.zipS e) c ρ h = (evalE cf G e ρ h).bnd fun r h => .ofOpt ((r.seq h).bind fun xs => if 1 ≤ xs.length ∧ xs.length ≤ 4 then (itVs false (xs.map .v)).map zipAll else none) h := (rfl)
@[simp] theorem ei_zip (es : Es) (c : Bool) (ρ : Env) (h : AH) : evalI cf G (.zip es) c ρ h = (evalEs cf G es ρ h).bnd fun rs h => .ofOpt ((itVs c rs).map zipAll) h := (rfl)
@[simp] theorem itV_tup (c : Bool) (xs : List PV) : itV c (.v (.tup xs)) = some xs := (rfl)
@[simp] theorem itV_lst (c : Bool) (xs : List PV) : itV c (.v (.lst xs)) = some xs := (rfl)
@[simp] theorem itV_L (c : Bool) (xs : List PV) : itV c (.L false xs) = some xs := by cases c <;> rfl
@[simp] theorem itV_Lt (b : Bool) (xs : List PV) : itV true (.L b xs) = some xs := (rfl)
end

/-- the whole of a call -/
def endK (n : Nat) (q : Fl × Env) (h : AH) : Out RV := match q.1 with
  | .ret r => leave n r h
  | .nx => leave n (.v .non) h
  | _ => .bad
@[simp] theorem endK_ret (n : Nat) (r : RV) (ρ : Env) (h : AH) : endK n (.ret r, ρ) h = leave n r h := (rfl)
@[simp] theorem endK_nx (n : Nat) (ρ : Env) (h : AH) : endK n (.nx, ρ) h = leave n (.v .non) h := (rfl)
@[simp] theorem leave_same (r : RV) (h : AH) : leave h.length r h = .ok r h := by simp [leave]
theorem leave_eq {n : Nat} (r : RV) {h : AH} (e : h.length = n) : leave n r h = .ok r h := by simp [leave, e]
theorem run_eq {G : Nat → Option PV} {T : Nat → Option Def} {f np ns : Nat} {body : List S} (hT : T f = some ⟨np, ns, body⟩) (n : Nat) {xs : List PV} {ρ : Env} (hl : xs.length = np) (ha : args xs ns = some ρ) (h : AH) :
    runFn G T (n + 1) f xs h = (execSs (runFn G T n) G body ρ h).bnd fun q h' => endK h.length q h' := by
  rw [runFn, hT]
  simp only [hl, ha, if_true]
  congr 1
end WT
end
section
set_option linter.all false
set_option autoImplicit true
set_option maxRecDepth 100000
/-! Operations of the small interpreter, by what their operands are. -/
namespace WT
open PySem
/-- a truth as a number -/
def tr (b : Bool) : PV := .int (b.toNat : Int)
@[simp] theorem tr_true : tr true = .int 1 := (rfl)
@[simp] theorem tr_false : tr false = .int 0 := (rfl)
def tyIs : Ty → Ty → Bool := fun t u => isTy (some t) u
def tyMem (t : Ty) : List Ty → Bool
  | [] => false
  | u :: us => tyIs t u || tyMem t us
theorem tyMem_any (t : Ty) (ts : List Ty) : ts.any (fun u => isTy (some t) u) = tyMem t ts := by
  induction ts with
  | nil => rfl
  | cons u us ih => simp only [List.any_cons, ih, tyMem, tyIs]
@[simp] theorem tyMem_nil (t : Ty) : tyMem t [] = false := (rfl)
@[simp] theorem tyMem_cons (t u : Ty) (us : List Ty) : tyMem t (u :: us) = (tyIs t u || tyMem t us) := (rfl)
@[simp] theorem ty_int_int : tyIs .int .int = true := by decide
@[simp] theorem ty_int_bool : tyIs .int .bool = false := by decide
@[simp] theorem ty_int_str : tyIs .int .str = false := by decide
@[simp] theorem ty_int_list : tyIs .int .list = false := by decide
@[simp] theorem ty_int_tuple : tyIs .int .tuple = false := by decide
@[simp] theorem ty_int_dict : tyIs .int .dict = false := by decide
@[simp] theorem ty_bool_int : tyIs .bool .int = true := by decide
@[simp] theorem ty_bool_bool : tyIs .bool .bool = true := by decide
@[simp] theorem ty_bool_str : tyIs .bool .str = false := by decide
@[simp] theorem ty_bool_list : tyIs .bool .list = false := by decide
@[simp] theorem ty_bool_tuple : tyIs .bool .tuple = false := by decide
@[simp] theorem ty_bool_dict : tyIs .bool .dict = false := by decide
@[simp] theorem ty_str_int : tyIs .str .int = false := by decide
@[simp] theorem ty_str_bool : tyIs .str .bool = false := by decide
@[simp] theorem ty_str_str : tyIs .str .str = true := by decide
@[simp] theorem ty_str_list : tyIs .str .list = false := by decide
@[simp] theorem ty_str_tuple : tyIs .str .tuple = false := by decide
@[simp] theorem ty_str_dict : tyIs .str .dict = false := by decide
@[simp] theorem ty_list_int : tyIs .list .int = false := by decide
@[simp] theorem ty_list_bool : tyIs .list .bool = false := by decide
@[simp] theorem ty_list_str : tyIs .list .str = false := by decide
@[simp] theorem ty_list_list : tyIs .list .list = true := by decide
@[simp] theorem ty_list_tuple : tyIs .list .tuple = false := by decide
@[simp] theorem ty_list_dict : tyIs .list .dict = false := by decide
@[simp] theorem ty_tuple_int : tyIs .tuple .int = false := by decide
@[simp] theorem ty_tuple_bool : tyIs .tuple .bool = false := by decide
@[simp] theorem ty_tuple_str : tyIs .tuple .str = false := by decide
@[simp] theorem ty_tuple_list : tyIs .tuple .list = false := by decide
@[simp] theorem ty_tuple_tuple : tyIs .tuple .tuple = true := by decide
@[simp] theorem ty_tuple_dict : tyIs .tuple .dict = false := by decide
@[simp] theorem ty_dict_int : tyIs .dict .int = false := by decide
@[simp] theorem ty_dict_bool : tyIs .dict .bool = false := by decide
@[simp] theorem ty_dict_str : tyIs .dict .str = false := by decide
@[simp] theorem ty_dict_list : tyIs .dict .list = false := by decide
@[simp] theorem ty_dict_tuple : tyIs .dict .tuple = false := by decide
@[simp] theorem ty_dict_dict : tyIs .dict .dict = true := by decide
@[simp] theorem isi_int (i : Int) (ts : List Ty) (h : AH) : opSem h (.isi ts) [.v (.int i)] = some (.v (.bl (tyMem .int ts))) := by simp only [← tyMem_any]; rfl
@[simp] theorem isi_bl (b : Bool) (ts : List Ty) (h : AH) : opSem h (.isi ts) [.v (.bl b)] = some (.v (.bl (tyMem .bool ts))) := by simp only [← tyMem_any]; rfl
@[simp] theorem isi_str (s : Str) (ts : List Ty) (h : AH) : opSem h (.isi ts) [.v (.str s)] = some (.v (.bl (tyMem .str ts))) := by simp only [← tyMem_any]; rfl
@[simp] theorem isi_tup (xs : List PV) (ts : List Ty) (h : AH) : opSem h (.isi ts) [.v (.tup xs)] = some (.v (.bl (tyMem .tuple ts))) := by simp only [← tyMem_any]; rfl
@[simp] theorem isi_lst (xs : List PV) (ts : List Ty) (h : AH) : opSem h (.isi ts) [.v (.lst xs)] = some (.v (.bl (tyMem .list ts))) := by simp only [← tyMem_any]; rfl
@[simp] theorem isi_L (b : Bool) (xs : List PV) (ts : List Ty) (h : AH) : opSem h (.isi ts) [.L b xs] = some (.v (.bl (tyMem .list ts))) := by simp only [← tyMem_any]; rfl
@[simp] theorem isi_dic (ks vs : List PV) (ts : List Ty) (h : AH) : opSem h (.isi ts) [.v (.dic ks vs)] = some (.v (.bl (tyMem .dict ts))) := by simp only [← tyMem_any]; rfl
@[simp] theorem isi_D (b : Bool) (ks vs : List PV) (ts : List Ty) (h : AH) : opSem h (.isi ts) [.D b ks vs] = some (.v (.bl (tyMem .dict ts))) := by simp only [← tyMem_any]; rfl
@[simp] theorem isi_non (ts : List Ty) (h : AH) : opSem h (.isi ts) [.v .non] = some (.v (.bl false)) := (rfl)
theorem isi_loc {n : Nat} {h : AH} {xs : List PV} (e : hget h n = some (.l xs)) (ts : List Ty) : opSem h (.isi ts) [.v (.loc n)] = some (.v (.bl (tyMem .list ts))) := by simp [opSem, isiSem, tyOf, e, B, tyMem_any]
@[simp] theorem isN_int (i : Int) (b : Bool) (h : AH) : opSem h (.isN b) [.v (.int i)] = some (.v (.bl b)) := by cases b <;> rfl
@[simp] theorem isN_bl (b1 : Bool) (b : Bool) (h : AH) : opSem h (.isN b) [.v (.bl b1)] = some (.v (.bl b)) := by cases b <;> rfl
@[simp] theorem isN_str (s : Str) (b : Bool) (h : AH) : opSem h (.isN b) [.v (.str s)] = some (.v (.bl b)) := by cases b <;> rfl
@[simp] theorem isN_tup (xs : List PV) (b : Bool) (h : AH) : opSem h (.isN b) [.v (.tup xs)] = some (.v (.bl b)) := by cases b <;> rfl
@[simp] theorem isN_lst (xs : List PV) (b : Bool) (h : AH) : opSem h (.isN b) [.v (.lst xs)] = some (.v (.bl b)) := by cases b <;> rfl
@[simp] theorem isN_dic (ks vs : List PV) (b : Bool) (h : AH) : opSem h (.isN b) [.v (.dic ks vs)] = some (.v (.bl b)) := by cases b <;> rfl
@[simp] theorem isN_L (b1 : Bool) (xs : List PV) (b : Bool) (h : AH) : opSem h (.isN b) [.L b1 xs] = some (.v (.bl b)) := by cases b <;> rfl
@[simp] theorem isN_loc (n : Nat) (b : Bool) (h : AH) : opSem h (.isN b) [.v (.loc n)] = some (.v (.bl b)) := by cases b <;> rfl
@[simp] theorem isN_non (b : Bool) (h : AH) : opSem h (.isN b) [.v .non] = some (.v (.bl !b)) := by cases b <;> rfl
@[simp] theorem cmpI_lt (i j : Int) (h : AH) : cmpSem h .lt (.v (.int i)) (.v (.int j)) = some (decide (i < j)) := (rfl)
@[simp] theorem cmpB_lt (i j : Int) (h : AH) : opSem h (.cmp .lt) [.v (.int i), .v (.int j)] = some (.v (.bl (decide (i < j)))) := by show B (cmpSem h .lt _ _) = _; rw [cmpI_lt]; rfl
@[simp] theorem cmpI_le (i j : Int) (h : AH) : cmpSem h .le (.v (.int i)) (.v (.int j)) = some (decide (i ≤ j)) := (rfl)
@[simp] theorem cmpB_le (i j : Int) (h : AH) : opSem h (.cmp .le) [.v (.int i), .v (.int j)] = some (.v (.bl (decide (i ≤ j)))) := by show B (cmpSem h .le _ _) = _; rw [cmpI_le]; rfl
@[simp] theorem cmpI_gt (i j : Int) (h : AH) : cmpSem h .gt (.v (.int i)) (.v (.int j)) = some (decide (j < i)) := (rfl)
@[simp] theorem cmpB_gt (i j : Int) (h : AH) : opSem h (.cmp .gt) [.v (.int i), .v (.int j)] = some (.v (.bl (decide (j < i)))) := by show B (cmpSem h .gt _ _) = _; rw [cmpI_gt]; rfl
@[simp] theorem cmpI_ge (i j : Int) (h : AH) : cmpSem h .ge (.v (.int i)) (.v (.int j)) = some (decide (j ≤ i)) := (rfl)
@[simp] theorem cmpB_ge (i j : Int) (h : AH) : opSem h (.cmp .ge) [.v (.int i), .v (.int j)] = some (.v (.bl (decide (j ≤ i)))) := by show B (cmpSem h .ge _ _) = _; rw [cmpI_ge]; rfl
@[simp] theorem cmpI_eq (i j : Int) (h : AH) : cmpSem h .eq (.v (.int i)) (.v (.int j)) = some (decide (i = j)) := by simp [cmpSem, RV.deref, eqSem, okEq, flat, RV.see, pyEq]; try rfl
@[simp] theorem cmpB_eq (i j : Int) (h : AH) : opSem h (.cmp .eq) [.v (.int i), .v (.int j)] = some (.v (.bl (decide (i = j)))) := by show B (cmpSem h .eq _ _) = _; rw [cmpI_eq]; rfl
@[simp] theorem cmpI_ne (i j : Int) (h : AH) : cmpSem h .ne (.v (.int i)) (.v (.int j)) = some (!decide (i = j)) := by simp [cmpSem, RV.deref, eqSem, okEq, flat, RV.see, pyEq]; try rfl
@[simp] theorem cmpB_ne (i j : Int) (h : AH) : opSem h (.cmp .ne) [.v (.int i), .v (.int j)] = some (.v (.bl (!decide (i = j)))) := by show B (cmpSem h .ne _ _) = _; rw [cmpI_ne]; rfl

theorem deref_ok {a : RV} (ha : okEq a.see = true) (h : AH) : a.deref h = a := by
  cases a with
  | v x => cases x <;> first | rfl | (simp [RV.see, okEq, flat] at ha; done)
  | L b xs => rfl
  | D b ks vs => rfl
theorem eq_gen {a b : RV} (ha : okEq a.see = true) (hb : okEq b.see = true) (h : AH) : opSem h (.cmp .eq) [a, b] = some (.v (.bl (pyEq a.see b.see))) := by
  show B (eqSem (a.deref h) b) = _
  rw [deref_ok ha]
  simp [eqSem, ha, hb, B]
/-- a list of the small heap against another value -/
theorem ne_loc {n : Nat} {xs : List PV} {b : RV} {h : AH} (e : hget h n = some (.l xs)) (ha : okEq (.lst xs) = true) (hb : okEq b.see = true) : opSem h (.cmp .ne) [.v (.loc n), b] = some (.v (.bl (!pyEq (.lst xs) b.see))) := by
  have ed : (RV.v (.loc n)).deref h = .L true xs := by show (match hget h n with | some (.l xs) => RV.L true xs | _ => .v (.loc n)) = _; rw [e]
  show B ((eqSem ((RV.v (.loc n)).deref h) b).map _) = _
  rw [ed]
  have hs : (RV.L true xs).see = .lst xs := rfl
  simp only [eqSem, hs, ha, hb, B, Bool.and_self, if_true, Option.map_some]
theorem ne_gen {a b : RV} (ha : okEq a.see = true) (hb : okEq b.see = true) (h : AH) : opSem h (.cmp .ne) [a, b] = some (.v (.bl (!pyEq a.see b.see))) := by
  show B ((eqSem (a.deref h) b).map _) = _
  rw [deref_ok ha]
  simp [eqSem, ha, hb, B]
@[simp] theorem okEq_int (i : Int) : okEq (.int i) = true := by simp [okEq, flat]
@[simp] theorem okEq_bl (b : Bool) : okEq (.bl b) = true := by simp [okEq, flat]
@[simp] theorem okEq_non : okEq .non = true := by simp [okEq, flat]
@[simp] theorem eqB_bl (a b : Bool) (h : AH) : opSem h (.cmp .eq) [.v (.bl a), .v (.bl b)] = some (.v (.bl (a == b))) := by rw [eq_gen (by simp [RV.see]) (by simp [RV.see])]; simp [RV.see, pyEq]
@[simp] theorem neB_bl (a b : Bool) (h : AH) : opSem h (.cmp .ne) [.v (.bl a), .v (.bl b)] = some (.v (.bl (a != b))) := by rw [ne_gen (by simp [RV.see]) (by simp [RV.see])]; simp [RV.see, pyEq, bne]
@[simp] theorem op_not (b : Bool) (h : AH) : opSem h .not [.v (.bl b)] = some (.v (.bl !b)) := (rfl)
@[simp] theorem op_neg (i : Int) (h : AH) : opSem h .neg [.v (.int i)] = some (.v (.int (-i))) := (rfl)
@[simp] theorem op_tup (rs : List RV) (h : AH) : opSem h .tup rs = (toPVs rs).map fun xs => .v (.tup xs) := (rfl)
@[simp] theorem op_lst (rs : List RV) (h : AH) : opSem h .lst rs = (toPVs rs).map fun xs => .L false xs := (rfl)
@[simp] theorem op_toInt (i : Int) (h : AH) : opSem h .toInt [.v (.int i)] = some (.v (.int i)) := (rfl)
@[simp] theorem op_toIntB (b : Bool) (h : AH) : opSem h .toInt [.v (.bl b)] = some (.v (tr b)) := by cases b <;> rfl
@[simp] theorem op_add (i j : Int) (h : AH) : opSem h (.bin .add) [.v (.int i), .v (.int j)] = some (.v (.int (i + j))) := (rfl)
@[simp] theorem op_sub (i j : Int) (h : AH) : opSem h (.bin .sub) [.v (.int i), .v (.int j)] = some (.v (.int (i - j))) := (rfl)
theorem op_mul {i j : Int} (hs : (small i || small j) = true) (h : AH) : opSem h (.bin .mul) [.v (.int i), .v (.int j)] = some (.v (.int (i * j))) := by
  show (binInt .mul i j).map _ = _
  simp only [binInt, hs, if_true]
  rfl
theorem op_mod {i j : Int} (hj : 0 < j) (h : AH) : opSem h (.bin .mod) [.v (.int i), .v (.int j)] = some (.v (.int (i % j))) := by
  show (binInt .mod i j).map _ = _
  simp only [binInt, hj, if_true]
  rfl
theorem op_fdiv {i j : Int} (hj : 0 < j) (hk : j < 1073741824) (h : AH) : opSem h (.bin .fdiv) [.v (.int i), .v (.int j)] = some (.v (.int (i / j))) := by
  show (binInt .fdiv i j).map _ = _
  simp only [binInt, hj, hk, and_self, if_true]
  rfl
theorem op_shl {i j : Int} (hj : 0 ≤ j) (hk : j ≤ 1000000) (hs : small i = true) (h : AH) : opSem h (.bin .shl) [.v (.int i), .v (.int j)] = some (.v (.int (i * 2 ^ j.toNat))) := by
  show (binInt .shl i j).map _ = _
  simp only [binInt, hj, hk, hs, and_self, if_true]
  rfl
theorem op_pow {i j : Int} (hj : 0 ≤ j) (hk : (j ≤ 1000000 ∧ small i = true) ∨ (j ≤ 16 ∧ i.natAbs < 2 ^ 256)) (h : AH) : opSem h (.bin .pow) [.v (.int i), .v (.int j)] = some (.v (.int (i ^ j.toNat))) := by
  show (binInt .pow i j).map _ = _
  simp only [binInt, hj, hk, true_and, if_true]
  rfl
/-! indexes and slices -/
theorem pick_nat {α : Type} (xs : List α) (n : Nat) : pick xs (n : Int) = xs[n]? := by
  unfold pick place
  simp only [Int.natCast_nonneg, if_true]
  by_cases hn : n < xs.length
  · simp [hn]
  · simp [hn] <;> omega
@[simp] theorem pick_cast {α : Type} (xs : List α) (n : Nat) : pick xs (n : Int) = xs[n]? := pick_nat xs n
@[simp] theorem pick_0 {α : Type} (xs : List α) : pick xs (0 : Int) = xs[0]? := pick_nat xs 0
@[simp] theorem pick_1 {α : Type} (xs : List α) : pick xs (1 : Int) = xs[1]? := pick_nat xs 1
@[simp] theorem pick_2 {α : Type} (xs : List α) : pick xs (2 : Int) = xs[2]? := pick_nat xs 2
@[simp] theorem pick_3 {α : Type} (xs : List α) : pick xs (3 : Int) = xs[3]? := pick_nat xs 3
@[simp] theorem pick_4 {α : Type} (xs : List α) : pick xs (4 : Int) = xs[4]? := pick_nat xs 4
@[simp] theorem pick_5 {α : Type} (xs : List α) : pick xs (5 : Int) = xs[5]? := pick_nat xs 5
@[simp] theorem pick_6 {α : Type} (xs : List α) : pick xs (6 : Int) = xs[6]? := pick_nat xs 6
@[simp] theorem pick_7 {α : Type} (xs : List α) : pick xs (7 : Int) = xs[7]? := pick_nat xs 7
@[simp] theorem pick_8 {α : Type} (xs : List α) : pick xs (8 : Int) = xs[8]? := pick_nat xs 8
@[simp] theorem pick_9 {α : Type} (xs : List α) : pick xs (9 : Int) = xs[9]? := pick_nat xs 9
@[simp] theorem pick_10 {α : Type} (xs : List α) : pick xs (10 : Int) = xs[10]? := pick_nat xs 10
@[simp] theorem pick_11 {α : Type} (xs : List α) : pick xs (11 : Int) = xs[11]? := pick_nat xs 11
@[simp] theorem pick_12 {α : Type} (xs : List α) : pick xs (12 : Int) = xs[12]? := pick_nat xs 12
@[simp] theorem pick_13 {α : Type} (xs : List α) : pick xs (13 : Int) = xs[13]? := pick_nat xs 13
@[simp] theorem pick_14 {α : Type} (xs : List α) : pick xs (14 : Int) = xs[14]? := pick_nat xs 14
@[simp] theorem pick_15 {α : Type} (xs : List α) : pick xs (15 : Int) = xs[15]? := pick_nat xs 15
@[simp] theorem pick_16 {α : Type} (xs : List α) : pick xs (16 : Int) = xs[16]? := pick_nat xs 16
theorem pick_int {α : Type} (xs : List α) {i : Int} (hi : 0 ≤ i) : pick xs i = xs[i.toNat]? := by
  conv => lhs; rw [← Int.toNat_of_nonneg hi]
  exact pick_nat xs i.toNat
theorem pick_mem {α : Type} (xs : List α) {i : Int} (h0 : 0 ≤ i) (h1 : i < xs.length) : ∃ x, pick xs i = some x ∧ x ∈ xs := by
  rw [pick_int xs h0]
  exact ⟨xs[i.toNat], List.getElem?_eq_getElem (by omega), List.getElem_mem _⟩
@[simp] theorem op_toStr {i : Int} (h : AH) (hi : i.natAbs < 1000000000000000000) : opSem h .toStr [.v (.int i)] = some (.v (.str (toString i))) := by
  show (if i.natAbs < 1000000000000000000 then some (RV.v (.str (toString i))) else none) = _
  rw [if_pos hi]
@[simp] theorem seq_tup (xs : List PV) (h : AH) : (RV.v (.tup xs)).seq h = some xs := (rfl)
@[simp] theorem seq_lst (xs : List PV) (h : AH) : (RV.v (.lst xs)).seq h = some xs := (rfl)
@[simp] theorem seq_sc (xs : List PV) (h : AH) : (RV.v (.sc xs)).seq h = some xs := (rfl)
@[simp] theorem seq_L (b : Bool) (xs : List PV) (h : AH) : (RV.L b xs).seq h = some xs := (rfl)
theorem seq_loc {n : Nat} {h : AH} {xs : List PV} (e : hget h n = some (.l xs)) : (RV.v (.loc n)).seq h = some xs := by simp [RV.seq, e]
@[simp] theorem lst_lst (xs : List PV) (h : AH) : (RV.v (.lst xs)).lst? h = some xs := (rfl)
@[simp] theorem lst_L (b : Bool) (xs : List PV) (h : AH) : (RV.L b xs).lst? h = some xs := (rfl)
theorem lst_loc {n : Nat} {h : AH} {xs : List PV} (e : hget h n = some (.l xs)) : (RV.v (.loc n)).lst? h = some xs := by simp [RV.lst?, e]
theorem op_ix {h : AH} {a : RV} {xs : List PV} (e : a.seq h = some xs) (k : Int) : opSem h .ix [a, .v (.int k)] = (pick xs k).map .v := by
  show ixSem h a _ = _
  simp [ixSem, e]
@[simp] theorem ix_tup (xs : List PV) (k : Int) (h : AH) : opSem h .ix [.v (.tup xs), .v (.int k)] = (pick xs k).map .v := op_ix rfl k
@[simp] theorem ix_lst (xs : List PV) (k : Int) (h : AH) : opSem h .ix [.v (.lst xs), .v (.int k)] = (pick xs k).map .v := op_ix rfl k
@[simp] theorem ix_L (b : Bool) (xs : List PV) (k : Int) (h : AH) : opSem h .ix [.L b xs, .v (.int k)] = (pick xs k).map .v := op_ix rfl k
theorem op_len {h : AH} {a : RV} {xs : List PV} (e : a.seq h = some xs) : opSem h .len [a] = some (.v (.int (xs.length : Int))) := by
  show N (Option.map _ (a.seq h)) = _
  simp [N, e]
@[simp] theorem len_tup (xs : List PV) (h : AH) : opSem h .len [.v (.tup xs)] = some (.v (.int (xs.length : Int))) := op_len rfl
@[simp] theorem len_lst (xs : List PV) (h : AH) : opSem h .len [.v (.lst xs)] = some (.v (.int (xs.length : Int))) := op_len rfl
@[simp] theorem len_L (b : Bool) (xs : List PV) (h : AH) : opSem h .len [.L b xs] = some (.v (.int (xs.length : Int))) := op_len rfl
theorem op_toTup {h : AH} {a : RV} {xs : List PV} (e : a.seq h = some xs) : opSem h .toTup [a] = some (.v (.tup xs)) := by
  show Option.map _ (a.seq h) = _
  simp [e]
theorem op_toLst {h : AH} {a : RV} {xs : List PV} (e : a.seq h = some xs) : opSem h .toLst [a] = some (.L false xs) := by
  show Option.map _ (a.seq h) = _
  simp [e]
@[simp] theorem toTup_lst (xs : List PV) (h : AH) : opSem h .toTup [.v (.lst xs)] = some (.v (.tup xs)) := op_toTup rfl
@[simp] theorem toTup_tup (xs : List PV) (h : AH) : opSem h .toTup [.v (.tup xs)] = some (.v (.tup xs)) := op_toTup rfl
@[simp] theorem toTup_L (b : Bool) (xs : List PV) (h : AH) : opSem h .toTup [.L b xs] = some (.v (.tup xs)) := op_toTup rfl
@[simp] theorem toLst_lst (xs : List PV) (h : AH) : opSem h .toLst [.v (.lst xs)] = some (.L false xs) := op_toLst rfl
@[simp] theorem toLst_tup (xs : List PV) (h : AH) : opSem h .toLst [.v (.tup xs)] = some (.L false xs) := op_toLst rfl
@[simp] theorem toLst_sc (xs : List PV) (h : AH) : opSem h .toLst [.v (.sc xs)] = some (.L false xs) := op_toLst rfl
@[simp] theorem toLst_L (b : Bool) (xs : List PV) (h : AH) : opSem h .toLst [.L b xs] = some (.L false xs) := op_toLst rfl
theorem tup_add {xs ys : List PV} (hl : xs.length + ys.length ≤ SZ) (h : AH) : opSem h (.bin .add) [.v (.tup xs), .v (.tup ys)] = some (.v (.tup (xs ++ ys))) := by
  have e : opSem h (.bin .add) [.v (.tup xs), .v (.tup ys)] = binSem h .add (.v (.tup xs)) (.v (.tup ys)) := rfl
  rw [e]
  simp [binSem, binSeq, addSeq, hl]
theorem lst_add {a b : RV} {xs ys : List PV} {h : AH} (ea : a.lst? h = some xs) (eb : b.lst? h = some ys) (hl : xs.length + ys.length ≤ SZ) : opSem h (.bin .add) [a, b] = some (.L false (xs ++ ys)) := by
  show binSem h .add a b = _
  cases a with
  | D b ks vs => cases ea
  | L b0 zs => cases ea; simp [binSem, binSeq, addSeq, catL, eb, hl]
  | v x => cases x <;> simp_all [binSem, binSeq, addSeq, catL, RV.lst?]
theorem p_op_mulT {xs : List PV} {k : Int} (h1 : -1000 ≤ k) (h2 : k ≤ 1000) (h3 : xs.length ≤ 1000) (h : AH) : opSem h (.bin .mul) [.v (.tup xs), .v (.int k)] = some (.v (.tup (rep k.toNat xs))) := by
  show binSem h .mul (.v (.tup xs)) (.v (.int k)) = _
  simp [binSem, binSeq, mulSeq, h1, h2, h3]
theorem op_mulL {b : Bool} {xs : List PV} {k : Int} (h1 : -1000 ≤ k) (h2 : k ≤ 1000000) (h3 : xs.length * k.toNat ≤ SZ) (h : AH) : opSem h (.bin .mul) [.L b xs, .v (.int k)] = some (.L false (rep k.toNat xs)) := by
  show binSem h .mul (.L b xs) (.v (.int k)) = _
  simp [binSem, binSeq, mulSeq, repL, h1, h2, h3]
theorem rep_one {α : Type} (n : Nat) (x : α) : rep n [x] = List.replicate n x := by
  unfold rep
  induction n with
  | zero => rfl
  | succ n ih => rw [List.replicate_succ, List.flatten_cons, ih, List.replicate_succ]; rfl
@[simp] theorem rev_tup (xs : List PV) (h : AH) : opSem h .rev [.v (.tup xs)] = some (.v (.tup xs.reverse)) := (rfl)
@[simp] theorem rev_lst (xs : List PV) (h : AH) : opSem h .rev [.v (.lst xs)] = some (.L false xs.reverse) := (rfl)
@[simp] theorem rev_L (b : Bool) (xs : List PV) (h : AH) : opSem h .rev [.L b xs] = some (.L false xs.reverse) := (rfl)
theorem cut_to {α : Type} (xs : List α) {j : Int} (hj : 0 ≤ j) : cut xs none (some j) = xs.take j.toNat := by
  have : ¬ j < 0 := by omega
  simp [cut, cutAt, this]
theorem cut_from {α : Type} (xs : List α) {i : Int} (hi : 0 ≤ i) : cut xs (some i) none = xs.drop i.toNat := by
  have : ¬ i < 0 := by omega
  simp [cut, cutAt, this]
  by_cases h : i.toNat ≤ xs.length
  · rw [Nat.min_eq_left h]
    exact List.take_of_length_le (by simp)
  · rw [Nat.min_eq_right (by omega), List.drop_length, List.drop_of_length_le (by omega)]
    simp
@[simp] theorem sl_to (xs : List PV) (j : Int) (h : AH) : opSem h (.sl false true) [.v (.tup xs), .v (.int j)] = some (.v (.tup (cut xs none (some j)))) := (rfl)
@[simp] theorem sl_from (xs : List PV) (j : Int) (h : AH) : opSem h (.sl true false) [.v (.tup xs), .v (.int j)] = some (.v (.tup (cut xs (some j) none))) := (rfl)
@[simp] theorem sl_toL (xs : List PV) (j : Int) (h : AH) : opSem h (.sl false true) [.v (.lst xs), .v (.int j)] = some (.L false (cut xs none (some j))) := (rfl)
@[simp] theorem sl_fromL (xs : List PV) (j : Int) (h : AH) : opSem h (.sl true false) [.v (.lst xs), .v (.int j)] = some (.L false (cut xs (some j) none)) := (rfl)
@[simp] theorem sl_toLL (b : Bool) (xs : List PV) (j : Int) (h : AH) : opSem h (.sl false true) [.L b xs, .v (.int j)] = some (.L false (cut xs none (some j))) := (rfl)
@[simp] theorem sl_fromLL (b : Bool) (xs : List PV) (j : Int) (h : AH) : opSem h (.sl true false) [.L b xs, .v (.int j)] = some (.L false (cut xs (some j) none)) := (rfl)
/-! all, any, sum over what was mapped -/
theorem pBools_map {α : Type} (l : List α) (p : α → Bool) : pBools (l.map fun a => .bl (p a)) = some (l.map p) := by
  induction l with
  | nil => rfl
  | cons a l ih => simp [pBools, ih]
@[simp] theorem all_map {α : Type} (l : List α) (p : α → Bool) (b : Bool) (h : AH) : opSem h .all [.L b (l.map fun a => .bl (p a))] = some (.v (.bl (l.all p))) := by
  show B (((RV.L b _).lst? h).bind fun xs => (pBools xs).map fun bs => bs.all id) = _
  simp [pBools_map, B, List.all_map]
@[simp] theorem any_map {α : Type} (l : List α) (p : α → Bool) (b : Bool) (h : AH) : opSem h .any [.L b (l.map fun a => .bl (p a))] = some (.v (.bl (l.any p))) := by
  show B (((RV.L b _).lst? h).bind fun xs => (pBools xs).map fun bs => bs.any id) = _
  simp [pBools_map, B, List.any_map]
theorem pInts_map {α : Type} (l : List α) (f : α → Int) : pInts (l.map fun a => .int (f a)) = some (l.map f) := by
  induction l with
  | nil => rfl
  | cons a l ih => simp [pInts, ih]
@[simp] theorem sum_map {α : Type} (l : List α) (f : α → Int) (b : Bool) (h : AH) : opSem h .sum [.L b (l.map fun a => .int (f a))] = some (.v (.int (sumI (l.map f)))) := by
  show N (((RV.L b _).seq h).bind fun xs => (pInts xs).map sumI) = _
  simp [pInts_map, N]
theorem rangeL_map (n : Nat) : ∀ lo : Int, rangeL lo n = (List.range n).map fun i => .int (lo + (i : Int)) := by
  induction n with
  | zero => intro lo; rfl
  | succ n ih =>
    intro lo
    rw [List.range_succ_eq_map]
    simp only [rangeL, ih, List.map_cons, List.map_map]
    congr 1
    · simp
    · apply List.map_congr_left
      intro i _
      simp only [Function.comp, PV.int.injEq]
      omega
theorem rg1_nat {n : Nat} (hn : n < 1073741824) : rg1 (.v (.int (n : Int))) = some ((List.range n).map fun i => .int (i : Int)) := by
  have : okInt (n : Int) = true := by simp [okInt]; omega
  simp [rg1, this, rangeL_map]
end WT
end
section
set_option linter.all false
set_option autoImplicit true
set_option maxRecDepth 100000
/-! Outcomes that are told by a property; comprehensions and loops over mapped lists. -/
namespace WT
open PySem
/-- it ends well, with what has the property -/
inductive Ev {α : Type} (o : Out α) (Q : α → AH → Prop) : Prop
  | mk (a : α) (h : AH) (e : o = .ok a h) (q : Q a h)
theorem Ev_okI {α : Type} (a : α) (h : AH) (Q : α → AH → Prop) : Ev (.ok a h) Q ↔ Q a h := ⟨fun ⟨_, _, e, q⟩ => by cases e; exact q, fun q => ⟨_, _, rfl, q⟩⟩
@[simp] theorem Ev_ok {α : Type} (a : α) (h : AH) (Q : α → AH → Prop) : Ev (.ok a h) Q = Q a h := propext (Ev_okI a h Q)
theorem Ev.ok {α : Type} {a : α} {h : AH} {Q : α → AH → Prop} (q : Q a h) : Ev (.ok a h) Q := ⟨_, _, rfl, q⟩
theorem Ev.ex {α : Type} {o : Out α} {P : α → AH → Prop} (h : Ev o P) : ∃ a h', o = .ok a h' ∧ P a h' := by
  obtain ⟨a, h', e, q⟩ := h
  exact ⟨a, h', e, q⟩
theorem Ev.mono {α : Type} {o : Out α} {P Q : α → AH → Prop} (h : Ev o P) (k : ∀ a h, P a h → Q a h) : Ev o Q := by
  obtain ⟨a, h', e, q⟩ := h
  exact ⟨a, h', e, k _ _ q⟩
theorem Ev.call {α β : Type} {o : Out α} {P : α → AH → Prop} {k : α → AH → Out β} {Q : β → AH → Prop} (h : Ev o P) (hk : ∀ a h, P a h → Ev (k a h) Q) : Ev (o.bnd k) Q := by
  obtain ⟨a, h', rfl, q⟩ := h
  exact hk _ _ q
theorem Ev_bind {α β : Type} {o : Out α} {k : α → AH → Out β} {Q : β → AH → Prop} : Ev (o.bnd k) Q ↔ Ev o fun a h => Ev (k a h) Q := by
  cases o with
  | ok a h => simp
  | exc => constructor <;> (intro h; obtain ⟨_, _, e, _⟩ := h; cases e)
  | bad => constructor <;> (intro h; obtain ⟨_, _, e, _⟩ := h; cases e)
theorem Ev.eq {α β : Type} {o : Out α} {P : α → AH → Prop} {k : α → AH → Out β} {r : Out β} (h : Ev o P) (hk : ∀ a h, P a h → k a h = r) : o.bnd k = r := by
  obtain ⟨a, h', rfl, q⟩ := h
  exact hk _ _ q
theorem Ev.of_eq {α : Type} {o : Out α} {a : α} {h : AH} {Q : α → AH → Prop} (e : o = .ok a h) (q : Q a h) : Ev o Q := by rw [e]; exact .ok q

theorem Ev_pick {β : Type} {xs : List PV} {w : Int} {h : AH} {K : RV → AH → Out β} {Q : β → AH → Prop} (P : PV → Prop) (h0 : 0 ≤ w) (h1 : w < xs.length) (hP : ∀ x ∈ xs, P x) (hk : ∀ x, P x → Ev (K (.v x) h) Q) : Ev ((Out.ofOpt ((pick xs w).map .v) h).bnd K) Q := by
  obtain ⟨x, e, hx⟩ := pick_mem xs h0 h1
  rw [e]
  exact hk x (hP x hx)
/-! comprehensions -/
def optK {α β : Type} (o : Option α) (k : α → Out β) : Out β := match o with
  | some a => k a
  | none => .bad
@[simp] theorem optK_some {α β : Type} (a : α) (k : α → Out β) : optK (some a) k = k a := (rfl)
section
variable {cf : CF} {G : Nat → Option PV}
/-- one item of a comprehension -/
def eltK (cf : CF) (G : Nat → Option PV) (own : List Nat) (t : Tg) (elt : E) (ρ : Env) (x : PV) (h : AH) : Out PV := optK (bindTg t x (wipe ρ own)) fun ρ => (evalE cf G elt ρ h).bnd fun r h => .ofOpt r.toPV h
/-- one condition -/
def condK (cf : CF) (G : Nat → Option PV) (own : List Nat) (t : Tg) (c : E) (ρ : Env) (x : PV) (h : AH) : Out Bool := optK (bindTg t x (wipe ρ own)) fun ρ => (evalE cf G c ρ h).bnd fun r h => .ofOpt (r.truth h) h
theorem eltK_of {own : List Nat} {t : Tg} {elt : E} {ρ ρ' : Env} {x y : PV} {h : AH} {r : RV} (hb : bindTg t x (wipe ρ own) = some ρ') (he : evalE cf G elt ρ' h = .ok r h) (hr : r.toPV = some y) : eltK cf G own t elt ρ x h = .ok y h := by
  simp [eltK, hb, he, hr]
theorem turn_elt {own : List Nat} {t : Tg} {elt : E} {ρ : Env} {x y : PV} {h h' : AH} (e : eltK cf G own t elt ρ x h = .ok y h') {acc : List PV} (hl : acc.length < SZ) : turnF own t (evalC cf G .nil) (appF (evalE cf G elt)) ρ x h acc = .ok (acc ++ [y]) h' := by
  unfold eltK at e
  unfold turnF
  cases eb : bindTg t x (wipe ρ own) with
  | none => rw [eb] at e; cases e
  | some ρ' =>
    rw [eb] at e
    simp only [optK_some] at e
    show (Out.bind (.ok true h) _) = _
    simp only [bnd_eq, rbind_ok, if_true]
    unfold appF
    cases ee : evalE cf G elt ρ' h with
    | ok r h1 =>
      rw [ee] at e
      simp only [bnd_eq, rbind_ok] at e ⊢
      cases er : r.toPV with
      | none => rw [er] at e; cases e
      | some z =>
        rw [er] at e
        cases e
        simp only [hl, if_true]
    | exc => rw [ee] at e; cases e
    | bad => rw [ee] at e; cases e
/-- the whole, mapped -/
theorem loop_map {α : Type} {own : List Nat} {t : Tg} {elt : E} {ρ : Env} {h : AH} (enc g : α → PV) : ∀ (l : List α) (acc : List PV), (∀ a ∈ l, eltK cf G own t elt ρ (enc a) h = .ok (g a) h) → acc.length + l.length ≤ SZ → loopL (turnF own t (evalC cf G .nil) (appF (evalE cf G elt)) ρ) (l.map enc) h acc = .ok (acc ++ l.map g) h
  | [], acc, _, _ => by simp [loopL]
  | a :: l, acc, he, hs => by
    simp only [List.length_cons] at hs
    rw [List.map_cons, loopL, turn_elt (he a (List.mem_cons_self ..)) (by omega)]
    simp only [bnd_eq, rbind_ok]
    rw [loop_map enc g l _ (fun b hb => he b (List.mem_cons_of_mem _ hb)) (by simp; omega)]
    simp
theorem lc_map {α : Type} {own : List Nat} {t : Tg} {i : It} {elt : E} {ρ : Env} {h : AH} (l : List α) (enc g : α → PV) (hi : evalI cf G i true ρ h = .ok (l.map enc) h) (he : ∀ a ∈ l, eltK cf G own t elt ρ (enc a) h = .ok (g a) h) (hs : l.length ≤ SZ) : evalE cf G (.lc own elt t i .nil .nil) ρ h = .ok (.L false (l.map g)) h := by
  show lcF (genF own t (evalI cf G i true) (evalC cf G .nil) (evalG cf G .nil (appF (evalE cf G elt)))) ρ h = _
  unfold lcF genF
  rw [hi]
  simp only [bnd_eq, rbind_ok]
  show (Out.bind (loopL (turnF own t (evalC cf G .nil) (appF (evalE cf G elt)) ρ) (l.map enc) h []) _) = _
  rw [loop_map enc g l [] he (by simpa using hs)]
  rfl
theorem turn_cond {own : List Nat} {t : Tg} {elt c : E} {ρ : Env} {x y : PV} {h h1 h2 : AH} {b : Bool} (e1 : condK cf G own t c ρ x h = .ok b h1) (e2 : b = true → eltK cf G own t elt ρ x h1 = .ok y h2) (e3 : b = false → h2 = h1) {acc : List PV} (hl : acc.length < SZ) : turnF own t (evalC cf G (.cons c .nil)) (appF (evalE cf G elt)) ρ x h acc = .ok (if b = true then acc ++ [y] else acc) h2 := by
  unfold condK at e1
  unfold turnF
  cases eb : bindTg t x (wipe ρ own) with
  | none => rw [eb] at e1; cases e1
  | some ρ' =>
    rw [eb] at e1
    simp only [optK_some] at e1
    have ec : evalC cf G (.cons c .nil) ρ' h = .ok b h1 := by
      show truthE (evalE cf G c) ρ' h = _
      unfold truthE
      cases ee : evalE cf G c ρ' h with
      | ok r h1 =>
        rw [ee] at e1
        simp only [bnd_eq, rbind_ok] at e1 ⊢
        cases er : r.truth h1 with
        | none => rw [er] at e1; cases e1
        | some z => rw [er] at e1; exact e1
      | exc => rw [ee] at e1; cases e1
      | bad => rw [ee] at e1; cases e1
    simp only [ec, bnd_eq, rbind_ok]
    cases b with
    | false => simp [e3 rfl]
    | true =>
      have := turn_elt (cf := cf) (G := G) (e2 rfl) hl
      unfold turnF at this
      rw [eb] at this
      exact this
theorem loop_filter {α : Type} {own : List Nat} {t : Tg} {elt c : E} {ρ : Env} {h : AH} (enc g : α → PV) (p : α → Bool) : ∀ (l : List α) (acc : List PV), (∀ a ∈ l, condK cf G own t c ρ (enc a) h = .ok (p a) h) → (∀ a ∈ l, p a = true → eltK cf G own t elt ρ (enc a) h = .ok (g a) h) → acc.length + l.length ≤ SZ → loopL (turnF own t (evalC cf G (.cons c .nil)) (appF (evalE cf G elt)) ρ) (l.map enc) h acc = .ok (acc ++ (l.filter p).map g) h
  | [], acc, _, _, _ => by simp [loopL]
  | a :: l, acc, hc, he, hs => by
    simp only [List.length_cons] at hs
    rw [List.map_cons, loopL, turn_cond (y := g a) (hc a (List.mem_cons_self ..)) (he a (List.mem_cons_self ..)) (fun _ => rfl) (by omega)]
    simp only [bnd_eq, rbind_ok]
    have hl : (if p a = true then acc ++ [g a] else acc).length + l.length ≤ SZ := by split <;> (try simp only [List.length_append, List.length_cons, List.length_nil]) <;> omega
    rw [loop_filter enc g p l _ (fun b hb => hc b (List.mem_cons_of_mem _ hb)) (fun b hb => he b (List.mem_cons_of_mem _ hb)) hl]
    cases hp : p a <;> simp [List.filter_cons, hp]
theorem lc_filter {α : Type} {own : List Nat} {t : Tg} {i : It} {elt c : E} {ρ : Env} {h : AH} (l : List α) (enc g : α → PV) (p : α → Bool) (hi : evalI cf G i true ρ h = .ok (l.map enc) h) (hc : ∀ a ∈ l, condK cf G own t c ρ (enc a) h = .ok (p a) h) (he : ∀ a ∈ l, p a = true → eltK cf G own t elt ρ (enc a) h = .ok (g a) h) (hs : l.length ≤ SZ) : evalE cf G (.lc own elt t i (.cons c .nil) .nil) ρ h = .ok (.L false ((l.filter p).map g)) h := by
  show lcF (genF own t (evalI cf G i true) (evalC cf G (.cons c .nil)) (evalG cf G .nil (appF (evalE cf G elt)))) ρ h = _
  unfold lcF genF
  rw [hi]
  simp only [bnd_eq, rbind_ok]
  show (Out.bind (loopL (turnF own t (evalC cf G (.cons c .nil)) (appF (evalE cf G elt)) ρ) (l.map enc) h []) _) = _
  rw [loop_filter enc g p l [] hc he (by simpa using hs)]
  rfl
/-- with effects: what an item gives is told by a property -/
theorem loop_inv {α : Type} {own : List Nat} {t : Tg} {elt : E} {ρ : Env} (enc : α → PV) (I : List PV → AH → Prop) : ∀ (l : List α) (acc : List PV) (h : AH), I acc h → (∀ a ∈ l, ∀ acc h, I acc h → Ev (eltK cf G own t elt ρ (enc a) h) fun y h' => I (acc ++ [y]) h') → acc.length + l.length ≤ SZ → Ev (loopL (turnF own t (evalC cf G .nil) (appF (evalE cf G elt)) ρ) (l.map enc) h acc) fun xs h' => I xs h' ∧ xs.length = acc.length + l.length
  | [], acc, h, hI, _, _ => .ok ⟨hI, by simp⟩
  | a :: l, acc, h, hI, he, hs => by
    simp only [List.length_cons] at hs
    obtain ⟨y, h1, e1, hI1⟩ := (he a (List.mem_cons_self ..) acc h hI).ex
    rw [List.map_cons, loopL, turn_elt e1 (by omega)]
    simp only [bnd_eq, rbind_ok]
    refine (loop_inv enc I l _ h1 hI1 (fun b hb => he b (List.mem_cons_of_mem _ hb)) (by simp; omega)).mono ?_
    rintro xs h' ⟨a1, a2⟩
    exact ⟨a1, by simp at a2 ⊢; omega⟩
theorem lc_inv {α : Type} {own : List Nat} {t : Tg} {i : It} {elt : E} {ρ : Env} {h h1 : AH} (l : List α) (enc : α → PV) (I : List PV → AH → Prop) (hi : evalI cf G i true ρ h = .ok (l.map enc) h1) (h0 : I [] h1) (he : ∀ a ∈ l, ∀ acc h, I acc h → Ev (eltK cf G own t elt ρ (enc a) h) fun y h' => I (acc ++ [y]) h') (hs : l.length ≤ SZ) : Ev (evalE cf G (.lc own elt t i .nil .nil) ρ h) fun r h' => ∃ xs, r = .L false xs ∧ I xs h' ∧ xs.length = l.length := by
  show Ev (lcF (genF own t (evalI cf G i true) (evalC cf G .nil) (evalG cf G .nil (appF (evalE cf G elt)))) ρ h) _
  unfold lcF genF
  rw [hi]
  simp only [bnd_eq, rbind_ok]
  refine Ev.call (loop_inv enc I l [] h1 h0 he (by simpa using hs)) ?_
  rintro xs h' ⟨a1, a2⟩
  exact .ok ⟨xs, rfl, a1, by simpa using a2⟩
/-- two clauses, the inner one over a list that does not hang on anything told later -/
theorem turn2 {β : Type} {own own2 : List Nat} {t t2 : Tg} {i2 : It} {elt : E} {ρ ρ' : Env} {x : PV} {h : AH} (l2 : List β) (enc2 g : β → PV) (hb : bindTg t x (wipe ρ own) = some ρ') (hi2 : evalI cf G i2 false ρ' h = .ok (l2.map enc2) h) (he : ∀ b ∈ l2, eltK cf G own2 t2 elt ρ' (enc2 b) h = .ok (g b) h) {acc : List PV} (hs : acc.length + l2.length ≤ SZ) : turnF own t (evalC cf G .nil) (evalG cf G (.cons own2 t2 i2 .nil .nil) (appF (evalE cf G elt))) ρ x h acc = .ok (acc ++ l2.map g) h := by
  unfold turnF
  rw [hb]
  show (Out.bind (.ok true h) _) = _
  simp only [bnd_eq, rbind_ok, if_true]
  show genF own2 t2 (evalI cf G i2 false) (evalC cf G .nil) (evalG cf G .nil (appF (evalE cf G elt))) ρ' h acc = _
  unfold genF
  rw [hi2]
  simp only [bnd_eq, rbind_ok]
  exact loop_map enc2 g l2 acc he hs
theorem loop2 {α β : Type} {own own2 : List Nat} {t t2 : Tg} {i2 : It} {elt : E} {ρ : Env} {h : AH} (enc : α → PV) (ρ' : α → Env) (l2 : α → List β) (enc2 : α → β → PV) (g : α → β → PV) : ∀ (l : List α) (acc : List PV), (∀ a ∈ l, bindTg t (enc a) (wipe ρ own) = some (ρ' a)) → (∀ a ∈ l, evalI cf G i2 false (ρ' a) h = .ok ((l2 a).map (enc2 a)) h) → (∀ a ∈ l, ∀ b ∈ l2 a, eltK cf G own2 t2 elt (ρ' a) (enc2 a b) h = .ok (g a b) h) → acc.length + (l.flatMap l2).length ≤ SZ →
    loopL (turnF own t (evalC cf G .nil) (evalG cf G (.cons own2 t2 i2 .nil .nil) (appF (evalE cf G elt))) ρ) (l.map enc) h acc = .ok (acc ++ l.flatMap fun a => (l2 a).map (g a)) h
  | [], acc, _, _, _, _ => by simp [loopL]
  | a :: l, acc, hb, hi, he, hs => by
    simp only [List.flatMap_cons, List.length_append] at hs
    rw [List.map_cons, loopL, turn2 (l2 a) (enc2 a) (g a) (hb a (List.mem_cons_self ..)) (hi a (List.mem_cons_self ..)) (he a (List.mem_cons_self ..)) (by omega)]
    simp only [bnd_eq, rbind_ok]
    rw [loop2 enc ρ' l2 enc2 g l _ (fun b m => hb b (List.mem_cons_of_mem _ m)) (fun b m => hi b (List.mem_cons_of_mem _ m)) (fun b m => he b (List.mem_cons_of_mem _ m)) (by simp only [List.length_append, List.length_map]; omega)]
    simp
theorem lc_two {α β : Type} {own own2 : List Nat} {t t2 : Tg} {i i2 : It} {elt : E} {ρ : Env} {h : AH} (l : List α) (enc : α → PV) (ρ' : α → Env) (l2 : α → List β) (enc2 : α → β → PV) (g : α → β → PV) (hi : evalI cf G i true ρ h = .ok (l.map enc) h) (hb : ∀ a ∈ l, bindTg t (enc a) (wipe ρ own) = some (ρ' a)) (hi2 : ∀ a ∈ l, evalI cf G i2 false (ρ' a) h = .ok ((l2 a).map (enc2 a)) h) (he : ∀ a ∈ l, ∀ b ∈ l2 a, eltK cf G own2 t2 elt (ρ' a) (enc2 a b) h = .ok (g a b) h) (hs : (l.flatMap l2).length ≤ SZ) :
    evalE cf G (.lc own elt t i .nil (.cons own2 t2 i2 .nil .nil)) ρ h = .ok (.L false (l.flatMap fun a => (l2 a).map (g a))) h := by
  show lcF (genF own t (evalI cf G i true) (evalC cf G .nil) (evalG cf G (.cons own2 t2 i2 .nil .nil) (appF (evalE cf G elt)))) ρ h = _
  unfold lcF genF
  rw [hi]
  simp only [bnd_eq, rbind_ok]
  rw [loop2 enc ρ' l2 enc2 g l [] hb hi2 he (by simpa using hs)]
  rfl
end
/-! zip -/
theorem zip2 (xs ys : List PV) : zipAll [xs, ys] = (xs.zip ys).map fun p => .tup [p.1, p.2] := by
  apply List.ext_getElem
  · simp [zipAll, minLen]
  · intro i h1 h2
    simp [zipAll, minLen] at h1
    simp [zipAll, show i < xs.length by omega, show i < ys.length by omega]
theorem zip2_map {α β : Type} (l : List α) (m : List β) (f : α → PV) (g : β → PV) : zipAll [l.map f, m.map g] = (l.zip m).map fun p => .tup [f p.1, g p.2] := by
  rw [zip2, List.zip_map, List.map_map]
  rfl
section
variable {cf : CF} {G : Nat → Option PV}
/-- every item gives some item of a sort -/
theorem lc_some {α β : Type} {own : List Nat} {t : Tg} {i : It} {elt : E} {ρ : Env} {h : AH} (l : List α) (enc : α → PV) (dec : β → PV) (p : β → Prop) (hi : evalI cf G i true ρ h = .ok (l.map enc) h) (he : ∀ a ∈ l, ∃ b, p b ∧ eltK cf G own t elt ρ (enc a) h = .ok (dec b) h) (hs : l.length ≤ SZ) : ∃ bs : List β, bs.length = l.length ∧ (∀ b ∈ bs, p b) ∧ evalE cf G (.lc own elt t i .nil .nil) ρ h = .ok (.L false (bs.map dec)) h := by
  have e := lc_inv l enc (fun acc h' => h' = h ∧ ∃ bs : List β, acc = bs.map dec ∧ ∀ b ∈ bs, p b) hi ⟨rfl, [], rfl, by simp⟩ (own := own) (t := t) (elt := elt) (by
    rintro a ha acc h' ⟨rfl, bs, rfl, hb⟩
    obtain ⟨b, hb2, e⟩ := he a ha
    rw [e]
    exact .ok ⟨rfl, bs ++ [b], by simp, by intro c hc; simp at hc; exact hc.elim (hb c) (fun e => e ▸ hb2)⟩) hs
  obtain ⟨r, h', e, xs, rfl, ⟨rfl, bs, rfl, hb⟩, hl⟩ := e.ex
  exact ⟨bs, by simpa using hl, hb, e⟩
end
/-! for -/
/-- a turn of a for -/
def stepK (t : Tg) (b : FS) (x : PV) (ρ : Env) (h : AH) : Out (Fl × Env) := optK (bindTg t x ρ) fun ρ => b ρ h
theorem step_eq (t : Tg) (b : FS) : (fun (x : PV) (ρ : Env) (h : AH) => match bindTg t x ρ with
  | some ρ => b ρ h
  | none => .bad) = stepK t b := by
  funext x ρ h
  unfold stepK
  cases bindTg t x ρ <;> rfl
section
variable (cf : CF) (G : Nat → Option PV)
theorem exf (t : Tg) (i : It) (b : List S) (ρ : Env) (h : AH) : execS cf G (.for_ t i b) ρ h = (evalI cf G i false ρ h).bnd fun xs h => forL (stepK t (execSs cf G b)) xs ρ h := by
  rw [ex_for]
  congr 1
  funext xs h
  congr 1
  exact step_eq t _
end
def forK (step : PV → Env → AH → Out (Fl × Env)) (xs : List PV) (r : Fl × Env) (h : AH) : Out (Fl × Env) := match r.1 with
  | .nx => forL step xs r.2 h
  | .cont => forL step xs r.2 h
  | .brk => .ok (.nx, r.2) h
  | .ret q => .ok (.ret q, r.2) h
@[simp] theorem forK_nx (step : PV → Env → AH → Out (Fl × Env)) (xs : List PV) (ρ : Env) (h : AH) : forK step xs (.nx, ρ) h = forL step xs ρ h := (rfl)
@[simp] theorem forK_cont (step : PV → Env → AH → Out (Fl × Env)) (xs : List PV) (ρ : Env) (h : AH) : forK step xs (.cont, ρ) h = forL step xs ρ h := (rfl)
@[simp] theorem forK_brk (step : PV → Env → AH → Out (Fl × Env)) (xs : List PV) (ρ : Env) (h : AH) : forK step xs (.brk, ρ) h = .ok (.nx, ρ) h := (rfl)
@[simp] theorem forK_ret (step : PV → Env → AH → Out (Fl × Env)) (xs : List PV) (q : RV) (ρ : Env) (h : AH) : forK step xs (.ret q, ρ) h = .ok (.ret q, ρ) h := (rfl)
theorem p_forL_cons (step : PV → Env → AH → Out (Fl × Env)) (x : PV) (xs : List PV) (ρ : Env) (h : AH) : forL step (x :: xs) ρ h = (step x ρ h).bnd fun r h => forK step xs r h := by
  rw [forL, bnd_eq]
  rfl
theorem forL_nil (step : PV → Env → AH → Out (Fl × Env)) (ρ : Env) (h : AH) : forL step [] ρ h = .ok (.nx, ρ) h := (rfl)
/-- turns that all go on, told by an invariant over what is left -/
theorem for_inv {α : Type} {step : PV → Env → AH → Out (Fl × Env)} (enc : α → PV) (I : List α → Env → AH → Prop) : ∀ (l : List α) (ρ : Env) (h : AH), I l ρ h → (∀ a l' ρ h, I (a :: l') ρ h → Ev (step (enc a) ρ h) fun q h' => (q.1 = .nx ∨ q.1 = .cont) ∧ I l' q.2 h') → Ev (forL step (l.map enc) ρ h) fun q h' => q.1 = .nx ∧ I [] q.2 h'
  | [], ρ, h, hI, _ => .ok ⟨rfl, hI⟩
  | a :: l, ρ, h, hI, hs => by
    rw [List.map_cons, forL]
    refine Ev.call (hs a l ρ h hI) ?_
    rintro ⟨fl, ρ'⟩ h' ⟨hf, hI'⟩
    rcases hf with hf | hf
    · simp only at hf
      subst hf
      exact for_inv enc I l ρ' h' hI' hs
    · simp only at hf
      subst hf
      exact for_inv enc I l ρ' h' hI' hs
/-- a pure for: the frame is a function of a state that is folded -/
theorem for_fold {α σ : Type} {step : PV → Env → AH → Out (Fl × Env)} (enc : α → PV) (env : σ → Env) (upd : σ → α → σ) (h : AH) : ∀ (l : List α) (s : σ), (∀ a ∈ l, ∀ s, step (enc a) (env s) h = .ok (.nx, env (upd s a)) h) → forL step (l.map enc) (env s) h = .ok (.nx, env (l.foldl upd s)) h
  | [], s, _ => rfl
  | a :: l, s, hs => by
    rw [List.map_cons, forL, hs a (List.mem_cons_self ..) s]
    exact for_fold enc env upd h l (upd s a) fun b m => hs b (List.mem_cons_of_mem _ m)
/-- a pure for over range(k) -/
theorem for_upto {step : PV → Env → AH → Out (Fl × Env)} (enc : Nat → PV) (P : Nat → Env → Prop) (h : AH) : ∀ (k : Nat) (ρ : Env), P 0 ρ → (∀ i, i < k → ∀ ρ, P i ρ → ∃ ρ', step (enc i) ρ h = .ok (.nx, ρ') h ∧ P (i + 1) ρ') → ∃ ρ', forL step ((List.range k).map enc) ρ h = .ok (.nx, ρ') h ∧ P k ρ' := by
  have aux : ∀ (m i : Nat) (k : Nat) (ρ : Env), i + m = k → P i ρ → (∀ i, i < k → ∀ ρ, P i ρ → ∃ ρ', step (enc i) ρ h = .ok (.nx, ρ') h ∧ P (i + 1) ρ') → ∃ ρ', forL step ((List.range' i m).map enc) ρ h = .ok (.nx, ρ') h ∧ P k ρ' := by
    intro m
    induction m with
    | zero => intro i k ρ e hP _; exact ⟨ρ, rfl, by rw [← e]; exact hP⟩
    | succ m ih =>
      intro i k ρ e hP hs
      obtain ⟨ρ1, e1, h1⟩ := hs i (by omega) ρ hP
      obtain ⟨ρ2, e2, h2⟩ := ih (i + 1) k ρ1 (by omega) h1 hs
      refine ⟨ρ2, ?_, h2⟩
      rw [List.range'_succ, List.map_cons, forL, e1]
      exact e2
  intro k ρ h0 hs
  rw [List.range_eq_range']
  exact aux k 0 k ρ (by omega) h0 hs
theorem for_upto_b {β : Type} {step : PV → Env → AH → Out (Fl × Env)} {enc : Nat → PV} {h : AH} {k : Nat} {ρ : Env} {K : Fl × Env → AH → Out β} {R : Out β} (P : Nat → Env → Prop) (h0 : P 0 ρ) (hs : ∀ i, i < k → ∀ ρ, P i ρ → ∃ ρ', step (enc i) ρ h = .ok (.nx, ρ') h ∧ P (i + 1) ρ') (hk : ∀ ρ', P k ρ' → K (.nx, ρ') h = R) : (forL step ((List.range k).map enc) ρ h).bnd K = R := by
  obtain ⟨ρ', e, hp⟩ := for_upto enc P h k ρ h0 hs
  rw [e]
  exact hk ρ' hp
/-- a pure for, told by an invariant over what is done and what is left -/
theorem for_list_b {α β : Type} {step : PV → Env → AH → Out (Fl × Env)} {enc : α → PV} {h : AH} {ρ : Env} {K : Fl × Env → AH → Out β} {R : Out β} {l : List α} (P : List α → Env → Prop) (h0 : P [] ρ) (hs : ∀ d a e, d ++ a :: e = l → ∀ ρ, P d ρ → ∃ ρ', step (enc a) ρ h = .ok (.nx, ρ') h ∧ P (d ++ [a]) ρ') (hk : ∀ ρ', P l ρ' → K (.nx, ρ') h = R) : (forL step (l.map enc) ρ h).bnd K = R := by
  have aux : ∀ (e d : List α) (ρ : Env), d ++ e = l → P d ρ → ∃ ρ', forL step (e.map enc) ρ h = .ok (.nx, ρ') h ∧ P l ρ' := by
    intro e
    induction e with
    | nil => intro d ρ e hp; exact ⟨ρ, rfl, by simpa [← e] using hp⟩
    | cons a e ih =>
      intro d ρ eq hp
      obtain ⟨ρ1, e1, h1⟩ := hs d a e eq ρ hp
      obtain ⟨ρ2, e2, h2⟩ := ih (d ++ [a]) ρ1 (by simpa using eq) h1
      refine ⟨ρ2, ?_, h2⟩
      rw [List.map_cons, forL, e1]
      exact e2
  obtain ⟨ρ', e, hp⟩ := aux l [] ρ rfl h0
  rw [e]
  exact hk ρ' hp
/-- with effects -/
theorem for_inv_b {α β : Type} {step : PV → Env → AH → Out (Fl × Env)} {enc : α → PV} {h : AH} {ρ : Env} {K : Fl × Env → AH → Out β} {Q : β → AH → Prop} {l : List α} (I : Env → AH → Prop) (h0 : I ρ h) (hs : ∀ a ∈ l, ∀ ρ h, I ρ h → Ev (step (enc a) ρ h) fun q h' => (q.1 = .nx ∨ q.1 = .cont) ∧ I q.2 h') (hk : ∀ ρ' h', I ρ' h' → Ev (K (.nx, ρ') h') Q) : Ev ((forL step (l.map enc) ρ h).bnd K) Q := by
  have aux : ∀ (e : List α) (ρ : Env) (h : AH), (∀ a ∈ e, a ∈ l) → I ρ h → Ev (forL step (e.map enc) ρ h) fun q h' => q.1 = .nx ∧ I q.2 h' := by
    intro e
    induction e with
    | nil => intro ρ h _ hi; exact .ok ⟨rfl, hi⟩
    | cons a e ih =>
      intro ρ h hm hi
      rw [List.map_cons, forL]
      refine Ev.call (hs a (hm a (by simp)) ρ h hi) ?_
      rintro ⟨fl, ρ'⟩ h' ⟨hf, hi'⟩
      rcases hf with hf | hf <;> simp only at hf <;> subst hf <;> exact ih ρ' h' (fun b hb => hm b (by simp [hb])) hi'
  refine Ev.call (aux l ρ h (fun _ m => m) h0) ?_
  rintro ⟨fl, ρ'⟩ h' ⟨hf, hi⟩
  simp only at hf
  subst hf
  exact hk ρ' h' hi
theorem for_list_e {α β : Type} {step : PV → Env → AH → Out (Fl × Env)} {enc : α → PV} {h : AH} {ρ : Env} {K : Fl × Env → AH → Out β} {Q : β → AH → Prop} {l : List α} (P : List α → Env → Prop) (h0 : P [] ρ) (hs : ∀ d a e, d ++ a :: e = l → ∀ ρ, P d ρ → ∃ ρ', step (enc a) ρ h = .ok (.nx, ρ') h ∧ P (d ++ [a]) ρ') (hk : ∀ ρ', P l ρ' → Ev (K (.nx, ρ') h) Q) : Ev ((forL step (l.map enc) ρ h).bnd K) Q := by
  have key : ∃ ρ', forL step (l.map enc) ρ h = .ok (.nx, ρ') h ∧ P l ρ' := by
    have aux : ∀ (e d : List α) (ρ : Env), d ++ e = l → P d ρ → ∃ ρ', forL step (e.map enc) ρ h = .ok (.nx, ρ') h ∧ P l ρ' := by
      intro e
      induction e with
      | nil => intro d ρ e hp; exact ⟨ρ, rfl, by simpa [← e] using hp⟩
      | cons a e ih =>
        intro d ρ eq hp
        obtain ⟨ρ1, e1, h1⟩ := hs d a e eq ρ hp
        obtain ⟨ρ2, e2, h2⟩ := ih (d ++ [a]) ρ1 (by simpa using eq) h1
        refine ⟨ρ2, ?_, h2⟩
        rw [List.map_cons, forL, e1]
        exact e2
    exact aux l [] ρ rfl h0
  obtain ⟨ρ', e, hp⟩ := key
  rw [e]
  exact hk ρ' hp
theorem Ev.elim {α : Type} {o : Out α} {Q : α → AH → Prop} {C : Prop} (h : Ev o Q) (k : ∀ a h, Q a h → o = .ok a h → C) : C := by
  obtain ⟨a, h', e, q⟩ := h
  exact k a h' q e
end WT
end
section
set_option linter.all false
set_option autoImplicit true
set_option maxRecDepth 100000
/-! Truths, rows and functions as values; data that can be compared. -/
namespace WT
open PySem
def rowV (r : List Bool) : PV := .tup (r.map tr)
def fnV (k : Nat) (t : List Bool) : PV := .tup [.int (k : Int), .tup (t.map tr)]
def rowsOf : Nat → List (List Bool)
  | 0 => [[]]
  | k + 1 => (rowsOf k).flatMap fun r => [r ++ [false], r ++ [true]]
def idx (r : List Bool) : Nat := r.foldl (fun a b => 2 * a + b.toNat) 0
def vat (t : List Bool) (r : List Bool) : Bool := t.getD (idx r) false
theorem rowsOf_length (k : Nat) : (rowsOf k).length = 2 ^ k := by
  induction k with
  | zero => rfl
  | succ k ih =>
    have hl : ∀ l : List (List Bool), (l.flatMap fun r => [r ++ [false], r ++ [true]]).length = 2 * l.length := by
      intro l
      induction l with
      | nil => rfl
      | cons a l ih => rw [List.flatMap_cons, List.length_append, ih, List.length_cons]; simp; omega
    rw [rowsOf, hl, ih, Nat.pow_succ, Nat.mul_comm]
theorem mem_rowsOf {k : Nat} {r : List Bool} : r ∈ rowsOf k ↔ r.length = k := by
  induction k generalizing r with
  | zero => simp [rowsOf]
  | succ k ih =>
    simp only [rowsOf, List.mem_flatMap, ih, List.mem_cons, List.not_mem_nil, or_false]
    constructor
    · rintro ⟨s, hs, rfl | rfl⟩ <;> simp [hs]
    · intro hr
      have hne : r ≠ [] := by intro e; simp [e] at hr
      refine ⟨r.dropLast, by simp [hr], ?_⟩
      have := List.dropLast_concat_getLast hne
      cases hb : r.getLast hne <;> rw [hb] at this
      · exact .inl this.symm
      · exact .inr this.symm
theorem idx_append (r : List Bool) (b : Bool) : idx (r ++ [b]) = 2 * idx r + b.toNat := by simp [idx]
theorem idx_lt (r : List Bool) : idx r < 2 ^ r.length := by
  have aux : ∀ (s : List Bool) (a k : Nat), a < 2 ^ k → s.foldl (fun a b => 2 * a + b.toNat) a < 2 ^ (k + s.length) := by
    intro s
    induction s with
    | nil => intro a k h; exact h
    | cons b s ih =>
      intro a k h
      have hb : b.toNat ≤ 1 := Bool.toNat_le b
      have := ih (2 * a + b.toNat) (k + 1) (by rw [Nat.pow_succ]; omega)
      rw [List.foldl_cons, List.length_cons, show k + (s.length + 1) = k + 1 + s.length by omega]
      exact this
  have := aux r 0 0 (by decide)
  rwa [Nat.zero_add] at this
theorem rows_idx (k : Nat) : (rowsOf k).map idx = List.range (2 ^ k) := by
  induction k with
  | zero => rfl
  | succ k ih =>
    have : (rowsOf (k + 1)).map idx = ((rowsOf k).map idx).flatMap fun i => [2 * i, 2 * i + 1] := by
      simp only [rowsOf, List.map_flatMap, List.flatMap_map, List.map_cons, List.map_nil, idx_append, Bool.toNat_false, Bool.toNat_true, Nat.add_zero]
    rw [this, ih]
    apply List.ext_getElem?
    have hl : ∀ n : Nat, (List.range n).flatMap (fun i => [2 * i, 2 * i + 1]) = List.range (2 * n) := by
      intro n
      induction n with
      | zero => rfl
      | succ n ihn => rw [List.range_succ, List.flatMap_append, ihn, show 2 * (n + 1) = 2 * n + 1 + 1 by omega, List.range_succ, List.range_succ]; simp
    intro i
    rw [hl, Nat.pow_succ, Nat.mul_comm]
theorem rowsOf_get {k i : Nat} (h : i < 2 ^ k) : ∃ r, (rowsOf k)[i]? = some r ∧ idx r = i ∧ r.length = k := by
  have h1 : i < (rowsOf k).length := by rw [rowsOf_length]; exact h
  refine ⟨(rowsOf k)[i], by simp [h1], ?_, mem_rowsOf.mp (List.getElem_mem h1)⟩
  have e := congrArg (fun l => l[i]?) (rows_idx k)
  simp [h1, h] at e
  exact e
theorem rowsOf_get_idx (r : List Bool) : (rowsOf r.length)[idx r]? = some r := by
  obtain ⟨s, hs⟩ := List.getElem?_of_mem (mem_rowsOf.mpr (rfl : r.length = r.length))
  have e := congrArg (fun l => l[s]?) (rows_idx r.length)
  simp only [List.getElem?_map, hs, Option.map_some] at e
  have : s = idx r := by
    have h1 := (List.getElem?_eq_some_iff.mp e.symm)
    obtain ⟨a, b⟩ := h1
    simpa using b
  rw [← this, hs]
theorem idx_inj {r s : List Bool} (hl : r.length = s.length) (h : idx r = idx s) : r = s := by
  have a := rowsOf_get_idx r
  have b := rowsOf_get_idx s
  rw [hl, h, b] at a
  exact (Option.some.inj a).symm
/-- the values at all rows are the table -/
theorem map_vat {k : Nat} {t : List Bool} (h : t.length = 2 ^ k) : (rowsOf k).map (vat t) = t := by
  have : (rowsOf k).map (vat t) = ((rowsOf k).map idx).map (fun i => t.getD i false) := by simp [vat]
  rw [this, rows_idx, ← h]
  apply List.ext_getElem
  · simp
  · intro i h1 h2
    simp [h2]
theorem p_SZ_eq : SZ = 16777216 := rfl
theorem SZ_ge {n : Nat} (h : n ≤ 1048576) : n ≤ SZ := by rw [p_SZ_eq]; omega
theorem pow20 {k : Nat} (h : k ≤ 20) : 2 ^ k ≤ 1048576 := Nat.le_trans (Nat.pow_le_pow_right (by decide) h) (by decide)
theorem length_two {α β : Type} (l : List α) (x y : α → β) : (l.flatMap fun r => [x r, y r]).length = 2 * l.length := by
  induction l with
  | nil => rfl
  | cons a l ih => rw [List.flatMap_cons, List.length_append, ih, List.length_cons]; simp; omega
theorem beqI (a b : Int) : (a == b) = decide (b = a) := by rw [Bool.eq_iff_iff]; simp; exact eq_comm
/-! data -/
theorem flats_map {n : Nat} {α : Type} (l : List α) (f : α → PV) (h : ∀ a, flat n (f a) = true) : flats n (l.map f) = true := by
  induction l with
  | nil => rfl
  | cons a l ih => simp [flats, h, ih]
@[simp] theorem flat_int (n : Nat) (i : Int) : flat n (.int i) = true := by cases n <;> rfl
@[simp] theorem flat_bl (n : Nat) (b : Bool) : flat n (.bl b) = true := by cases n <;> rfl
@[simp] theorem flat_non (n : Nat) : flat n .non = true := by cases n <;> rfl
@[simp] theorem flat_tr (n : Nat) (b : Bool) : flat n (tr b) = true := flat_int n _
@[simp] theorem flats_nil (n : Nat) : flats n [] = true := by cases n <;> rfl
@[simp] theorem flats_cons (n : Nat) (x : PV) (xs : List PV) : flats n (x :: xs) = (flat n x && flats n xs) := by cases n <;> rfl
@[simp] theorem flat_tup (n : Nat) (xs : List PV) : flat (n + 1) (.tup xs) = flats n xs := (rfl)
@[simp] theorem flat_lst (n : Nat) (xs : List PV) : flat (n + 1) (.lst xs) = flats n xs := (rfl)
@[simp] theorem flats_trs (n : Nat) (l : List Bool) : flats n (l.map tr) = true := flats_map l tr fun r => flat_tr n r
@[simp] theorem flat_row (n : Nat) (r : List Bool) : flat (n + 1) (rowV r) = true := flats_trs n r
@[simp] theorem flat_fn (n : Nat) (k : Nat) (t : List Bool) : flat (n + 2) (fnV k t) = true := by simp [fnV]
@[simp] theorem flats_rows (n : Nat) (l : List (List Bool)) : flats (n + 1) (l.map rowV) = true := flats_map l rowV fun r => flat_row n r
@[simp] theorem pyEq_tr (a b : Bool) : pyEq (tr a) (tr b) = (a == b) := by cases a <;> cases b <;> rfl
theorem pyEqs_map {α : Type} [BEq α] (f : α → PV) (hf : ∀ a b, pyEq (f a) (f b) = (a == b)) : ∀ l m : List α, pyEqs (l.map f) (m.map f) = (l == m)
  | [], [] => rfl
  | [], b :: m => rfl
  | a :: l, [] => rfl
  | a :: l, b :: m => by
    simp only [List.map_cons, pyEqs, hf, pyEqs_map f hf l m]
    rfl
@[simp] theorem pyEq_row (r s : List Bool) : pyEq (rowV r) (rowV s) = (r == s) := by
  show pyEqs _ _ = _
  exact pyEqs_map tr pyEq_tr r s
@[simp] theorem memP_rows (r : List Bool) (l : List (List Bool)) : memP (rowV r) (l.map rowV) = l.contains r := by
  induction l with
  | nil => rfl
  | cons s l ih =>
    simp only [List.map_cons, memP, pyEq_row, ih, List.contains_cons]
    rw [BEq.comm]
def isInt : PV → Bool
  | .int _ => true
  | _ => false
def isTr : PV → Bool
  | .int i => decide (i = 0) || decide (i = 1)
  | _ => false
def isRow (n : Int) : PV → Bool
  | .tup xs => decide ((xs.length : Int) = n) && xs.all isTr
  | _ => false
def isFn : PV → Bool
  | .tup xs => match xs with
    | [.int k, t] => decide (1 ≤ k) && decide (k ≤ 24) && isRow (2 ^ k.toNat) t
    | _ => false
  | _ => false
@[simp] theorem isTr_tr (b : Bool) : isTr (tr b) = true := by cases b <;> rfl
@[simp] theorem isInt_tr (b : Bool) : isInt (tr b) = true := (rfl)
theorem all_tr (r : List Bool) : (r.map tr).all isTr = true := by simp
@[simp] theorem isRow_row (n : Int) (r : List Bool) : isRow n (rowV r) = decide ((r.length : Int) = n) := by simp [isRow, rowV]
theorem isFn_fn {k : Nat} {t : List Bool} (hk : 1 ≤ k) (hk2 : k ≤ 24) (ht : t.length = 2 ^ k) : isFn (fnV k t) = true := by
  have e : isRow (2 ^ k) (.tup (t.map tr)) = true := by
    have := isRow_row (2 ^ k) t
    rw [rowV] at this
    rw [this, ht]
    simp
  have e2 : isFn (fnV k t) = (decide (1 ≤ (k : Int)) && decide ((k : Int) ≤ 24) && isRow (2 ^ (k : Int).toNat) (.tup (t.map tr))) := rfl
  rw [e2, Int.toNat_natCast, e]
  have h1 : (1 : Int) ≤ (k : Int) := by omega
  have h2 : (k : Int) ≤ 24 := by omega
  simp [h1, h2]
end WT
end
section
set_option linter.all false
set_option autoImplicit true
set_option maxRecDepth 100000
/-! Data of bounded depth; sameness. -/
namespace WT
open PySem
mutual
def fit : Nat → PV → Bool
  | _, .non => true
  | _, .bl _ => true
  | _, .int _ => true
  | _, .str s => s.cps.all (· < 0x110000)
  | d + 1, .tup xs => decide (xs.length ≤ SZ) && fits d xs
  | d + 1, .lst xs => decide (xs.length ≤ SZ) && fits d xs
  | _, _ => false
def fits : Nat → List PV → Bool
  | _, [] => true
  | d, x :: xs => fit d x && fits d xs
end
@[simp] theorem fit_int (d : Nat) (i : Int) : fit d (.int i) = true := by cases d <;> rfl
@[simp] theorem fit_bl (d : Nat) (b : Bool) : fit d (.bl b) = true := by cases d <;> rfl
@[simp] theorem fit_non (d : Nat) : fit d .non = true := by cases d <;> rfl
@[simp] theorem fit_tr (d : Nat) (b : Bool) : fit d (tr b) = true := fit_int d _
@[simp] theorem fits_nil (d : Nat) : fits d [] = true := by cases d <;> rfl
@[simp] theorem fits_cons (d : Nat) (x : PV) (xs : List PV) : fits d (x :: xs) = (fit d x && fits d xs) := by cases d <;> rfl
@[simp] theorem fit_tup (d : Nat) (xs : List PV) : fit (d + 1) (.tup xs) = (decide (xs.length ≤ SZ) && fits d xs) := rfl
@[simp] theorem fit_lst (d : Nat) (xs : List PV) : fit (d + 1) (.lst xs) = (decide (xs.length ≤ SZ) && fits d xs) := rfl
theorem fits_iff {d : Nat} : ∀ {xs : List PV}, fits d xs = true ↔ ∀ x ∈ xs, fit d x = true
  | [] => by simp
  | x :: xs => by simp [fits_iff (xs := xs)]
theorem fits_map {d : Nat} {α : Type} (l : List α) (f : α → PV) (h : ∀ a ∈ l, fit d (f a) = true) : fits d (l.map f) = true := by
  rw [fits_iff]
  intro x hx
  obtain ⟨a, ha, rfl⟩ := List.mem_map.mp hx
  exact h a ha
mutual
theorem fit_flat : ∀ (d : Nat) (x : PV), fit d x = true → ∀ m, d ≤ m → flat m x = true
  | d, .non, _, m, _ => flat_non m
  | d, .bl b, _, m, _ => flat_bl m b
  | d, .int i, _, m, _ => flat_int m i
  | d, .str s, h, m, _ => by cases d <;> cases m <;> exact h
  | 0, .tup xs, h, _, _ => by cases h
  | 0, .lst xs, h, _, _ => by cases h
  | d + 1, .tup xs, h, 0, hm => absurd hm (by omega)
  | d + 1, .lst xs, h, 0, hm => absurd hm (by omega)
  | d + 1, .tup xs, h, m + 1, hm => fits_flats d xs (by simp at h; exact h.2) m (by omega)
  | d + 1, .lst xs, h, m + 1, hm => fits_flats d xs (by simp at h; exact h.2) m (by omega)
  | d, .dic _ _, h, _, _ => by cases d <;> cases h
  | d, .set _, h, _, _ => by cases d <;> cases h
  | d, .loc _, h, _, _ => by cases d <;> cases h
  | d, .exc _ _, h, _, _ => by cases d <;> cases h
  | d, .sc _, h, _, _ => by cases d <;> cases h
theorem fits_flats : ∀ (d : Nat) (xs : List PV), fits d xs = true → ∀ m, d ≤ m → flats m xs = true
  | d, [], _, m, _ => flats_nil m
  | d, x :: xs, h, m, hm => by
    simp at h
    simp [fit_flat d x h.1 m hm, fits_flats d xs h.2 m hm]
end
theorem fit_ok {d : Nat} {x : PV} (h : fit d x = true) (hd : d ≤ 60 := by decide) : okEq x = true := fit_flat d x h 60 hd
theorem fit_row {d : Nat} {r : List Bool} (h : r.length ≤ 1048576) : fit (d + 1) (rowV r) = true := by simp [rowV, SZ_ge h, fits_map]
theorem fit_fn {d k : Nat} {t : List Bool} (h : t.length ≤ 1048576) : fit (d + 2) (fnV k t) = true := by simp [fnV, SZ_ge h, fits_map, show 2 ≤ SZ by decide]
theorem fit_rowsT {d : Nat} {l : List (List Bool)} (h : l.length ≤ 1048576) (hr : ∀ r ∈ l, r.length ≤ 1048576) : fit (d + 2) (.tup (l.map rowV)) = true := by simp [SZ_ge h]; exact fits_map l rowV fun r m => fit_row (hr r m)
theorem fit_rowsL {d : Nat} {l : List (List Bool)} (h : l.length ≤ 1048576) (hr : ∀ r ∈ l, r.length ≤ 1048576) : fit (d + 2) (.lst (l.map rowV)) = true := fit_rowsT h hr
theorem fit_tup2 {d : Nat} {xs : List PV} (hl : xs.length ≤ 1048576) (hx : ∀ x ∈ xs, fit d x = true) : fit (d + 1) (.tup xs) = true := by simp [SZ_ge hl, fits_iff.mpr hx]
theorem fit_lst2 {d : Nat} {xs : List PV} (hl : xs.length ≤ 1048576) (hx : ∀ x ∈ xs, fit d x = true) : fit (d + 1) (.lst xs) = true := fit_tup2 hl hx
theorem fit_pair {d : Nat} {x y : PV} (hx : fit d x = true) (hy : fit d y = true) : fit (d + 1) (.tup [x, y]) = true := fit_tup2 (by simp) (by simp [hx, hy])
theorem fit_mono {d m : Nat} {x : PV} (h : fit d x = true) (hm : d ≤ m) : fit m x = true := by
  have key : ∀ (d : Nat) (x : PV), fit d x = true → ∀ m, d ≤ m → fit m x = true := by
    intro d
    induction d with
    | zero => intro x h m _; cases x <;> first | (cases h; done) | (cases m <;> first | rfl | exact h)
    | succ d ih =>
      intro x h m hm
      cases m with
      | zero => omega
      | succ m =>
        cases x <;> first | (cases h; done) | exact h | skip
        all_goals
          simp only [fit_tup, fit_lst, Bool.and_eq_true] at h ⊢
          exact ⟨h.1, fits_iff.mpr fun y hy => ih y (fits_iff.mp h.2 y hy) m (by omega)⟩
  exact key d x h m hm
/-- the items of a list that is shared or in the heap -/
def IsL (h : AH) (a : PV) (xs : List PV) : Prop := a = .lst xs ∨ ∃ n, a = .loc n ∧ hget h n = some (.l xs)
theorem IsL.isi {h : AH} {a : PV} {xs : List PV} (l : IsL h a xs) (ts : List Ty) : opSem h (.isi ts) [.v a] = some (.v (.bl (tyMem .list ts))) := by
  rcases l with rfl | ⟨n, rfl, e⟩
  · exact isi_lst xs ts h
  · exact isi_loc e ts
theorem IsL.seq {h : AH} {a : PV} {xs : List PV} (l : IsL h a xs) : (RV.v a).seq h = some xs := by
  rcases l with rfl | ⟨n, rfl, e⟩
  · rfl
  · exact seq_loc e
theorem IsL.isN {h : AH} {a : PV} {xs : List PV} (l : IsL h a xs) (b : Bool) : opSem h (.isN b) [.v a] = some (.v (.bl b)) := by
  rcases l with rfl | ⟨n, rfl, e⟩
  · exact isN_lst xs b h
  · exact isN_loc n b h
inductive Same (h : AH) : Nat → PV → PV → Prop
  | non (d : Nat) : Same h d .non .non
  | bl (d : Nat) (b : Bool) : Same h d (.bl b) (.bl b)
  | int (d : Nat) (i : Int) : Same h d (.int i) (.int i)
  | str (d : Nat) (s : Str) (hs : okEq (.str s) = true) : Same h d (.str s) (.str s)
  | tup (d : Nat) (xs ys : List PV) (hz : ys.length ≤ SZ) (hl : xs.length = ys.length) (hx : ∀ (i : Nat) (x y : PV), xs[i]? = some x → ys[i]? = some y → Same h d x y) : Same h (d + 1) (.tup xs) (.tup ys)
  | lst (d : Nat) (a b : PV) (xs ys : List PV) (ha : IsL h a xs) (hb : IsL h b ys) (hz : ys.length ≤ SZ) (hl : xs.length = ys.length) (hx : ∀ (i : Nat) (x y : PV), xs[i]? = some x → ys[i]? = some y → Same h d x y) : Same h (d + 1) a b
theorem Same.refl (h : AH) : ∀ (d : Nat) (x : PV), fit d x = true → d ≤ 60 → Same h d x x
  | d, .non, _, _ => .non d
  | d, .bl b, _, _ => .bl d b
  | d, .int i, _, _ => .int d i
  | d, .str s, e, hd => .str d s (fit_flat d _ e 60 hd)
  | 0, .tup xs, e, _ => by cases e
  | 0, .lst xs, e, _ => by cases e
  | d + 1, .tup xs, e, hd => by
    simp at e
    refine .tup d xs xs e.1 rfl ?_
    intro i x y hx hy
    rw [hx] at hy
    cases hy
    exact Same.refl h d x (fits_iff.mp e.2 x (List.mem_of_getElem? hx)) (by omega)
  | d + 1, .lst xs, e, hd => by
    simp at e
    refine .lst d _ _ xs xs (.inl rfl) (.inl rfl) e.1 rfl ?_
    intro i x y hx hy
    rw [hx] at hy
    cases hy
    exact Same.refl h d x (fits_iff.mp e.2 x (List.mem_of_getElem? hx)) (by omega)
  | d, .dic _ _, e, _ => by cases d <;> cases e
  | d, .set _, e, _ => by cases d <;> cases e
  | d, .loc _, e, _ => by cases d <;> cases e
  | d, .exc _ _, e, _ => by cases d <;> cases e
  | d, .sc _, e, _ => by cases d <;> cases e
theorem Same.mono {h : AH} {d : Nat} {x y : PV} (s : Same h d x y) : ∀ {m}, d ≤ m → Same h m x y := by
  induction s with
  | non d => intro m _; exact .non m
  | bl d b => intro m _; exact .bl m b
  | int d i => intro m _; exact .int m i
  | str d s hs => intro m _; exact .str m s hs
  | tup d xs ys hz hl hx ih =>
    intro m hm
    cases m with
    | zero => omega
    | succ m => exact .tup m xs ys hz hl fun i x y a b => ih i x y a b (by omega)
  | lst d a b xs ys ha hb hz hl hx ih =>
    intro m hm
    cases m with
    | zero => omega
    | succ m => exact .lst m a b xs ys ha hb hz hl fun i x y p q => ih i x y p q (by omega)
/-- a list of parts against a list of parts -/
theorem Same.list {h : AH} {d : Nat} {xs ys : List PV} (hz : ys.length ≤ SZ) (hl : xs.length = ys.length) (hx : ∀ (i : Nat) (x y : PV), xs[i]? = some x → ys[i]? = some y → Same h d x y) : Same h (d + 1) (.lst xs) (.lst ys) := .lst d _ _ xs ys (.inl rfl) (.inl rfl) hz hl hx
inductive Sames (h : AH) (d : Nat) : List PV → List PV → Prop
  | nil : Sames h d [] []
  | cons {x y : PV} {xs ys : List PV} (a : Same h d x y) (b : Sames h d xs ys) : Sames h d (x :: xs) (y :: ys)
theorem Sames.len {h : AH} {d : Nat} {xs ys : List PV} (s : Sames h d xs ys) : xs.length = ys.length := by
  induction s with
  | nil => rfl
  | cons _ _ ih => simp [ih]
theorem Sames.get {h : AH} {d : Nat} {xs ys : List PV} (s : Sames h d xs ys) : ∀ (i : Nat) (x y : PV), xs[i]? = some x → ys[i]? = some y → Same h d x y := by
  induction s with
  | nil => intro i x y a; simp at a
  | cons a b ih =>
    intro i x y p q
    cases i with
    | zero => simp at p q; subst p q; exact a
    | succ i => simp at p q; exact ih i x y p q
theorem Sames.lst {h : AH} {d : Nat} {xs ys : List PV} (s : Sames h d xs ys) (hz : ys.length ≤ SZ) : Same h (d + 1) (.lst xs) (.lst ys) := Same.list hz s.len s.get
/-! lists of numbers -/
def natV (i : Nat) : PV := .int (i : Int)
theorem memP_nat (i : Nat) (l : List Nat) : memP (natV i) (l.map natV) = l.contains i := by
  induction l with
  | nil => rfl
  | cons s l ih =>
    simp only [List.map_cons, memP, natV, pyEq, List.contains_cons] at ih ⊢
    rw [ih]
    congr 1
    rw [Bool.eq_iff_iff]
    simp
    omega
theorem flats_nats (d : Nat) (l : List Nat) : flats d (l.map natV) = true := flats_map l _ fun _ => flat_int d _
theorem fits_nats (d : Nat) (l : List Nat) : fits d (l.map natV) = true := fits_map l _ fun _ _ => fit_int d _
theorem notin_L {b : Bool} {x : PV} {xs : List PV} (hx : okEq x = true) (hxs : flats 60 xs = true) (h : AH) : opSem h (.cmp .notin) [.v x, .L b xs] = some (.v (.bl (!memP x xs))) := by
  show B ((inSem h (.v x) (.L b xs)).map _) = _
  simp [inSem, RV.see, hx, hxs, B]
theorem notin_lst {x : PV} {xs : List PV} (hx : okEq x = true) (hxs : flats 60 xs = true) (h : AH) : opSem h (.cmp .notin) [.v x, .v (.lst xs)] = some (.v (.bl (!memP x xs))) := by
  show B ((inSem h (.v x) (.v (.lst xs))).map _) = _
  simp [inSem, RV.see, hx, hxs, B]
theorem ne_empty {xs : List PV} (hxs : flats 59 xs = true) (h : AH) : opSem h (.cmp .ne) [.v (.lst xs), .L false []] = some (.v (.bl (!xs.isEmpty))) := by
  rw [ne_gen (by simp [RV.see, okEq, hxs]) (by simp [RV.see, okEq])]
  cases xs <;> simp [RV.see, pyEq, pyEqs]
theorem zip_same {α : Type} (l : List α) (f g : α → PV) : zipAll [l.map f, l.map g] = l.map fun a => .tup [f a, g a] := by
  rw [zip2]
  induction l with
  | nil => rfl
  | cons a l ih => simp [ih]
theorem setAt_nat {xs : List PV} {i : Nat} (hi : i < xs.length) (y : PV) : setAt xs (.v (.int (i : Int))) y = some (xs.set i y) := by
  unfold setAt place
  simp [hi]
end WT
end
section
set_option linter.all false
set_option autoImplicit true
set_option maxRecDepth 100000
namespace WT
open PySem
variable {G : Nat → Option PV} {T : Nat → Option Def}
/-- the pot of draws -/
def Pot (o : HObj) : Prop := ∃ (a b c : Int) (ns : List Int), o = .l (.int a :: .int b :: .int c :: ns.map .int) ∧ 0 ≤ a ∧ 3 ≤ c
theorem small_of {i : Int} (h0 : 0 ≤ i) (h1 : i < 18446744073709551616) : small i = true := by
  unfold small
  rw [decide_eq_true_eq]
  omega
theorem small_mod1 (x : Int) : small (x % 2147483647) = true := small_of (by omega) (by omega)
theorem small_mod2 (x : Int) : small (x % 2147483629) = true := small_of (by omega) (by omega)
theorem place0 (m : Nat) : place (m + 1 + 1 + 1) 0 = some 0 := by
  unfold place
  rw [if_pos (by decide), if_pos (by omega)]
  rfl
theorem place1 (m : Nat) : place (m + 1 + 1 + 1) 1 = some 1 := by
  unfold place
  rw [if_pos (by decide), if_pos (by omega)]
  rfl
theorem place2 (m : Nat) : place (m + 1 + 1 + 1) 2 = some 2 := by
  unfold place
  rw [if_pos (by decide), if_pos (by omega)]
  rfl
theorem ix_loc {n : Nat} {h : AH} {xs : List PV} (e : hget h n = some (.l xs)) (k : Int) : opSem h .ix [.v (.loc n), .v (.int k)] = (pick xs k).map .v := op_ix (seq_loc e) k
theorem len_loc {n : Nat} {h : AH} {xs : List PV} (e : hget h n = some (.l xs)) : opSem h .len [.v (.loc n)] = some (.v (.int (xs.length : Int))) := op_len (seq_loc e)
/-- the pot's parts -/
theorem pot_ix0 (a b c : PV) (r : List PV) (t : AH) : opSem (.l (a :: b :: c :: r) :: t) .ix [.v (.loc 0), .v (.int 0)] = some (.v a) := by rw [ix_loc (xs := a :: b :: c :: r) rfl]; simp
theorem pot_ix1 (a b c : PV) (r : List PV) (t : AH) : opSem (.l (a :: b :: c :: r) :: t) .ix [.v (.loc 0), .v (.int 1)] = some (.v b) := by rw [ix_loc (xs := a :: b :: c :: r) rfl]; simp
theorem pot_ix2 (a b c : PV) (r : List PV) (t : AH) : opSem (.l (a :: b :: c :: r) :: t) .ix [.v (.loc 0), .v (.int 2)] = some (.v c) := by rw [ix_loc (xs := a :: b :: c :: r) rfl]; simp
theorem pot_len (a b c : PV) (r : List PV) (t : AH) : opSem (.l (a :: b :: c :: r) :: t) .len [.v (.loc 0)] = some (.v (.int ((r.length : Int) + 3))) := by
  rw [len_loc (xs := a :: b :: c :: r) rfl]
  simp
  omega
theorem pot_set {ρ : Env} {i : Nat} (hs : slot ρ i = some (.v (.loc 0))) (xs : List PV) (t : AH) (f : List PV → Option (List PV)) : putL ρ (.l xs :: t) i f = match f xs with
    | some ys => nextE ρ (.l ys :: t)
    | none => .bad := by
  unfold putL
  rw [hs]
  rfl
/-- drawn by the pot's first number -/
theorem take_a (T : Nat → Option Def) (n : Nat) (a b c many : Int) (r : List PV) (t : AH) (ha : 0 ≤ a) (hm : 0 < many) (hm2 : many < 1073741824) (x1 x2 x4 : Option RV) : Ev (execSs (runFn G T n) G (D__law_take.body.drop 1) [some (.v (.loc 0)), some (.v (.int many)), x2, none, x4] (.l (.int a :: .int b :: .int c :: r) :: t)) fun q h' => ∃ ρ d a' b', q = (.ret (.v (.int d)), ρ) ∧ h' = .l (.int a' :: .int b' :: .int c :: r) :: t ∧ 0 ≤ d ∧ d < many ∧ 0 ≤ a' := by
  by_cases h0 : 0 < a
  · simp [D__law_take, pot_ix0, h0, op_mod hm, op_fdiv hm hm2]
    rw [pot_set (by rfl)]
    simp [setAt, place0, nextE]
    exact ⟨_, _, ⟨rfl, rfl⟩, Int.emod_nonneg _ (by omega), Int.emod_lt_of_pos _ hm, Int.ediv_nonneg (by omega) (by omega)⟩
  · have : a = 0 := by omega
    subst this
    simp [D__law_take, pot_ix0, pot_ix1, pot_ix2, op_mul (i := b) (j := 48271) (by simp [small]), op_mul (i := 40692) (j := c) (by simp [small]), op_mod (show (0 : Int) < 2147483647 by decide)]
    rw [pot_set (by rfl)]
    simp [setAt, place1, nextE, pot_ix0, pot_ix1, pot_ix2]
    rw [op_mul (by rw [small_mod1]; rfl)]
    simp [op_mod (show (0 : Int) < 2147483629 by decide)]
    rw [pot_set (by rfl)]
    simp [setAt, place1, nextE, pot_ix0, pot_ix1, pot_ix2, op_fdiv (show (0 : Int) < 8 by decide) (by decide), op_mod hm]
    exact ⟨_, _, ⟨rfl, rfl⟩, Int.emod_nonneg _ (by omega), Int.emod_lt_of_pos _ hm⟩
theorem take_a' (n : Nat) (a b c many : Int) (r : List PV) (t : AH) (ha : 0 ≤ a) (hm : 0 < many) (hm2 : many < 1073741824) (x2 x4 : Option RV) : ∃ ρ d a' b', execSs (runFn G T n) G (D__law_take.body.drop 1) [some (.v (.loc 0)), some (.v (.int many)), x2, none, x4] (.l (.int a :: .int b :: .int c :: r) :: t) = .ok (.ret (.v (.int d)), ρ) (.l (.int a' :: .int b' :: .int c :: r) :: t) ∧ 0 ≤ d ∧ d < many ∧ 0 ≤ a' := by
  obtain ⟨q, h', e, ρ, d, a', b', rfl, rfl, h⟩ := (take_a T n a b c many r t ha hm hm2 none x2 x4 (G := G)).ex
  exact ⟨ρ, d, a', b', e, h⟩
theorem pot_aug {cf : CF} {ρ : Env} (hs : slot ρ 0 = some (.v (.loc 0))) (a b : PV) (c : Int) (r : List PV) (t : AH) : execS cf G (.augix 0 (.cst (.int 2)) .add (.cst (.int 1))) ρ (.l (a :: b :: .int c :: r) :: t) = .ok (.nx, ρ) (.l (a :: b :: .int (c + 1) :: r) :: t) := by
  show augixS 0 (evalE cf G (.cst (.int 2))) .add (evalE cf G (.cst (.int 1))) ρ _ = _
  unfold augixS
  simp [hs, rbind_ok]
  have : ixSem (.l (a :: b :: .int c :: r) :: t) (.v (.loc 0)) (.v (.int 2)) = some (.v (.int c)) := pot_ix2 a b (.int c) r t
  simp [this, augInt, binInt, rbind_ok]
  rw [pot_set hs]
  simp [setAt, place2, nextE]
/-- what a draw leaves -/
def Drew (many : Int) (t : AH) (r : RV) (h' : AH) : Prop := ∃ d o', r = .v (.int d) ∧ h' = o' :: t ∧ Pot o' ∧ 0 ≤ d ∧ d < many
/-- a draw: some number below many; the pot stays a pot -/
theorem take_ok [H : K__law_take T] (n : Nat) {o : HObj} (ho : Pot o) {many : Int} (hm : 0 < many) (hm2 : many < 1073741824) (t : AH) : Ev (runFn G T (n + 1) 14 [.loc 0, .int many] (o :: t)) (Drew many t) := by
  obtain ⟨a, b, c, ns, rfl, ha, hc⟩ := ho
  rw [run_eq H.d n rfl rfl]
  have key : ∀ (a b c : Int) (x2 x4 : Option RV), 0 ≤ a → 3 ≤ c → Ev ((execSs (runFn G T n) G (D__law_take.body.drop 1) [some (.v (.loc 0)), some (.v (.int many)), x2, none, x4] (.l (.int a :: .int b :: .int c :: ns.map .int) :: t)).bnd fun q h' => endK (t.length + 1) q h') (Drew many t) := by
    intro a b c x2 x4 ha hc
    obtain ⟨ρ, d, a', b', e, h1, h2, h3⟩ := take_a' (G := G) (T := T) n a b c many (ns.map .int) t ha hm hm2 x2 x4
    rw [e]
    simp only [p_bind_ok, endK_ret]
    rw [leave_eq _ (by simp)]
    exact .ok ⟨_, _, rfl, rfl, ⟨a', b', c, ns, rfl, h3, hc⟩, h1, h2⟩
  show Ev ((execSs (runFn G T n) G D__law_take.body _ _).bnd _) _
  rw [show D__law_take.body = D__law_take.body.head (by simp [D__law_take]) :: D__law_take.body.drop 1 from rfl, p_ex_cons]
  simp only [bind_assoc]
  obtain ⟨tl, htl⟩ : ∃ tl, tl = execSs (runFn G T n) G (D__law_take.body.drop 1) := ⟨_, rfl⟩
  rw [← htl] at key ⊢
  have e18 : (10 : Int) ^ (18 : Int).toNat = 1000000000000000000 := by decide
  have hp : ∀ h : AH, opSem h (.bin .pow) [.v (.int 10), .v (.int 18)] = some (.v (.int 1000000000000000000)) := fun h => by rw [op_pow (by decide) (.inl ⟨by decide, by decide⟩), e18]
  by_cases h0 : a = 0
  · subst h0
    by_cases hl : c < (ns.length : Int) + 3
    · have hr : (0 : Int) ≤ c := by omega
      obtain ⟨v, hv⟩ : ∃ v, ns[(c - 3).toNat]? = some v := ⟨_, List.getElem?_eq_getElem (by omega)⟩
      have hp2 : pick (PV.int 0 :: .int b :: .int c :: ns.map .int) c = some (.int v) := by
        rw [pick_int _ hr, show c.toNat = (c - 3).toNat + 1 + 1 + 1 by omega]
        simp [hv]
      have hix : opSem (.l (.int 0 :: .int b :: .int c :: ns.map .int) :: t) .ix [.v (.loc 0), .v (.int c)] = some (.v (.int v)) := by rw [ix_loc (xs := .int 0 :: .int b :: .int c :: ns.map .int) rfl, hp2]; rfl
      simp [D__law_take, pot_ix0, pot_ix2, pot_len, hl, hix, pot_aug (cf := runFn G T n) (G := G) (ρ := [some (.v (.loc 0)), some (.v (.int many)), some (.v (.int v)), none, none]) rfl, hp]
      by_cases hv : 1000000000000000000 ≤ v
      · simp [hv]
        rw [pot_set (by rfl)]
        simp [setAt, place0, nextE]
        exact key _ _ _ _ _ (by omega) (by omega)
      · simp [hv]
        simp [op_mod (show (0 : Int) < 2147483647 by decide)]
        rw [op_mul (by rw [small_mod1]; rfl)]
        simp [op_mul (i := 69621) (by simp [small]), op_mul (i := 977) (by simp [small]), pot_ix0, pot_ix1, pot_ix2, op_mod (show (0 : Int) < 2147483629 by decide)]
        rw [pot_set (by rfl)]
        simp [setAt, place1, nextE]
        exact key _ _ _ _ _ (by omega) (by omega)
    · simp [D__law_take, pot_ix0, pot_ix2, pot_len, hl]
      exact key _ _ _ _ _ (by omega) (by omega)
  · simp [D__law_take, pot_ix0, pot_ix2, pot_len, h0]
    exact key _ _ _ _ _ (by omega) (by omega)
end WT
end
section
set_option linter.all false
set_option autoImplicit true
set_option maxRecDepth 100000
namespace WT
open PySem
variable {G : Nat → Option PV} {T : Nat → Option Def}
theorem law_rows_inner (n : Nat) (k : Nat) (x4 x2 : Option RV) (l : List (List Bool)) (h : AH) (hl : 2 * l.length ≤ 1048576) (hr : ∀ r ∈ l, r.length ≤ 20) (a : PV) : ∃ y, forL (stepK (.var 4) (execSs (runFn G T n) G [(.asg (.var 3) (.op (.bin .add) (.cons (.var 3) (.cons (.op .lst (.cons (.op (.bin .add) (.cons (.var 4) (.cons (.op .tup (.cons (.cst (.int 0)) .nil)) .nil))) (.cons (.op (.bin .add) (.cons (.var 4) (.cons (.op .tup (.cons (.cst (.int 1)) .nil)) .nil))) .nil))) .nil))))])) (l.map rowV) [some (.v (.int (k : Int))), some (.v a), x2, some (.v (.lst [])), x4] h =
    .ok (.nx, [some (.v (.int (k : Int))), some (.v a), x2, some (.v (.lst ((l.flatMap fun r => [r ++ [false], r ++ [true]]).map rowV))), y]) h := by
  have aux : ∀ (l : List (List Bool)) (acc : List (List Bool)) (x4 : Option RV), acc.length + 2 * l.length ≤ 1048576 → (∀ r ∈ l, r.length ≤ 20) → ∃ y, forL (stepK (.var 4) (execSs (runFn G T n) G [(.asg (.var 3) (.op (.bin .add) (.cons (.var 3) (.cons (.op .lst (.cons (.op (.bin .add) (.cons (.var 4) (.cons (.op .tup (.cons (.cst (.int 0)) .nil)) .nil))) (.cons (.op (.bin .add) (.cons (.var 4) (.cons (.op .tup (.cons (.cst (.int 1)) .nil)) .nil))) .nil))) .nil))))])) (l.map rowV) [some (.v (.int (k : Int))), some (.v a), x2, some (.v (.lst (acc.map rowV))), x4] h =
    .ok (.nx, [some (.v (.int (k : Int))), some (.v a), x2, some (.v (.lst ((acc ++ l.flatMap fun r => [r ++ [false], r ++ [true]]).map rowV))), y]) h := by
    intro l
    induction l with
    | nil => intro acc x4 _ _; exact ⟨x4, by simp [forL, nextE]⟩
    | cons r l ih =>
      intro acc x4 h1 h2
      simp only [List.length_cons] at h1
      have hr := h2 r (by simp)
      obtain ⟨y, e⟩ := ih (acc ++ [r ++ [false], r ++ [true]]) (some (.v (rowV r))) (by simp; omega) (fun s hs => h2 s (by simp [hs]))
      refine ⟨y, ?_⟩
      rw [List.map_cons, p_forL_cons]
      have e1 : ∀ b : Int, opSem h (.bin .add) [.v (rowV r), .v (.tup [.int b])] = some (.v (.tup (r.map tr ++ [.int b]))) := fun b => by rw [rowV, tup_add (SZ_ge (by simp; omega))]
      have e2 : opSem h (.bin .add) [.v (.lst (acc.map rowV)), .L false [.tup (r.map tr ++ [.int 0]), .tup (r.map tr ++ [.int 1])]] = some (.L false (acc.map rowV ++ [.tup (r.map tr ++ [.int 0]), .tup (r.map tr ++ [.int 1])])) := lst_add rfl rfl (SZ_ge (by simp; omega))
      simp [stepK, e1, e2]
      simp [rowV] at e
      simpa [rowV] using e
  obtain ⟨y, e⟩ := aux l [] x4 (by simpa using hl) hr
  exact ⟨y, by simpa using e⟩
theorem law_rows_gen {f : Nat} (hT : T f = some D__law_rows) (n k : Nat) (hk : k ≤ 20) (h : AH) : runFn G T (n + 1) f [.int (k : Int)] h = .ok (.v (.lst ((rowsOf k).map rowV))) h := by
  rw [run_eq hT n rfl rfl]
  have hr : rg1 (.v (.int (k : Int))) = some ((List.range k).map fun i => .int (i : Int)) := rg1_nat (by omega)
  simp [exf, hr]
  refine for_upto_b (fun j ρ => ∃ x2 x3 x4, ρ = [some (.v (.int (k : Int))), some (.v (.lst ((rowsOf j).map rowV))), x2, x3, x4]) ⟨none, none, none, rfl⟩ ?_ ?_
  · rintro i hi ρ ⟨x2, x3, x4, rfl⟩
    have p20 := pow20 (show i + 1 ≤ 20 by omega)
    rw [Nat.pow_succ] at p20
    obtain ⟨y, e⟩ := law_rows_inner (G := G) (T := T) n k x4 (some (.v (.int (i : Int)))) (rowsOf i) h (by rw [rowsOf_length]; omega) (fun r hr => by have := mem_rowsOf.mp hr; omega) (.lst ((rowsOf i).map rowV))
    refine ⟨_, ?_, some (.v (.int (i : Int))), some (.v (.lst ((rowsOf (i + 1)).map rowV))), y, rfl⟩
    simp [stepK, exf, e]
    rfl
  · rintro ρ ⟨x2, x3, x4, rfl⟩
    simp
theorem law_rows_ok [H : K__law_rows T] (n k : Nat) (hk : k ≤ 20) (h : AH) : runFn G T (n + 1) 16 [.int (k : Int)] h = .ok (.v (.lst ((rowsOf k).map rowV))) h := law_rows_gen H.d n k hk h
theorem law_at_ok [H : K__law_at T] (n : Nat) {k : Nat} {t r : List Bool} (ht : t.length = 2 ^ r.length) (h : AH) : runFn G T (n + 1) 17 [fnV k t, rowV r] h = .ok (.v (tr (vat t r))) h := by
  rw [run_eq H.d n rfl rfl]
  simp [exf, rowV]
  have e := for_fold (step := stepK (.var 3) (execSs (runFn G T n) G [(.asg (.var 2) (.op (.bin .add) (.cons (.op (.bin .mul) (.cons (.cst (.int 2)) (.cons (.var 2) .nil))) (.cons (.var 3) .nil))))])) tr (fun s : Nat × Option RV => [some (.v (fnV k t)), some (.v (.tup (r.map tr))), some (.v (.int (s.1 : Int))), s.2]) (fun s b => (2 * s.1 + b.toNat, some (.v (tr b)))) h r (0, none) (by
    rintro a - ⟨s, x⟩
    simp [stepK, tr]
    rw [op_mul (by simp [small])]
    simp)
  rw [show ((0 : Int)) = ((0 : Nat) : Int) from rfl, e]
  have : (r.foldl (fun (s : Nat × Option RV) b => (2 * s.1 + b.toNat, some (RV.v (tr b)))) (0, none)).1 = idx r := by
    have aux : ∀ (l : List Bool) (s : Nat × Option RV), (l.foldl (fun (s : Nat × Option RV) b => (2 * s.1 + b.toNat, some (RV.v (tr b)))) s).1 = l.foldl (fun a b => 2 * a + b.toNat) s.1 := by
      intro l
      induction l with
      | nil => intro s; rfl
      | cons b l ih => intro s; rw [List.foldl_cons, List.foldl_cons, ih]
    exact aux r (0, none)
  have h2 := idx_lt r
  simp [this, fnV, vat, show idx r < t.length by omega]
end WT
end
section
set_option linter.all false
set_option autoImplicit true
set_option maxRecDepth 100000
namespace WT
open PySem
variable {G : Nat → Option PV} {T : Nat → Option Def}
/-- what some draws leave -/
def DrewL (many : Int) (t : AH) (m : Nat) (r : RV) (h' : AH) : Prop := ∃ ds : List Int, ∃ o', r = .L false (ds.map .int) ∧ h' = o' :: t ∧ Pot o' ∧ ds.length = m ∧ ∀ d ∈ ds, 0 ≤ d ∧ d < many
def DrewI (many : Int) (t : AH) (acc : List PV) (h' : AH) : Prop := ∃ ds : List Int, ∃ o', acc = ds.map .int ∧ h' = o' :: t ∧ Pot o' ∧ ∀ d ∈ ds, 0 ≤ d ∧ d < many
/-- draws, one an item -/
theorem takes [H : K__law_take T] {own : List Nat} {t : Tg} {i : It} {ρ : Env} {α : Type} (n : Nat) (many : Int) (hm : 0 < many) (hm2 : many < 1073741824) (l : List α) (enc : α → PV) {tl : AH} {o : HObj} (ho : Pot o) (hi : evalI (runFn G T (n + 1)) G i true ρ (o :: tl) = .ok (l.map enc) (o :: tl)) (hb : ∀ x, ∃ ρ', bindTg t x (wipe ρ own) = some ρ' ∧ slot ρ' 0 = some (.v (.loc 0))) (hs : l.length ≤ SZ) :
    Ev (evalE (runFn G T (n + 1)) G (.lc own (.call 14 [0, 1] (.cons (.var 0) (.cons (.cst (.int many)) .nil))) t i .nil .nil) ρ (o :: tl)) (DrewL many tl l.length) := by
  refine (lc_inv l enc (DrewI many tl) hi ⟨[], o, rfl, rfl, ho, by simp⟩ ?_ hs).mono ?_
  · rintro a ha acc h' ⟨ds, o1, rfl, rfl, h1, h2⟩
    obtain ⟨ρ', e1, e2⟩ := hb (enc a)
    unfold eltK
    rw [e1]
    simp [e2]
    refine Ev.call (take_ok n h1 hm hm2 tl) ?_
    rintro _ _ ⟨d, o2, rfl, rfl, h3, h4, h5⟩
    simp only [toPV_v, ofOpt_some, Ev_ok]
    refine ⟨ds ++ [d], o2, by simp, rfl, h3, ?_⟩
    intro e he
    simp at he
    rcases he with he | rfl
    · exact h2 e he
    · exact ⟨h4, h5⟩
  · rintro r h' ⟨xs, rfl, ⟨ds, o1, rfl, rfl, h1, h2⟩, hl⟩
    exact ⟨ds, o1, rfl, rfl, h1, by simpa using hl, h2⟩
/-- numbers 0 and 1 are truths -/
theorem bits_of_ints : ∀ (ds : List Int), (∀ d ∈ ds, 0 ≤ d ∧ d < 2) → ∃ bs : List Bool, ds.map PV.int = bs.map tr ∧ bs.length = ds.length
  | [], _ => ⟨[], rfl, rfl⟩
  | d :: ds, h => by
    obtain ⟨bs, e, hl⟩ := bits_of_ints ds (fun d hd => h d (by simp [hd]))
    have hd := h d (by simp)
    have : d = 0 ∨ d = 1 := by omega
    rcases this with rfl | rfl
    · exact ⟨false :: bs, by simp [e], by simp [hl]⟩
    · exact ⟨true :: bs, by simp [e], by simp [hl]⟩
theorem bit_of_int {d : Int} (h0 : 0 ≤ d) (h1 : d < 2) : ∃ b, PV.int d = tr b := by
  have : d = 0 ∨ d = 1 := by omega
  rcases this with rfl | rfl
  · exact ⟨false, rfl⟩
  · exact ⟨true, rfl⟩
/-- what a drawn function is -/
def DrewF (k : Nat) (t : AH) (r : RV) (h' : AH) : Prop := ∃ tb o', r = .v (fnV k tb) ∧ h' = o' :: t ∧ Pot o' ∧ tb.length = 2 ^ k
theorem bit_if (c : Prop) [Decidable c] : ∃ b, PV.int (if c then 1 else 0) = tr b := by
  by_cases h : c
  · exact ⟨true, by simp [h]⟩
  · exact ⟨false, by simp [h]⟩
theorem small_lt {i : Int} (h0 : 0 ≤ i) (h1 : i < 1000000) : small i = true := by
  unfold small
  rw [decide_eq_true_eq]
  omega
theorem law_function_ok [H : K__law_function T] (n : Nat) {k : Nat} (h1 : 1 ≤ k) (hk : k ≤ 6) {o : HObj} (ho : Pot o) (t : AH) : Ev (runFn G T (n + 2) 18 [.loc 0, .int (k : Int)] (o :: t)) (DrewF k t) := by
  rw [run_eq H.d (n + 1) rfl rfl]
  simp
  rw [law_rows_ok n k (by omega)]
  simp
  refine Ev.call (take_ok n ho (by decide) (by decide) t) ?_
  rintro _ _ ⟨way, o1, rfl, rfl, p1, w0, w1⟩
  simp
  have hs : (rowsOf k).length ≤ SZ := SZ_ge (by rw [rowsOf_length]; exact pow20 (by omega))
  refine Ev.call (takes n 2 (by decide) (by decide) (rowsOf k) rowV p1 (by simp) (fun x => ⟨_, rfl, rfl⟩) hs) ?_
  rintro _ _ ⟨ds, o2, rfl, rfl, p2, hl, hd⟩
  obtain ⟨bs, eb, hbl⟩ := bits_of_ints ds hd
  rw [eb]
  have hbl : bs.length = 2 ^ k := by rw [hbl, hl, rowsOf_length]
  simp
  have : way = 0 ∨ way = 1 ∨ way = 2 ∨ way = 3 ∨ way = 4 ∨ way = 5 ∨ way = 6 ∨ way = 7 := by omega
  have hr : rg1 (.v (.int (k : Int))) = some ((List.range k).map fun i => .int (i : Int)) := rg1_nat (by omega)
  have hkz : ∀ m : Nat, m ≤ 7 → (List.range m).length ≤ SZ := fun m hm => SZ_ge (by simp; omega)
  rcases this with rfl | rfl | rfl | rfl | rfl | rfl | rfl | rfl
  · simp
    refine Ev.call (takes n 3 (by decide) (by decide) (List.range k) (fun i : Nat => .int (i : Int)) p2 (by simp [hr]) (fun x => ⟨_, rfl, rfl⟩) (hkz k (by omega))) ?_
    rintro _ _ ⟨ws, o3, rfl, rfl, p3, hwl, hw⟩
    simp
    refine Ev.call (take_ok n p3 (by decide) (by decide) t) ?_
    rintro _ _ ⟨least, o4, rfl, rfl, p4, l0, l1⟩
    simp
    obtain ⟨cs, hcl, -, ec⟩ := lc_some (cf := runFn G T (n + 1)) (G := G) (own := [11]) (t := .var 11) (i := .val (.var 3)) (elt := .op .toInt (.cons (.op (.cmp .ge) (.cons (.op .sum (.cons (.lc [18, 17] (.op (.bin .mul) (.cons (.var 18) (.cons (.var 17) .nil))) (.tup [18, 17]) (.zip (.cons (.var 5) (.cons (.var 11) .nil))) .nil .nil) .nil)) (.cons (.var 6) .nil))) .nil))
      (ρ := [some (.v (.loc 0)), some (.v (.int (k : Int))), some (.v (.lst (bs.map tr))), some (.v (.lst ((rowsOf k).map rowV))), some (.v (.int 0)), some (.v (.lst (ws.map .int))), some (.v (.int least)), none, none, none, none, none, none, none, none, none, none, none, none, none]) (h := o4 :: t) (rowsOf k) rowV tr (fun _ => True) (by simp) (by
        intro r hr
        have hr := mem_rowsOf.mp hr
        refine ⟨decide (least ≤ sumI ((ws.zip r).map fun p => p.1 * (p.2.toNat : Int))), trivial, eltK_of (r := .v (tr (decide (least ≤ sumI ((ws.zip r).map fun p => p.1 * (p.2.toNat : Int)))))) rfl ?_ rfl⟩
        simp
        rw [lc_map (ws.zip r) (fun p => .tup [.int p.1, tr p.2]) (fun p => .int (p.1 * (p.2.toNat : Int))) (by simp [rowV, itVs, zip2_map]) (fun p hp => eltK_of (r := .v (.int (p.1 * (p.2.toNat : Int)))) rfl (by
          have := hw p.1 (List.of_mem_zip hp).1
          simp [tr]
          rw [op_mul (by rw [small_lt (by omega) (by omega)]; rfl)]
          simp) rfl) (SZ_ge (by simp; omega))]
        simp) hs
    rw [ec]
    simp
    rw [leave_eq _ (by simp)]
    exact .ok ⟨cs, o4, rfl, rfl, p4, by rw [hcl, rowsOf_length]⟩
  · simp
    have hr1 : rg1 (.v (.int ((k : Int) + 1))) = some ((List.range (k + 1)).map fun i => .int (i : Int)) := rg1_nat (n := k + 1) (by omega)
    refine Ev.call (takes n 2 (by decide) (by decide) (List.range (k + 1)) (fun i : Nat => .int (i : Int)) p2 (by simp [hr1]) (fun x => ⟨_, rfl, rfl⟩) (hkz _ (by omega))) ?_
    rintro _ _ ⟨ws, o3, rfl, rfl, p3, hwl, hw⟩
    simp
    obtain ⟨v, hv⟩ : ∃ v, ws[k]? = some v := ⟨_, List.getElem?_eq_getElem (by rw [hwl]; simp)⟩
    obtain ⟨cs, hcl, -, ec⟩ := lc_some (cf := runFn G T (n + 1)) (G := G) (own := [11]) (t := .var 11) (i := .val (.var 3)) (elt := .op (.bin .mod) (.cons (.op .toInt (.cons (.op (.bin .add) (.cons (.op .ix (.cons (.var 7) (.cons (.var 1) .nil))) (.cons (.op .sum (.cons (.lc [19, 17] (.op (.bin .mul) (.cons (.var 19) (.cons (.var 17) .nil))) (.tup [19, 17]) (.zip (.cons (.var 7) (.cons (.var 11) .nil))) .nil .nil) .nil)) .nil))) .nil)) (.cons (.cst (.int 2)) .nil)))
      (ρ := [some (.v (.loc 0)), some (.v (.int (k : Int))), some (.v (.lst (bs.map tr))), some (.v (.lst ((rowsOf k).map rowV))), some (.v (.int 1)), none, none, some (.v (.lst (ws.map .int))), none, none, none, none, none, none, none, none, none, none, none, none]) (h := o3 :: t) (rowsOf k) rowV tr (fun _ => True) (by simp) (by
        intro r hr
        have hr := mem_rowsOf.mp hr
        obtain ⟨b, hb⟩ := bit_of_int (d := (v + sumI ((ws.zip r).map fun p => p.1 * (p.2.toNat : Int))) % 2) (by omega) (by omega)
        refine ⟨b, trivial, eltK_of (r := .v (tr b)) rfl ?_ rfl⟩
        simp [hv]
        rw [lc_map (ws.zip r) (fun p => .tup [.int p.1, tr p.2]) (fun p => .int (p.1 * (p.2.toNat : Int))) (by simp [rowV, itVs, zip2_map]) (fun p hp => eltK_of (r := .v (.int (p.1 * (p.2.toNat : Int)))) rfl (by
          have := hw p.1 (List.of_mem_zip hp).1
          simp [tr]
          rw [op_mul (by rw [small_lt (by omega) (by omega)]; rfl)]
          simp) rfl) (SZ_ge (by simp; omega))]
        simp [op_mod (show (0 : Int) < 2 by decide)]
        rw [hb]) hs
    rw [ec]
    simp
    rw [leave_eq _ (by simp)]
    exact .ok ⟨cs, o3, rfl, rfl, p3, by rw [hcl, rowsOf_length]⟩
  · have hh : (2 ^ k : Nat) = 2 * 2 ^ (k - 1) := by
      have := Nat.pow_succ (n := 2) (m := k - 1)
      rw [show (k - 1).succ = k by omega] at this
      omega
    have p20 := pow20 (show k ≤ 20 by omega)
    have hc : cut (bs.map tr) none (some ((bs.length : Int) / 2)) = (bs.take (2 ^ (k - 1))).map tr := by
      have e2 : ((bs.length : Int) / 2).toNat = 2 ^ (k - 1) := by omega
      rw [cut_to _ (show (0 : Int) ≤ (bs.length : Int) / 2 by omega), ← List.map_take, e2]
    simp [op_fdiv (show (0 : Int) < 2 by decide), hc]
    rw [lc_map (bs.take (2 ^ (k - 1))).reverse tr (fun b => tr (!b)) (by simp) (fun b hb => eltK_of (r := .v (tr !b)) rfl (by cases b <;> simp) rfl) (SZ_ge (by simp; omega))]
    simp
    rw [lst_add rfl rfl (SZ_ge (by simp; omega))]
    simp
    rw [leave_eq _ (by simp)]
    exact .ok ⟨bs.take (2 ^ (k - 1)) ++ (bs.take (2 ^ (k - 1))).reverse.map (!·), o2, by simp [fnV, Function.comp_def], rfl, p2, by simp; omega⟩
  · simp
    refine Ev.call (takes n 2 (by decide) (by decide) (List.range k) (fun i : Nat => .int (i : Int)) p2 (by simp [hr]) (fun x => ⟨_, rfl, rfl⟩) (hkz k (by omega))) ?_
    rintro _ _ ⟨ws, o3, rfl, rfl, p3, hwl, hw⟩
    simp
    rw [lc_map (rowsOf k) rowV (fun r => tr ((ws.zip r).all fun p => p.2 || decide (p.1 = 0))) (by simp) (fun r hr => eltK_of (r := .v (tr ((ws.zip r).all fun p => p.2 || decide (p.1 = 0)))) rfl (by
      have hr := mem_rowsOf.mp hr
      simp
      rw [lc_map (ws.zip r) (fun p => .tup [.int p.1, tr p.2]) (fun p => .bl (p.2 || decide (p.1 = 0))) (by simp [rowV, itVs, zip2_map]) (fun p hp => eltK_of (r := .v (.bl (p.2 || decide (p.1 = 0)))) rfl (by
          cases h2 : p.2 <;> simp [h2]) rfl) (SZ_ge (by simp; omega))]
      simp) rfl) hs]
    simp
    rw [leave_eq _ (by simp)]
    exact .ok ⟨(rowsOf k).map fun r => (ws.zip r).all fun p => p.2 || decide (p.1 = 0), o3, by simp [fnV, Function.comp_def], rfl, p3, by simp [rowsOf_length]⟩
  · simp
    refine Ev.call (takes n 2 (by decide) (by decide) (List.range k) (fun i : Nat => .int (i : Int)) p2 (by simp [hr]) (fun x => ⟨_, rfl, rfl⟩) (hkz k (by omega))) ?_
    rintro _ _ ⟨ws, o3, rfl, rfl, p3, hwl, hw⟩
    simp
    rw [lc_map (rowsOf k) rowV (fun r => tr ((ws.zip r).any fun p => p.2 && decide (p.1 = 1))) (by simp) (fun r hr => eltK_of (r := .v (tr ((ws.zip r).any fun p => p.2 && decide (p.1 = 1)))) rfl (by
      have hr := mem_rowsOf.mp hr
      simp
      rw [lc_map (ws.zip r) (fun p => .tup [.int p.1, tr p.2]) (fun p => .bl (p.2 && decide (p.1 = 1))) (by simp [rowV, itVs, zip2_map]) (fun p hp => eltK_of (r := .v (.bl (p.2 && decide (p.1 = 1)))) rfl (by
          cases h2 : p.2 <;> simp [h2]) rfl) (SZ_ge (by simp; omega))]
      simp) rfl) hs]
    simp
    rw [leave_eq _ (by simp)]
    exact .ok ⟨(rowsOf k).map fun r => (ws.zip r).any fun p => p.2 && decide (p.1 = 1), o3, by simp [fnV, Function.comp_def], rfl, p3, by simp [rowsOf_length]⟩
  · have p20 := pow20 (show k ≤ 20 by omega)
    have pp : 0 < 2 ^ k := Nat.two_pow_pos k
    simp
    refine Ev.call (take_ok n p2 (by omega) (by omega) t) ?_
    rintro _ _ ⟨lone, o3, rfl, rfl, p3, l0, l1⟩
    simp
    have hr2 : rg1 (.v (.int (bs.length : Int))) = some ((List.range bs.length).map fun i => .int (i : Int)) := rg1_nat (by omega)
    rw [lc_map (List.range bs.length) (fun i : Nat => .int (i : Int)) (fun i => tr (decide ((i : Int) = lone))) (by simp [hr2]) (fun i hi => eltK_of (r := .v (tr (decide ((i : Int) = lone)))) rfl (by
      simp) rfl) (SZ_ge (by simp; omega))]
    simp
    refine Ev.call (take_ok n p3 (by decide) (by decide) t) ?_
    rintro _ _ ⟨c, o4, rfl, rfl, p4, c0, c1⟩
    simp
    have hcc : c = 0 ∨ c = 1 := by omega
    rcases hcc with rfl | rfl
    · simp
      rw [lc_map (List.range bs.length) (fun i : Nat => tr (decide ((i : Int) = lone))) (fun i => tr (!decide ((i : Int) = lone))) (by simp) (fun i hi => eltK_of (r := .v (tr (!decide ((i : Int) = lone)))) rfl (by
        by_cases h : (i : Int) = lone <;> simp [h]) rfl) (SZ_ge (by simp; omega))]
      simp
      rw [leave_eq _ (by simp)]
      exact .ok ⟨(List.range bs.length).map fun i : Nat => !decide ((i : Int) = lone), o4, by simp [fnV], rfl, p4, by simp [hbl]⟩
    · simp
      rw [leave_eq _ (by simp)]
      exact .ok ⟨(List.range bs.length).map fun i : Nat => decide ((i : Int) = lone), o4, by simp [fnV], rfl, p4, by simp [hbl]⟩
  · simp
    refine Ev.call (take_ok n p2 (by omega) (by omega) t) ?_
    rintro _ _ ⟨place, o3, rfl, rfl, p3, l0, l1⟩
    simp
    refine Ev.call (take_ok n p3 (by decide) (by decide) t) ?_
    rintro _ _ ⟨c, o4, rfl, rfl, p4, c0, c1⟩
    simp
    rw [lc_map (rowsOf k) rowV (fun r => tr (decide (((r.getD place.toNat false).toNat : Int) = c))) (by simp) (fun r hr => eltK_of (r := .v (tr (decide (((r.getD place.toNat false).toNat : Int) = c)))) rfl (by
      have hr := mem_rowsOf.mp hr
      simp [rowV, pick_int _ l0, show place.toNat < r.length by omega]
      simp [tr]) rfl) hs]
    simp
    rw [leave_eq _ (by simp)]
    exact .ok ⟨(rowsOf k).map fun r => decide (((r.getD place.toNat false).toNat : Int) = c), o4, by simp [fnV, Function.comp_def], rfl, p4, by simp [rowsOf_length]⟩
  · simp
    rw [leave_eq _ (by simp)]
    exact .ok ⟨bs, o2, rfl, rfl, p2, hbl⟩
end WT
end
section
set_option linter.all false
set_option autoImplicit true
set_option maxRecDepth 100000
namespace WT
open PySem
variable {G : Nat → Option PV} {T : Nat → Option Def}
theorem same_ok [H : K__law_same T] {h : AH} {d : Nat} {a b : PV} (s : Same h d a b) : ∀ n, runFn G T (n + d + 1) 15 [a, b] h = .ok (.v (.bl true)) h := by
  induction s with
  | non d => intro n; rw [run_eq H.d (n + d) rfl rfl]; simp
  | bl d b => intro n; rw [run_eq H.d (n + d) rfl rfl]; simp
  | int d i => intro n; rw [run_eq H.d (n + d) rfl rfl]; simp
  | str d s hs =>
    intro n
    rw [run_eq H.d (n + d) rfl rfl]
    simp
    rw [eq_gen (by exact hs) (by exact hs)]
    simp [RV.see, pyEq]
  | tup d xs ys hz hl hx ih =>
    intro n
    rw [run_eq H.d (n + (d + 1)) rfl rfl]
    simp
    have hz' := hz
    rw [p_SZ_eq] at hz'
    simp [hl]
    rw [lc_map (List.range ys.length) (fun i : Nat => .int (i : Int)) (fun _ => .bl true) (by simp [rg1_nat (show ys.length < 1073741824 by omega)]) (fun i hi => by
      refine eltK_of (r := .v (.bl true)) rfl ?_ rfl
      have hi := List.mem_range.mp hi
      simp [hl ▸ hi, hi]
      exact ih i _ _ (by simp) (by simp) n) (by simpa using hz)]
    simp
  | lst d a b xs ys ha hb hz hl hx ih =>
    intro n
    rw [run_eq H.d (n + (d + 1)) rfl rfl]
    simp [ha.isi, hb.isi, hb.isN]
    have hz' := hz
    rw [p_SZ_eq] at hz'
    simp [op_len ha.seq, op_len hb.seq, hl]
    rw [lc_map (List.range ys.length) (fun i : Nat => .int (i : Int)) (fun _ => .bl true) (by simp [op_len hb.seq, rg1_nat (show ys.length < 1073741824 by omega)]) (fun i hi => by
      refine eltK_of (r := .v (.bl true)) rfl ?_ rfl
      have hi := List.mem_range.mp hi
      simp [op_ix ha.seq, op_ix hb.seq, hl ▸ hi, hi]
      exact ih i _ _ (by simp) (by simp) n) (by simpa using hz)]
    simp
end WT
end
section
set_option linter.all false
set_option autoImplicit true
set_option maxRecDepth 100000
/-! What the laws have in common. -/
namespace WT
open PySem
variable {G : Nat → Option PV} {T : Nat → Option Def}
theorem env_succ {n : Nat} {ρ : Env} (h : ρ.length = n + 1) : ∃ x r, ρ = x :: r ∧ r.length = n := by
  cases ρ with
  | nil => simp at h
  | cons x r => exact ⟨x, r, rfl, by simpa using h⟩
theorem env0 {ρ : Env} (h : ρ.length = 0) : ρ = [] := List.length_eq_zero_iff.mp h
theorem env1 {ρ : Env} (h : ρ.length = 1) : ∃ x0, ρ = [x0] := by
  obtain ⟨x0, r, rfl, g⟩ := env_succ h
  obtain rfl := env0 g
  exact ⟨x0, rfl⟩
theorem env2 {ρ : Env} (h : ρ.length = 2) : ∃ x0 x1, ρ = [x0, x1] := by
  obtain ⟨x0, r, rfl, g⟩ := env_succ h
  obtain ⟨x1, rfl⟩ := env1 g
  exact ⟨x0, x1, rfl⟩
theorem env3 {ρ : Env} (h : ρ.length = 3) : ∃ x0 x1 x2, ρ = [x0, x1, x2] := by
  obtain ⟨x0, r, rfl, g⟩ := env_succ h
  obtain ⟨x1, x2, rfl⟩ := env2 g
  exact ⟨x0, x1, x2, rfl⟩
theorem env4 {ρ : Env} (h : ρ.length = 4) : ∃ x0 x1 x2 x3, ρ = [x0, x1, x2, x3] := by
  obtain ⟨x0, r, rfl, g⟩ := env_succ h
  obtain ⟨x1, x2, x3, rfl⟩ := env3 g
  exact ⟨x0, x1, x2, x3, rfl⟩
theorem env5 {ρ : Env} (h : ρ.length = 5) : ∃ x0 x1 x2 x3 x4, ρ = [x0, x1, x2, x3, x4] := by
  obtain ⟨x0, r, rfl, g⟩ := env_succ h
  obtain ⟨x1, x2, x3, x4, rfl⟩ := env4 g
  exact ⟨x0, x1, x2, x3, x4, rfl⟩
theorem env6 {ρ : Env} (h : ρ.length = 6) : ∃ x0 x1 x2 x3 x4 x5, ρ = [x0, x1, x2, x3, x4, x5] := by
  obtain ⟨x0, r, rfl, g⟩ := env_succ h
  obtain ⟨x1, x2, x3, x4, x5, rfl⟩ := env5 g
  exact ⟨x0, x1, x2, x3, x4, x5, rfl⟩
theorem env7 {ρ : Env} (h : ρ.length = 7) : ∃ x0 x1 x2 x3 x4 x5 x6, ρ = [x0, x1, x2, x3, x4, x5, x6] := by
  obtain ⟨x0, r, rfl, g⟩ := env_succ h
  obtain ⟨x1, x2, x3, x4, x5, x6, rfl⟩ := env6 g
  exact ⟨x0, x1, x2, x3, x4, x5, x6, rfl⟩
theorem env8 {ρ : Env} (h : ρ.length = 8) : ∃ x0 x1 x2 x3 x4 x5 x6 x7, ρ = [x0, x1, x2, x3, x4, x5, x6, x7] := by
  obtain ⟨x0, r, rfl, g⟩ := env_succ h
  obtain ⟨x1, x2, x3, x4, x5, x6, x7, rfl⟩ := env7 g
  exact ⟨x0, x1, x2, x3, x4, x5, x6, x7, rfl⟩
theorem env9 {ρ : Env} (h : ρ.length = 9) : ∃ x0 x1 x2 x3 x4 x5 x6 x7 x8, ρ = [x0, x1, x2, x3, x4, x5, x6, x7, x8] := by
  obtain ⟨x0, r, rfl, g⟩ := env_succ h
  obtain ⟨x1, x2, x3, x4, x5, x6, x7, x8, rfl⟩ := env8 g
  exact ⟨x0, x1, x2, x3, x4, x5, x6, x7, x8, rfl⟩
theorem env10 {ρ : Env} (h : ρ.length = 10) : ∃ x0 x1 x2 x3 x4 x5 x6 x7 x8 x9, ρ = [x0, x1, x2, x3, x4, x5, x6, x7, x8, x9] := by
  obtain ⟨x0, r, rfl, g⟩ := env_succ h
  obtain ⟨x1, x2, x3, x4, x5, x6, x7, x8, x9, rfl⟩ := env9 g
  exact ⟨x0, x1, x2, x3, x4, x5, x6, x7, x8, x9, rfl⟩
theorem env11 {ρ : Env} (h : ρ.length = 11) : ∃ x0 x1 x2 x3 x4 x5 x6 x7 x8 x9 x10, ρ = [x0, x1, x2, x3, x4, x5, x6, x7, x8, x9, x10] := by
  obtain ⟨x0, r, rfl, g⟩ := env_succ h
  obtain ⟨x1, x2, x3, x4, x5, x6, x7, x8, x9, x10, rfl⟩ := env10 g
  exact ⟨x0, x1, x2, x3, x4, x5, x6, x7, x8, x9, x10, rfl⟩
theorem env12 {ρ : Env} (h : ρ.length = 12) : ∃ x0 x1 x2 x3 x4 x5 x6 x7 x8 x9 x10 x11, ρ = [x0, x1, x2, x3, x4, x5, x6, x7, x8, x9, x10, x11] := by
  obtain ⟨x0, r, rfl, g⟩ := env_succ h
  obtain ⟨x1, x2, x3, x4, x5, x6, x7, x8, x9, x10, x11, rfl⟩ := env11 g
  exact ⟨x0, x1, x2, x3, x4, x5, x6, x7, x8, x9, x10, x11, rfl⟩
theorem env13 {ρ : Env} (h : ρ.length = 13) : ∃ x0 x1 x2 x3 x4 x5 x6 x7 x8 x9 x10 x11 x12, ρ = [x0, x1, x2, x3, x4, x5, x6, x7, x8, x9, x10, x11, x12] := by
  obtain ⟨x0, r, rfl, g⟩ := env_succ h
  obtain ⟨x1, x2, x3, x4, x5, x6, x7, x8, x9, x10, x11, x12, rfl⟩ := env12 g
  exact ⟨x0, x1, x2, x3, x4, x5, x6, x7, x8, x9, x10, x11, x12, rfl⟩
theorem env14 {ρ : Env} (h : ρ.length = 14) : ∃ x0 x1 x2 x3 x4 x5 x6 x7 x8 x9 x10 x11 x12 x13, ρ = [x0, x1, x2, x3, x4, x5, x6, x7, x8, x9, x10, x11, x12, x13] := by
  obtain ⟨x0, r, rfl, g⟩ := env_succ h
  obtain ⟨x1, x2, x3, x4, x5, x6, x7, x8, x9, x10, x11, x12, x13, rfl⟩ := env13 g
  exact ⟨x0, x1, x2, x3, x4, x5, x6, x7, x8, x9, x10, x11, x12, x13, rfl⟩
theorem env15 {ρ : Env} (h : ρ.length = 15) : ∃ x0 x1 x2 x3 x4 x5 x6 x7 x8 x9 x10 x11 x12 x13 x14, ρ = [x0, x1, x2, x3, x4, x5, x6, x7, x8, x9, x10, x11, x12, x13, x14] := by
  obtain ⟨x0, r, rfl, g⟩ := env_succ h
  obtain ⟨x1, x2, x3, x4, x5, x6, x7, x8, x9, x10, x11, x12, x13, x14, rfl⟩ := env14 g
  exact ⟨x0, x1, x2, x3, x4, x5, x6, x7, x8, x9, x10, x11, x12, x13, x14, rfl⟩
theorem env16 {ρ : Env} (h : ρ.length = 16) : ∃ x0 x1 x2 x3 x4 x5 x6 x7 x8 x9 x10 x11 x12 x13 x14 x15, ρ = [x0, x1, x2, x3, x4, x5, x6, x7, x8, x9, x10, x11, x12, x13, x14, x15] := by
  obtain ⟨x0, r, rfl, g⟩ := env_succ h
  obtain ⟨x1, x2, x3, x4, x5, x6, x7, x8, x9, x10, x11, x12, x13, x14, x15, rfl⟩ := env15 g
  exact ⟨x0, x1, x2, x3, x4, x5, x6, x7, x8, x9, x10, x11, x12, x13, x14, x15, rfl⟩
theorem env17 {ρ : Env} (h : ρ.length = 17) : ∃ x0 x1 x2 x3 x4 x5 x6 x7 x8 x9 x10 x11 x12 x13 x14 x15 x16, ρ = [x0, x1, x2, x3, x4, x5, x6, x7, x8, x9, x10, x11, x12, x13, x14, x15, x16] := by
  obtain ⟨x0, r, rfl, g⟩ := env_succ h
  obtain ⟨x1, x2, x3, x4, x5, x6, x7, x8, x9, x10, x11, x12, x13, x14, x15, x16, rfl⟩ := env16 g
  exact ⟨x0, x1, x2, x3, x4, x5, x6, x7, x8, x9, x10, x11, x12, x13, x14, x15, x16, rfl⟩
theorem env18 {ρ : Env} (h : ρ.length = 18) : ∃ x0 x1 x2 x3 x4 x5 x6 x7 x8 x9 x10 x11 x12 x13 x14 x15 x16 x17, ρ = [x0, x1, x2, x3, x4, x5, x6, x7, x8, x9, x10, x11, x12, x13, x14, x15, x16, x17] := by
  obtain ⟨x0, r, rfl, g⟩ := env_succ h
  obtain ⟨x1, x2, x3, x4, x5, x6, x7, x8, x9, x10, x11, x12, x13, x14, x15, x16, x17, rfl⟩ := env17 g
  exact ⟨x0, x1, x2, x3, x4, x5, x6, x7, x8, x9, x10, x11, x12, x13, x14, x15, x16, x17, rfl⟩
theorem env19 {ρ : Env} (h : ρ.length = 19) : ∃ x0 x1 x2 x3 x4 x5 x6 x7 x8 x9 x10 x11 x12 x13 x14 x15 x16 x17 x18, ρ = [x0, x1, x2, x3, x4, x5, x6, x7, x8, x9, x10, x11, x12, x13, x14, x15, x16, x17, x18] := by
  obtain ⟨x0, r, rfl, g⟩ := env_succ h
  obtain ⟨x1, x2, x3, x4, x5, x6, x7, x8, x9, x10, x11, x12, x13, x14, x15, x16, x17, x18, rfl⟩ := env18 g
  exact ⟨x0, x1, x2, x3, x4, x5, x6, x7, x8, x9, x10, x11, x12, x13, x14, x15, x16, x17, x18, rfl⟩
theorem env20 {ρ : Env} (h : ρ.length = 20) : ∃ x0 x1 x2 x3 x4 x5 x6 x7 x8 x9 x10 x11 x12 x13 x14 x15 x16 x17 x18 x19, ρ = [x0, x1, x2, x3, x4, x5, x6, x7, x8, x9, x10, x11, x12, x13, x14, x15, x16, x17, x18, x19] := by
  obtain ⟨x0, r, rfl, g⟩ := env_succ h
  obtain ⟨x1, x2, x3, x4, x5, x6, x7, x8, x9, x10, x11, x12, x13, x14, x15, x16, x17, x18, x19, rfl⟩ := env19 g
  exact ⟨x0, x1, x2, x3, x4, x5, x6, x7, x8, x9, x10, x11, x12, x13, x14, x15, x16, x17, x18, x19, rfl⟩
theorem env21 {ρ : Env} (h : ρ.length = 21) : ∃ x0 x1 x2 x3 x4 x5 x6 x7 x8 x9 x10 x11 x12 x13 x14 x15 x16 x17 x18 x19 x20, ρ = [x0, x1, x2, x3, x4, x5, x6, x7, x8, x9, x10, x11, x12, x13, x14, x15, x16, x17, x18, x19, x20] := by
  obtain ⟨x0, r, rfl, g⟩ := env_succ h
  obtain ⟨x1, x2, x3, x4, x5, x6, x7, x8, x9, x10, x11, x12, x13, x14, x15, x16, x17, x18, x19, x20, rfl⟩ := env20 g
  exact ⟨x0, x1, x2, x3, x4, x5, x6, x7, x8, x9, x10, x11, x12, x13, x14, x15, x16, x17, x18, x19, x20, rfl⟩
theorem env22 {ρ : Env} (h : ρ.length = 22) : ∃ x0 x1 x2 x3 x4 x5 x6 x7 x8 x9 x10 x11 x12 x13 x14 x15 x16 x17 x18 x19 x20 x21, ρ = [x0, x1, x2, x3, x4, x5, x6, x7, x8, x9, x10, x11, x12, x13, x14, x15, x16, x17, x18, x19, x20, x21] := by
  obtain ⟨x0, r, rfl, g⟩ := env_succ h
  obtain ⟨x1, x2, x3, x4, x5, x6, x7, x8, x9, x10, x11, x12, x13, x14, x15, x16, x17, x18, x19, x20, x21, rfl⟩ := env21 g
  exact ⟨x0, x1, x2, x3, x4, x5, x6, x7, x8, x9, x10, x11, x12, x13, x14, x15, x16, x17, x18, x19, x20, x21, rfl⟩
theorem env23 {ρ : Env} (h : ρ.length = 23) : ∃ x0 x1 x2 x3 x4 x5 x6 x7 x8 x9 x10 x11 x12 x13 x14 x15 x16 x17 x18 x19 x20 x21 x22, ρ = [x0, x1, x2, x3, x4, x5, x6, x7, x8, x9, x10, x11, x12, x13, x14, x15, x16, x17, x18, x19, x20, x21, x22] := by
  obtain ⟨x0, r, rfl, g⟩ := env_succ h
  obtain ⟨x1, x2, x3, x4, x5, x6, x7, x8, x9, x10, x11, x12, x13, x14, x15, x16, x17, x18, x19, x20, x21, x22, rfl⟩ := env22 g
  exact ⟨x0, x1, x2, x3, x4, x5, x6, x7, x8, x9, x10, x11, x12, x13, x14, x15, x16, x17, x18, x19, x20, x21, x22, rfl⟩
theorem env24 {ρ : Env} (h : ρ.length = 24) : ∃ x0 x1 x2 x3 x4 x5 x6 x7 x8 x9 x10 x11 x12 x13 x14 x15 x16 x17 x18 x19 x20 x21 x22 x23, ρ = [x0, x1, x2, x3, x4, x5, x6, x7, x8, x9, x10, x11, x12, x13, x14, x15, x16, x17, x18, x19, x20, x21, x22, x23] := by
  obtain ⟨x0, r, rfl, g⟩ := env_succ h
  obtain ⟨x1, x2, x3, x4, x5, x6, x7, x8, x9, x10, x11, x12, x13, x14, x15, x16, x17, x18, x19, x20, x21, x22, x23, rfl⟩ := env23 g
  exact ⟨x0, x1, x2, x3, x4, x5, x6, x7, x8, x9, x10, x11, x12, x13, x14, x15, x16, x17, x18, x19, x20, x21, x22, x23, rfl⟩
theorem env25 {ρ : Env} (h : ρ.length = 25) : ∃ x0 x1 x2 x3 x4 x5 x6 x7 x8 x9 x10 x11 x12 x13 x14 x15 x16 x17 x18 x19 x20 x21 x22 x23 x24, ρ = [x0, x1, x2, x3, x4, x5, x6, x7, x8, x9, x10, x11, x12, x13, x14, x15, x16, x17, x18, x19, x20, x21, x22, x23, x24] := by
  obtain ⟨x0, r, rfl, g⟩ := env_succ h
  obtain ⟨x1, x2, x3, x4, x5, x6, x7, x8, x9, x10, x11, x12, x13, x14, x15, x16, x17, x18, x19, x20, x21, x22, x23, x24, rfl⟩ := env24 g
  exact ⟨x0, x1, x2, x3, x4, x5, x6, x7, x8, x9, x10, x11, x12, x13, x14, x15, x16, x17, x18, x19, x20, x21, x22, x23, x24, rfl⟩
theorem env26 {ρ : Env} (h : ρ.length = 26) : ∃ x0 x1 x2 x3 x4 x5 x6 x7 x8 x9 x10 x11 x12 x13 x14 x15 x16 x17 x18 x19 x20 x21 x22 x23 x24 x25, ρ = [x0, x1, x2, x3, x4, x5, x6, x7, x8, x9, x10, x11, x12, x13, x14, x15, x16, x17, x18, x19, x20, x21, x22, x23, x24, x25] := by
  obtain ⟨x0, r, rfl, g⟩ := env_succ h
  obtain ⟨x1, x2, x3, x4, x5, x6, x7, x8, x9, x10, x11, x12, x13, x14, x15, x16, x17, x18, x19, x20, x21, x22, x23, x24, x25, rfl⟩ := env25 g
  exact ⟨x0, x1, x2, x3, x4, x5, x6, x7, x8, x9, x10, x11, x12, x13, x14, x15, x16, x17, x18, x19, x20, x21, x22, x23, x24, x25, rfl⟩
theorem env27 {ρ : Env} (h : ρ.length = 27) : ∃ x0 x1 x2 x3 x4 x5 x6 x7 x8 x9 x10 x11 x12 x13 x14 x15 x16 x17 x18 x19 x20 x21 x22 x23 x24 x25 x26, ρ = [x0, x1, x2, x3, x4, x5, x6, x7, x8, x9, x10, x11, x12, x13, x14, x15, x16, x17, x18, x19, x20, x21, x22, x23, x24, x25, x26] := by
  obtain ⟨x0, r, rfl, g⟩ := env_succ h
  obtain ⟨x1, x2, x3, x4, x5, x6, x7, x8, x9, x10, x11, x12, x13, x14, x15, x16, x17, x18, x19, x20, x21, x22, x23, x24, x25, x26, rfl⟩ := env26 g
  exact ⟨x0, x1, x2, x3, x4, x5, x6, x7, x8, x9, x10, x11, x12, x13, x14, x15, x16, x17, x18, x19, x20, x21, x22, x23, x24, x25, x26, rfl⟩
theorem env28 {ρ : Env} (h : ρ.length = 28) : ∃ x0 x1 x2 x3 x4 x5 x6 x7 x8 x9 x10 x11 x12 x13 x14 x15 x16 x17 x18 x19 x20 x21 x22 x23 x24 x25 x26 x27, ρ = [x0, x1, x2, x3, x4, x5, x6, x7, x8, x9, x10, x11, x12, x13, x14, x15, x16, x17, x18, x19, x20, x21, x22, x23, x24, x25, x26, x27] := by
  obtain ⟨x0, r, rfl, g⟩ := env_succ h
  obtain ⟨x1, x2, x3, x4, x5, x6, x7, x8, x9, x10, x11, x12, x13, x14, x15, x16, x17, x18, x19, x20, x21, x22, x23, x24, x25, x26, x27, rfl⟩ := env27 g
  exact ⟨x0, x1, x2, x3, x4, x5, x6, x7, x8, x9, x10, x11, x12, x13, x14, x15, x16, x17, x18, x19, x20, x21, x22, x23, x24, x25, x26, x27, rfl⟩
theorem env29 {ρ : Env} (h : ρ.length = 29) : ∃ x0 x1 x2 x3 x4 x5 x6 x7 x8 x9 x10 x11 x12 x13 x14 x15 x16 x17 x18 x19 x20 x21 x22 x23 x24 x25 x26 x27 x28, ρ = [x0, x1, x2, x3, x4, x5, x6, x7, x8, x9, x10, x11, x12, x13, x14, x15, x16, x17, x18, x19, x20, x21, x22, x23, x24, x25, x26, x27, x28] := by
  obtain ⟨x0, r, rfl, g⟩ := env_succ h
  obtain ⟨x1, x2, x3, x4, x5, x6, x7, x8, x9, x10, x11, x12, x13, x14, x15, x16, x17, x18, x19, x20, x21, x22, x23, x24, x25, x26, x27, x28, rfl⟩ := env28 g
  exact ⟨x0, x1, x2, x3, x4, x5, x6, x7, x8, x9, x10, x11, x12, x13, x14, x15, x16, x17, x18, x19, x20, x21, x22, x23, x24, x25, x26, x27, x28, rfl⟩
theorem env30 {ρ : Env} (h : ρ.length = 30) : ∃ x0 x1 x2 x3 x4 x5 x6 x7 x8 x9 x10 x11 x12 x13 x14 x15 x16 x17 x18 x19 x20 x21 x22 x23 x24 x25 x26 x27 x28 x29, ρ = [x0, x1, x2, x3, x4, x5, x6, x7, x8, x9, x10, x11, x12, x13, x14, x15, x16, x17, x18, x19, x20, x21, x22, x23, x24, x25, x26, x27, x28, x29] := by
  obtain ⟨x0, r, rfl, g⟩ := env_succ h
  obtain ⟨x1, x2, x3, x4, x5, x6, x7, x8, x9, x10, x11, x12, x13, x14, x15, x16, x17, x18, x19, x20, x21, x22, x23, x24, x25, x26, x27, x28, x29, rfl⟩ := env29 g
  exact ⟨x0, x1, x2, x3, x4, x5, x6, x7, x8, x9, x10, x11, x12, x13, x14, x15, x16, x17, x18, x19, x20, x21, x22, x23, x24, x25, x26, x27, x28, x29, rfl⟩
theorem env31 {ρ : Env} (h : ρ.length = 31) : ∃ x0 x1 x2 x3 x4 x5 x6 x7 x8 x9 x10 x11 x12 x13 x14 x15 x16 x17 x18 x19 x20 x21 x22 x23 x24 x25 x26 x27 x28 x29 x30, ρ = [x0, x1, x2, x3, x4, x5, x6, x7, x8, x9, x10, x11, x12, x13, x14, x15, x16, x17, x18, x19, x20, x21, x22, x23, x24, x25, x26, x27, x28, x29, x30] := by
  obtain ⟨x0, r, rfl, g⟩ := env_succ h
  obtain ⟨x1, x2, x3, x4, x5, x6, x7, x8, x9, x10, x11, x12, x13, x14, x15, x16, x17, x18, x19, x20, x21, x22, x23, x24, x25, x26, x27, x28, x29, x30, rfl⟩ := env30 g
  exact ⟨x0, x1, x2, x3, x4, x5, x6, x7, x8, x9, x10, x11, x12, x13, x14, x15, x16, x17, x18, x19, x20, x21, x22, x23, x24, x25, x26, x27, x28, x29, x30, rfl⟩
theorem env32 {ρ : Env} (h : ρ.length = 32) : ∃ x0 x1 x2 x3 x4 x5 x6 x7 x8 x9 x10 x11 x12 x13 x14 x15 x16 x17 x18 x19 x20 x21 x22 x23 x24 x25 x26 x27 x28 x29 x30 x31, ρ = [x0, x1, x2, x3, x4, x5, x6, x7, x8, x9, x10, x11, x12, x13, x14, x15, x16, x17, x18, x19, x20, x21, x22, x23, x24, x25, x26, x27, x28, x29, x30, x31] := by
  obtain ⟨x0, r, rfl, g⟩ := env_succ h
  obtain ⟨x1, x2, x3, x4, x5, x6, x7, x8, x9, x10, x11, x12, x13, x14, x15, x16, x17, x18, x19, x20, x21, x22, x23, x24, x25, x26, x27, x28, x29, x30, x31, rfl⟩ := env31 g
  exact ⟨x0, x1, x2, x3, x4, x5, x6, x7, x8, x9, x10, x11, x12, x13, x14, x15, x16, x17, x18, x19, x20, x21, x22, x23, x24, x25, x26, x27, x28, x29, x30, x31, rfl⟩
theorem env33 {ρ : Env} (h : ρ.length = 33) : ∃ x0 x1 x2 x3 x4 x5 x6 x7 x8 x9 x10 x11 x12 x13 x14 x15 x16 x17 x18 x19 x20 x21 x22 x23 x24 x25 x26 x27 x28 x29 x30 x31 x32, ρ = [x0, x1, x2, x3, x4, x5, x6, x7, x8, x9, x10, x11, x12, x13, x14, x15, x16, x17, x18, x19, x20, x21, x22, x23, x24, x25, x26, x27, x28, x29, x30, x31, x32] := by
  obtain ⟨x0, r, rfl, g⟩ := env_succ h
  obtain ⟨x1, x2, x3, x4, x5, x6, x7, x8, x9, x10, x11, x12, x13, x14, x15, x16, x17, x18, x19, x20, x21, x22, x23, x24, x25, x26, x27, x28, x29, x30, x31, x32, rfl⟩ := env32 g
  exact ⟨x0, x1, x2, x3, x4, x5, x6, x7, x8, x9, x10, x11, x12, x13, x14, x15, x16, x17, x18, x19, x20, x21, x22, x23, x24, x25, x26, x27, x28, x29, x30, x31, x32, rfl⟩
theorem env34 {ρ : Env} (h : ρ.length = 34) : ∃ x0 x1 x2 x3 x4 x5 x6 x7 x8 x9 x10 x11 x12 x13 x14 x15 x16 x17 x18 x19 x20 x21 x22 x23 x24 x25 x26 x27 x28 x29 x30 x31 x32 x33, ρ = [x0, x1, x2, x3, x4, x5, x6, x7, x8, x9, x10, x11, x12, x13, x14, x15, x16, x17, x18, x19, x20, x21, x22, x23, x24, x25, x26, x27, x28, x29, x30, x31, x32, x33] := by
  obtain ⟨x0, r, rfl, g⟩ := env_succ h
  obtain ⟨x1, x2, x3, x4, x5, x6, x7, x8, x9, x10, x11, x12, x13, x14, x15, x16, x17, x18, x19, x20, x21, x22, x23, x24, x25, x26, x27, x28, x29, x30, x31, x32, x33, rfl⟩ := env33 g
  exact ⟨x0, x1, x2, x3, x4, x5, x6, x7, x8, x9, x10, x11, x12, x13, x14, x15, x16, x17, x18, x19, x20, x21, x22, x23, x24, x25, x26, x27, x28, x29, x30, x31, x32, x33, rfl⟩
theorem env35 {ρ : Env} (h : ρ.length = 35) : ∃ x0 x1 x2 x3 x4 x5 x6 x7 x8 x9 x10 x11 x12 x13 x14 x15 x16 x17 x18 x19 x20 x21 x22 x23 x24 x25 x26 x27 x28 x29 x30 x31 x32 x33 x34, ρ = [x0, x1, x2, x3, x4, x5, x6, x7, x8, x9, x10, x11, x12, x13, x14, x15, x16, x17, x18, x19, x20, x21, x22, x23, x24, x25, x26, x27, x28, x29, x30, x31, x32, x33, x34] := by
  obtain ⟨x0, r, rfl, g⟩ := env_succ h
  obtain ⟨x1, x2, x3, x4, x5, x6, x7, x8, x9, x10, x11, x12, x13, x14, x15, x16, x17, x18, x19, x20, x21, x22, x23, x24, x25, x26, x27, x28, x29, x30, x31, x32, x33, x34, rfl⟩ := env34 g
  exact ⟨x0, x1, x2, x3, x4, x5, x6, x7, x8, x9, x10, x11, x12, x13, x14, x15, x16, x17, x18, x19, x20, x21, x22, x23, x24, x25, x26, x27, x28, x29, x30, x31, x32, x33, x34, rfl⟩
theorem env36 {ρ : Env} (h : ρ.length = 36) : ∃ x0 x1 x2 x3 x4 x5 x6 x7 x8 x9 x10 x11 x12 x13 x14 x15 x16 x17 x18 x19 x20 x21 x22 x23 x24 x25 x26 x27 x28 x29 x30 x31 x32 x33 x34 x35, ρ = [x0, x1, x2, x3, x4, x5, x6, x7, x8, x9, x10, x11, x12, x13, x14, x15, x16, x17, x18, x19, x20, x21, x22, x23, x24, x25, x26, x27, x28, x29, x30, x31, x32, x33, x34, x35] := by
  obtain ⟨x0, r, rfl, g⟩ := env_succ h
  obtain ⟨x1, x2, x3, x4, x5, x6, x7, x8, x9, x10, x11, x12, x13, x14, x15, x16, x17, x18, x19, x20, x21, x22, x23, x24, x25, x26, x27, x28, x29, x30, x31, x32, x33, x34, x35, rfl⟩ := env35 g
  exact ⟨x0, x1, x2, x3, x4, x5, x6, x7, x8, x9, x10, x11, x12, x13, x14, x15, x16, x17, x18, x19, x20, x21, x22, x23, x24, x25, x26, x27, x28, x29, x30, x31, x32, x33, x34, x35, rfl⟩
theorem env37 {ρ : Env} (h : ρ.length = 37) : ∃ x0 x1 x2 x3 x4 x5 x6 x7 x8 x9 x10 x11 x12 x13 x14 x15 x16 x17 x18 x19 x20 x21 x22 x23 x24 x25 x26 x27 x28 x29 x30 x31 x32 x33 x34 x35 x36, ρ = [x0, x1, x2, x3, x4, x5, x6, x7, x8, x9, x10, x11, x12, x13, x14, x15, x16, x17, x18, x19, x20, x21, x22, x23, x24, x25, x26, x27, x28, x29, x30, x31, x32, x33, x34, x35, x36] := by
  obtain ⟨x0, r, rfl, g⟩ := env_succ h
  obtain ⟨x1, x2, x3, x4, x5, x6, x7, x8, x9, x10, x11, x12, x13, x14, x15, x16, x17, x18, x19, x20, x21, x22, x23, x24, x25, x26, x27, x28, x29, x30, x31, x32, x33, x34, x35, x36, rfl⟩ := env36 g
  exact ⟨x0, x1, x2, x3, x4, x5, x6, x7, x8, x9, x10, x11, x12, x13, x14, x15, x16, x17, x18, x19, x20, x21, x22, x23, x24, x25, x26, x27, x28, x29, x30, x31, x32, x33, x34, x35, x36, rfl⟩
theorem env38 {ρ : Env} (h : ρ.length = 38) : ∃ x0 x1 x2 x3 x4 x5 x6 x7 x8 x9 x10 x11 x12 x13 x14 x15 x16 x17 x18 x19 x20 x21 x22 x23 x24 x25 x26 x27 x28 x29 x30 x31 x32 x33 x34 x35 x36 x37, ρ = [x0, x1, x2, x3, x4, x5, x6, x7, x8, x9, x10, x11, x12, x13, x14, x15, x16, x17, x18, x19, x20, x21, x22, x23, x24, x25, x26, x27, x28, x29, x30, x31, x32, x33, x34, x35, x36, x37] := by
  obtain ⟨x0, r, rfl, g⟩ := env_succ h
  obtain ⟨x1, x2, x3, x4, x5, x6, x7, x8, x9, x10, x11, x12, x13, x14, x15, x16, x17, x18, x19, x20, x21, x22, x23, x24, x25, x26, x27, x28, x29, x30, x31, x32, x33, x34, x35, x36, x37, rfl⟩ := env37 g
  exact ⟨x0, x1, x2, x3, x4, x5, x6, x7, x8, x9, x10, x11, x12, x13, x14, x15, x16, x17, x18, x19, x20, x21, x22, x23, x24, x25, x26, x27, x28, x29, x30, x31, x32, x33, x34, x35, x36, x37, rfl⟩
theorem env39 {ρ : Env} (h : ρ.length = 39) : ∃ x0 x1 x2 x3 x4 x5 x6 x7 x8 x9 x10 x11 x12 x13 x14 x15 x16 x17 x18 x19 x20 x21 x22 x23 x24 x25 x26 x27 x28 x29 x30 x31 x32 x33 x34 x35 x36 x37 x38, ρ = [x0, x1, x2, x3, x4, x5, x6, x7, x8, x9, x10, x11, x12, x13, x14, x15, x16, x17, x18, x19, x20, x21, x22, x23, x24, x25, x26, x27, x28, x29, x30, x31, x32, x33, x34, x35, x36, x37, x38] := by
  obtain ⟨x0, r, rfl, g⟩ := env_succ h
  obtain ⟨x1, x2, x3, x4, x5, x6, x7, x8, x9, x10, x11, x12, x13, x14, x15, x16, x17, x18, x19, x20, x21, x22, x23, x24, x25, x26, x27, x28, x29, x30, x31, x32, x33, x34, x35, x36, x37, x38, rfl⟩ := env38 g
  exact ⟨x0, x1, x2, x3, x4, x5, x6, x7, x8, x9, x10, x11, x12, x13, x14, x15, x16, x17, x18, x19, x20, x21, x22, x23, x24, x25, x26, x27, x28, x29, x30, x31, x32, x33, x34, x35, x36, x37, x38, rfl⟩

theorem leave_any (n : Nat) (b : Bool) (h : AH) : Ev (leave n (.v (.bl b)) h) fun r _ => r = .v (.bl b) := by
  unfold leave
  split
  · exact .ok rfl
  · split
    · exact .ok rfl
    · exact .ok rfl
/-- behind each turn: a pot in the heap's first place -/
def InvP (m : Nat) (ρ : Env) (h : AH) : Prop := ∃ o t, h = o :: t ∧ Pot o ∧ ρ.length = m ∧ slot ρ 1 = some (.v (.loc 0))
def Goes (m : Nat) (q : Fl × Env) (h : AH) : Prop := (q.1 = .nx ∨ q.1 = .cont) ∧ InvP m q.2 h
theorem goes_nx {m : Nat} {ρ : Env} {o : HObj} {t : AH} (ho : Pot o) (hl : ρ.length = m) (hs : slot ρ 1 = some (.v (.loc 0))) : Goes m (.nx, ρ) (o :: t) := ⟨.inl rfl, o, t, rfl, ho, hl, hs⟩
/-- the law's frame: a pot of the script, so many turns, True -/
theorem law_std {f ns : Nat} {body : List S} {m : Nat} (hT : T f = some ⟨1, ns + 3, [.newl 1 (.op (.bin .add) (.cons (.op .lst (.cons (.cst (.int 0)) (.cons (.cst (.int 7)) (.cons (.cst (.int 3)) .nil)))) (.cons (.op .toLst (.cons (.var 0) .nil)) .nil))), .for_ (.var 2) (.range1 (.cst (.int (m : Int)))) body, .ret (.cst (.bl true))]⟩) (hm : m < 1000) (n : Nat) (script : List Int) (hl : script.length ≤ 63)
    (hb : ∀ (i : Nat) (ρ : Env) (o : HObj) (t : AH), Pot o → ρ.length = ns + 3 → slot ρ 1 = some (.v (.loc 0)) → Ev (stepK (.var 2) (execSs (runFn G T n) G body) (.int (i : Int)) ρ (o :: t)) (Goes (ns + 3))) :
    ∃ h', runFn G T (n + 1) f [.sc (script.map .int)] [] = .ok (.v (.bl true)) h' := by
  suffices h : Ev (runFn G T (n + 1) f [.sc (script.map .int)] []) fun r _ => r = .v (.bl true) by
    obtain ⟨r, h', e, rfl⟩ := h
    exact ⟨h', e⟩
  have ha : args [.sc (script.map .int)] (ns + 3) = some (some (.v (.sc (script.map .int))) :: List.replicate (ns + 2) none) := rfl
  rw [run_eq hT n rfl ha]
  have hr : rg1 (.v (.int (m : Int))) = some ((List.range m).map fun i => .int (i : Int)) := rg1_nat (by omega)
  rw [List.replicate_succ]
  simp
  rw [lst_add rfl rfl (SZ_ge (by simp; omega))]
  simp [exf, hr]
  refine for_inv_b (InvP (ns + 3)) ⟨_, _, rfl, ⟨0, 7, 3, script, rfl, by decide, by decide⟩, by simp, rfl⟩ ?_ ?_
  · rintro i - ρ h ⟨o, t, rfl, ho, h1, h2⟩
    exact hb i ρ o t ho h1 h2
  · rintro ρ h ⟨o, t, rfl, ho, h1, h2⟩
    simp
    exact leave_any 0 true _
/-- drawn things of a sort -/
def DrewS {β : Type} (dec : β → PV) (p : β → Prop) (t : AH) (m : Nat) (r : RV) (h' : AH) : Prop := ∃ bs : List β, ∃ o', r = .L false (bs.map dec) ∧ h' = o' :: t ∧ Pot o' ∧ bs.length = m ∧ ∀ b ∈ bs, p b
def DrewE {β : Type} (dec : β → PV) (p : β → Prop) (t : AH) (y : PV) (h' : AH) : Prop := ∃ b o', y = dec b ∧ h' = o' :: t ∧ Pot o' ∧ p b
def DrewSI {β : Type} (dec : β → PV) (p : β → Prop) (t : AH) (acc : List PV) (h' : AH) : Prop := ∃ bs : List β, ∃ o', acc = bs.map dec ∧ h' = o' :: t ∧ Pot o' ∧ ∀ b ∈ bs, p b
theorem lc_draws {cf : CF} {α β : Type} {own : List Nat} {t : Tg} {i : It} {elt : E} {ρ : Env} {o : HObj} {tl : AH} (l : List α) (enc : α → PV) (dec : β → PV) (p : β → Prop) (ho : Pot o) (hi : evalI cf G i true ρ (o :: tl) = .ok (l.map enc) (o :: tl))
    (he : ∀ a ∈ l, ∀ o, Pot o → Ev (eltK cf G own t elt ρ (enc a) (o :: tl)) (DrewE dec p tl)) (hs : l.length ≤ SZ) : Ev (evalE cf G (.lc own elt t i .nil .nil) ρ (o :: tl)) (DrewS dec p tl l.length) := by
  refine (lc_inv l enc (DrewSI dec p tl) hi ⟨[], o, rfl, rfl, ho, by simp⟩ ?_ hs).mono ?_
  · rintro a ha acc h' ⟨bs, o1, rfl, rfl, h1, h2⟩
    refine (he a ha o1 h1).mono ?_
    rintro y h' ⟨b, o2, rfl, rfl, h3, h4⟩
    refine ⟨bs ++ [b], o2, by simp, rfl, h3, ?_⟩
    intro c hc
    simp only [List.mem_append, List.mem_singleton] at hc
    rcases hc with hc | rfl
    · exact h2 c hc
    · exact h4
  · rintro r h' ⟨xs, rfl, ⟨bs, o1, rfl, rfl, h1, h2⟩, hl⟩
    exact ⟨bs, o1, rfl, rfl, h1, by simpa using hl, h2⟩
theorem app_L {ρ : Env} {i : Nat} {b : Bool} {xs : List PV} (hs : slot ρ i = some (.L b xs)) (hl : xs.length < SZ) (y : PV) (h : AH) : appK i ρ (.v y) h = .ok (.nx, setSlot ρ i (some (.L false (xs ++ [y])))) h := by
  unfold appK putL
  simp [hs, hl, nextE]
/-- sameness of lists of one sort -/
theorem same_list [H : K__law_same T] {h : AH} {d : Nat} {xs ys : List PV} (s : Sames h d xs ys) (hz : ys.length ≤ 1048576) (n : Nat) : runFn G T (n + d + 2) 15 [.lst xs, .lst ys] h = .ok (.v (.bl true)) h := same_ok (s.lst (SZ_ge hz)) n
theorem same_eq [H : K__law_same T] {h : AH} {d : Nat} {x : PV} (hx : fit d x = true) (n : Nat) (hd : d ≤ 60 := by decide) : runFn G T (n + d + 1) 15 [x, x] h = .ok (.v (.bl true)) h := same_ok (Same.refl h d x hx hd) n
end WT
end
section
set_option linter.all false
set_option maxRecDepth 100000
namespace WT
open PySem
/-- check_row(told, many); slots: 0=told 1=many -/
def D_check_row : Def := ⟨2, 2, [(.ite (.op .not (.cons (.call 3 [0, 1] (.cons (.var 0) (.cons (.var 1) .nil))) .nil)) [(.raise_ 2 (.var 0))] [])]⟩
class K_check_row (T : Nat → Option Def) : Prop where
  d : T 4 = some D_check_row
  c0 : K_is_row T
instance {T : Nat → Option Def} [h : K_check_row T] : K_is_row T := h.c0
end WT
end
section
set_option linter.all false
set_option autoImplicit true
set_option maxRecDepth 100000
namespace WT
open PySem
variable {G : Nat → Option PV} {T : Nat → Option Def}
theorem is_integer_ok [H : K_is_integer T] (n : Nat) {x : PV} (hx : okEq x = true) (h : AH) : runFn G T (n + 1) 0 [x] h = .ok (.v (.bl (isInt x))) h := by
  rw [run_eq H.d n rfl rfl]
  cases x <;> first | (simp [okEq, flat] at hx; done) | simp [isInt]
theorem is_truth_ok [H : K_is_truth T] (n : Nat) {x : PV} (hx : okEq x = true) (h : AH) : runFn G T (n + 2) 2 [x] h = .ok (.v (.bl (isTr x))) h := by
  rw [run_eq H.d (n + 1) rfl rfl]
  simp [is_integer_ok n hx]
  cases x <;> simp [isInt, isTr, opSem, cmpSem, inSem, hx, memP, pyEq, B, RV.see]
  rename_i i
  rw [beqI, beqI]
theorem is_row_ok [H : K_is_row T] (n : Nat) {x : PV} (hx : okEq x = true) (hl : ∀ xs, x = .tup xs → xs.length ≤ SZ ∧ ∀ y ∈ xs, okEq y = true) (m : Int) (h : AH) : runFn G T (n + 3) 3 [x, .int m] h = .ok (.v (.bl (isRow m x))) h := by
  rw [run_eq H.d (n + 2) rfl rfl]
  cases x <;> first | (simp [okEq, flat] at hx; done) | skip
  all_goals simp [isRow]
  rename_i xs
  obtain ⟨h1, h2⟩ := hl xs rfl
  by_cases hm : (xs.length : Int) = m
  · simp [hm]
    rw [lc_map xs id (fun x => .bl (isTr x)) (by simp) (fun a ha => eltK_of rfl (by simp; rw [is_truth_ok n (h2 a ha)]) rfl) h1]
    simp
  · simp [hm]
theorem check_row_ok [H : K_check_row T] (n : Nat) {x : PV} (hx : okEq x = true) (hl : ∀ xs, x = .tup xs → xs.length ≤ SZ ∧ ∀ y ∈ xs, okEq y = true) (m : Int) (h : AH) : runFn G T (n + 4) 4 [x, .int m] h = if isRow m x = true then .ok (.v .non) h else .exc 2 x h := by
  rw [run_eq H.d (n + 3) rfl rfl]
  simp [is_row_ok n hx hl]
  cases isRow m x <;> simp [raiseK]
theorem check_from_ok [H : K_check_from T] (n : Nat) (i m : Int) (h : AH) : runFn G T (n + 2) 1 [.int i, .int m] h = if m ≤ i then .ok (.v .non) h else .exc 3 (.int i) h := by
  rw [run_eq H.d (n + 1) rfl rfl]
  simp [is_integer_ok n, isInt]
  by_cases hm : i < m
  · have : ¬ m ≤ i := by omega
    simp [hm, this, raiseK]
  · have : m ≤ i := by omega
    simp [hm, this]
theorem all_rows_turn (n j k : Nat) (hj : j + 1 ≤ 20) (x : Option RV) (i : Int) (h : AH) : stepK (.var 2) (execSs (runFn G T n) G [(.own 1 (.lc [3, 4] (.op (.bin .add) (.cons (.var 3) (.cons (.op .tup (.cons (.var 4) .nil)) .nil))) (.var 3) (.val (.var 1)) .nil (.cons [4] (.var 4) (.val (.op .tup (.cons (.cst (.int 0)) (.cons (.cst (.int 1)) .nil)))) .nil .nil)))]) (.int i) [some (.v (.int (k : Int))), some (.L false ((rowsOf j).map rowV)), x, none, none] h =
    .ok (.nx, [some (.v (.int (k : Int))), some (.L false ((rowsOf (j + 1)).map rowV)), some (.v (.int i)), none, none]) h := by
  simp [stepK]
  have p20 : 2 ^ (j + 1) ≤ 1048576 := pow20 hj
  rw [lc_two (rowsOf j) rowV (fun r => [some (.v (.int (k : Int))), some (.L false ((rowsOf j).map rowV)), some (.v (.int i)), some (.v (rowV r)), none]) (fun _ => [false, true]) (fun _ b => tr b) (fun r b => rowV (r ++ [b])) (by simp) (fun r _ => rfl) (fun r _ => by simp) (fun r hr b _ => by
    refine eltK_of (r := .v (rowV (r ++ [b]))) rfl ?_ rfl
    have hr := mem_rowsOf.mp hr
    simp [rowV]
    rw [tup_add (SZ_ge (by simp; omega))]
    simp) (SZ_ge (by
      rw [length_two, rowsOf_length]
      rw [Nat.pow_succ] at p20
      omega))]
  simp [rowsOf, List.map_flatMap]
theorem all_rows_gen {f : Nat} (hT : T f = some D_all_rows) (n k : Nat) (hk : k ≤ 20) (h : AH) : runFn G T (n + 1) f [.int (k : Int)] h = .ok (.L false ((rowsOf k).map rowV)) h := by
  rw [run_eq hT n rfl rfl]
  have hr : rg1 (.v (.int (k : Int))) = some ((List.range k).map fun i => .int (i : Int)) := rg1_nat (by omega)
  simp [exf, hr]
  obtain ⟨ρ', e, y, rfl⟩ := for_upto (step := stepK (.var 2) _) (fun i : Nat => .int (i : Int)) (fun j ρ => ∃ x, ρ = [some (.v (.int (k : Int))), some (.L false ((rowsOf j).map rowV)), x, none, none]) h k [some (.v (.int (k : Int))), some (.L false ((rowsOf 0).map rowV)), none, none, none] ⟨none, rfl⟩ (by
    rintro i hi ρ ⟨x, rfl⟩
    exact ⟨_, all_rows_turn (T := T) (G := G) n i k (by omega) x _ h, _, rfl⟩)
  rw [show ([.tup []] : List PV) = (rowsOf 0).map rowV from rfl, e]
  simp
theorem all_rows_ok [H : K_all_rows T] (n k : Nat) (hk : k ≤ 20) (h : AH) : runFn G T (n + 1) 5 [.int (k : Int)] h = .ok (.L false ((rowsOf k).map rowV)) h := all_rows_gen H.d n k hk h
theorem index_of_ok [H : K_index_of T] (n : Nat) (r : List Bool) (h : AH) : runFn G T (n + 1) 6 [rowV r] h = .ok (.v (.int (idx r : Int))) h := by
  rw [run_eq H.d n rfl rfl]
  simp [exf, rowV]
  have e := for_fold (step := stepK (.var 2) (execSs (runFn G T n) G [(.asg (.var 1) (.op (.bin .add) (.cons (.op (.bin .mul) (.cons (.cst (.int 2)) (.cons (.var 1) .nil))) (.cons (.var 2) .nil))))])) tr (fun s : Nat × Option RV => [some (.v (.tup (r.map tr))), some (.v (.int (s.1 : Int))), s.2]) (fun s b => (2 * s.1 + b.toNat, some (.v (tr b)))) h r (0, none) (by
    rintro a - ⟨s, x⟩
    simp [stepK, tr]
    rw [op_mul (by simp [small])]
    simp)
  rw [show ((0 : Int)) = ((0 : Nat) : Int) from rfl, e]
  have : (r.foldl (fun (s : Nat × Option RV) b => (2 * s.1 + b.toNat, some (RV.v (tr b)))) (0, none)).1 = idx r := by
    have aux : ∀ (l : List Bool) (s : Nat × Option RV), (l.foldl (fun (s : Nat × Option RV) b => (2 * s.1 + b.toNat, some (RV.v (tr b)))) s).1 = l.foldl (fun a b => 2 * a + b.toNat) s.1 := by
      intro l
      induction l with
      | nil => intro s; rfl
      | cons b l ih => intro s; rw [List.foldl_cons, List.foldl_cons, ih]
    exact aux r (0, none)
  simp [this]
/-- what can be looked at -/
def Dat (x : PV) : Prop := okEq x = true ∧ ∀ xs, (x = .tup xs ∨ x = .lst xs) → xs.length ≤ SZ ∧ ∀ y ∈ xs, okEq y = true ∧ ∀ ys, y = .tup ys → ys.length ≤ SZ ∧ ∀ z ∈ ys, okEq z = true
theorem is_function_of_ok [H : K_is_function_of T] (n : Nat) {x : PV} (hx : Dat x) (h : AH) : runFn G T (n + 4) 7 [x] h = .ok (.v (.bl (isFn x))) h := by
  rw [run_eq H.d (n + 3) rfl rfl]
  obtain ⟨hx, hl⟩ := hx
  cases x <;> first | (simp [okEq, flat] at hx; done) | skip
  all_goals simp [isFn]
  rename_i xs
  obtain ⟨h1, h2⟩ := hl xs (.inl rfl)
  rcases xs with _ | ⟨a, _ | ⟨b, _ | ⟨c, xs⟩⟩⟩
  · simp
  · simp
  · simp [is_integer_ok (n + 2) (h2 a (by simp)).1]
    cases a <;> simp [isInt]
    rename_i i
    by_cases h3 : i < 1
    · have : ¬ 1 ≤ i := by omega
      simp [h3, this]
    · have : 1 ≤ i := by omega
      simp [h3, this]
      by_cases h4 : 24 < i
      · have : ¬ i ≤ 24 := by omega
        simp [h4, this]
      · have : i ≤ 24 := by omega
        simp [h4, this]
        rw [op_shl (by omega) (by omega) (by decide)]
        simp
        rw [is_row_ok n (h2 b (by simp)).1 (h2 b (by simp)).2]
        simp
  · simp
    have : ¬ ((xs.length : Int) + 1 + 1 + 1 = 2) := by omega
    simp [this]
theorem check_function_ok [H : K_check_function T] (n : Nat) {x : PV} (hx : Dat x) (h : AH) : runFn G T (n + 5) 8 [x] h = if isFn x = true then .ok (.v .non) h else .exc 1 x h := by
  rw [run_eq H.d (n + 4) rfl rfl]
  simp [is_function_of_ok n hx]
  cases isFn x <;> simp [raiseK]
theorem dat_fn {k : Nat} {t : List Bool} (ht : t.length ≤ 1048576) : Dat (fnV k t) := by
  refine ⟨flat_fn 58 k t, ?_⟩
  rintro xs (h | h) <;> cases h
  refine ⟨by simp [p_SZ_eq], ?_⟩
  intro y hy
  simp at hy
  rcases hy with rfl | rfl
  · exact ⟨by simp, by intro ys h; cases h⟩
  · refine ⟨flat_row 59 t, ?_⟩
    intro ys h
    cases h
    refine ⟨SZ_ge (by simpa using ht), ?_⟩
    intro z hz
    obtain ⟨b, _, rfl⟩ := List.mem_map.mp hz
    exact flat_tr 60 b
end WT
end
section
set_option linter.all false
set_option maxRecDepth 100000
namespace WT
open PySem
/-- is_function(told); slots: 0=told -/
def D_is_function : Def := ⟨1, 1, [(.ret (.call 7 [0] (.cons (.var 0) .nil)))]⟩
class K_is_function (T : Nat → Option Def) : Prop where
  d : T 9 = some D_is_function
  c0 : K_is_function_of T
instance {T : Nat → Option Def} [h : K_is_function T] : K_is_function_of T := h.c0
end WT
end
section
set_option linter.all false
set_option maxRecDepth 100000
namespace WT
open PySem
/-- rows_of(k); slots: 0=k -/
def D_rows_of : Def := ⟨1, 1, [(.expr (.call 1 [0, 1] (.cons (.var 0) (.cons (.cst (.int 1)) .nil)))),
      (.ret (.call 5 [0] (.cons (.var 0) .nil)))]⟩
class K_rows_of (T : Nat → Option Def) : Prop where
  d : T 10 = some D_rows_of
  c0 : K_all_rows T
  c1 : K_check_from T
instance {T : Nat → Option Def} [h : K_rows_of T] : K_all_rows T := h.c0
instance {T : Nat → Option Def} [h : K_rows_of T] : K_check_from T := h.c1
end WT
end
section
set_option linter.all false
set_option maxRecDepth 100000
namespace WT
open PySem
/-- value(f, row); slots: 0=f 1=row -/
def D_value : Def := ⟨2, 2, [(.expr (.call 8 [0] (.cons (.var 0) .nil))),
      (.expr (.call 4 [0, 1] (.cons (.var 1) (.cons (.op .ix (.cons (.var 0) (.cons (.cst (.int 0)) .nil))) .nil)))),
      (.ret (.call 11 [0, 1] (.cons (.var 0) (.cons (.var 1) .nil))))]⟩
class K_value (T : Nat → Option Def) : Prop where
  d : T 12 = some D_value
  c0 : K_check_function T
  c1 : K_check_row T
  c2 : K_value_at T
instance {T : Nat → Option Def} [h : K_value T] : K_check_function T := h.c0
instance {T : Nat → Option Def} [h : K_value T] : K_check_row T := h.c1
instance {T : Nat → Option Def} [h : K_value T] : K_value_at T := h.c2
end WT
end
section
set_option linter.all false
set_option maxRecDepth 100000
namespace WT
open PySem
/-- of_rows(k, rows); slots: 0=k 1=rows 2=row -/
def D_of_rows : Def := ⟨2, 3, [(.expr (.call 1 [0, 1] (.cons (.var 0) (.cons (.cst (.int 1)) .nil)))),
      (.ite (.op .not (.cons (.op (.isi [.list, .tuple]) (.cons (.var 1) .nil)) .nil)) [(.raise_ 2 (.var 1))] []),
      (.for_ (.var 2) (.val (.var 1)) [(.ite (.op .not (.cons (.call 3 [0, 1] (.cons (.var 2) (.cons (.var 0) .nil))) .nil)) [(.raise_ 2 (.var 2))] [])]),
      (.ret (.op .tup (.cons (.var 0) (.cons (.op .toTup (.cons (.lc [2] (.op .toInt (.cons (.op (.cmp .isin) (.cons (.var 2) (.cons (.var 1) .nil))) .nil)) (.var 2) (.val (.call 5 [0] (.cons (.var 0) .nil))) .nil .nil) .nil)) .nil))))]⟩
class K_of_rows (T : Nat → Option Def) : Prop where
  d : T 13 = some D_of_rows
  c0 : K_all_rows T
  c1 : K_check_from T
  c2 : K_is_row T
instance {T : Nat → Option Def} [h : K_of_rows T] : K_all_rows T := h.c0
instance {T : Nat → Option Def} [h : K_of_rows T] : K_check_from T := h.c1
instance {T : Nat → Option Def} [h : K_of_rows T] : K_is_row T := h.c2
end WT
end
section
set_option linter.all false
set_option autoImplicit true
set_option maxRecDepth 100000
namespace WT
open PySem
variable {G : Nat → Option PV} {T : Nat → Option Def}
theorem Dat_of_fit {x : PV} (h : fit 50 x = true) : Dat x := by
  refine ⟨fit_ok h, ?_⟩
  intro xs hx
  have h1 : xs.length ≤ SZ ∧ fits 49 xs = true := by rcases hx with rfl | rfl <;> simpa using h
  refine ⟨h1.1, ?_⟩
  intro y hy
  have h2 := fits_iff.mp h1.2 y hy
  refine ⟨fit_ok h2, ?_⟩
  intro ys e
  subst e
  simp at h2
  exact ⟨h2.1, fun z hz => fit_ok (fits_iff.mp h2.2 z hz)⟩
theorem row_side {x : PV} (h : fit 50 x = true) : ∀ xs, x = .tup xs → xs.length ≤ SZ ∧ ∀ y ∈ xs, okEq y = true := by
  intro xs e
  subst e
  simp at h
  exact ⟨h.1, fun z hz => fit_ok (fits_iff.mp h.2 z hz)⟩
theorem row_side2 {r : List Bool} (h : r.length ≤ 1048576) : ∀ xs, rowV r = .tup xs → xs.length ≤ SZ ∧ ∀ y ∈ xs, okEq y = true := row_side (fit_row h)
theorem is_row_good [H : K_is_row T] (n : Nat) {r : List Bool} (hr : r.length ≤ 20) (h : AH) : runFn G T (n + 3) 3 [rowV r, .int (r.length : Int)] h = .ok (.v (.bl true)) h := by
  rw [is_row_ok n (fit_ok (fit_row (d := 3) (by omega))) (row_side2 (by omega))]
  simp
theorem check_row_good [H : K_check_row T] (n : Nat) {r : List Bool} (hr : r.length ≤ 20) (h : AH) : runFn G T (n + 4) 4 [rowV r, .int (r.length : Int)] h = .ok (.v .non) h := by
  rw [check_row_ok n (fit_ok (fit_row (d := 3) (by omega))) (row_side2 (by omega))]
  simp
/-- a function -/
def Fn (k : Nat) (t : List Bool) : Prop := 1 ≤ k ∧ k ≤ 20 ∧ t.length = 2 ^ k
theorem Fn.dat {k : Nat} {t : List Bool} (f : Fn k t) : Dat (fnV k t) := dat_fn (by rw [f.2.2]; exact pow20 f.2.1)
theorem Fn.is {k : Nat} {t : List Bool} (f : Fn k t) : isFn (fnV k t) = true := isFn_fn f.1 (by have := f.2.1; omega) f.2.2
theorem check_function_good [H : K_check_function T] (n : Nat) {k : Nat} {t : List Bool} (f : Fn k t) (h : AH) : runFn G T (n + 5) 8 [fnV k t] h = .ok (.v .non) h := by
  rw [check_function_ok n f.dat]
  simp [f.is]
theorem is_function_ok [H : K_is_function T] (n : Nat) {x : PV} (hx : Dat x) (h : AH) : runFn G T (n + 5) 9 [x] h = .ok (.v (.bl (isFn x))) h := by
  rw [run_eq H.d (n + 4) rfl rfl]
  simp [is_function_of_ok n hx]
theorem rows_of_ok [H : K_rows_of T] (n k : Nat) (h1 : 1 ≤ k) (hk : k ≤ 20) (h : AH) : runFn G T (n + 3) 10 [.int (k : Int)] h = .ok (.L false ((rowsOf k).map rowV)) h := by
  rw [run_eq H.d (n + 2) rfl rfl]
  simp [check_from_ok n, show (1 : Int) ≤ (k : Int) by omega]
  simp [all_rows_ok (n + 1) k hk]
theorem value_at_ok [H : K_value_at T] (n : Nat) {k : Nat} {t r : List Bool} (ht : t.length = 2 ^ r.length) (h : AH) : runFn G T (n + 2) 11 [fnV k t, rowV r] h = .ok (.v (tr (vat t r))) h := by
  rw [run_eq H.d (n + 1) rfl rfl]
  simp [fnV]
  rw [index_of_ok]
  have := idx_lt r
  simp [vat, ht, this, show idx r < t.length by omega]
theorem value_ok [H : K_value T] (n : Nat) {k : Nat} {t r : List Bool} (f : Fn k t) (hr : r.length = k) (h : AH) : runFn G T (n + 6) 12 [fnV k t, rowV r] h = .ok (.v (tr (vat t r))) h := by
  rw [run_eq H.d (n + 5) rfl rfl]
  simp
  rw [check_function_good n f]
  simp [fnV]
  rw [← hr, check_row_good (n + 1) (by rw [hr]; exact f.2.1)]
  simp
  have := value_at_ok (G := G) (T := T) (n + 3) (k := k) (t := t) (r := r) (by rw [hr]; exact f.2.2) h
  rw [fnV, ← hr] at this
  rw [this]
  simp
theorem any_isL {h : AH} {a : PV} {xs : List PV} (l : a = .tup xs ∨ a = .lst xs) : opSem h (.isi [.list, .tuple]) [.v a] = some (.v (.bl true)) := by
  rcases l with rfl | rfl <;> simp
theorem any_walk {a : PV} {xs : List PV} (l : a = .tup xs ∨ a = .lst xs) (c : Bool) : itV c (.v a) = some xs := by
  rcases l with rfl | rfl <;> simp
theorem any_seq {h : AH} {a : PV} {xs : List PV} (l : a = .tup xs ∨ a = .lst xs) : (RV.v a).seq h = some xs := by
  rcases l with rfl | rfl <;> simp
theorem isin_any {h : AH} {x a : PV} {xs : List PV} (l : a = .tup xs ∨ a = .lst xs) (hx : okEq x = true) (hxs : flats 60 xs = true) : opSem h (.cmp .isin) [.v x, .v a] = some (.v (.bl (memP x xs))) := by
  show B (inSem h (.v x) (.v a)) = _
  simp [inSem, any_seq l, RV.see, hx, hxs, B]
/-- the function that is 1 at some rows -/
theorem of_rows_ok [H : K_of_rows T] (n : Nat) {k : Nat} (h1 : 1 ≤ k) (hk : k ≤ 20) (l : List (List Bool)) (hl : ∀ r ∈ l, r.length = k) {a : PV} (ha : a = .tup (l.map rowV) ∨ a = .lst (l.map rowV)) (h : AH) : runFn G T (n + 4) 13 [.int (k : Int), a] h = .ok (.v (fnV k ((rowsOf k).map l.contains))) h := by
  rw [run_eq H.d (n + 3) rfl rfl]
  simp [check_from_ok (n + 1), show (1 : Int) ≤ (k : Int) by omega, any_isL ha, exf, any_walk ha]
  have e := for_fold (step := stepK (.var 2) (execSs (runFn G T (n + 3)) G [(.ite (.op .not (.cons (.call 3 [0, 1] (.cons (.var 2) (.cons (.var 0) .nil))) .nil)) [(.raise_ 2 (.var 2))] [])])) rowV (fun s : Option RV => [some (.v (.int (k : Int))), some (.v a), s]) (fun _ r => some (.v (rowV r))) h l none (by
    intro r hr s
    have hr := hl r hr
    simp [stepK]
    rw [← hr, is_row_good n (by omega)]
    simp)
  rw [e]
  simp
  rw [lc_map (rowsOf k) rowV (fun r => tr (l.contains r)) (by simp [all_rows_ok (n + 2) k hk]) (fun r hr => by
    refine eltK_of (r := .v (tr (l.contains r))) rfl ?_ rfl
    have hr := mem_rowsOf.mp hr
    simp
    rw [isin_any ha (fit_ok (fit_row (d := 3) (by omega))) (by simp)]
    simp
) (SZ_ge (by rw [rowsOf_length]; exact pow20 hk))]
  simp [fnV]
end WT
end
section
set_option linter.all false
set_option maxRecDepth 100000
namespace WT
open PySem
/-- put_together(f, some); slots: 0=f 1=some 2=many 3=at 4=g -/
def D_put_together : Def := ⟨2, 5, [(.asg (.var 2) (.op .len (.cons (.op .ix (.cons (.op .ix (.cons (.var 1) (.cons (.cst (.int 0)) .nil))) (.cons (.cst (.int 1)) .nil))) .nil))),
      (.ret (.op .tup (.cons (.op .ix (.cons (.op .ix (.cons (.var 1) (.cons (.cst (.int 0)) .nil))) (.cons (.cst (.int 0)) .nil))) (.cons (.op .toTup (.cons (.lc [3] (.call 11 [0, 1] (.cons (.var 0) (.cons (.op .toTup (.cons (.lc [4] (.op .ix (.cons (.op .ix (.cons (.var 4) (.cons (.cst (.int 1)) .nil))) (.cons (.var 3) .nil))) (.var 4) (.val (.var 1)) .nil .nil) .nil)) .nil))) (.var 3) (.range1 (.var 2)) .nil .nil) .nil)) .nil))))]⟩
class K_put_together (T : Nat → Option Def) : Prop where
  d : T 24 = some D_put_together
  c0 : K_value_at T
instance {T : Nat → Option Def} [h : K_put_together T] : K_value_at T := h.c0
end WT
end
section
set_option linter.all false
set_option maxRecDepth 100000
namespace WT
open PySem
/-- put_in(f, some); slots: 0=f 1=some 2=g -/
def D_put_in : Def := ⟨2, 3, [(.expr (.call 8 [0] (.cons (.var 0) .nil))),
      (.ite (.op .not (.cons (.op (.isi [.tuple]) (.cons (.var 1) .nil)) .nil)) [(.raise_ 1 (.var 1))] []),
      (.for_ (.var 2) (.val (.var 1)) [(.expr (.call 8 [0] (.cons (.var 2) .nil)))]),
      (.ite (.or (.op (.cmp .ne) (.cons (.op .len (.cons (.var 1) .nil)) (.cons (.op .ix (.cons (.var 0) (.cons (.cst (.int 0)) .nil))) .nil))) (.op (.cmp .ne) (.cons (.op .lenSetI (.cons (.lc [2] (.op .ix (.cons (.var 2) (.cons (.cst (.int 0)) .nil))) (.var 2) (.val (.var 1)) .nil .nil) .nil)) (.cons (.cst (.int 1)) .nil)))) [(.raise_ 1 (.var 1))] []),
      (.ret (.call 24 [0, 1] (.cons (.var 0) (.cons (.var 1) .nil))))]⟩
class K_put_in (T : Nat → Option Def) : Prop where
  d : T 25 = some D_put_in
  c0 : K_check_function T
  c1 : K_put_together T
instance {T : Nat → Option Def} [h : K_put_in T] : K_check_function T := h.c0
instance {T : Nat → Option Def} [h : K_put_in T] : K_put_together T := h.c1
end WT
end
section
set_option linter.all false
set_option maxRecDepth 100000
namespace WT
open PySem
/-- constant(k, truth); slots: 0=k 1=truth -/
def D_constant : Def := ⟨2, 2, [(.expr (.call 1 [0, 1] (.cons (.var 0) (.cons (.cst (.int 1)) .nil)))),
      (.ite (.op .not (.cons (.call 2 [0] (.cons (.var 1) .nil)) .nil)) [(.raise_ 4 (.var 1))] []),
      (.ret (.op .tup (.cons (.var 0) (.cons (.op (.bin .mul) (.cons (.op .tup (.cons (.var 1) .nil)) (.cons (.op (.bin .shl) (.cons (.cst (.int 1)) (.cons (.var 0) .nil))) .nil))) .nil))))]⟩
class K_constant (T : Nat → Option Def) : Prop where
  d : T 27 = some D_constant
  c0 : K_check_from T
  c1 : K_is_truth T
instance {T : Nat → Option Def} [h : K_constant T] : K_check_from T := h.c0
instance {T : Nat → Option Def} [h : K_constant T] : K_is_truth T := h.c1
end WT
end
section
set_option linter.all false
set_option maxRecDepth 100000
namespace WT
open PySem
/-- turned_of(f); slots: 0=f 1=truth -/
def D_turned_of : Def := ⟨1, 2, [(.ret (.op .tup (.cons (.op .ix (.cons (.var 0) (.cons (.cst (.int 0)) .nil))) (.cons (.op .toTup (.cons (.lc [1] (.op (.bin .sub) (.cons (.cst (.int 1)) (.cons (.var 1) .nil))) (.var 1) (.val (.op .ix (.cons (.var 0) (.cons (.cst (.int 1)) .nil)))) .nil .nil) .nil)) .nil))))]⟩
class K_turned_of (T : Nat → Option Def) : Prop where
  d : T 28 = some D_turned_of
end WT
end
section
set_option linter.all false
set_option maxRecDepth 100000
namespace WT
open PySem
/-- turned(f); slots: 0=f -/
def D_turned : Def := ⟨1, 1, [(.expr (.call 8 [0] (.cons (.var 0) .nil))),
      (.ret (.call 28 [0] (.cons (.var 0) .nil)))]⟩
class K_turned (T : Nat → Option Def) : Prop where
  d : T 29 = some D_turned
  c0 : K_check_function T
  c1 : K_turned_of T
instance {T : Nat → Option Def} [h : K_turned T] : K_check_function T := h.c0
instance {T : Nat → Option Def} [h : K_turned T] : K_turned_of T := h.c1
end WT
end
section
set_option linter.all false
set_option maxRecDepth 100000
namespace WT
open PySem
/-- dual_of(f); slots: 0=f 1=truth -/
def D_dual_of : Def := ⟨1, 2, [(.ret (.op .tup (.cons (.op .ix (.cons (.var 0) (.cons (.cst (.int 0)) .nil))) (.cons (.op .toTup (.cons (.lc [1] (.op (.bin .sub) (.cons (.cst (.int 1)) (.cons (.var 1) .nil))) (.var 1) (.val (.op .rev (.cons (.op .ix (.cons (.var 0) (.cons (.cst (.int 1)) .nil))) .nil))) .nil .nil) .nil)) .nil))))]⟩
class K_dual_of (T : Nat → Option Def) : Prop where
  d : T 30 = some D_dual_of
end WT
end
section
set_option linter.all false
set_option maxRecDepth 100000
namespace WT
open PySem
/-- dual(f); slots: 0=f -/
def D_dual : Def := ⟨1, 1, [(.expr (.call 8 [0] (.cons (.var 0) .nil))),
      (.ret (.call 30 [0] (.cons (.var 0) .nil)))]⟩
class K_dual (T : Nat → Option Def) : Prop where
  d : T 31 = some D_dual
  c0 : K_check_function T
  c1 : K_dual_of T
instance {T : Nat → Option Def} [h : K_dual T] : K_check_function T := h.c0
instance {T : Nat → Option Def} [h : K_dual T] : K_dual_of T := h.c1
end WT
end
section
set_option linter.all false
set_option autoImplicit true
set_option maxRecDepth 100000
namespace WT
open PySem
variable {G : Nat → Option PV} {T : Nat → Option Def}
/-! plain facts of tables -/
theorem vat_map {m : Nat} (g : List Bool → Bool) {r : List Bool} (h : r.length = m) : vat ((rowsOf m).map g) r = g r := by
  subst h
  unfold vat
  rw [List.getD_eq_getElem?_getD, List.getElem?_map, rowsOf_get_idx]
  rfl
theorem table_ext {k : Nat} {s t : List Bool} (hs : s.length = 2 ^ k) (ht : t.length = 2 ^ k) (h : ∀ r, r.length = k → vat s r = vat t r) : s = t := by
  rw [← map_vat hs, ← map_vat ht]
  exact List.map_congr_left fun r hr => h r (mem_rowsOf.mp hr)
theorem rows_map_length (m : Nat) {β : Type} (g : List Bool → β) : ((rowsOf m).map g).length = 2 ^ m := by rw [List.length_map, rowsOf_length]
/-- a function of functions -/
def putIn (t : List Bool) (ts : List (List Bool)) (m : Nat) : List Bool := (rowsOf m).map fun r => vat t (ts.map fun tb => vat tb r)
def proj (k i : Nat) : List Bool := (rowsOf k).map fun r => r.getD i false
theorem vat_proj {k i : Nat} {r : List Bool} (h : r.length = k) : vat (proj k i) r = r.getD i false := vat_map _ h
theorem putIn_length (t : List Bool) (ts : List (List Bool)) (m : Nat) : (putIn t ts m).length = 2 ^ m := rows_map_length m _
theorem vat_putIn {t : List Bool} {ts : List (List Bool)} {m : Nat} {r : List Bool} (h : r.length = m) : vat (putIn t ts m) r = vat t (ts.map fun tb => vat tb r) := vat_map _ h
theorem map_getD (r : List Bool) : (List.range r.length).map (fun i => r.getD i false) = r := by
  apply List.ext_getElem
  · simp
  · intro i h1 h2
    simp [h2]
theorem putIn_proj {k : Nat} {t : List Bool} (ht : t.length = 2 ^ k) : putIn t ((List.range k).map (proj k)) k = t := by
  refine table_ext (putIn_length ..) ht fun r hr => ?_
  rw [vat_putIn hr, List.map_map]
  congr 1
  subst hr
  conv => rhs; rw [← map_getD r]
  exact List.map_congr_left fun i _ => vat_proj rfl
theorem putIn_of_proj {k i m : Nat} {ts : List (List Bool)} (hl : ts.length = k) {s : List Bool} (hi : ts[i]? = some s) (hs : s.length = 2 ^ m) : putIn (proj k i) ts m = s := by
  refine table_ext (putIn_length ..) hs fun r hr => ?_
  rw [vat_putIn hr, vat_proj (by simpa using hl)]
  simp [hi]
theorem putIn_putIn {m p : Nat} (t : List Bool) (ts us : List (List Bool)) (hu : us.length = m) : putIn (putIn t ts m) us p = putIn t (ts.map fun s => putIn s us p) p := by
  refine table_ext (putIn_length ..) (putIn_length ..) fun r hr => ?_
  rw [vat_putIn hr, vat_putIn hr, vat_putIn (by simpa using hu), List.map_map]
  congr 1
  exact List.map_congr_left fun s _ => (vat_putIn hr).symm
theorem putIn_range {t : List Bool} {ts : List (List Bool)} {m : Nat} : (List.range (2 ^ m)).map (fun i => vat t (ts.map fun tb => tb.getD i false)) = putIn t ts m := by
  rw [← rows_idx, List.map_map]
  rfl
theorem Fn.putIn {m : Nat} {t : List Bool} {ts : List (List Bool)} (h1 : 1 ≤ m) (h2 : m ≤ 20) : Fn m (WT.putIn t ts m) := ⟨h1, h2, putIn_length ..⟩
theorem Fn.proj {k i : Nat} (h1 : 1 ≤ k) (h2 : k ≤ 20) : Fn k (WT.proj k i) := ⟨h1, h2, rows_map_length ..⟩
def turnT (t : List Bool) : List Bool := t.map (!·)
def dualT (t : List Bool) : List Bool := t.reverse.map (!·)
def constT (k : Nat) (b : Bool) : List Bool := List.replicate (2 ^ k) b
theorem idx_cons (b : Bool) (r : List Bool) : idx (b :: r) = b.toNat * 2 ^ r.length + idx r := by
  have aux : ∀ (r : List Bool) (a : Nat), r.foldl (fun a b => 2 * a + b.toNat) a = a * 2 ^ r.length + r.foldl (fun a b => 2 * a + b.toNat) 0 := by
    intro r
    induction r with
    | nil => intro a; simp
    | cons c r ih =>
      intro a
      rw [List.foldl_cons, List.foldl_cons, Nat.mul_zero, Nat.zero_add, ih (2 * a + c.toNat), ih c.toNat, List.length_cons, Nat.pow_succ, Nat.add_mul]
      have : 2 * a * 2 ^ r.length = a * (2 ^ r.length * 2) := by
        rw [Nat.mul_comm (2 ^ r.length) 2, ← Nat.mul_assoc, Nat.mul_comm a 2]
      omega
  unfold idx
  rw [List.foldl_cons, aux]
  simp
theorem idx_not (r : List Bool) : idx (r.map (!·)) + idx r + 1 = 2 ^ r.length := by
  induction r with
  | nil => rfl
  | cons b r ih =>
    rw [List.map_cons, idx_cons, idx_cons, List.length_map, List.length_cons, Nat.pow_succ]
    cases b <;> simp <;> omega
theorem vat_turn {k : Nat} {t r : List Bool} (ht : t.length = 2 ^ k) (hr : r.length = k) : vat (turnT t) r = !vat t r := by
  have := idx_lt r
  rw [hr, ← ht] at this
  simp [vat, turnT, this]
theorem vat_dual {k : Nat} {t r : List Bool} (ht : t.length = 2 ^ k) (hr : r.length = k) : vat (dualT t) r = !vat t (r.map (!·)) := by
  have a := idx_lt r
  have b := idx_not r
  rw [hr] at a b
  have e : t.length - 1 - idx r = idx (r.map (!·)) := by omega
  have c : idx (r.map (!·)) < t.length := by omega
  simp [vat, dualT, show idx r < t.length by omega, e, c, List.getElem?_reverse, show idx r < t.length by omega]
theorem vat_const {k : Nat} {b : Bool} {r : List Bool} (hr : r.length = k) : vat (constT k b) r = b := by
  have := idx_lt r
  rw [hr] at this
  simp [vat, constT, this]
theorem turn_length (t : List Bool) : (turnT t).length = t.length := by simp [turnT]
theorem dual_length (t : List Bool) : (dualT t).length = t.length := by simp [dualT]
theorem const_length (k : Nat) (b : Bool) : (constT k b).length = 2 ^ k := by simp [constT]
theorem turn_turn (t : List Bool) : turnT (turnT t) = t := by simp [turnT, Function.comp_def]
theorem dual_dual (t : List Bool) : dualT (dualT t) = t := by simp [dualT, List.map_reverse, Function.comp_def]
theorem dual_turn (t : List Bool) : dualT (turnT t) = turnT (dualT t) := by simp [dualT, turnT, List.map_reverse]
theorem dual_const (k : Nat) (b : Bool) : dualT (constT k b) = constT k (!b) := by simp [dualT, constT]
theorem dual_proj {k i : Nat} (hi : i < k) : dualT (proj k i) = proj k i := by
  refine table_ext (k := k) (by rw [dual_length]; exact rows_map_length ..) (rows_map_length ..) fun r hr => ?_
  rw [vat_dual (show (proj k i).length = 2 ^ k from rows_map_length ..) hr, vat_proj (by simpa using hr), vat_proj hr]
  simp [show i < r.length by omega]
theorem dual_putIn {m : Nat} {t : List Bool} {ts : List (List Bool)} (ht : t.length = 2 ^ ts.length) (hts : ∀ s ∈ ts, s.length = 2 ^ m) : dualT (putIn t ts m) = putIn (dualT t) (ts.map dualT) m := by
  refine table_ext (k := m) (by rw [dual_length]; exact putIn_length ..) (putIn_length ..) fun r hr => ?_
  rw [vat_dual (putIn_length ..) hr, vat_putIn (by simpa using hr), vat_putIn hr, vat_dual ht (by simp), List.map_map, List.map_map]
  congr 2
  exact List.map_congr_left fun s hs => by simp [vat_dual (hts s hs) hr]
theorem dual_rows {k : Nat} {t : List Bool} (ht : t.length = 2 ^ k) : (rowsOf k).map (fun r => !vat t (r.map (!·))) = dualT t := by
  refine table_ext (rows_map_length ..) (by rw [dual_length]; exact ht) fun r hr => ?_
  rw [vat_map _ hr, vat_dual ht hr]
theorem Fn.turn {k : Nat} {t : List Bool} (f : Fn k t) : Fn k (turnT t) := ⟨f.1, f.2.1, by rw [turn_length]; exact f.2.2⟩
theorem Fn.dual {k : Nat} {t : List Bool} (f : Fn k t) : Fn k (dualT t) := ⟨f.1, f.2.1, by rw [dual_length]; exact f.2.2⟩
theorem Fn.const {k : Nat} {b : Bool} (h1 : 1 ≤ k) (h2 : k ≤ 20) : Fn k (constT k b) := ⟨h1, h2, const_length ..⟩
/-! the program -/
theorem check_below_good [H : K_check_below T] (n : Nat) {i m : Int} (h0 : 0 ≤ i) (h1 : i < m) (h : AH) : runFn G T (n + 2) 21 [.int i, .int m] h = .ok (.v .non) h := by
  rw [run_eq H.d (n + 1) rfl rfl]
  have a : ¬ i < 0 := by omega
  have b : ¬ m ≤ i := by omega
  simp [is_integer_ok n, isInt, a, b]
theorem projection_to_ok [H : K_projection_to T] (n : Nat) {k i : Nat} (hk : k ≤ 20) (hi : i < k) (h : AH) : runFn G T (n + 2) 22 [.int (k : Int), .int (i : Int)] h = .ok (.v (fnV k (proj k i))) h := by
  rw [run_eq H.d (n + 1) rfl rfl]
  simp
  rw [lc_map (rowsOf k) rowV (fun r => tr (r.getD i false)) (by simp [all_rows_ok n k hk]) (fun r hr => eltK_of (r := .v (tr (r.getD i false))) rfl (by
    have := mem_rowsOf.mp hr
    simp [rowV, show i < r.length by omega]) rfl) (SZ_ge (by rw [rowsOf_length]; exact pow20 hk))]
  simp [fnV, proj]
theorem projection_ok [H : K_projection T] (n : Nat) {k i : Nat} (hk : k ≤ 20) (hi : i < k) (h : AH) : runFn G T (n + 3) 23 [.int (k : Int), .int (i : Int)] h = .ok (.v (fnV k (proj k i))) h := by
  rw [run_eq H.d (n + 2) rfl rfl]
  simp [check_from_ok n, show (1 : Int) ≤ (k : Int) by omega]
  rw [check_below_good n (by omega) (by omega)]
  simp
  rw [projection_to_ok n hk hi]
  simp
theorem put_together_ok [H : K_put_together T] (n : Nat) {k m : Nat} {t : List Bool} {ts : List (List Bool)} (ht : t.length = 2 ^ ts.length) (hm : m ≤ 20) (hne : ts ≠ []) (hts : ∀ tb ∈ ts, tb.length = 2 ^ m) (hl : ts.length ≤ 20) (h : AH) : runFn G T (n + 3) 24 [fnV k t, .tup (ts.map (fnV m))] h = .ok (.v (fnV m (putIn t ts m))) h := by
  rw [run_eq H.d (n + 2) rfl rfl]
  obtain ⟨s, ts', rfl⟩ : ∃ s ts', ts = s :: ts' := by
    cases ts with
    | nil => exact absurd rfl hne
    | cons s ts' => exact ⟨s, ts', rfl⟩
  have hs := hts s (by simp)
  have p20 := pow20 hm
  have hr : rg1 (.v (.int ((2 ^ m : Nat) : Int))) = some ((List.range (2 ^ m)).map fun i => .int (i : Int)) := rg1_nat (by omega)
  simp
  rw [show fnV m s = .tup [.int (m : Int), .tup (s.map tr)] from rfl]
  simp [hs]
  rw [lc_map (List.range (2 ^ m)) (fun i : Nat => .int (i : Int)) (fun i => tr (vat t ((s :: ts').map fun tb => tb.getD i false))) (by simp at hr; simp [hr]) (fun i hi => by
    have hi := List.mem_range.mp hi
    refine eltK_of (r := .v (tr (vat t ((s :: ts').map fun tb => tb.getD i false)))) rfl ?_ rfl
    simp
    rw [lc_map (s :: ts') (fnV m) (fun tb => tr (tb.getD i false)) (by simp [fnV]) (fun tb hb => eltK_of (r := .v (tr (tb.getD i false))) rfl (by
      have := hts tb hb
      simp [fnV, show i < tb.length by omega]) rfl) (SZ_ge (by omega))]
    have e := value_at_ok (G := G) (T := T) n (k := k) (t := t) (r := (s :: ts').map fun tb => tb.getD i false) (by simpa using ht) h
    simp [rowV, Function.comp_def] at e
    simp [e]) (SZ_ge (by simpa using p20))]
  have e := putIn_range (t := t) (ts := s :: ts') (m := m)
  simp [fnV, ← e]
theorem dedup_const (m : Int) : ∀ n : Nat, dedupI (List.replicate (n + 1) m) = [m] := by
  have aux : ∀ n : Nat, (List.replicate n m).foldl (fun acc x => if acc.any (· == x) then acc else acc ++ [x]) [m] = [m] := by
    intro n
    induction n with
    | zero => rfl
    | succ n ih => rw [List.replicate_succ, List.foldl_cons]; simp; simpa using ih
  intro n
  unfold dedupI
  rw [List.replicate_succ, List.foldl_cons]
  simpa using aux n
theorem op_lenSet {α : Type} {l : List α} {f : α → Int} {b : Bool} (hl : l.length < 4000) (h : AH) : opSem h .lenSetI [.L b (l.map fun a => .int (f a))] = some (.v (.int ((dedupI (l.map f)).length : Int))) := by
  show N (((RV.L b _).lst? h).bind fun xs => if xs.length < 4000 then (pInts xs).map fun ns => ((dedupI ns).length : Int) else none) = _
  simp [hl, pInts_map, N]
theorem put_in_ok [H : K_put_in T] (n : Nat) {k m : Nat} {t : List Bool} {ts : List (List Bool)} (hf : Fn k t) (hl : ts.length = k) (hts : ∀ tb ∈ ts, Fn m tb) (h : AH) : runFn G T (n + 6) 25 [fnV k t, .tup (ts.map (fnV m))] h = .ok (.v (fnV m (putIn t ts m))) h := by
  rw [run_eq H.d (n + 5) rfl rfl]
  have h1 := hf.1
  have h2 := hf.2.1
  simp
  rw [check_function_good n hf]
  simp [exf]
  refine for_list_b (fun d ρ => ∃ x, ρ = [some (.v (fnV k t)), some (.v (.tup (ts.map (fnV m)))), x]) ⟨none, rfl⟩ ?_ ?_
  · rintro d tb e rfl ρ ⟨x, rfl⟩
    refine ⟨_, ?_, some (.v (fnV m tb)), rfl⟩
    simp [stepK]
    rw [check_function_good n (hts tb (by simp))]
    simp
  · rintro ρ ⟨x, rfl⟩
    have ix0 : opSem h .ix [.v (fnV k t), .v (.int 0)] = some (.v (.int (k : Int))) := by simp [fnV]
    obtain ⟨s, ts', rfl⟩ : ∃ s ts', ts = s :: ts' := by
      cases ts with
      | nil => simp at hl; omega
      | cons s ts' => exact ⟨s, ts', rfl⟩
    have hm := hts s (by simp)
    simp [ix0]
    rw [show ((ts'.length : Int) + 1) = (k : Int) by simp at hl; omega]
    simp
    rw [lc_map (s :: ts') (fnV m) (fun _ => .int (m : Int)) (by simp) (fun tb hb => eltK_of (r := .v (.int (m : Int))) rfl (by simp [fnV]) rfl) (SZ_ge (by omega))]
    have e : (dedupI ((s :: ts').map fun _ => (m : Int))) = [(m : Int)] := by
      rw [List.map_const', List.length_cons]
      exact dedup_const _ _
    have e2 := op_lenSet (l := s :: ts') (f := fun _ => (m : Int)) (b := false) (by omega) h
    rw [e] at e2
    simp at e2
    simp [e2]
    have e3 := put_together_ok (G := G) (T := T) (n + 2) (k := k) (m := m) (t := t) (ts := s :: ts') (by rw [hl]; exact hf.2.2) hm.2.1 (by simp) (fun tb hb => (hts tb hb).2.2) (by omega) h
    simp at e3
    simp [e3]
theorem one_minus (b : Bool) (h : AH) : opSem h (.bin .sub) [.v (.int 1), .v (tr b)] = some (.v (tr !b)) := by cases b <;> rfl
theorem turned_of_ok [H : K_turned_of T] (n : Nat) {k : Nat} {t : List Bool} (f : Fn k t) (h : AH) : runFn G T (n + 1) 28 [fnV k t] h = .ok (.v (fnV k (turnT t))) h := by
  rw [run_eq H.d n rfl rfl]
  simp [fnV]
  rw [lc_map t tr (fun b => tr !b) (by simp) (fun b _ => eltK_of (r := .v (tr !b)) rfl (by simp [one_minus]) rfl) (SZ_ge (by rw [f.2.2]; exact pow20 f.2.1))]
  simp [turnT, Function.comp_def]
theorem turned_ok [H : K_turned T] (n : Nat) {k : Nat} {t : List Bool} (f : Fn k t) (h : AH) : runFn G T (n + 6) 29 [fnV k t] h = .ok (.v (fnV k (turnT t))) h := by
  rw [run_eq H.d (n + 5) rfl rfl]
  simp
  rw [check_function_good n f]
  simp
  rw [turned_of_ok (n + 4) f]
  simp
theorem dual_of_ok [H : K_dual_of T] (n : Nat) {k : Nat} {t : List Bool} (f : Fn k t) (h : AH) : runFn G T (n + 1) 30 [fnV k t] h = .ok (.v (fnV k (dualT t))) h := by
  rw [run_eq H.d n rfl rfl]
  simp [fnV]
  rw [lc_map t.reverse tr (fun b => tr !b) (by simp) (fun b _ => eltK_of (r := .v (tr !b)) rfl (by simp [one_minus]) rfl) (SZ_ge (by rw [List.length_reverse, f.2.2]; exact pow20 f.2.1))]
  simp [dualT, Function.comp_def]
theorem dual_ok [H : K_dual T] (n : Nat) {k : Nat} {t : List Bool} (f : Fn k t) (h : AH) : runFn G T (n + 6) 31 [fnV k t] h = .ok (.v (fnV k (dualT t))) h := by
  rw [run_eq H.d (n + 5) rfl rfl]
  simp
  rw [check_function_good n f]
  simp
  rw [dual_of_ok (n + 4) f]
  simp
theorem constant_ok [H : K_constant T] (n : Nat) {k : Nat} (b : Bool) (h1 : 1 ≤ k) (hk : k ≤ 9) (h : AH) : runFn G T (n + 3) 27 [.int (k : Int), tr b] h = .ok (.v (fnV k (constT k b))) h := by
  rw [run_eq H.d (n + 2) rfl rfl]
  have p : 2 ^ k ≤ 512 := Nat.le_trans (Nat.pow_le_pow_right (by decide) hk) (by decide)
  obtain ⟨N, hN⟩ : ∃ N : Nat, 2 ^ k = N := ⟨_, rfl⟩
  have e : opSem h (.bin .shl) [.v (.int 1), .v (.int (k : Int))] = some (.v (.int (N : Int))) := by
    rw [op_shl (by omega) (by omega) (by decide), ← hN]
    simp
  simp [check_from_ok (n + 0), show (1 : Int) ≤ (k : Int) by omega]
  rw [is_truth_ok (n + 0) (by simp [okEq])]
  simp [e]
  have e2 : opSem h (.bin .mul) [.v (.tup [tr b]), .v (.int (N : Int))] = some (.v (.tup (List.replicate N (tr b)))) := by
    rw [p_op_mulT (by omega) (by omega) (by simp), rep_one]
    simp
  simp [e2, fnV, constT, hN]
end WT
end
section
set_option linter.all false
set_option maxRecDepth 100000
namespace WT
open PySem
/-- _law_of(k, rule); slots: 0=k 1=rule 2=one -/
def D__law_of : Def := ⟨2, 3, [(.ret (.op .tup (.cons (.var 0) (.cons (.op .toTup (.cons (.lc [2] (.op .toInt (.cons (.var 2) .nil)) (.var 2) (.val (.var 1)) .nil .nil) .nil)) .nil))))]⟩
class K__law_of (T : Nat → Option Def) : Prop where
  d : T 32 = some D__law_of
end WT
end
section
set_option linter.all false
set_option autoImplicit true
set_option maxRecDepth 100000
/-! Drawn functions; what the laws of functions have in common. -/
namespace WT
open PySem
variable {G : Nat → Option PV} {T : Nat → Option Def}
/-- a tuple of drawn functions -/
theorem draw_fns [H : K__law_function T] {own : List Nat} {t : Tg} {i : It} {e : E} {ρ : Env} {o : HObj} {tl : AH} {α : Type} (n : Nat) {k : Nat} (h1 : 1 ≤ k) (hk : k ≤ 6) (l : List α) (enc : α → PV) (ho : Pot o) (hi : evalI (runFn G T (n + 2)) G i true ρ (o :: tl) = .ok (l.map enc) (o :: tl))
    (hb : ∀ x, ∃ ρ', bindTg t x (wipe ρ own) = some ρ' ∧ slot ρ' 1 = some (.v (.loc 0)) ∧ ∀ h, evalE (runFn G T (n + 2)) G e ρ' h = .ok (.v (.int (k : Int))) h) (hs : l.length ≤ SZ) :
    Ev (evalE (runFn G T (n + 2)) G (.lc own (.call 18 [0, 1] (.cons (.var 1) (.cons e .nil))) t i .nil .nil) ρ (o :: tl)) (DrewS (fnV k) (Fn k) tl l.length) := by
  refine lc_draws l enc (fnV k) (Fn k) ho hi ?_ hs
  intro a ha o ho
  obtain ⟨ρ', e1, e2, e3⟩ := hb (enc a)
  unfold eltK
  rw [e1]
  simp [e2, e3]
  refine Ev.call (law_function_ok n h1 hk ho tl) ?_
  rintro _ _ ⟨tb, o', rfl, rfl, ho', hb⟩
  simp only [toPV_v, ofOpt_some, Ev_ok]
  exact ⟨tb, o', rfl, rfl, ho', h1, by omega, hb⟩
theorem ix_fn0 (k : Nat) (t : List Bool) (h : AH) : opSem h .ix [.v (fnV k t), .v (.int 0)] = some (.v (.int (k : Int))) := by simp [fnV]
theorem ix_fn1 (k : Nat) (t : List Bool) (h : AH) : opSem h .ix [.v (fnV k t), .v (.int 1)] = some (.v (.tup (t.map tr))) := by simp [fnV]
theorem fit_Fn {d k : Nat} {t : List Bool} (f : Fn k t) : fit (d + 2) (fnV k t) = true := fit_fn (by rw [f.2.2]; exact pow20 f.2.1)
theorem same_Fn [H : K__law_same T] {k : Nat} {t : List Bool} (f : Fn k t) (n : Nat) (h : AH) : runFn G T (n + 3) 15 [fnV k t, fnV k t] h = .ok (.v (.bl true)) h := same_eq (fit_Fn (d := 0) f) n
/-- _law_of: a table of truths -/
theorem law_of_ok [H : K__law_of T] (n : Nat) (k : Nat) {a : PV} (tb : List Bool) (ha : a = .lst (tb.map tr) ∨ a = .tup (tb.map tr)) (hl : tb.length ≤ 1048576) (h : AH) : runFn G T (n + 1) 32 [.int (k : Int), a] h = .ok (.v (fnV k tb)) h := by
  rw [run_eq H.d n rfl rfl]
  simp
  rw [lc_map tb tr tr (by rcases ha with rfl | rfl <;> simp) (fun b _ => eltK_of (r := .v (tr b)) rfl (by cases b <;> simp) rfl) (SZ_ge hl)]
  simp [fnV]
theorem fit_fns {d k : Nat} {l : List (List Bool)} (hl : l.length ≤ 1000) (h : ∀ t ∈ l, Fn k t) : fit (d + 3) (.lst (l.map (fnV k))) = true := fit_lst2 (by simp; omega) (by
  intro x hx
  obtain ⟨t, ht, rfl⟩ := List.mem_map.mp hx
  exact fit_Fn (h t ht))
theorem hget_last' (t : AH) (x : HObj) : hget (t ++ [x]) t.length = some x := by
  induction t with
  | nil => rfl
  | cons a t ih => exact ih
theorem loc_same {o : HObj} {t : AH} {d : Nat} {xs : List PV} (hx : fits d xs = true) (hl : xs.length ≤ 1048576) (hd : d ≤ 50) : Same (o :: (t ++ [.l xs])) (d + 1) (.loc (t.length + 1)) (.lst xs) := by
  refine .lst d _ _ xs xs (.inr ⟨_, rfl, ?_⟩) (.inl rfl) (SZ_ge hl) rfl ?_
  · simp [hget_last']
  · intro i x y a b
    rw [a] at b
    cases b
    exact Same.refl _ d _ (fits_iff.mp hx x (List.mem_of_getElem? a)) (by omega)
theorem app_loc {ρ : Env} {i : Nat} {o : HObj} {t : AH} {xs : List PV} (hs : slot ρ i = some (.v (.loc (t.length + 1)))) (hl : xs.length < SZ) (y : PV) : appK i ρ (.v y) (o :: (t ++ [.l xs])) = .ok (.nx, ρ) (o :: (t ++ [.l (xs ++ [y])])) := by
  unfold appK putL
  simp [hs, hget_last', hl, nextE]
theorem op_max2 (i j : Int) (h : AH) : opSem h .max2 [.v (.int i), .v (.int j)] = some (.v (.int (if j > i then j else i))) := rfl
theorem op_min2 (i j : Int) (h : AH) : opSem h .min2 [.v (.int i), .v (.int j)] = some (.v (.int (if j < i then j else i))) := rfl
end WT
end
section
set_option linter.all false
set_option autoImplicit true
set_option maxRecDepth 100000
set_option maxHeartbeats 4000000
namespace WT
open PySem
/-! insertion sort by keys: same members, same result -/
theorem lxl_asym : ∀ a b : List Int, lexL a b = true → lexL b a = false
  | [], [], h => by cases h
  | [], _ :: _, _ => rfl
  | _ :: _, [], h => by cases h
  | x :: xs, y :: ys, h => by
    unfold lexL at h ⊢
    by_cases e : x = y
    · rw [if_pos e] at h
      rw [if_pos e.symm]
      exact lxl_asym xs ys h
    · rw [if_neg e, decide_eq_true_eq] at h
      rw [if_neg (Ne.symm e), decide_eq_false_iff_not]
      omega
theorem lxl_tr : ∀ a b c : List Int, lexL a b = false → lexL b c = false → lexL a c = false
  | [], [], c, _, h => h
  | [], _ :: _, _, h, _ => by cases h
  | _ :: _, _, [], _, _ => rfl
  | _ :: _, [], _ :: _, _, h => by cases h
  | x :: xs, y :: ys, z :: zs, h1, h2 => by
    unfold lexL at h1 h2 ⊢
    by_cases e1 : x = y
    · rw [if_pos e1] at h1
      by_cases e2 : y = z
      · rw [if_pos e2] at h2
        rw [if_pos (e1.trans e2)]
        exact lxl_tr xs ys zs h1 h2
      · rw [if_neg e2, decide_eq_false_iff_not] at h2
        rw [if_neg (by omega), decide_eq_false_iff_not]
        omega
    · rw [if_neg e1, decide_eq_false_iff_not] at h1
      by_cases e2 : y = z
      · rw [if_neg (by omega), decide_eq_false_iff_not]
        omega
      · rw [if_neg e2, decide_eq_false_iff_not] at h2
        rw [if_neg (by omega), decide_eq_false_iff_not]
        omega
theorem lxl_anti : ∀ a b : List Int, lexL a b = false → lexL b a = false → a = b
  | [], [], _, _ => rfl
  | [], _ :: _, h, _ => by cases h
  | _ :: _, [], _, h => by cases h
  | x :: xs, y :: ys, h1, h2 => by
    unfold lexL at h1 h2
    by_cases e : x = y
    · rw [if_pos e] at h1
      rw [if_pos e.symm] at h2
      rw [e, lxl_anti xs ys h1 h2]
    · rw [if_neg e, decide_eq_false_iff_not] at h1
      rw [if_neg (Ne.symm e), decide_eq_false_iff_not] at h2
      omega
theorem insk_perm {α : Type} (k : α → List Int) (y : α) : ∀ S : List α, (insK k y S).Perm (y :: S)
  | [] => .refl _
  | x :: xs => by
    rw [insK]
    split
    · exact .refl _
    · exact ((insk_perm k y xs).cons x).trans (List.Perm.swap y x xs)
theorem insk_srt {α : Type} (k : α → List Int) (y : α) : ∀ S : List α, S.Pairwise (fun a b => lexL (k b) (k a) = false) → (insK k y S).Pairwise (fun a b => lexL (k b) (k a) = false)
  | [], _ => by simp [insK]
  | x :: xs, h => by
    rw [insK]
    have hc := List.pairwise_cons.mp h
    split
    · next c =>
      refine List.pairwise_cons.mpr ⟨fun z hz => ?_, h⟩
      have hxy := lxl_asym _ _ c
      rcases List.mem_cons.mp hz with rfl | hz
      · exact hxy
      · exact lxl_tr _ _ _ (hc.1 z hz) hxy
    · next c =>
      refine List.pairwise_cons.mpr ⟨fun z hz => ?_, insk_srt k y xs hc.2⟩
      rcases List.mem_cons.mp ((insk_perm k y xs).mem_iff.mp hz) with rfl | hz
      · exact Bool.eq_false_iff.mpr c
      · exact hc.1 z hz
theorem isk_ok {α : Type} (k : α → List Int) (l : List α) : (isortK k l).Perm l ∧ (isortK k l).Pairwise (fun a b => lexL (k b) (k a) = false) := by
  have aux : ∀ (l S P : List α), S.Perm P → S.Pairwise (fun a b => lexL (k b) (k a) = false) → (l.foldl (fun S y => insK k y S) S).Perm (P ++ l) ∧ (l.foldl (fun S y => insK k y S) S).Pairwise (fun a b => lexL (k b) (k a) = false) := by
    intro l
    induction l with
    | nil => intro S P h1 h2; exact ⟨by simpa using h1, h2⟩
    | cons y l ih =>
      intro S P h1 h2
      have := ih (insK k y S) (P ++ [y]) ((insk_perm k y S).trans ((h1.cons y).trans (List.perm_append_comm (l₁ := [y])))) (insk_srt k y S h2)
      simpa using this
  have := aux l [] [] (.refl _) .nil
  simpa [isortK] using this
theorem isk_perm {α : Type} (k : α → List Int) (l : List α) : (isortK k l).Perm l := (isk_ok k l).1
theorem isk_length {α : Type} (k : α → List Int) (l : List α) : (isortK k l).length = l.length := (isk_perm k l).length_eq
theorem isk_mem {α : Type} (k : α → List Int) (l : List α) (x : α) : x ∈ isortK k l ↔ x ∈ l := (isk_perm k l).mem_iff
theorem isk_eq {α : Type} (k : α → List Int) {l m : List α} (hp : l.Perm m) (hi : ∀ a ∈ l, ∀ b ∈ l, k a = k b → a = b) : isortK k l = isortK k m :=
  List.Perm.eq_of_pairwise (fun a b ha hb h1 h2 => hi a ((isk_mem k l a).mp ha) b (hp.mem_iff.mpr ((isk_mem k m b).mp hb)) (lxl_anti _ _ h2 h1)) (isk_ok k l).2 (isk_ok k m).2 ((isk_perm k l).trans (hp.trans (isk_perm k m).symm))
theorem isk_srt {α : Type} (k : α → List Int) {l : List α} (hs : l.Pairwise (fun a b => lexL (k b) (k a) = false)) (hi : ∀ a ∈ l, ∀ b ∈ l, k a = k b → a = b) : isortK k l = l :=
  List.Perm.eq_of_pairwise (fun a b ha hb h1 h2 => hi a ((isk_mem k l a).mp ha) b hb (lxl_anti _ _ h2 h1)) (isk_ok k l).2 hs (isk_perm k l)
theorem perm_two {α : Type} (p q : α → Bool) (l : List α) (hd : ∀ a ∈ l, p a = true → q a = false) : (l.filter p ++ l.filter q).Perm (l.filter fun a => p a || q a) := by
  have h1 := List.filter_append_perm p (l.filter fun a => p a || q a)
  rw [List.filter_filter, List.filter_filter] at h1
  have e1 : (l.filter fun a => p a && (p a || q a)) = l.filter p := List.filter_congr fun a _ => by cases p a <;> rfl
  have e2 : (l.filter fun a => (!p a) && (p a || q a)) = l.filter q := List.filter_congr fun a ha => by
    have := hd a ha
    cases hp : p a with
    | false => simp
    | true => simp [this hp]
  rw [e1, e2] at h1
  exact h1
/-! tuples of ints -/
def tupI (ns : List Int) : PV := .tup (ns.map .int)
theorem pIntsI (ns : List Int) : pInts (ns.map .int) = some ns := by
  have := pInts_map ns id
  simpa using this
@[simp] theorem keyT_I (ns : List Int) : keyT (tupI ns) = ns := by simp [keyT, tupI, pIntsI]
@[simp] theorem okT_I (ns : List Int) : okT (tupI ns) = true := by simp [okT, tupI, pIntsI]
theorem op_sortT {a : RV} {L : List (List Int)} {h : AH} (e : a.seq h = some (L.map tupI)) : opSem h .sortedT [a] = some (.L false (isortK keyT (L.map tupI))) := by
  have : (L.map tupI).all okT = true := by simp
  simp only [opSem, e, Option.bind_some, this, if_true]
theorem insk_map {α β : Type} (f : α → β) (k : β → List Int) (y : α) : ∀ S : List α, (insK (fun x => k (f x)) y S).map f = insK k (f y) (S.map f)
  | [] => rfl
  | x :: xs => by
    rw [insK, List.map_cons, insK]
    split
    · rfl
    · rw [List.map_cons, insk_map f k y xs]
theorem isk_map {α β : Type} (f : α → β) (k : β → List Int) (l : List α) : (isortK (fun x => k (f x)) l).map f = isortK k (l.map f) := by
  have aux : ∀ (l S : List α), (l.foldl (fun S y => insK (fun x => k (f x)) y S) S).map f = (l.map f).foldl (fun S y => insK k y S) (S.map f) := by
    intro l
    induction l with
    | nil => intro S; rfl
    | cons y l ih => intro S; rw [List.foldl_cons, ih, insk_map, List.map_cons, List.foldl_cons]
  exact aux l []
/-- the sorted list, as lists of ints -/
def srt (L : List (List Int)) : List (List Int) := isortK id L
theorem srt_tup (L : List (List Int)) : isortK keyT (L.map tupI) = (srt L).map tupI := by
  have := isk_map tupI keyT L
  rw [← this]
  simp only [keyT_I]
  rfl
theorem srt_perm (L : List (List Int)) : (srt L).Perm L := isk_perm _ L
theorem srt_mem {L : List (List Int)} {x : List Int} : x ∈ srt L ↔ x ∈ L := isk_mem _ L x
theorem srt_eq {L M : List (List Int)} (h : L.Perm M) : srt L = srt M := isk_eq _ h fun _ _ _ _ e => e
theorem srt_length (L : List (List Int)) : (srt L).length = L.length := isk_length _ L
end WT
end
section
set_option linter.all false
set_option autoImplicit true
set_option maxRecDepth 100000
set_option maxHeartbeats 4000000
/-! Tuples of ints: equal, less, ascending, sorted without repeats. -/
namespace WT
open PySem
variable {G : Nat → Option PV} {T : Nat → Option Def} {cf : CF}
theorem pyEqs_ints : ∀ p q : List Int, pyEqs (p.map .int) (q.map .int) = (p == q)
  | [], [] => rfl
  | [], _ :: _ => rfl
  | _ :: _, [] => rfl
  | x :: p, y :: q => by
    simp only [List.map_cons, pyEqs, pyEqs_ints p q, List.cons_beq_cons, pyEq]
theorem pyEq_tupI (p q : List Int) : pyEq (tupI p) (tupI q) = (p == q) := by
  simp only [tupI, pyEq, pyEqs_ints]
theorem memP_tupI (p : List Int) (l : List (List Int)) : memP (tupI p) (l.map tupI) = l.contains p := by
  induction l with
  | nil => rfl
  | cons a l ih =>
    simp only [List.map_cons, memP, pyEq_tupI, ih, List.contains_cons]
    congr 1
    rw [Bool.eq_iff_iff, beq_iff_eq, beq_iff_eq]
    exact eq_comm
theorem fit_tupI {d : Nat} {p : List Int} (hp : p.length ≤ 1048576) : fit (d + 1) (tupI p) = true := fit_tup2 (by simpa using hp) (by
  intro x hx
  obtain ⟨i, _, rfl⟩ := List.mem_map.mp hx
  exact fit_int d i)
theorem notin_any {h : AH} {x a : PV} {xs : List PV} (l : a = .tup xs ∨ a = .lst xs) (hx : okEq x = true) (hxs : flats 60 xs = true) : opSem h (.cmp .notin) [.v x, .v a] = some (.v (.bl (!memP x xs))) := by
  have e : (RV.v a).seq h = some xs := by rcases l with rfl | rfl <;> rfl
  show B ((inSem h (.v x) (.v a)).map (!·)) = _
  simp [inSem, e, RV.see, hx, hxs, B]
/-- strictly ascending, by neighbours -/
def ascB {α : Type} (lt : α → α → Bool) (l : List α) : Bool := (l.zip (l.drop 1)).all fun x => lt x.1 x.2
theorem ascB_iff {α : Type} {lt : α → α → Bool} (tr : ∀ a b c, lt a b = true → lt b c = true → lt a c = true) : ∀ l : List α, ascB lt l = true ↔ l.Pairwise (fun a b => lt a b = true)
  | [] => by simp [ascB]
  | [a] => by simp [ascB]
  | a :: b :: l => by
    have ih := ascB_iff tr (b :: l)
    have e : ascB lt (a :: b :: l) = (lt a b && ascB lt (b :: l)) := by simp [ascB]
    rw [e, Bool.and_eq_true, ih, List.pairwise_cons (a := a)]
    constructor
    · rintro ⟨h1, h2⟩
      refine ⟨fun c hc => ?_, h2⟩
      rcases List.mem_cons.mp hc with rfl | hc
      · exact h1
      · exact tr _ _ _ h1 ((List.pairwise_cons.mp h2).1 c hc)
    · rintro ⟨h1, h2⟩
      exact ⟨h1 b (by simp), h2⟩
theorem p_ins_perm (x : Int) : ∀ l : List Int, (ins x l).Perm (x :: l)
  | [] => List.Perm.refl _
  | y :: l => by
    unfold ins
    split
    · exact List.Perm.refl _
    · exact ((p_ins_perm x l).cons y).trans (List.Perm.swap x y l)
theorem p_isort_perm : ∀ l : List Int, (isort l).Perm l
  | [] => List.Perm.refl _
  | x :: l => (p_ins_perm x (isort l)).trans ((p_isort_perm l).cons x)
theorem p_ins_sorted (x : Int) : ∀ l : List Int, l.Pairwise (· ≤ ·) → (ins x l).Pairwise (· ≤ ·)
  | [], _ => by simp [ins]
  | y :: l, h => by
    unfold ins
    split
    · rename_i c
      refine List.pairwise_cons.mpr ⟨fun z hz => ?_, h⟩
      rcases List.mem_cons.mp hz with rfl | hz
      · exact c
      · exact Int.le_trans c ((List.pairwise_cons.mp h).1 z hz)
    · rename_i c
      refine List.pairwise_cons.mpr ⟨fun z hz => ?_, p_ins_sorted x l (List.pairwise_cons.mp h).2⟩
      rcases List.mem_cons.mp ((p_ins_perm x l).mem_iff.mp hz) with rfl | hz
      · omega
      · exact (List.pairwise_cons.mp h).1 z hz
theorem p_isort_sorted : ∀ l : List Int, (isort l).Pairwise (· ≤ ·)
  | [] => List.Pairwise.nil
  | x :: l => p_ins_sorted x _ (p_isort_sorted l)
/-- two lists that are sorted and hold the same items -/
theorem same_sorted {α : Type} {le : α → α → Prop} (anti : ∀ a b, le a b → le b a → a = b) : ∀ {l m : List α}, l.Perm m → l.Pairwise le → m.Pairwise le → l = m
  | [], m, p, _, _ => (List.nil_perm.mp p).symm
  | x :: l, [], p, _, _ => absurd p.length_eq (by simp)
  | x :: l, y :: m, p, h1, h2 => by
    have a := List.pairwise_cons.mp h1
    have b := List.pairwise_cons.mp h2
    have e : x = y := by
      have m1 : x ∈ y :: m := p.mem_iff.mp List.mem_cons_self
      have m2 : y ∈ x :: l := p.mem_iff.mpr List.mem_cons_self
      rcases List.mem_cons.mp m1 with h | h
      · exact h
      · rcases List.mem_cons.mp m2 with h' | h'
        · exact h'.symm
        · exact anti _ _ (a.1 y h') (b.1 x h)
    subst e
    rw [same_sorted anti p.cons_inv a.2 b.2]
theorem p_dd_mem {α : Type} [BEq α] [LawfulBEq α] : ∀ (l acc : List α) (x : α), x ∈ l.foldl (fun acc x => if acc.any (· == x) then acc else acc ++ [x]) acc ↔ x ∈ acc ∨ x ∈ l
  | [], acc, x => by simp
  | y :: l, acc, x => by
    rw [List.foldl_cons, p_dd_mem l]
    by_cases c : acc.any (· == y) = true
    · rw [if_pos c]
      have hy : y ∈ acc := by
        obtain ⟨z, hz, e⟩ := List.any_eq_true.mp c
        have e := eq_of_beq e
        rw [← e]; exact hz
      rw [List.mem_cons]
      constructor
      · rintro (h | h)
        · exact .inl h
        · exact .inr (.inr h)
      · rintro (h | rfl | h)
        · exact .inl h
        · exact .inl hy
        · exact .inr h
    · rw [if_neg c]
      simp [or_assoc]
theorem p_dd_nodup {α : Type} [BEq α] [LawfulBEq α] : ∀ (l acc : List α), acc.Nodup → (l.foldl (fun acc x => if acc.any (· == x) then acc else acc ++ [x]) acc).Nodup
  | [], acc, h => h
  | y :: l, acc, h => by
    rw [List.foldl_cons]
    refine p_dd_nodup l _ ?_
    by_cases c : acc.any (· == y) = true
    · rw [if_pos c]; exact h
    · rw [if_neg c]
      refine List.nodup_append.mpr ⟨h, by simp, ?_⟩
      intro a ha b hb
      rw [List.mem_singleton.mp hb]
      rintro rfl
      exact c (List.any_eq_true.mpr ⟨_, ha, by simp⟩)
theorem p_dedupI_mem (ns : List Int) (x : Int) : x ∈ dedupI ns ↔ x ∈ ns := by
  unfold dedupI
  rw [p_dd_mem]
  simp
theorem p_dedupI_nodup (ns : List Int) : (dedupI ns).Nodup := p_dd_nodup ns [] (by simp)
theorem p_dedupL_mem (ns : List (List Int)) (x : List Int) : x ∈ dedupL ns ↔ x ∈ ns := by
  unfold dedupL
  rw [p_dd_mem]
  simp
theorem p_dedupL_nodup (ns : List (List Int)) : (dedupL ns).Nodup := p_dd_nodup ns [] (by simp)
/-- the sorted ints without repeats -/
def srtI (ns : List Int) : List Int := isort (dedupI ns)
theorem srtI_lt (ns : List Int) : (srtI ns).Pairwise (· < ·) := by
  have h1 := p_isort_sorted (dedupI ns)
  have h2 : (isort (dedupI ns)).Nodup := (p_isort_perm _).nodup_iff.mpr (p_dedupI_nodup ns)
  exact (h1.and h2).imp fun {a b} h => by have := h.1; have := h.2; omega
theorem srtI_mem {ns : List Int} {x : Int} : x ∈ srtI ns ↔ x ∈ ns := by rw [srtI, (p_isort_perm _).mem_iff, p_dedupI_mem]
theorem srtI_fix {ns : List Int} : ns = srtI ns ↔ ascB (fun a b => decide (a < b)) ns = true := by
  rw [ascB_iff (fun a b c h1 h2 => by simp at *; omega)]
  constructor
  · intro h
    rw [h]
    exact (srtI_lt ns).imp fun h => by simpa using h
  · intro h
    have h' : ns.Pairwise (· < ·) := h.imp fun h => by simpa using h
    refine same_sorted (le := (· ≤ ·)) (fun a b h1 h2 => by omega) ?_ (h'.imp fun h => by omega) (p_isort_sorted _)
    refine ((List.perm_ext_iff_of_nodup (h'.imp fun h => by omega) (p_dedupI_nodup ns)).mpr fun k => ?_).trans (p_isort_perm _).symm
    rw [p_dedupI_mem]
theorem lexL_trans (a b c : List Int) (h1 : lexL a b = true) (h2 : lexL b c = true) : lexL a c = true := by
  cases h : lexL a c with
  | true => rfl
  | false =>
    have := lxl_tr a c b h (lxl_asym _ _ h2)
    rw [this] at h1
    cases h1
theorem lexL_irr (a : List Int) : lexL a a = false := by
  cases h : lexL a a with
  | false => rfl
  | true => rw [lxl_asym _ _ h] at h; cases h
/-- the sorted tuples without repeats -/
def srtL (L : List (List Int)) : List (List Int) := isortK (fun ns => ns) (dedupL L)
theorem srtL_mem {L : List (List Int)} {x : List Int} : x ∈ srtL L ↔ x ∈ L := by rw [srtL, isk_mem, p_dedupL_mem]
theorem srtL_nodup (L : List (List Int)) : (srtL L).Nodup := (isk_perm _ _).nodup_iff.mpr (p_dedupL_nodup L)
theorem srtL_lt (L : List (List Int)) : (srtL L).Pairwise (fun a b => lexL a b = true) := by
  have h1 := (isk_ok (fun ns : List Int => ns) (dedupL L)).2
  have h2 := srtL_nodup L
  refine (List.Pairwise.and h1 h2).imp fun {a b} h => ?_
  cases hh : lexL a b with
  | true => rfl
  | false => exact absurd (lxl_anti _ _ hh h.1) h.2
theorem lt_nodup {L : List (List Int)} (h : L.Pairwise (fun a b => lexL a b = true)) : L.Nodup := h.imp fun {a b} h e => by
  subst e
  rw [lexL_irr] at h
  cases h
theorem lt_same {L M : List (List Int)} (hL : L.Pairwise (fun a b => lexL a b = true)) (hM : M.Pairwise (fun a b => lexL a b = true)) (h : ∀ x, x ∈ L ↔ x ∈ M) : L = M := by
  have hp : L.Perm M := (List.perm_ext_iff_of_nodup (lt_nodup hL) (lt_nodup hM)).mpr h
  exact same_sorted (le := fun a b => lexL b a = false) (fun a b h1 h2 => lxl_anti _ _ h2 h1) hp (hL.imp fun h => lxl_asym _ _ h) (hM.imp fun h => lxl_asym _ _ h)
theorem srtL_fix {L : List (List Int)} : L = srtL L ↔ ascB lexL L = true := by
  rw [ascB_iff lexL_trans]
  constructor
  · intro h
    rw [h]
    exact srtL_lt L
  · intro h
    exact lt_same h (srtL_lt L) fun x => srtL_mem.symm
theorem srt_lt {L : List (List Int)} (hn : L.Nodup) : (srt L).Pairwise (fun a b => lexL a b = true) := by
  have h1 : (srt L).Pairwise (fun a b => lexL b a = false) := (isk_ok (id : List Int → List Int) L).2
  have h2 : (srt L).Nodup := (srt_perm L).nodup_iff.mpr hn
  refine (List.Pairwise.and h1 h2).imp fun {a b} h => ?_
  cases hh : lexL a b with
  | true => rfl
  | false => exact absurd (lxl_anti _ _ hh h.1) h.2
theorem p_lexLt_eq : ∀ a b : List Int, lexLt a b = lexL a b
  | [], [] => rfl
  | [], _ :: _ => rfl
  | _ :: _, [] => rfl
  | x :: xs, y :: ys => by rw [lexLt, lexL, p_lexLt_eq xs ys]
theorem lt_tupI (p q : List Int) (h : AH) : opSem h (.cmp .lt) [.v (tupI p), .v (tupI q)] = some (.v (.bl (lexL p q))) := by
  have : ltSem (.v (tupI p)) (.v (tupI q)) = some (lexL p q) := by
    show (match pInts (p.map .int), pInts (q.map .int) with
      | some ns, some ms => some (lexLt ns ms)
      | _, _ => none) = _
    rw [pIntsI, pIntsI]
    simp [p_lexLt_eq]
  show B (ltSem (.v (tupI p)) (.v (tupI q))) = _
  rw [this]
  rfl
theorem op_sortSetI {a : RV} {ns : List Int} {h : AH} (e : a.seq h = some (ns.map .int)) (hl : ns.length < 64) : opSem h .sortSet [a] = some (.L false ((srtI ns).map .int)) := by
  show ((a.seq h).bind fun xs => (sortSetV xs).map fun ys => RV.L false ys) = _
  rw [e]
  simp only [Option.bind_some, sortSetV, List.length_map, if_pos hl, pIntsI]
  rfl
theorem keyT_map (L : List (List Int)) : (L.map tupI).map keyT = L := by
  rw [List.map_map]
  conv => rhs; rw [← List.map_id L]
  exact List.map_congr_left fun p _ => keyT_I p
theorem op_sortSetT {a : RV} {L : List (List Int)} {h : AH} (e : a.seq h = some (L.map tupI)) (hl : L.length < 64) : opSem h .sortSet [a] = some (.L false ((srtL L).map tupI)) := by
  show ((a.seq h).bind fun xs => (sortSetV xs).map fun ys => RV.L false ys) = _
  rw [e]
  cases L with
  | nil => rfl
  | cons p L =>
    have e1 : pInts ((p :: L).map tupI) = none := by simp [pInts, tupI]
    have e2 : ((p :: L).map tupI).all okT = true := by
      rw [List.all_map]
      exact List.all_eq_true.mpr fun q _ => okT_I q
    have e3 : sortSetV ((p :: L).map tupI) = some ((isortK (fun ns => ns) (dedupL (((p :: L).map tupI).map keyT))).map fun ns => .tup (ns.map .int)) := by
      unfold sortSetV
      rw [if_pos (by simpa using hl), e1]
      simp only [e2, if_true]
    rw [Option.bind_some, e3, keyT_map]
    rfl
theorem pyEqs_tups : ∀ A B : List (List Int), pyEqs (A.map tupI) (B.map tupI) = (A == B)
  | [], [] => rfl
  | [], _ :: _ => rfl
  | _ :: _, [] => rfl
  | a :: A, b :: B => by
    rw [List.map_cons, List.map_cons, pyEqs, pyEq_tupI, pyEqs_tups A B]
    rfl
theorem srtI_len (ns : List Int) : (srtI ns).length ≤ ns.length := by
  rw [srtI, (p_isort_perm _).length_eq]
  have aux : ∀ (l acc : List Int), (l.foldl (fun acc x => if acc.any (· == x) then acc else acc ++ [x]) acc).length ≤ acc.length + l.length := by
    intro l
    induction l with
    | nil => intro acc; simp
    | cons a l ih =>
      intro acc
      rw [List.foldl_cons]
      refine Nat.le_trans (ih _) ?_
      split <;> simp <;> omega
  have := aux ns []
  simpa [dedupI] using this
theorem srtL_len (L : List (List Int)) : (srtL L).length ≤ L.length := by
  rw [srtL, isk_length]
  have aux : ∀ (l acc : List (List Int)), (l.foldl (fun acc x => if acc.any (· == x) then acc else acc ++ [x]) acc).length ≤ acc.length + l.length := by
    intro l
    induction l with
    | nil => intro acc; simp
    | cons a l ih =>
      intro acc
      rw [List.foldl_cons]
      refine Nat.le_trans (ih _) ?_
      split <;> simp <;> omega
  have := aux L []
  simpa [dedupL] using this
end WT
end
section
set_option linter.all false
set_option autoImplicit true
set_option maxRecDepth 100000
/-! The small heap at any place. -/
namespace WT
open PySem
theorem hgetE : ∀ (h : AH) (n : Nat), hget h n = h[n]?
  | [], _ => rfl
  | _ :: _, 0 => rfl
  | _ :: h, n + 1 => by
    show hget h n = _
    rw [hgetE h n]
    simp
theorem hget_setE (h : AH) (n m : Nat) (o : HObj) : hget (h.set n o) m = if n = m then (if n < h.length then some o else none) else hget h m := by
  rw [hgetE, hgetE, List.getElem?_set]
theorem p_hget_lt {h : AH} {n : Nat} {o : HObj} (e : hget h n = some o) : n < h.length := by
  rw [hgetE] at e
  exact (List.getElem?_eq_some_iff.mp e).1
theorem hget_appL {h g : AH} {n : Nat} (hn : n < h.length) : hget (h ++ g) n = hget h n := by
  rw [hgetE, hgetE, List.getElem?_append_left hn]
theorem hget_new (h : AH) (o : HObj) : hget (h ++ [o]) h.length = some o := by
  rw [hgetE]
  simp
/-- a list changed where it stands -/
theorem putL_loc {ρ : Env} {i n : Nat} {h : AH} {xs : List PV} (hs : slot ρ i = some (.v (.loc n))) (e : hget h n = some (.l xs)) (f : List PV → Option (List PV)) : putL ρ h i f = match f xs with
    | some ys => nextE ρ (h.set n (.l ys))
    | none => .bad := by
  unfold putL
  rw [hs]
  show (match hget h n with | some (.l xs) => _ | _ => _) = _
  rw [e]
  all_goals rfl
theorem appK_loc {ρ : Env} {i n : Nat} {h : AH} {xs : List PV} (hs : slot ρ i = some (.v (.loc n))) (e : hget h n = some (.l xs)) (hl : xs.length < SZ) (y : PV) : appK i ρ (.v y) h = .ok (.nx, ρ) (h.set n (.l (xs ++ [y]))) := by
  unfold appK
  show putL ρ h i _ = _
  rw [putL_loc hs e]
  simp [hl, nextE]
theorem set_new (h : AH) (o u : HObj) : (h ++ [o]).set h.length u = h ++ [u] := by
  rw [List.set_append_right _ _ (Nat.le_refl _)]
  simp
end WT
end
section
set_option linter.all false
set_option autoImplicit true
set_option maxRecDepth 100000
namespace WT
open PySem
/-- a for that leaves the heap, told by what is done -/
theorem for_list_h {α β : Type} {step : PV → Env → AH → Out (Fl × Env)} {enc : α → PV} {h : AH} {ρ : Env} {K : Fl × Env → AH → Out β} {Q : β → AH → Prop} {l : List α} (P : List α → Env → Prop) (h0 : P [] ρ) (hs : ∀ d a e, d ++ a :: e = l → ∀ ρ, P d ρ → Ev (step (enc a) ρ h) fun q h' => h' = h ∧ (q.1 = .nx ∨ q.1 = .cont) ∧ P (d ++ [a]) q.2) (hk : ∀ ρ', P l ρ' → Ev (K (.nx, ρ') h) Q) : Ev ((forL step (l.map enc) ρ h).bnd K) Q := by
  have key : ∃ ρ', forL step (l.map enc) ρ h = .ok (.nx, ρ') h ∧ P l ρ' := by
    have aux : ∀ (e d : List α) (ρ : Env), d ++ e = l → P d ρ → ∃ ρ', forL step (e.map enc) ρ h = .ok (.nx, ρ') h ∧ P l ρ' := by
      intro e
      induction e with
      | nil => intro d ρ e hp; exact ⟨ρ, rfl, by simpa [← e] using hp⟩
      | cons a e ih =>
        intro d ρ eq hp
        obtain ⟨⟨fl, ρ1⟩, h1, e1, rfl, hf, hp1⟩ := (hs d a e eq ρ hp).ex
        obtain ⟨ρ2, e2, h2⟩ := ih (d ++ [a]) ρ1 (by simpa using eq) hp1
        refine ⟨ρ2, ?_, h2⟩
        rw [List.map_cons, forL, e1]
        rcases hf with hf | hf <;> simp only at hf <;> subst hf <;> exact e2
    exact aux l [] ρ rfl h0
  obtain ⟨ρ', e, hp⟩ := key
  rw [e]
  exact hk ρ' hp
/-- a for that may change the heap, told by what is done -/
theorem for_list_p {α β : Type} {step : PV → Env → AH → Out (Fl × Env)} {enc : α → PV} {h : AH} {ρ : Env} {K : Fl × Env → AH → Out β} {Q : β → AH → Prop} {l : List α} (P : List α → Env → AH → Prop) (h0 : P [] ρ h) (hs : ∀ d a e, d ++ a :: e = l → ∀ ρ h, P d ρ h → Ev (step (enc a) ρ h) fun q h' => (q.1 = .nx ∨ q.1 = .cont) ∧ P (d ++ [a]) q.2 h') (hk : ∀ ρ' h', P l ρ' h' → Ev (K (.nx, ρ') h') Q) : Ev ((forL step (l.map enc) ρ h).bnd K) Q := by
  have aux : ∀ (e d : List α) (ρ : Env) (h : AH), d ++ e = l → P d ρ h → Ev (forL step (e.map enc) ρ h) fun q h' => q.1 = .nx ∧ P l q.2 h' := by
    intro e
    induction e with
    | nil => intro d ρ h e hp; exact .ok ⟨rfl, by simpa [← e] using hp⟩
    | cons a e ih =>
      intro d ρ h eq hp
      obtain ⟨⟨fl, ρ1⟩, h1, e1, hf, hp1⟩ := (hs d a e eq ρ h hp).ex
      have := ih (d ++ [a]) ρ1 h1 (by simpa using eq) hp1
      rw [List.map_cons, forL, e1]
      rcases hf with hf | hf <;> simp only at hf <;> subst hf <;> exact this
  refine Ev.call (aux l [] ρ h rfl h0) ?_
  rintro ⟨fl, ρ'⟩ h' ⟨hf, hp⟩
  simp only at hf
  subst hf
  exact hk ρ' h' hp
/-- a for that answers at the first item that is found -/
theorem for_find {α : Type} {step : PV → Env → AH → Out (Fl × Env)} {enc : α → PV} {h : AH} {l : List α} (P : List α → Env → Prop) (bad : α → Bool) (v : α → RV) (hs : ∀ d a e, d ++ a :: e = l → ∀ ρ, P d ρ → (bad a = false → Ev (step (enc a) ρ h) fun q h' => h' = h ∧ (q.1 = .nx ∨ q.1 = .cont) ∧ P (d ++ [a]) q.2) ∧ (bad a = true → Ev (step (enc a) ρ h) fun q h' => h' = h ∧ q.1 = .ret (v a))) {ρ : Env} (h0 : P [] ρ) :
    Ev (forL step (l.map enc) ρ h) fun q h' => h' = h ∧ ((l.find? bad = none ∧ q.1 = .nx ∧ P l q.2) ∨ ∃ a, l.find? bad = some a ∧ q.1 = .ret (v a)) := by
  have aux : ∀ (e d : List α) (ρ : Env), d ++ e = l → P d ρ → Ev (forL step (e.map enc) ρ h) fun q h' => h' = h ∧ ((e.find? bad = none ∧ q.1 = .nx ∧ P l q.2) ∨ ∃ a, e.find? bad = some a ∧ q.1 = .ret (v a)) := by
    intro e
    induction e with
    | nil => intro d ρ e hp; exact .ok ⟨rfl, .inl ⟨rfl, rfl, by simpa [← e] using hp⟩⟩
    | cons a e ih =>
      intro d ρ eq hp
      obtain ⟨h1, h2⟩ := hs d a e eq ρ hp
      rw [List.map_cons, forL]
      cases c : bad a with
      | false =>
        obtain ⟨⟨fl, ρ1⟩, h', e1, rfl, hf, hp1⟩ := (h1 c).ex
        have := ih (d ++ [a]) ρ1 (by simpa using eq) hp1
        rw [e1]
        have e2 : (a :: e).find? bad = e.find? bad := by rw [List.find?_cons_of_neg (by rw [c]; decide)]
        rw [e2]
        rcases hf with hf | hf <;> simp only at hf <;> subst hf <;> exact this
      | true =>
        obtain ⟨⟨fl, ρ1⟩, h', e1, rfl, hf⟩ := (h2 c).ex
        simp only at hf
        subst hf
        rw [e1]
        exact .ok ⟨rfl, .inr ⟨a, List.find?_cons_of_pos c, rfl⟩⟩
  exact aux l [] ρ rfl h0
theorem ex_while {cf : CF} {G : Nat → Option PV} (c : E) (b : List S) (ρ : Env) (h : AH) : execS cf G (.while_ c b) ρ h = whileL (truthE (evalE cf G c)) (execSs cf G b) whileFuel ρ h := (rfl)
def boolO (r : RV) (h : AH) : Out Bool := match r.truth h with
  | some b => .ok b h
  | none => .bad
theorem truthE_bnd (f : FE) (ρ : Env) (h : AH) : truthE f ρ h = (f ρ h).bnd fun r h => boolO r h := (rfl)
@[simp] theorem boolO_bl (b : Bool) (h : AH) : boolO (.v (.bl b)) h = .ok b h := (rfl)
theorem while_up {test : Env → AH → Out Bool} {step : Env → AH → Out (Fl × Env)} {h : AH} (P : Nat → Env → Prop) (n : Nat) (ht : ∀ i, i < n → ∀ ρ, P i ρ → test ρ h = .ok true h ∧ Ev (step ρ h) fun q h' => h' = h ∧ (q.1 = .nx ∨ q.1 = .cont) ∧ P (i + 1) q.2) (hf : ∀ ρ, P n ρ → test ρ h = .ok false h) : ∀ (m i : Nat) (ρ : Env), i ≤ n → n < m + i → P i ρ → Ev (whileL test step m ρ h) fun q h' => h' = h ∧ q.1 = .nx ∧ P n q.2
  | 0, i, ρ, h1, h2, _ => by omega
  | m + 1, i, ρ, h1, h2, hp => by
    rcases Nat.lt_or_ge i n with hi | hi
    · obtain ⟨e1, e2⟩ := ht i hi ρ hp
      obtain ⟨⟨fl, ρ1⟩, h', e3, rfl, hfl, hp1⟩ := e2.ex
      have ih := while_up P n ht hf m (i + 1) ρ1 hi (by omega) hp1
      rw [whileL, e1]
      show Ev ((step ρ h').bind _) _
      rw [e3]
      rcases hfl with hfl | hfl <;> simp only at hfl <;> subst hfl <;> exact ih
    · obtain rfl : i = n := by omega
      rw [whileL, hf ρ hp]
      exact .ok ⟨rfl, rfl, hp⟩
theorem Ev.toEq {α : Type} {o : Out α} {a : α} {h : AH} (e : Ev o fun r h' => r = a ∧ h' = h) : o = .ok a h := by
  obtain ⟨_, _, e, rfl, rfl⟩ := e
  exact e
theorem Ev.ofEq {α : Type} {o : Out α} {a : α} {h : AH} (e : o = .ok a h) : Ev o fun r h' => r = a ∧ h' = h := ⟨_, _, e, rfl, rfl⟩
end WT
end
section
set_option linter.all false
set_option autoImplicit true
set_option maxRecDepth 100000
set_option maxHeartbeats 4000000
/-! Relations: rows in sequence, one or more. -/
namespace WT
open PySem
variable {G : Nat → Option PV} {T : Nat → Option Def} {cf : CF}
def rk (r : List Bool) : List Int := r.map fun b => (b.toNat : Int)
theorem rowV_rk (r : List Bool) : rowV r = tupI (rk r) := by
  rw [rowV, tupI, rk, List.map_map]
  rfl
theorem rk_inj {r s : List Bool} (h : rk r = rk s) : r = s := by
  have hi : ∀ a b : Bool, (a.toNat : Int) = (b.toNat : Int) → a = b := by intro a b; cases a <;> cases b <;> decide
  exact (List.map_inj_right hi).mp h
def relV (m : Nat) (R : List (List Bool)) : PV := .tup [.int (m : Int), .tup (R.map rowV)]
/-- a relation of m places -/
structure Rel (m : Nat) (R : List (List Bool)) : Prop where
  pos : 1 ≤ m
  few : m ≤ 20
  ne : R ≠ []
  len : ∀ r ∈ R, r.length = m
  asc : (R.map rk).Pairwise (fun a b => lexL a b = true)
  many : R.length ≤ 1000000
theorem asc_range (L : List (List Int)) : ((List.range (L.length - 1)).all fun i => lexL (L.getD i []) (L.getD (i + 1) [])) = ascB lexL L := by
  rw [Bool.eq_iff_iff, ascB, List.all_eq_true, List.all_eq_true]
  constructor
  · rintro h ⟨a, b⟩ hx
    obtain ⟨i, hi, e⟩ := List.mem_iff_getElem.mp hx
    simp at hi
    simp only [List.getElem_zip, List.getElem_drop, Prod.mk.injEq] at e
    obtain ⟨rfl, rfl⟩ := e
    have := h i (List.mem_range.mpr (by omega))
    rw [List.getD_eq_getElem?_getD, List.getD_eq_getElem?_getD, List.getElem?_eq_getElem (by omega), List.getElem?_eq_getElem (show i + 1 < L.length by omega)] at this
    simp only [Nat.add_comm 1 i]
    exact this
  · intro h i hi
    have hi := List.mem_range.mp hi
    have := h (L[i], L[i + 1]) (List.mem_iff_getElem.mpr ⟨i, by simp; omega, by simp [Nat.add_comm]⟩)
    rw [List.getD_eq_getElem?_getD, List.getD_eq_getElem?_getD, List.getElem?_eq_getElem (by omega), List.getElem?_eq_getElem (show i + 1 < L.length by omega)]
    exact this
theorem is_ascending_ok [H : K_is_ascending T] (n : Nat) (L : List (List Int)) (hl : L.length ≤ 1000000) (h : AH) : runFn G T (n + 1) 45 [.tup (L.map tupI)] h = .ok (.v (.bl (ascB lexL L))) h := by
  rw [run_eq H.d n rfl rfl]
  have hr : rg1 (.v (.int ((L.length : Int) - 1))) = some ((List.range (L.length - 1)).map fun i => .int (i : Int)) := by
    cases L with
    | nil => rfl
    | cons p L =>
      have : (((p :: L).length : Int) - 1) = (((p :: L).length - 1 : Nat) : Int) := by simp
      rw [this]
      exact rg1_nat (by simp at hl ⊢; omega)
  simp
  obtain ⟨f, hf⟩ : ∃ f : Nat → Bool, f = fun i => lexL (L.getD i []) (L.getD (i + 1) []) := ⟨_, rfl⟩
  rw [lc_map (List.range (L.length - 1)) (fun i => .int (i : Int)) (fun i => .bl (f i)) (by simp [hr]) (fun i hi => by
    have hi := List.mem_range.mp hi
    refine eltK_of (r := .v (.bl (f i))) rfl ?_ rfl
    have e1 : (L.map tupI)[i]? = some (tupI (L.getD i [])) := by
      rw [List.getElem?_map, List.getD_eq_getElem?_getD, List.getElem?_eq_getElem (by omega)]
      rfl
    have e2 : (L.map tupI)[i + 1]? = some (tupI (L.getD (i + 1) [])) := by
      rw [List.getElem?_map, List.getD_eq_getElem?_getD, List.getElem?_eq_getElem (by omega)]
      rfl
    obtain ⟨a, ha⟩ : ∃ a, a = L.getD i [] := ⟨_, rfl⟩
    obtain ⟨b, hb⟩ : ∃ b, b = L.getD (i + 1) [] := ⟨_, rfl⟩
    obtain ⟨M, hM⟩ : ∃ M, M = L.map tupI := ⟨_, rfl⟩
    have ef : f i = lexL a b := by rw [hf, ha, hb]
    rw [ef]
    rw [← hM, ← ha] at e1
    rw [← hM, ← hb] at e2
    have p1 : pick M (i : Int) = some (tupI a) := by rw [pick_nat, e1]
    have p2 : pick M ((i : Int) + 1) = some (tupI b) := by rw [show (i : Int) + 1 = ((i + 1 : Nat) : Int) by omega, pick_nat, e2]
    rw [← hM]
    simp [p1, p2, lt_tupI]) (by rw [List.length_range]; exact SZ_ge (by omega))]
  have ea : ∀ h, opSem h .all [.L false ((List.range (L.length - 1)).map fun i => .bl (f i))] = some (.v (.bl (ascB lexL L))) := fun h => by
    rw [all_map (List.range (L.length - 1)) f false h, hf, asc_range]
  simp [-all_map, ea]
theorem rows_map (R : List (List Bool)) : R.map rowV = (R.map rk).map tupI := by
  rw [List.map_map]
  exact List.map_congr_left fun r _ => rowV_rk r
theorem ok_row {r : List Bool} (hr : r.length ≤ 1000000) : okEq (rowV r) = true := by
  rw [rowV_rk]
  exact fit_ok (d := 2) (fit_tupI (by simp [rk]; omega))
/-- all rows of one length: what is answered -/
theorem is_relation_rows [H : K_is_relation_of T] (n : Nat) (m : Int) {R : List (List Bool)} (hl : R.length ≤ 1000000) (hR : ∀ r ∈ R, r.length ≤ 1000) (h : AH) : runFn G T (n + 4) 46 [.tup [.int m, .tup (R.map rowV)]] h = .ok (.v (.bl (decide (1 ≤ m) && !R.isEmpty && (R.all fun r => decide ((r.length : Int) = m)) && ascB lexL (R.map rk)))) h := by
  rw [run_eq H.d (n + 3) rfl rfl]
  have e0 : ∀ h, runFn G T (n + 3) 0 [.int m] h = .ok (.v (.bl true)) h := fun h => is_integer_ok (n + 2) (x := .int m) rfl h
  by_cases c1 : 1 ≤ m
  · have c1' : ¬ m < 1 := by omega
    cases R with
    | nil => simp [e0, c1', c1]
    | cons r0 R0 =>
      obtain ⟨R, hRe⟩ : ∃ R, R = r0 :: R0 := ⟨_, rfl⟩
      have hne : R.length ≠ 0 := by rw [hRe]; simp
      have hemp : R.isEmpty = false := by rw [hRe]; rfl
      rw [← hRe] at hl hR ⊢
      obtain ⟨V, hV⟩ : ∃ V, V = R.map rowV := ⟨_, rfl⟩
      have hVl : V.length = R.length := by rw [hV]; simp
      have hV0 : ¬ (V.length : Int) = 0 := by omega
      have hVn : V ≠ [] := fun e => by rw [e] at hVl; simp at hVl; omega
      rw [← hV]
      simp [e0, c1', c1, hemp, hV0]
      rw [lc_map R rowV (fun r => .bl (decide ((r.length : Int) = m))) (by simp [hV]) (fun r hr => by
        refine eltK_of (r := .v (.bl (decide ((r.length : Int) = m)))) rfl ?_ rfl
        have hrl := hR r hr
        have e3 : ∀ h, runFn G T (n + 3) 3 [rowV r, .int m] h = .ok (.v (.bl (decide ((r.length : Int) = m)))) h := fun h => by
          rw [is_row_ok n (ok_row (by omega)) (fun xs e => by
            have : xs = r.map tr := by injection e with e; exact e.symm
            subst this
            refine ⟨by rw [List.length_map]; exact SZ_ge (by omega), fun y hy => ?_⟩
            obtain ⟨b, _, rfl⟩ := List.mem_map.mp hy
            rfl) m h, isRow_row]
        simp [e3]) (SZ_ge (by omega))]
      obtain ⟨c, hc⟩ : ∃ c, c = R.all fun r => decide ((r.length : Int) = m) := ⟨_, rfl⟩
      have ea : ∀ h, opSem h .all [.L false (R.map fun r => .bl (decide ((r.length : Int) = m)))] = some (.v (.bl c)) := fun h => by
        rw [all_map R (fun r => decide ((r.length : Int) = m)) false h, hc]
      have e45 : ∀ h, runFn G T (n + 3) 45 [.tup V] h = .ok (.v (.bl (ascB lexL (R.map rk)))) h := fun h => by
        rw [hV, rows_map]
        exact is_ascending_ok (n + 2) _ (by simpa using hl) h
      rw [← hc]
      cases c with
      | false => simp [-all_map, ea]
      | true => simp [-all_map, ea, hVn, e45]
  · have c1' : m < 1 := by omega
    simp [e0, c1', c1]
theorem is_relation_of_ok [H : K_is_relation_of T] (n : Nat) {m : Nat} {R : List (List Bool)} (hR : Rel m R) (h : AH) : runFn G T (n + 4) 46 [relV m R] h = .ok (.v (.bl true)) h := by
  rw [relV, is_relation_rows n (m : Int) hR.many (fun r hr => by rw [hR.len r hr]; have := hR.few; omega) h, (ascB_iff lexL_trans _).mpr hR.asc]
  have h1 : (R.all fun r => decide ((r.length : Int) = (m : Int))) = true := List.all_eq_true.mpr fun r hr => by
    have := hR.len r hr
    simp
    omega
  have h2 : R.isEmpty = false := by
    cases R with
    | nil => exact absurd rfl hR.ne
    | cons _ _ => rfl
  rw [h1, h2]
  have := hR.pos
  have : (1 : Int) ≤ (m : Int) := by omega
  simp [this]
theorem check_relation_ok [H : K_check_relation T] (n : Nat) {m : Nat} {R : List (List Bool)} (hR : Rel m R) (h : AH) : runFn G T (n + 5) 47 [relV m R] h = .ok (.v .non) h := by
  rw [run_eq H.d (n + 4) rfl rfl]
  simp [is_relation_of_ok n hR]
theorem is_relation_ok [H : K_is_relation T] (n : Nat) {m : Nat} {R : List (List Bool)} (hR : Rel m R) (h : AH) : runFn G T (n + 5) 53 [relV m R] h = .ok (.v (.bl true)) h := by
  rw [run_eq H.d (n + 4) rfl rfl]
  simp [is_relation_of_ok n hR]
end WT
end
section
set_option linter.all false
set_option autoImplicit true
set_option maxRecDepth 100000
set_option maxHeartbeats 4000000
/-! Breaches. -/
namespace WT
open PySem
variable {G : Nat → Option PV} {T : Nat → Option Def} {cf : CF}
def someV (s : List (List Bool)) : PV := .tup (s.map rowV)
/-- what stands at a place -/
def colR (s : List (List Bool)) (j : Nat) : List Bool := s.map fun r => r.getD j false
/-- the row of values, place by place -/
def appR (m : Nat) (t : List Bool) (s : List (List Bool)) : List Bool := (List.range m).map fun j => vat t (colR s j)
/-- all ways to go on with so many rows more -/
def ext (R : List (List Bool)) : Nat → List (List Bool) → List (List (List Bool))
  | 0, s => [s]
  | j + 1, s => R.flatMap fun r => ext R j (s ++ [r])
def chs (R : List (List Bool)) : Nat → List (List (List Bool))
  | 0 => [[]]
  | n + 1 => (chs R n).flatMap fun s => R.map fun r => s ++ [r]
theorem ext_step (R : List (List Bool)) : ∀ (j : Nat) (s : List (List Bool)), (ext R j s).flatMap (fun u => R.map fun r => u ++ [r]) = ext R (j + 1) s
  | 0, s => by
    simp only [ext, List.flatMap_cons, List.flatMap_nil, List.append_nil]
    rw [List.map_eq_flatMap]
  | j + 1, s => by
    rw [ext, List.flatMap_assoc]
    show _ = R.flatMap fun r => ext R (j + 1) (s ++ [r])
    congr 1
    funext r
    exact ext_step R j (s ++ [r])
theorem chs_ext (R : List (List Bool)) : ∀ n, chs R n = ext R n []
  | 0 => rfl
  | n + 1 => by rw [chs, chs_ext R n, ext_step]
theorem chs_length (R : List (List Bool)) : ∀ n, (chs R n).length = R.length ^ n
  | 0 => rfl
  | n + 1 => by
    rw [chs, List.length_flatMap]
    simp only [List.length_map]
    have : ∀ l : List (List (List Bool)), (l.map fun _ => R.length).sum = l.length * R.length := by
      intro l
      induction l with
      | nil => simp
      | cons a l ih => rw [List.map_cons, List.sum_cons, ih, List.length_cons, Nat.add_mul, Nat.one_mul, Nat.add_comm]
    rw [this, chs_length R n, Nat.pow_succ]
theorem chs_mem {R : List (List Bool)} : ∀ {n : Nat} {s : List (List Bool)}, s ∈ chs R n → s.length = n ∧ ∀ r ∈ s, r ∈ R
  | 0, s, h => by
    rw [chs, List.mem_singleton] at h
    subst h
    exact ⟨rfl, by simp⟩
  | n + 1, s, h => by
    rw [chs, List.mem_flatMap] at h
    obtain ⟨u, hu, h⟩ := h
    obtain ⟨r, hr, rfl⟩ := List.mem_map.mp h
    obtain ⟨h1, h2⟩ := chs_mem hu
    refine ⟨by simp [h1], fun x hx => ?_⟩
    rcases List.mem_append.mp hx with hx | hx
    · exact h2 x hx
    · rw [List.mem_singleton.mp hx]; exact hr
def badR (m : Nat) (t : List Bool) (R : List (List Bool)) (s : List (List Bool)) : Bool := !(R.contains (appR m t s))
def brV : Option (List (List Bool)) → PV
  | none => .non
  | some s => someV s
/-- the first breach -/
def brR (m k : Nat) (t : List Bool) (R : List (List Bool)) : Option (List (List Bool)) := (ext R k []).find? (badR m t R)
theorem itVs_rows : ∀ s : List (List Bool), itVs false ((s.map rowV).map .v) = some (s.map fun r => r.map tr)
  | [] => rfl
  | r :: s => by
    rw [List.map_cons, List.map_cons, itVs, itVs_rows s]
    rfl
theorem minLen_rows {m : Nat} : ∀ {s : List (List Bool)}, s ≠ [] → (∀ r ∈ s, r.length = m) → minLen (s.map fun r => r.map tr) = m
  | [], h, _ => absurd rfl h
  | [r], _, h => by
    show (r.map tr).length = m
    rw [List.length_map]
    exact h r (by simp)
  | r :: q :: s, _, h => by
    have ih := minLen_rows (m := m) (s := q :: s) (by simp) fun x hx => h x (by simp [hx])
    show min (r.map tr).length (minLen ((q :: s).map fun r => r.map tr)) = m
    rw [ih, List.length_map, h r (by simp), Nat.min_self]
theorem zip_rows {m : Nat} {s : List (List Bool)} (h0 : s ≠ []) (hl : ∀ r ∈ s, r.length = m) : zipAll (s.map fun r => r.map tr) = (List.range m).map fun j => rowV (colR s j) := by
  unfold zipAll
  rw [minLen_rows h0 hl]
  refine List.map_congr_left fun j hj => ?_
  have hj := List.mem_range.mp hj
  rw [rowV, colR, List.map_map, List.map_map]
  congr 1
  refine List.map_congr_left fun r hr => ?_
  have := hl r hr
  simp [List.getElem?_eq_getElem (show j < r.length by omega)]
theorem fs_find {α β : Type} (F : α → Option β) : ∀ R : List α, (R.find? (fun r => (F r).isSome) = none → R.findSome? F = none) ∧ ∀ r, R.find? (fun r => (F r).isSome) = some r → R.findSome? F = F r
  | [] => ⟨fun _ => rfl, fun r h => by cases h⟩
  | a :: R => by
    obtain ⟨h1, h2⟩ := fs_find F R
    cases c : F a with
    | none =>
      have e : (a :: R).find? (fun r => (F r).isSome) = R.find? (fun r => (F r).isSome) := List.find?_cons_of_neg (by rw [c]; simp)
      rw [e, List.findSome?_cons, c]
      exact ⟨h1, h2⟩
    | some b =>
      have e : (a :: R).find? (fun r => (F r).isSome) = some a := List.find?_cons_of_pos (by rw [c]; rfl)
      rw [e, List.findSome?_cons, c]
      refine ⟨fun h => (by cases h), fun r h => ?_⟩
      cases h
      rw [c]
theorem isin_row (r : List Bool) (hr : r.length ≤ 1000000) (R : List (List Bool)) (h : AH) : opSem h (.cmp .isin) [.v (rowV r), .v (.tup (R.map rowV))] = some (.v (.bl (R.contains r))) := by
  rw [isin_any (.inl rfl) (ok_row hr) (flats_rows 59 R), memP_rows]
theorem notin_row (r : List Bool) (hr : r.length ≤ 1000000) (R : List (List Bool)) (h : AH) : opSem h (.cmp .notin) [.v (rowV r), .v (.tup (R.map rowV))] = some (.v (.bl (!R.contains r))) := by
  rw [notin_any (.inl rfl) (ok_row hr) (flats_rows 59 R), memP_rows]
theorem appR_length (m : Nat) (t : List Bool) (s : List (List Bool)) : (appR m t s).length = m := by simp [appR]
theorem breach_from_ok [H : K_breach_from T] (k m : Nat) {t : List Bool} (k1 : 1 ≤ k) (k4 : k ≤ 4) (ht : t.length = 2 ^ k) {R : List (List Bool)} (hm : m ≤ 1000) (hR : ∀ r ∈ R, r.length = m) :
    ∀ (j n : Nat) (s : List (List Bool)) (h : AH), s.length + j = k → (∀ r ∈ s, r.length = m) → runFn G T (n + 3 + j) 50 [fnV k t, relV m R, someV s] h = .ok (.v (brV ((ext R j s).find? (badR m t R)))) h
  | 0, n, s, h, hs, hsm => by
    rw [run_eq H.d (n + 2) rfl rfl]
    have hsk : s.length = k := hs
    have h0 : s ≠ [] := fun e => by rw [e] at hsk; simp at hsk; omega
    have hz : ((RV.v (someV s)).seq h).bind (fun xs => if 1 ≤ xs.length ∧ xs.length ≤ 4 then (itVs false (xs.map .v)).map zipAll else none) = some ((List.range m).map fun j => rowV (colR s j)) := by
      show (some (s.map rowV)).bind _ = _
      rw [Option.bind_some, if_pos (by rw [List.length_map]; omega), itVs_rows, Option.map_some, zip_rows h0 hsm]
    obtain ⟨S, hS⟩ : ∃ S, S = someV s := ⟨_, rfl⟩
    have el : ∀ h, opSem h .len [.v S] = some (.v (.int (k : Int))) := fun h => by rw [hS, someV]; simp [hsk]
    have hext : (ext R 0 s).find? (badR m t R) = if R.contains (appR m t s) = true then none else some s := by
      rw [ext, List.find?_cons]
      unfold badR
      cases c : R.contains (appR m t s) with
      | true => rfl
      | false => rfl
    rw [hext]
    obtain ⟨A, hA⟩ : ∃ A, A = appR m t s := ⟨_, rfl⟩
    rw [← hA]
    obtain ⟨c, hc⟩ : ∃ c, c = R.contains A := ⟨_, rfl⟩
    rw [← hc]
    have hS' : brV (some s) = S := by rw [hS]; rfl
    rw [← hS] at hz ⊢
    simp [el, ix_fn0]
    rw [lc_map (List.range m) (fun j => rowV (colR s j)) (fun j => tr (vat t (colR s j))) (by simp [hz]) (fun j hj => eltK_of (r := .v (tr (vat t (colR s j)))) rfl (by
      simp [value_at_ok n (k := k) (t := t) (r := colR s j) (by rw [colR, List.length_map, ht, hsk])]) rfl) (by rw [List.length_range]; exact SZ_ge (by omega))]
    have ea : ((List.range m).map fun j => tr (vat t (colR s j))) = (appR m t s).map tr := by rw [appR, List.map_map]; rfl
    rw [ea]
    have hAl : A.length ≤ 1000000 := by rw [hA, appR_length]; omega
    obtain ⟨V, hV⟩ : ∃ V, V = PV.tup (R.map rowV) := ⟨_, rfl⟩
    have e1 : ∀ h, opSem h .ix [.v (relV m R), .v (.int 1)] = some (.v V) := fun h => by rw [relV, hV]; simp
    have e2 : ∀ h, opSem h (.cmp .isin) [.v (.tup (A.map tr)), .v V] = some (.v (.bl (R.contains A))) := fun h => by rw [hV]; exact isin_row A hAl R h
    rw [← hA]
    rw [← hc] at e2
    simp [e1, e2]
    cases c with
    | true => simp [brV]
    | false => simp [hS']
  | j + 1, n, s, h, hs, hsm => by
    have hsk : s.length ≠ k := by omega
    rw [show n + 3 + (j + 1) = (n + 3 + j) + 1 by omega, run_eq H.d (n + 3 + j) rfl rfl]
    refine Ev.toEq ?_
    obtain ⟨S, hS⟩ : ∃ S, S = someV s := ⟨_, rfl⟩
    obtain ⟨F, hF⟩ : ∃ F : List Bool → Option (List (List Bool)), F = fun r => (ext R j (s ++ [r])).find? (badR m t R) := ⟨_, rfl⟩
    have el : ∀ h, opSem h .len [.v S] = some (.v (.int (s.length : Int))) := fun h => by rw [hS, someV]; simp
    have e1 : ∀ h, opSem h .ix [.v (relV m R), .v (.int 1)] = some (.v (.tup (R.map rowV))) := fun h => by rw [relV]; simp
    have hne : ¬ (s.length : Int) = (k : Int) := by omega
    have hext : (ext R (j + 1) s).find? (badR m t R) = R.findSome? F := by
      rw [ext, List.find?_flatMap, hF]
    rw [hext, ← hS]
    simp [el, ix_fn0, hne, exf, e1]
    refine Ev.call (for_find (fun _ ρ => ∃ x3 x4, ρ = [some (.v (fnV k t)), some (.v (relV m R)), some (.v S), x3, x4, none]) (fun r => (F r).isSome) (fun r => .v (brV (F r))) ?_ ⟨_, _, rfl⟩) ?_
    · rintro d r e hd ρ ⟨x3, x4, rfl⟩
      have hr : r.length = m := hR r (by rw [← hd]; simp)
      have ih := breach_from_ok (H := H) k m k1 k4 ht hm hR j n (s ++ [r]) h (by simp; omega) (by
        intro x hx
        rcases List.mem_append.mp hx with hx | hx
        · exact hsm x hx
        · rw [List.mem_singleton.mp hx]; exact hr)
      have et : ∀ h, opSem h (.bin .add) [.v S, .v (.tup [rowV r])] = some (.v (someV (s ++ [r]))) := fun h => by
        rw [hS, someV, tup_add (by rw [p_SZ_eq]; simp; omega)]
        simp [someV]
      have ih' : runFn G T (n + 3 + j) 50 [fnV k t, relV m R, someV (s ++ [r])] h = .ok (.v (brV (F r))) h := by rw [ih, hF]
      obtain ⟨X, hX⟩ : ∃ X, X = someV (s ++ [r]) := ⟨_, rfl⟩
      rw [← hX] at et ih'
      cases c : F r with
      | none =>
        rw [c] at ih'
        refine ⟨fun _ => ?_, fun z => (by cases z)⟩
        simp [stepK, et, ih', brV]
        first | done | exact .ok ⟨rfl, .inl rfl, _, _, rfl⟩
      | some u =>
        rw [c] at ih'
        refine ⟨fun z => (by cases z), fun _ => ?_⟩
        simp [stepK, et, ih', brV, someV]
        first | done | exact .ok ⟨rfl, rfl⟩
    · rintro ⟨fl, ρ1⟩ h' ⟨rfl, hq⟩
      obtain ⟨f1, f2⟩ := fs_find F R
      rcases hq with ⟨hf, rfl, x3, x4, rfl⟩ | ⟨a, hf, rfl⟩
      · rw [f1 hf]
        simp [brV]
        first | done | exact .ok ⟨rfl, rfl⟩
      · rw [f2 a hf]
        simp
        first | done | exact .ok ⟨rfl, rfl⟩
end WT
end
section
set_option linter.all false
set_option autoImplicit true
set_option maxRecDepth 100000
namespace WT
open PySem
section
variable {cf : CF} {G : Nat → Option PV}
/-- a comprehension whose condition has effects -/
theorem loop_invd {α : Type} {own : List Nat} {t : Tg} {elt c : E} {ρ : Env} (enc : α → PV) (I : List α → List PV → AH → Prop) (he : ∀ d a acc h, I d acc h → Ev (condK cf G own t c ρ (enc a) h) fun b h' => (b = true → ∃ y, eltK cf G own t elt ρ (enc a) h' = .ok y h' ∧ I (d ++ [a]) (acc ++ [y]) h') ∧ (b = false → I (d ++ [a]) acc h')) :
    ∀ (l d : List α) (acc : List PV) (h : AH), I d acc h → acc.length ≤ d.length → d.length + l.length ≤ SZ → Ev (loopL (turnF own t (evalC cf G (.cons c .nil)) (appF (evalE cf G elt)) ρ) (l.map enc) h acc) fun xs h' => I (d ++ l) xs h'
  | [], d, acc, h, hI, _, _ => .ok (by simpa using hI)
  | a :: l, d, acc, h, hI, hl, hs => by
    simp only [List.length_cons] at hs
    obtain ⟨b, h1, e1, k1, k2⟩ := (he d a acc h hI).ex
    rw [List.map_cons, loopL]
    cases b with
    | true =>
      obtain ⟨y, e2, hI1⟩ := k1 rfl
      rw [turn_cond (b := true) e1 (fun _ => e2) (fun z => by cases z) (by omega)]
      simp only [bnd_eq, rbind_ok, if_true]
      have := loop_invd enc I he l (d ++ [a]) (acc ++ [y]) h1 hI1 (by simp; omega) (by simp; omega)
      rwa [List.append_assoc] at this
    | false =>
      have hI1 := k2 rfl
      rw [turn_cond (b := false) (y := .non) e1 (fun z => by cases z) (fun _ => rfl) (by omega)]
      simp only [bnd_eq, rbind_ok, Bool.false_eq_true, if_false]
      have := loop_invd enc I he l (d ++ [a]) acc h1 hI1 (by simp; omega) (by simp; omega)
      rwa [List.append_assoc] at this
theorem lc_invd {α : Type} {own : List Nat} {t : Tg} {i : It} {elt c : E} {ρ : Env} {h h1 : AH} (l : List α) (enc : α → PV) (I : List α → List PV → AH → Prop) (hi : evalI cf G i true ρ h = .ok (l.map enc) h1) (h0 : I [] [] h1) (he : ∀ d a acc h, I d acc h → Ev (condK cf G own t c ρ (enc a) h) fun b h' => (b = true → ∃ y, eltK cf G own t elt ρ (enc a) h' = .ok y h' ∧ I (d ++ [a]) (acc ++ [y]) h') ∧ (b = false → I (d ++ [a]) acc h')) (hs : l.length ≤ SZ) :
    Ev (evalE cf G (.lc own elt t i (.cons c .nil) .nil) ρ h) fun r h' => ∃ xs, r = .L false xs ∧ I l xs h' := by
  show Ev (lcF (genF own t (evalI cf G i true) (evalC cf G (.cons c .nil)) (evalG cf G .nil (appF (evalE cf G elt)))) ρ h) _
  unfold lcF genF
  rw [hi]
  simp only [bnd_eq, rbind_ok]
  refine Ev.call (loop_invd enc I he l [] [] h1 h0 (Nat.le_refl _) (by simpa using hs)) ?_
  intro xs h' a1
  exact .ok ⟨xs, rfl, by simpa using a1⟩
end
end WT
end
section
set_option linter.all false
set_option autoImplicit true
set_option maxRecDepth 100000
namespace WT
open PySem
section
variable {cf : CF} {G : Nat → Option PV}
/-- a comprehension whose condition has effects; each step knows its place -/
theorem loop_inve {α : Type} {own : List Nat} {t : Tg} {elt c : E} {ρ : Env} (enc : α → PV) (I : List α → List PV → AH → Prop) (L : List α) (he : ∀ d a e acc h, d ++ a :: e = L → I d acc h → Ev (condK cf G own t c ρ (enc a) h) fun b h' => (b = true → ∃ y, eltK cf G own t elt ρ (enc a) h' = .ok y h' ∧ I (d ++ [a]) (acc ++ [y]) h') ∧ (b = false → I (d ++ [a]) acc h')) :
    ∀ (l d : List α) (acc : List PV) (h : AH), d ++ l = L → I d acc h → acc.length ≤ d.length → d.length + l.length ≤ SZ → Ev (loopL (turnF own t (evalC cf G (.cons c .nil)) (appF (evalE cf G elt)) ρ) (l.map enc) h acc) fun xs h' => I L xs h'
  | [], d, acc, h, hL, hI, _, _ => .ok (by rw [← hL]; simpa using hI)
  | a :: l, d, acc, h, hL, hI, hl, hs => by
    simp only [List.length_cons] at hs
    obtain ⟨b, h1, e1, k1, k2⟩ := (he d a l acc h hL hI).ex
    rw [List.map_cons, loopL]
    cases b with
    | true =>
      obtain ⟨y, e2, hI1⟩ := k1 rfl
      rw [turn_cond (b := true) e1 (fun _ => e2) (fun z => by cases z) (by omega)]
      simp only [bnd_eq, rbind_ok, if_true]
      exact loop_inve enc I L he l (d ++ [a]) (acc ++ [y]) h1 (by simpa using hL) hI1 (by simp; omega) (by simp; omega)
    | false =>
      have hI1 := k2 rfl
      rw [turn_cond (b := false) (y := .non) e1 (fun z => by cases z) (fun _ => rfl) (by omega)]
      simp only [bnd_eq, rbind_ok, Bool.false_eq_true, if_false]
      exact loop_inve enc I L he l (d ++ [a]) acc h1 (by simpa using hL) hI1 (by simp; omega) (by simp; omega)
theorem lc_inve {α : Type} {own : List Nat} {t : Tg} {i : It} {elt c : E} {ρ : Env} {h h1 : AH} (l : List α) (enc : α → PV) (I : List α → List PV → AH → Prop) (hi : evalI cf G i true ρ h = .ok (l.map enc) h1) (h0 : I [] [] h1) (he : ∀ d a e acc h, d ++ a :: e = l → I d acc h → Ev (condK cf G own t c ρ (enc a) h) fun b h' => (b = true → ∃ y, eltK cf G own t elt ρ (enc a) h' = .ok y h' ∧ I (d ++ [a]) (acc ++ [y]) h') ∧ (b = false → I (d ++ [a]) acc h')) (hs : l.length ≤ SZ) :
    Ev (evalE cf G (.lc own elt t i (.cons c .nil) .nil) ρ h) fun r h' => ∃ xs, r = .L false xs ∧ I l xs h' := by
  show Ev (lcF (genF own t (evalI cf G i true) (evalC cf G (.cons c .nil)) (evalG cf G .nil (appF (evalE cf G elt)))) ρ h) _
  unfold lcF genF
  rw [hi]
  simp only [bnd_eq, rbind_ok]
  refine Ev.call (loop_inve enc I l he l [] [] h1 rfl h0 (Nat.le_refl _) (by simpa using hs)) ?_
  intro xs h' a1
  exact .ok ⟨xs, rfl, a1⟩
end
end WT
end
section
set_option linter.all false
set_option autoImplicit true
set_option maxRecDepth 100000
set_option maxHeartbeats 4000000
namespace WT
open PySem
variable {G : Nat → Option PV} {T : Nat → Option Def} {cf : CF}
theorem breach_of_ok [H : K_breach_of T] (n : Nat) {k m : Nat} {t : List Bool} (k1 : 1 ≤ k) (k4 : k ≤ 4) (ht : t.length = 2 ^ k) {R : List (List Bool)} (hR : Rel m R) (h : AH) : runFn G T (n + 8) 51 [fnV k t, relV m R] h = .ok (.v (brV (brR m k t R))) h := by
  rw [run_eq H.d (n + 7) rfl rfl]
  have e := breach_from_ok (G := G) (T := T) k m k1 k4 ht (by have := hR.few; omega) hR.len k (n + 4 - k) [] h (by simp) (by simp)
  rw [show n + 4 - k + 3 + k = n + 7 by omega] at e
  obtain ⟨b, hb⟩ : ∃ b, b = brV (brR m k t R) := ⟨_, rfl⟩
  have e' : runFn G T (n + 7) 50 [fnV k t, relV m R, .tup []] h = .ok (.v b) h := by rw [hb]; exact e
  rw [← hb]
  simp [e']
theorem keeps_it_ok [H : K_keeps_it T] (n : Nat) {k m : Nat} {t : List Bool} (k1 : 1 ≤ k) (k4 : k ≤ 4) (ht : t.length = 2 ^ k) {R : List (List Bool)} (hR : Rel m R) (h : AH) : runFn G T (n + 9) 52 [fnV k t, relV m R] h = .ok (.v (.bl (brR m k t R).isNone)) h := by
  rw [run_eq H.d (n + 8) rfl rfl]
  have e := breach_of_ok (G := G) (T := T) n k1 k4 ht hR h
  cases c : brR m k t R with
  | none =>
    rw [c] at e
    simp [e, brV]
  | some s =>
    rw [c] at e
    simp [e, brV, someV]
theorem keeps_ok [H : K_keeps T] (n : Nat) {k m : Nat} {t : List Bool} (k1 : 1 ≤ k) (k4 : k ≤ 4) (ht : t.length = 2 ^ k) {R : List (List Bool)} (hR : Rel m R) (h : AH) : runFn G T (n + 10) 55 [fnV k t, relV m R] h = .ok (.v (.bl (brR m k t R).isNone)) h := by
  rw [run_eq H.d (n + 9) rfl rfl]
  have f : Fn k t := ⟨k1, by omega, ht⟩
  have e1 : ∀ h, runFn G T (n + 9) 8 [fnV k t] h = .ok (.v .non) h := fun h => by rw [check_function_ok (n + 4) f.dat h, if_pos f.is]
  simp [e1, check_relation_ok (n + 4) hR, keeps_it_ok n k1 k4 ht hR]
theorem breach_ok [H : K_breach T] (n : Nat) {k m : Nat} {t : List Bool} (k1 : 1 ≤ k) (k4 : k ≤ 4) (ht : t.length = 2 ^ k) {R : List (List Bool)} (hR : Rel m R) (h : AH) : runFn G T (n + 10) 56 [fnV k t, relV m R] h = .ok (.v (brV (brR m k t R))) h := by
  rw [run_eq H.d (n + 9) rfl rfl]
  have f : Fn k t := ⟨k1, by omega, ht⟩
  have e1 : ∀ h, runFn G T (n + 9) 8 [fnV k t] h = .ok (.v .non) h := fun h => by rw [check_function_ok (n + 4) f.dat h, if_pos f.is]
  obtain ⟨b, hb⟩ : ∃ b, b = brV (brR m k t R) := ⟨_, rfl⟩
  have e2 := breach_of_ok (G := G) (T := T) (n + 1) k1 k4 ht hR h
  rw [← hb] at e2 ⊢
  simp [e1, check_relation_ok (n + 4) hR, e2]
/-! the law's own -/
theorem law_choices_ok [H : K__law_choices T] (n : Nat) {R : List (List Bool)} (hR : R.length ≤ 16) {k : Nat} (hk : k ≤ 4) (h : AH) : runFn G T (n + 1) 58 [.tup (R.map rowV), .int (k : Int)] h = .ok (.v (.lst ((chs R k).map someV))) h := by
  refine Ev.toEq ?_
  rw [run_eq H.d n rfl rfl]
  have hr : rg1 (.v (.int (k : Int))) = some ((List.range k).map fun i => .int (i : Int)) := rg1_nat (by omega)
  have hcl : ∀ i, i ≤ 4 → R.length ^ i ≤ 65536 := fun i hi => Nat.le_trans (Nat.pow_le_pow_left hR i) (Nat.le_trans (Nat.pow_le_pow_right (by decide) hi) (by decide))
  obtain ⟨V, hV⟩ : ∃ V, V = R.map rowV := ⟨_, rfl⟩
  rw [← hV]
  simp [exf, hr]
  refine for_list_h (fun d ρ => ∃ x3 x4 x5, ρ = [some (.v (.tup V)), some (.v (.int (k : Int))), some (.v (.lst ((chs R d.length).map someV))), x3, x4, x5, none]) ⟨_, _, _, rfl⟩ ?_ ?_
  · rintro d i e hd ρ ⟨x3, x4, x5, rfl⟩
    have hdk : d.length < k := by
      have := congrArg List.length hd
      simp at this
      omega
    obtain ⟨C, hC⟩ : ∃ C, C = chs R d.length := ⟨_, rfl⟩
    have hCl : C.length * R.length ≤ 65536 := by
      rw [hC, chs_length, ← Nat.pow_succ]
      exact hcl _ (by omega)
    have hCn : chs R (d.length + 1) = C.flatMap fun s => R.map fun r => s ++ [r] := by rw [chs, hC]
    rw [List.length_append, List.length_singleton, hCn, ← hC]
    simp [stepK, exf]
    refine for_list_h (fun d' ρ => ∃ x5, ρ = [some (.v (.tup V)), some (.v (.int (k : Int))), some (.v (.lst (C.map someV))), some (.v (.int (i : Int))), some (.v (.lst ((d'.flatMap fun s => R.map fun r => s ++ [r]).map someV))), x5, none]) ⟨_, rfl⟩ ?_ ?_
    · rintro d' s e' hd' ρ ⟨x5, rfl⟩
      have hs := chs_mem (R := R) (n := d.length) (s := s) (by rw [← hC, ← hd']; simp)
      have hdl : d'.length + 1 ≤ C.length := by
        have := congrArg List.length hd'
        simp at this
        omega
      obtain ⟨D, hD⟩ : ∃ D, D = d'.flatMap fun s => R.map fun r => s ++ [r] := ⟨_, rfl⟩
      have hDl : D.length = d'.length * R.length := by
        rw [hD, List.length_flatMap]
        simp only [List.length_map]
        have : ∀ l : List (List (List Bool)), (l.map fun _ => R.length).sum = l.length * R.length := by
          intro l
          induction l with
          | nil => simp
          | cons a l ih => rw [List.map_cons, List.sum_cons, ih, List.length_cons, Nat.add_mul, Nat.one_mul, Nat.add_comm]
        exact this d'
      have hb : D.length + R.length ≤ 65536 := by
        have h1 : (d'.length + 1) * R.length ≤ C.length * R.length := Nat.mul_le_mul_right _ hdl
        rw [Nat.add_mul, Nat.one_mul] at h1
        omega
      rw [← hD]
      obtain ⟨S, hS⟩ : ∃ S, S = someV s := ⟨_, rfl⟩
      have et : ∀ r h, opSem h (.bin .add) [.v S, .v (.tup [rowV r])] = some (.v (someV (s ++ [r]))) := fun r h => by
        rw [hS, someV, tup_add (by rw [p_SZ_eq]; simp; omega)]
        simp [someV]
      rw [← hS]
      simp [stepK]
      rw [lc_map R rowV (fun r => someV (s ++ [r])) (by simp [hV]) (fun r hr => eltK_of (r := .v (someV (s ++ [r]))) rfl (by simp [et]) rfl) (SZ_ge (by omega))]
      simp
      rw [lst_add (xs := D.map someV) (ys := R.map fun r => someV (s ++ [r])) rfl rfl (by simp; exact SZ_ge (by omega))]
      have e3 : D.map someV ++ (R.map fun r => someV (s ++ [r])) = ((d' ++ [s]).flatMap fun s => R.map fun r => s ++ [r]).map someV := by
        rw [List.flatMap_append, List.map_append, ← hD]
        simp
      rw [e3]
      obtain ⟨W, hW⟩ : ∃ W, W = ((d' ++ [s]).flatMap fun s => R.map fun r => s ++ [r]).map someV := ⟨_, rfl⟩
      rw [← hW]
      simp
      rw [hW]
      simp
    · rintro ρ ⟨x5, rfl⟩
      obtain ⟨W, hW⟩ : ∃ W, W = (C.flatMap fun s => R.map fun r => s ++ [r]).map someV := ⟨_, rfl⟩
      rw [← hW]
      simp
      first | done | exact .ok ⟨rfl, .inl rfl, _, _, _, rfl⟩
  · rintro ρ ⟨x3, x4, x5, rfl⟩
    rw [List.length_range]
    simp
    first | done | exact .ok ⟨rfl, rfl⟩
theorem law_applied_ok [H : K__law_applied T] (n : Nat) {k m : Nat} {t : List Bool} (k1 : 1 ≤ k) (ht : t.length = 2 ^ k) (hm : m ≤ 1000) {s : List (List Bool)} (hs : s.length = k) (hsk : k ≤ 1000) (hsm : ∀ r ∈ s, r.length = m) (h : AH) : runFn G T (n + 2) 59 [fnV k t, someV s] h = .ok (.v (rowV (appR m t s))) h := by
  rw [run_eq H.d (n + 1) rfl rfl]
  have h0 : ∃ r0 s0, s = r0 :: s0 := by
    cases s with
    | nil => simp at hs; omega
    | cons a b => exact ⟨a, b, rfl⟩
  obtain ⟨r0, s0, e0⟩ := h0
  have hr0 : r0.length = m := hsm r0 (by rw [e0]; simp)
  obtain ⟨S, hS⟩ : ∃ S, S = someV s := ⟨_, rfl⟩
  have ei : ∀ h, opSem h .ix [.v S, .v (.int 0)] = some (.v (rowV r0)) := fun h => by rw [hS, someV, e0]; simp [pick, place]
  have el : ∀ h, opSem h .len [.v (rowV r0)] = some (.v (.int (m : Int))) := fun h => by simp [rowV, hr0]
  have hrg : rg1 (.v (.int (m : Int))) = some ((List.range m).map fun i => .int (i : Int)) := rg1_nat (by omega)
  rw [← hS]
  simp
  rw [lc_map (List.range m) (fun j => .int (j : Int)) (fun j => tr (vat t (colR s j))) (by simp [ei, el, hrg]) (fun j hj => by
    have hj := List.mem_range.mp hj
    refine eltK_of (r := .v (tr (vat t (colR s j)))) rfl ?_ rfl
    simp
    rw [lc_map s rowV (fun r => tr (r.getD j false)) (by simp [hS, someV]) (fun r hr => by
      have hrl := hsm r hr
      refine eltK_of (r := .v (tr (r.getD j false))) rfl ?_ rfl
      have e1 : r[j]? = some r[j] := List.getElem?_eq_getElem (by omega)
      simp [rowV, pick_nat, e1]) (SZ_ge (by omega))]
    have ec : (s.map fun r => tr (r.getD j false)) = (colR s j).map tr := by rw [colR, List.map_map]; rfl
    rw [ec]
    obtain ⟨C, hC⟩ : ∃ C, C = colR s j := ⟨_, rfl⟩
    have hCl : t.length = 2 ^ C.length := by rw [hC, colR, List.length_map, ht, hs]
    have e2 := law_at_ok (G := G) (T := T) n (k := k) hCl h
    rw [rowV] at e2
    rw [← hC]
    simp [e2]) (by rw [List.length_range]; exact SZ_ge (by omega))]
  have ea : ((List.range m).map fun j => tr (vat t (colR s j))) = (appR m t s).map tr := by rw [appR, List.map_map]; rfl
  rw [ea, rowV]
  simp
theorem law_breach_ok [H : K__law_breach T] (n : Nat) {k m : Nat} {t : List Bool} (k1 : 1 ≤ k) (k4 : k ≤ 4) (ht : t.length = 2 ^ k) {R : List (List Bool)} (hR : Rel m R) (h16 : R.length ≤ 16) (h : AH) : runFn G T (n + 3) 60 [fnV k t, relV m R] h = .ok (.v (brV (brR m k t R))) h := by
  refine Ev.toEq ?_
  rw [run_eq H.d (n + 2) rfl rfl]
  have e1 : ∀ h, opSem h .ix [.v (relV m R), .v (.int 1)] = some (.v (.tup (R.map rowV))) := fun h => by rw [relV]; simp
  have ec : ∀ h, runFn G T (n + 2) 58 [.tup (R.map rowV), .int (k : Int)] h = .ok (.v (.lst ((chs R k).map someV))) h := fun h => law_choices_ok (n + 1) h16 k4 h
  obtain ⟨V, hV⟩ : ∃ V, V = R.map rowV := ⟨_, rfl⟩
  rw [← hV] at e1 ec
  have hbr : brR m k t R = (chs R k).find? (badR m t R) := by rw [brR, chs_ext]
  rw [hbr]
  simp [e1, ix_fn0, ec, exf]
  refine Ev.call (for_find (fun _ ρ => ∃ x2, ρ = [some (.v (fnV k t)), some (.v (relV m R)), x2]) (badR m t R) (fun s => .v (someV s)) ?_ ⟨_, rfl⟩) ?_
  · rintro d s e hd ρ ⟨x2, rfl⟩
    obtain ⟨hs1, hs2⟩ := chs_mem (R := R) (n := k) (s := s) (by rw [← hd]; simp)
    have ea : ∀ h, runFn G T (n + 2) 59 [fnV k t, someV s] h = .ok (.v (rowV (appR m t s))) h := fun h => law_applied_ok n k1 ht (by have := hR.few; omega) hs1 (by omega) (fun r hr => hR.len r (hs2 r hr)) h
    have en : ∀ h, opSem h (.cmp .notin) [.v (rowV (appR m t s)), .v (.tup V)] = some (.v (.bl (badR m t R s))) := fun h => by
      rw [hV, notin_row _ (by rw [appR_length]; have := hR.few; omega)]
      rfl
    constructor
    · intro c
      rw [c] at en
      simp [stepK, ea, e1, en]
      first | done | exact .ok ⟨rfl, .inl rfl, _, rfl⟩
    · intro c
      rw [c] at en
      simp [stepK, ea, e1, en]
      first | done | exact .ok ⟨rfl, rfl⟩
  · rintro ⟨fl, ρ1⟩ h' ⟨rfl, hq⟩
    rcases hq with ⟨hf, rfl, x2, rfl⟩ | ⟨a, hf, rfl⟩
    · rw [hf]
      simp [brV]
      first | done | exact .ok ⟨rfl, rfl⟩
    · rw [hf]
      simp [brV]
      first | done | exact .ok ⟨rfl, rfl⟩
end WT
end
section
set_option linter.all false
set_option autoImplicit true
set_option maxRecDepth 100000
set_option maxHeartbeats 4000000
namespace WT
open PySem
/-! sums over all rows, by parities -/
def oddR : List Bool → List Bool → Bool
  | a :: u, b :: x => (a && b) ^^ oddR u x
  | _, _ => false
theorem oddR_comm : ∀ u x : List Bool, oddR u x = oddR x u
  | [], [] => rfl
  | [], _ :: _ => rfl
  | _ :: _, [] => rfl
  | a :: u, b :: x => by rw [oddR, oddR, oddR_comm u x, Bool.and_comm]
def xorR (u x : List Bool) : List Bool := (u.zip x).map fun q => q.1 ^^ q.2
theorem xorR_length {u x : List Bool} (h : u.length = x.length) : (xorR u x).length = u.length := by simp [xorR, h]
theorem oddR_xor : ∀ (r u x : List Bool), r.length = u.length → u.length = x.length → oddR (xorR r u) x = (oddR r x ^^ oddR u x)
  | [], [], [], _, _ => rfl
  | a :: r, b :: u, c :: x, h1, h2 => by
    have := oddR_xor r u x (by simpa using h1) (by simpa using h2)
    rw [xorR] at this ⊢
    rw [List.zip_cons_cons, List.map_cons, oddR, oddR, oddR, this]
    cases a <;> cases b <;> cases c <;> simp
theorem rows_cons (k : Nat) : rowsOf (k + 1) = (rowsOf k).map (false :: ·) ++ (rowsOf k).map (true :: ·) := by
  apply List.ext_getElem
  · simp [rowsOf_length, Nat.pow_succ]
    omega
  · intro i h1 h2
    have hi : i < 2 ^ (k + 1) := by simpa [rowsOf_length] using h1
    have hp : 2 ^ (k + 1) = 2 * 2 ^ k := by rw [Nat.pow_succ]; omega
    obtain ⟨r, e, hr, hl⟩ := rowsOf_get hi
    have e1 : (rowsOf (k + 1))[i] = r := by
      rw [List.getElem?_eq_getElem h1] at e
      exact Option.some.inj e
    rw [e1]
    have len : ∀ b : Bool, ((rowsOf k).map (b :: ·)).length = 2 ^ k := fun b => by simp [rowsOf_length]
    have key : ∀ (j : Nat) (b : Bool) (hj : j < ((rowsOf k).map (b :: ·)).length), i = b.toNat * 2 ^ k + j → r = ((rowsOf k).map (b :: ·))[j] := by
      intro j b hj ei
      have hj' : j < 2 ^ k := by rw [len] at hj; exact hj
      obtain ⟨s, es, hs, hsl⟩ := rowsOf_get hj'
      have e2 : (rowsOf k)[j]'(by rw [rowsOf_length]; exact hj') = s := by
        rw [List.getElem?_eq_getElem (by rw [rowsOf_length]; exact hj')] at es
        exact Option.some.inj es
      rw [List.getElem_map, e2]
      refine idx_inj (by simp [hl, hsl]) ?_
      rw [idx_cons, hr, hs, hsl, ei]
    by_cases c : i < 2 ^ k
    · rw [List.getElem_append_left (by rw [len]; exact c)]
      exact key i false (by rw [len]; exact c) (by simp)
    · rw [List.getElem_append_right (by rw [len]; omega)]
      exact key _ true (by rw [len]; simp [rowsOf_length]; omega) (by simp [rowsOf_length]; omega)
def sgn (b : Bool) (x : Int) : Int := if b then -x else x
def SP (rows : List (List Bool)) (u : List Bool) (xs : List Int) : Int := sumI ((rows.zip xs).map fun q => sgn (oddR u q.1) q.2)
def whtR : Nat → List Int → List Int
  | 0, xs => xs
  | k + 1, xs => List.zipWith (· + ·) (whtR k (xs.take (2 ^ k))) (whtR k (xs.drop (2 ^ k))) ++ List.zipWith (· - ·) (whtR k (xs.take (2 ^ k))) (whtR k (xs.drop (2 ^ k)))
theorem pow_two (k : Nat) : 2 ^ (k + 1) = 2 * 2 ^ k := by rw [Nat.pow_succ]; omega
theorem whtR_length : ∀ (k : Nat) (xs : List Int), xs.length = 2 ^ k → (whtR k xs).length = 2 ^ k
  | 0, xs, h => h
  | k + 1, xs, h => by
    have hp := pow_two k
    have h1 := whtR_length k (xs.take (2 ^ k)) (by rw [List.length_take]; omega)
    have h2 := whtR_length k (xs.drop (2 ^ k)) (by rw [List.length_drop]; omega)
    simp [whtR, h1, h2]
    omega
theorem whtR_app {k : Nat} {u v : List Int} (hu : u.length = 2 ^ k) : whtR (k + 1) (u ++ v) = List.zipWith (· + ·) (whtR k u) (whtR k v) ++ List.zipWith (· - ·) (whtR k u) (whtR k v) := by
  rw [whtR, ← hu, List.take_left, List.drop_left]
theorem split_two {α : Type} {k : Nat} {xs : List α} (h : xs.length = 2 ^ (k + 1)) : ∃ u v, xs = u ++ v ∧ u.length = 2 ^ k ∧ v.length = 2 ^ k := by
  have hp := pow_two k
  exact ⟨xs.take (2 ^ k), xs.drop (2 ^ k), (List.take_append_drop _ _).symm, by rw [List.length_take]; omega, by rw [List.length_drop]; omega⟩
theorem sumI_append : ∀ a b : List Int, sumI (a ++ b) = sumI a + sumI b
  | [], b => by simp [sumI]
  | x :: a, b => by rw [List.cons_append, sumI, sumI, sumI_append a b]; omega
theorem sumI_neg : ∀ a : List Int, sumI (a.map fun x => -x) = - sumI a
  | [] => rfl
  | x :: a => by rw [List.map_cons, sumI, sumI, sumI_neg a]; omega
theorem SP_app {r1 r2 : List (List Bool)} {u : List Bool} {a b : List Int} (h : r1.length = a.length) : SP (r1 ++ r2) u (a ++ b) = SP r1 u a + SP r2 u b := by
  rw [SP, List.zip_append h, List.map_append, sumI_append]
  rfl
theorem SP_false (rows : List (List Bool)) (b : Bool) (u : List Bool) (xs : List Int) : SP (rows.map (false :: ·)) (b :: u) xs = SP rows u xs := by
  rw [SP, SP, List.zip_map_left, List.map_map]
  congr 1
  refine List.map_congr_left fun q _ => ?_
  simp [oddR]
theorem SP_tf (rows : List (List Bool)) (u : List Bool) (xs : List Int) : SP (rows.map (true :: ·)) (false :: u) xs = SP rows u xs := by
  rw [SP, SP, List.zip_map_left, List.map_map]
  congr 1
  refine List.map_congr_left fun q _ => ?_
  simp [oddR]
theorem SP_tt (rows : List (List Bool)) (u : List Bool) (xs : List Int) : SP (rows.map (true :: ·)) (true :: u) xs = - SP rows u xs := by
  rw [SP, SP, List.zip_map_left, List.map_map, ← sumI_neg, List.map_map]
  congr 1
  refine List.map_congr_left fun q _ => ?_
  simp only [Function.comp, oddR, Prod.map, id]
  cases oddR u q.1 <;> simp [sgn]
theorem zipWith_map2 {α : Type} (f : Int → Int → Int) (g h : α → Int) : ∀ l : List α, List.zipWith f (l.map g) (l.map h) = l.map fun x => f (g x) (h x)
  | [] => rfl
  | x :: l => by simp [zipWith_map2 f g h l]
theorem SP_wht : ∀ (k : Nat) (xs : List Int), xs.length = 2 ^ k → (rowsOf k).map (fun u => SP (rowsOf k) u xs) = whtR k xs
  | 0, xs, h => by
    match xs, h with
    | [x], _ => simp [rowsOf, SP, oddR, sgn, whtR, sumI]
  | k + 1, xs, h => by
    obtain ⟨u, v, rfl, hu, hv⟩ := split_two h
    rw [whtR_app hu, ← SP_wht k u hu, ← SP_wht k v hv, zipWith_map2, zipWith_map2, rows_cons, List.map_append, List.map_map, List.map_map]
    have e : ((rowsOf k).map (false :: ·)).length = u.length := by rw [List.length_map, rowsOf_length, hu]
    congr 1
    · refine List.map_congr_left fun r _ => ?_
      simp only [Function.comp]
      rw [SP_app e, SP_false, SP_tf]
    · refine List.map_congr_left fun r _ => ?_
      simp only [Function.comp]
      rw [SP_app e, SP_false, SP_tt]
      rfl
theorem wht_add : ∀ (k : Nat) (a b : List Int), a.length = 2 ^ k → b.length = 2 ^ k → whtR k (List.zipWith (· + ·) a b) = List.zipWith (· + ·) (whtR k a) (whtR k b)
  | 0, _, _, _, _ => rfl
  | k + 1, a, b, ha, hb => by
    obtain ⟨u, v, rfl, hu, hv⟩ := split_two ha
    obtain ⟨w, z, rfl, hw, hz⟩ := split_two hb
    have lu := whtR_length k u hu
    have lv := whtR_length k v hv
    have lw := whtR_length k w hw
    have lz := whtR_length k z hz
    rw [List.zipWith_append (by rw [hu, hw]), whtR_app (by simp [hu, hw]), whtR_app hu, whtR_app hw, wht_add k u w hu hw, wht_add k v z hv hz, List.zipWith_append (by simp [lu, lv, lw, lz])]
    congr 1
    · apply List.ext_getElem
      · simp [lu, lv, lw, lz]
      · intro i h1 h2
        simp
        omega
    · apply List.ext_getElem
      · simp [lu, lv, lw, lz]
      · intro i h1 h2
        simp
        omega
theorem wht_sub : ∀ (k : Nat) (a b : List Int), a.length = 2 ^ k → b.length = 2 ^ k → whtR k (List.zipWith (· - ·) a b) = List.zipWith (· - ·) (whtR k a) (whtR k b)
  | 0, _, _, _, _ => rfl
  | k + 1, a, b, ha, hb => by
    obtain ⟨u, v, rfl, hu, hv⟩ := split_two ha
    obtain ⟨w, z, rfl, hw, hz⟩ := split_two hb
    have lu := whtR_length k u hu
    have lv := whtR_length k v hv
    have lw := whtR_length k w hw
    have lz := whtR_length k z hz
    rw [List.zipWith_append (by rw [hu, hw]), whtR_app (by simp [hu, hw]), whtR_app hu, whtR_app hw, wht_sub k u w hu hw, wht_sub k v z hv hz, List.zipWith_append (by simp [lu, lv, lw, lz])]
    congr 1
    · apply List.ext_getElem
      · simp [lu, lv, lw, lz]
      · intro i h1 h2
        simp
        omega
    · apply List.ext_getElem
      · simp [lu, lv, lw, lz]
      · intro i h1 h2
        simp
        omega
theorem wht_wht : ∀ (k : Nat) (xs : List Int), xs.length = 2 ^ k → whtR k (whtR k xs) = xs.map fun x => (2 ^ k : Int) * x
  | 0, xs, _ => by simp [whtR]
  | k + 1, xs, h => by
    obtain ⟨u, v, rfl, hu, hv⟩ := split_two h
    have lu := whtR_length k u hu
    have lv := whtR_length k v hv
    have e1 := wht_wht k u hu
    have e2 := wht_wht k v hv
    rw [whtR_app hu, whtR_app (by simp [lu, lv]), wht_add k _ _ lu lv, wht_sub k _ _ lu lv, e1, e2, List.map_append]
    have hp : (2 : Int) ^ (k + 1) = 2 * 2 ^ k := by rw [Int.pow_succ]; omega
    congr 1
    · apply List.ext_getElem
      · simp [hu, hv]
      · intro i h1 h2
        simp [hp, Int.mul_assoc]
        omega
    · apply List.ext_getElem
      · simp [hu, hv]
      · intro i h1 h2
        simp [hp, Int.mul_assoc]
        omega
/-- squares -/
def sqs (xs : List Int) : Int := sumI (xs.map fun x => x * x)
theorem sq_two (a b : Int) : (a + b) * (a + b) + (a - b) * (a - b) = 2 * (a * a) + 2 * (b * b) := by
  have h1 : (a + b) * (a + b) = a * a + a * b + (b * a + b * b) := by rw [Int.add_mul, Int.mul_add, Int.mul_add]
  have h2 : (a - b) * (a - b) = a * a - a * b - (b * a - b * b) := by rw [Int.sub_mul, Int.mul_sub, Int.mul_sub]
  rw [h1, h2]
  omega
theorem sqs_two : ∀ (u v : List Int), u.length = v.length → sqs (List.zipWith (· + ·) u v) + sqs (List.zipWith (· - ·) u v) = 2 * (sqs u + sqs v)
  | [], [], _ => rfl
  | a :: u, b :: v, h => by
    have := sqs_two u v (by simpa using h)
    have q := sq_two a b
    simp only [sqs, List.zipWith_cons_cons, List.map_cons, sumI] at this ⊢
    omega
theorem sqs_wht : ∀ (k : Nat) (xs : List Int), xs.length = 2 ^ k → sqs (whtR k xs) = (2 ^ k : Int) * sqs xs
  | 0, xs, _ => by simp [whtR]
  | k + 1, xs, h => by
    obtain ⟨u, v, rfl, hu, hv⟩ := split_two h
    have e1 := sqs_wht k u hu
    have e2 := sqs_wht k v hv
    have e3 := sqs_two (whtR k u) (whtR k v) (by rw [whtR_length k u hu, whtR_length k v hv])
    have e4 : ∀ a b : List Int, sqs (a ++ b) = sqs a + sqs b := fun a b => by simp [sqs, sumI_append]
    have hp : (2 : Int) ^ (k + 1) = 2 * 2 ^ k := by rw [Int.pow_succ]; omega
    rw [whtR_app hu, e4, e3, e4, e1, e2, hp, Int.mul_assoc, Int.mul_add (2 ^ k)]
end WT
end
section
set_option linter.all false
set_option autoImplicit true
set_option maxRecDepth 100000
set_option maxHeartbeats 4000000
namespace WT
open PySem
variable {G : Nat → Option PV} {T : Nat → Option Def} {cf : CF}
theorem rows_asc : ∀ k, ((rowsOf k).map rk).Pairwise (fun a b => lexL a b = true)
  | 0 => by simp [rowsOf]
  | k + 1 => by
    have ih := rows_asc k
    rw [rows_cons, List.map_append, List.map_map, List.map_map]
    refine List.pairwise_append.mpr ⟨?_, ?_, ?_⟩
    · rw [← List.map_map]
      refine List.pairwise_map.mpr (List.pairwise_map.mpr ?_)
      refine (List.pairwise_map.mp ih).imp fun {a b} h => ?_
      show (if ((false.toNat : Nat) : Int) = ((false.toNat : Nat) : Int) then lexL (rk a) (rk b) else _) = true
      rw [if_pos rfl]
      exact h
    · rw [← List.map_map]
      refine List.pairwise_map.mpr (List.pairwise_map.mpr ?_)
      refine (List.pairwise_map.mp ih).imp fun {a b} h => ?_
      show (if ((true.toNat : Nat) : Int) = ((true.toNat : Nat) : Int) then lexL (rk a) (rk b) else _) = true
      rw [if_pos rfl]
      exact h
    · intro a ha b hb
      obtain ⟨x, _, rfl⟩ := List.mem_map.mp ha
      obtain ⟨y, _, rfl⟩ := List.mem_map.mp hb
      rfl
theorem rel_sub {m : Nat} (m1 : 1 ≤ m) (m4 : m ≤ 4) {S : List (List Bool)} (h : S.Sublist (rowsOf m)) (hn : S ≠ []) : Rel m S ∧ S.length ≤ 2 ^ m := by
  have hl := h.length_le
  rw [rowsOf_length] at hl
  have : 2 ^ m ≤ 16 := Nat.le_trans (Nat.pow_le_pow_right (by decide) m4) (by decide)
  exact ⟨⟨m1, by omega, hn, fun r hr => mem_rowsOf.mp (h.subset hr), List.Pairwise.sublist (h.map rk) (rows_asc m), by omega⟩, hl⟩
def DrewRel (m : Nat) (t : AH) (r : RV) (h' : AH) : Prop := ∃ R o', r = .v (relV m R) ∧ h' = o' :: t ∧ Pot o' ∧ Rel m R ∧ R.length ≤ 2 ^ m
theorem law_relation_ok [H : K__law_relation T] (n : Nat) {m : Nat} (m1 : 1 ≤ m) (m4 : m ≤ 4) {o : HObj} (ho : Pot o) (t : AH) : Ev (runFn G T (n + 2) 57 [.loc 0, .int (m : Int)] (o :: t)) (DrewRel m t) := by
  rw [run_eq H.d (n + 1) rfl rfl]
  have p16 : 2 ^ m ≤ 16 := Nat.le_trans (Nat.pow_le_pow_right (by decide) m4) (by decide)
  simp [law_rows_ok n m (by omega)]
  refine Ev.call (take_ok n ho (by decide) (by decide) t) ?_
  rintro _ _ ⟨d, o1, rfl, rfl, p1, d0, d1⟩
  obtain ⟨RW, hRW⟩ : ∃ RW, RW = (rowsOf m).map rowV := ⟨_, rfl⟩
  have hRWl : RW.length = 2 ^ m := by rw [hRW]; simp [rowsOf_length]
  rw [← hRW]
  simp
  refine Ev.call (lc_inve (rowsOf m) rowV (fun dd acc h => ∃ o S, h = o :: t ∧ Pot o ∧ acc = S.map rowV ∧ S.Sublist dd) (by simp [hRW]) ⟨o1, [], rfl, p1, rfl, List.Sublist.refl _⟩ ?_ (by rw [rowsOf_length]; exact SZ_ge (by omega))) ?_
  · rintro dd r ee acc h hdd ⟨o, S, rfl, hP, rfl, hsub⟩
    unfold condK
    simp
    refine Ev.call (take_ok n hP (by omega) (by omega) t) ?_
    rintro _ _ ⟨w, o4, rfl, rfl, p4, w0, w1⟩
    have e0 : ∀ b : Bool, (RV.v (.bl b)).truth (o4 :: t) = some b := fun b => rfl
    by_cases hw : w = 0
    · simp [hw, e0]
      exact ⟨rowV r, eltK_of (r := .v (rowV r)) rfl (by simp) rfl, p4, S ++ [r], by simp, hsub.append (List.Sublist.refl _)⟩
    · simp [hw, e0]
      exact ⟨p4, S, rfl, hsub.trans (List.sublist_append_left _ _)⟩
  · rintro _ h ⟨acc, rfl, o, S, rfl, hP, rfl, hsub⟩
    have en : ∀ h, opSem h (.cmp .ne) [.v (.lst (S.map rowV)), .L false []] = some (.v (.bl (!(S.map rowV).isEmpty))) := fun h => ne_empty (flats_rows 58 S) h
    cases S with
    | nil =>
      simp only [List.map_nil, List.isEmpty_nil, Bool.not_true] at en
      have el : ∀ h, opSem h .len [.v (.lst RW)] = some (.v (.int (2 ^ m : Nat))) := fun h => by simp [hRWl]
      have p1m : 0 < 2 ^ m := Nat.pos_of_ne_zero (by simp)
      simp only [List.map_nil]
      simp [en, el]
      refine Ev.call (take_ok n hP (many := ((2 ^ m : Nat) : Int)) (by omega) (by omega) t) ?_
      rintro _ _ ⟨w, o4, rfl, rfl, p4, w0, w1⟩
      obtain ⟨x, ex, hx⟩ := pick_mem RW w0 (by rw [hRWl]; exact w1)
      rw [hRW] at hx
      obtain ⟨r, hr, rfl⟩ := List.mem_map.mp hx
      simp [ex]
      rw [leave_eq _ (by simp)]
      have hs : [r].Sublist (rowsOf m) := List.singleton_sublist.mpr hr
      obtain ⟨h1, h2⟩ := rel_sub m1 m4 hs (by simp)
      exact .ok ⟨[r], o4, rfl, rfl, p4, h1, h2⟩
    | cons r S =>
      obtain ⟨W, hW⟩ : ∃ W, W = r :: S := ⟨_, rfl⟩
      have hWn : W ≠ [] := by rw [hW]; simp
      rw [← hW] at en hsub ⊢
      have he : (!(W.map rowV).isEmpty) = true := by rw [hW]; rfl
      rw [he] at en
      simp [en]
      rw [leave_eq _ (by simp)]
      obtain ⟨h1, h2⟩ := rel_sub m1 m4 hsub hWn
      exact .ok ⟨W, o, rfl, rfl, hP, h1, h2⟩
/-! what is no relation -/
theorem is_relation_bad [H : K_is_relation_of T] (n : Nat) {m : Int} (m1 : 1 ≤ m) {xs : List PV} (hl : xs.length ≤ 1000000) (h0 : xs ≠ []) (hok : ∀ x ∈ xs, okEq x = true ∧ ∀ ys, x = .tup ys → ys.length ≤ SZ ∧ ∀ y ∈ ys, okEq y = true) (hb : xs.all (isRow m) = false) (h : AH) : runFn G T (n + 4) 46 [.tup [.int m, .tup xs]] h = .ok (.v (.bl false)) h := by
  rw [run_eq H.d (n + 3) rfl rfl]
  have e0 : ∀ h, runFn G T (n + 3) 0 [.int m] h = .ok (.v (.bl true)) h := fun h => is_integer_ok (n + 2) (x := .int m) rfl h
  have c1' : ¬ m < 1 := by omega
  simp [e0, c1']
  rw [lc_map xs (fun x => x) (fun x => .bl (isRow m x)) (by simp) (fun x hx => by
    refine eltK_of (r := .v (.bl (isRow m x))) rfl ?_ rfl
    obtain ⟨h1, h2⟩ := hok x hx
    simp [is_row_ok n h1 h2 m]) (SZ_ge (by omega))]
  have ea : ∀ h, opSem h .all [.L false (xs.map fun x => .bl (isRow m x))] = some (.v (.bl (xs.all (isRow m)))) := fun h => all_map xs (isRow m) false h
  rw [hb] at ea
  simp [-all_map, ea, h0]
def odd8 (m : Nat) (R : List (List Bool)) : List PV := [.tup [.int (m : Int), .tup []], .tup [.int (m : Int), .tup ((R.reverse ++ R.take 1).map rowV)], .tup [.int ((m : Int) + 1), .tup (R.map rowV)], .lst [.int (m : Int), .tup (R.map rowV)], .tup (R.map rowV), .non, .tup [.int (m : Int), .lst (R.map rowV)], .tup [.int (m : Int), .tup (R.map rowV ++ [.tup (List.replicate m (.int 2))])], .tup [.int 0, .tup [.tup []]], .tup [.int (m : Int), .tup [.lst ((R.headD []).map tr)]]]
theorem odd8_false [H : K_is_relation T] (n : Nat) {m : Nat} {R : List (List Bool)} (hR : Rel m R) (h1000 : R.length ≤ 1000) {x : PV} (hx : x ∈ odd8 m R) (h : AH) : runFn G T (n + 5) 53 [x] h = .ok (.v (.bl false)) h := by
  suffices key : runFn G T (n + 4) 46 [x] h = .ok (.v (.bl false)) h by
    rw [run_eq H.d (n + 4) rfl rfl]
    simp [key]
  have H46 : K_is_relation_of T := inferInstance
  have m1 := hR.pos
  have m20 := hR.few
  have hne := hR.ne
  have hi : (1 : Int) ≤ (m : Int) := by omega
  have okr : ∀ x ∈ R.map rowV, okEq x = true ∧ ∀ ys, x = .tup ys → ys.length ≤ SZ ∧ ∀ y ∈ ys, okEq y = true := fun x hx => by
    obtain ⟨r, hr, rfl⟩ := List.mem_map.mp hx
    have hrl := hR.len r hr
    refine ⟨ok_row (by omega), fun ys e => ?_⟩
    have : ys = r.map tr := by injection e with e; exact e.symm
    subst this
    refine ⟨by rw [List.length_map]; exact SZ_ge (by omega), fun y hy => ?_⟩
    obtain ⟨b, _, rfl⟩ := List.mem_map.mp hy
    rfl
  have e0 : ∀ (x : PV) h, okEq x = true → runFn G T (n + 3) 0 [x] h = .ok (.v (.bl (isInt x))) h := fun x h hx => is_integer_ok (n + 2) hx h
  simp only [odd8, List.mem_cons, List.not_mem_nil, or_false] at hx
  rcases hx with rfl | rfl | rfl | rfl | rfl | rfl | rfl | rfl | rfl | rfl
  · have := is_relation_rows (G := G) (T := T) n (m : Int) (R := []) (by simp) (by simp) h
    simpa using this
  · obtain ⟨W, hW⟩ : ∃ W, W = R.reverse ++ R.take 1 := ⟨_, rfl⟩
    have hWm : ∀ r ∈ W, r ∈ R := fun r hr => by
      rw [hW] at hr
      rcases List.mem_append.mp hr with hr | hr
      · simpa using hr
      · exact List.mem_of_mem_take hr
    have hWl : W.length ≤ 2000 := by rw [hW]; simp; omega
    rw [← hW]
    have := is_relation_rows (G := G) (T := T) n (m : Int) (R := W) (by omega) (fun r hr => by have := hR.len r (hWm r hr); omega) h
    rw [this]
    have hasc : ascB lexL (W.map rk) = false := by
      cases c : ascB lexL (W.map rk) with
      | false => rfl
      | true =>
        have hp := (ascB_iff lexL_trans _).mp c
        have hnd := lt_nodup hp
        cases R with
        | nil => exact absurd rfl hne
        | cons r0 R0 =>
          rw [hW] at hnd
          simp [List.nodup_append] at hnd
    rw [hasc, Bool.and_false]
  · have := is_relation_rows (G := G) (T := T) n ((m : Int) + 1) (R := R) (by omega) (fun r hr => by have := hR.len r hr; omega) h
    rw [this]
    have hall : (R.all fun r => decide ((r.length : Int) = (m : Int) + 1)) = false := by
      cases R with
      | nil => exact absurd rfl hne
      | cons r0 R0 =>
        have := hR.len r0 (by simp)
        have hc : ¬ (r0.length : Int) = (m : Int) + 1 := by omega
        simp [hc]
    rw [hall, Bool.and_false, Bool.false_and]
  · rw [run_eq H46.d (n + 3) rfl rfl]
    simp
  · rw [run_eq H46.d (n + 3) rfl rfl]
    cases R with
    | nil => exact absurd rfl hne
    | cons r0 R0 =>
      have hr0 := hR.len r0 (by simp)
      have e1 : ∀ h, runFn G T (n + 3) 0 [rowV r0] h = .ok (.v (.bl false)) h := fun h => e0 (rowV r0) h (ok_row (by omega))
      obtain ⟨V, hV⟩ : ∃ V, V = R0.map rowV := ⟨_, rfl⟩
      rw [List.map_cons, ← hV]
      by_cases c : (V.length : Int) + 1 = 2
      · have hp : pick (rowV r0 :: V) 0 = some (rowV r0) := by
          rw [show (0 : Int) = ((0 : Nat) : Int) from rfl, pick_nat]
          rfl
        simp [c, e1, hp]
      · simp [c]
  · rw [run_eq H46.d (n + 3) rfl rfl]
    simp
  · rw [run_eq H46.d (n + 3) rfl rfl]
    have c1' : ¬ (m : Int) < 1 := by omega
    have e1 : ∀ h, runFn G T (n + 3) 0 [.int (m : Int)] h = .ok (.v (.bl true)) h := fun h => e0 (.int (m : Int)) h rfl
    simp [e1, c1']
  · refine is_relation_bad n hi (by simp; omega) (by simp) ?_ ?_ h
    · intro x hx
      rcases List.mem_append.mp hx with hx | hx
      · exact okr x hx
      · rw [List.mem_singleton.mp hx]
        refine ⟨fit_ok (d := 2) (fit_tup2 (by simp; omega) (by intro y hy; rw [(List.mem_replicate.mp hy).2]; exact fit_int _ _)), fun ys e => ?_⟩
        have : ys = List.replicate m (.int 2) := by injection e with e; exact e.symm
        subst this
        refine ⟨by rw [List.length_replicate]; exact SZ_ge (by omega), fun y hy => ?_⟩
        rw [(List.mem_replicate.mp hy).2]
        rfl
    · rw [List.all_append]
      have : [PV.tup (List.replicate m (.int 2))].all (isRow (m : Int)) = false := by
        obtain ⟨j, rfl⟩ : ∃ j, m = j + 1 := ⟨m - 1, by omega⟩
        simp [isRow, List.replicate_succ, isTr]
      rw [this, Bool.and_false]
  · have := is_relation_rows (G := G) (T := T) n 0 (R := [[]]) (by simp) (by simp) h
    simpa [rowV] using this
  · refine is_relation_bad n hi (by simp) (by simp) ?_ (by simp [isRow]) h
    intro x hx
    rw [List.mem_singleton.mp hx]
    refine ⟨?_, fun ys e => (by cases e)⟩
    have hh : (R.headD []).length ≤ 20 := by
      cases R with
      | nil => exact absurd rfl hne
      | cons r0 R0 =>
        have := hR.len r0 (by simp)
        simp
        omega
    exact fit_ok (d := 2) (fit_lst2 (by simp at hh ⊢; omega) (by
      intro y hy
      obtain ⟨b, _, rfl⟩ := List.mem_map.mp hy
      exact fit_int _ _))
end WT
end
section
set_option linter.all false
set_option autoImplicit true
set_option maxRecDepth 100000
set_option maxHeartbeats 4000000
namespace WT
open PySem PyProof.Rows
abbrev T8 : Nat → Option Def := tabOf tab
abbrev G8 : Nat → Option PV := fun _ => none
def sv (s : String) : PV := .str (Str.ofString s)
def names8 : List PV := [sv "nought", sv "one", sv "up", sv "other", sv "even", sv "and", sv "or", .tup [sv "ones", .int 2], .tup [sv "noughts", .int 3]]
def mk (l : List (List Nat)) : List (List Bool) := l.map fun r => r.map fun i => i == 1
theorem rel_of {m : Nat} {R : List (List Bool)} (h : (decide (1 ≤ m) && decide (m ≤ 4) && !R.isEmpty && (R.all fun r => decide (r.length = m)) && ascB lexL (R.map rk) && decide (R.length ≤ 8)) = true) : Rel m R ∧ R.length ≤ 8 := by
  simp only [Bool.and_eq_true, decide_eq_true_eq] at h
  obtain ⟨⟨⟨⟨⟨h1, h2⟩, h3⟩, h4⟩, h5⟩, h6⟩ := h
  refine ⟨⟨h1, by omega, (fun e => by rw [e] at h3; cases h3), (fun r hr => by simpa using List.all_eq_true.mp h4 r hr), (ascB_iff lexL_trans _).mp h5, by omega⟩, h6⟩
theorem test8 (o : HObj) : ∀ x ∈ names8, ∃ m R, (Rel m R ∧ R.length ≤ 8) ∧ runFn G8 T8 59 105 [x] [o] = .ok (.v (relV m R)) [o] := by
  intro x hx
  simp only [names8, List.mem_cons, List.not_mem_nil, or_false] at hx
  rcases hx with rfl | rfl | rfl | rfl | rfl | rfl | rfl | rfl | rfl
  · exact ⟨1, mk [[0]], rel_of (by decide +kernel), by kernel_rfl⟩
  · exact ⟨1, mk [[1]], rel_of (by decide +kernel), by kernel_rfl⟩
  · exact ⟨2, mk [[0, 0], [0, 1], [1, 1]], rel_of (by decide +kernel), by kernel_rfl⟩
  · exact ⟨2, mk [[0, 1], [1, 0]], rel_of (by decide +kernel), by kernel_rfl⟩
  · exact ⟨4, mk [[0, 0, 0, 0], [0, 0, 1, 1], [0, 1, 0, 1], [0, 1, 1, 0], [1, 0, 0, 1], [1, 0, 1, 0], [1, 1, 0, 0], [1, 1, 1, 1]], rel_of (by decide +kernel), by kernel_rfl⟩
  · exact ⟨3, mk [[0, 0, 0], [0, 1, 0], [1, 0, 0], [1, 1, 1]], rel_of (by decide +kernel), by kernel_rfl⟩
  · exact ⟨3, mk [[0, 0, 0], [0, 1, 1], [1, 0, 1], [1, 1, 1]], rel_of (by decide +kernel), by kernel_rfl⟩
  · exact ⟨2, mk [[0, 0], [0, 1], [1, 0]], rel_of (by decide +kernel), by kernel_rfl⟩
  · exact ⟨3, mk [[0, 0, 1], [0, 1, 0], [0, 1, 1], [1, 0, 0], [1, 0, 1], [1, 1, 0], [1, 1, 1]], rel_of (by decide +kernel), by kernel_rfl⟩
theorem vat_p21 {a b : Bool} : vat (proj 2 1) [a, b] = b := by cases a <;> cases b <;> decide
theorem proj_keeps {m : Nat} {R : List (List Bool)} (hR : Rel m R) : brR m 2 (proj 2 1) R = none := by
  rw [brR, ← chs_ext, List.find?_eq_none]
  intro s hs
  obtain ⟨h1, h2⟩ := chs_mem hs
  match s, h1, h2 with
  | [a, b], _, h2 =>
    have hb : b ∈ R := h2 b (by simp)
    have hbl := hR.len b hb
    have e : appR m (proj 2 1) [a, b] = b := by
      rw [appR]
      apply List.ext_getElem
      · simp [hbl]
      · intro i h3 h4
        have ec : colR [a, b] i = [a.getD i false, b.getD i false] := rfl
        simp only [List.getElem_map, List.getElem_range, ec, vat_p21]
        simp [List.getElem?_eq_getElem h4]
    simp [badR, e, hb]
def I8 (ρ : Env) (h : AH) : Prop := ∃ o, h = [o] ∧ Pot o ∧ ∃ x0 x3 x4 x5 x6 x7 x8 x9 x10, ρ = [x0, some (.v (.loc 0)), some (.v (.lst names8)), x3, x4, x5, x6, x7, x8, x9, x10]
def Go8 (q : Fl × Env) (h : AH) : Prop := (q.1 = .nx ∨ q.1 = .cont) ∧ I8 q.2 h
theorem k8 : K_law_k08 T8 := tk_law_k08
theorem fit_br {m k : Nat} {t : List Bool} {R : List (List Bool)} (hR : Rel m R) (k4 : k ≤ 4) : fit 3 (brV (brR m k t R)) = true := by
  cases c : brR m k t R with
  | none => rfl
  | some s =>
    have hs : s ∈ chs R k := by
      rw [chs_ext]
      exact List.mem_of_find?_eq_some c
    obtain ⟨h1, h2⟩ := chs_mem hs
    exact fit_tup2 (by simp; omega) (by
      intro x hx
      obtain ⟨r, hr, rfl⟩ := List.mem_map.mp hx
      have := hR.len r (h2 r hr)
      have := hR.few
      rw [rowV_rk]
      exact fit_tupI (by simp [rk]; omega))
theorem rest8 (i : Nat) (k m : Nat) (t : List Bool) (R : List (List Bool)) (k1 : 1 ≤ k) (k3 : k ≤ 3) (ht : t.length = 2 ^ k) (hR : Rel m R) (h8 : R.length ≤ 8) (o : HObj) (ho : Pot o) (x0 x3 x6 x7 x8 x9 x10 : Option RV) :
    Ev (execSs (runFn G8 T8 59) G8 (match D_law_k08.body with | _ :: _ :: .for_ _ _ (_ :: _ :: _ :: b) :: _ => b | _ => []) [x0, some (.v (.loc 0)), some (.v (.lst names8)), x3, some (.v (fnV k t)), some (.v (relV m R)), x6, x7, x8, x9, x10] [o]) Go8 := by
  have k8i : K_law_k08 T8 := k8
  obtain ⟨Q, hQ⟩ : ∃ Q, Q = Go8 := ⟨_, rfl⟩
  obtain ⟨N, hN⟩ : ∃ N, N = names8 := ⟨_, rfl⟩
  rw [← hQ, ← hN]
  have hF : Fn k t := ⟨k1, by omega, ht⟩
  have es : ∀ (d : Nat) (x : PV) h, fit d x = true → d ≤ 20 → runFn G8 T8 59 15 [x, x] h = .ok (.v (.bl true)) h := fun d x h hx hd => by
    have := same_eq (G := G8) (T := T8) (h := h) hx (59 - (d + 1)) (by omega)
    rwa [show 59 - (d + 1) + d + 1 = 59 by omega] at this
  obtain ⟨B, hB⟩ : ∃ B, B = brV (brR m k t R) := ⟨_, rfl⟩
  obtain ⟨c, hc⟩ : ∃ c, c = (brR m k t R).isNone := ⟨_, rfl⟩
  have hBf : fit 3 B = true := by rw [hB]; exact fit_br hR (by omega)
  have eLB : ∀ h, runFn G8 T8 59 60 [fnV k t, relV m R] h = .ok (.v B) h := fun h => by rw [hB]; exact law_breach_ok 56 k1 (by omega) ht hR (by omega) h
  have eB : ∀ h, runFn G8 T8 59 56 [fnV k t, relV m R] h = .ok (.v B) h := fun h => by rw [hB]; exact breach_ok 49 k1 (by omega) ht hR h
  have eK : ∀ h, runFn G8 T8 59 55 [fnV k t, relV m R] h = .ok (.v (.bl c)) h := fun h => by rw [hc]; exact keeps_ok 49 k1 (by omega) ht hR h
  have eN : ∀ h, opSem h (.isN false) [.v B] = some (.v (.bl c)) := fun h => by
    rw [hB, hc]
    cases brR m k t R <;> rfl
  have eP : ∀ h, runFn G8 T8 59 23 [.int 2, .int 1] h = .ok (.v (fnV 2 (proj 2 1))) h := fun h => projection_ok (G := G8) (T := T8) 56 (k := 2) (i := 1) (by decide) (by decide) h
  have hpl : (proj 2 1).length = 2 ^ 2 := by decide
  have eKP : ∀ h, runFn G8 T8 59 55 [fnV 2 (proj 2 1), relV m R] h = .ok (.v (.bl true)) h := fun h => by
    have := keeps_ok (G := G8) (T := T8) 49 (k := 2) (by decide) (by decide) hpl hR h
    rw [proj_keeps hR] at this
    exact this
  have eR : ∀ h, runFn G8 T8 59 53 [relV m R] h = .ok (.v (.bl true)) h := fun h => is_relation_ok 54 hR h
  have es1 : ∀ h, runFn G8 T8 59 15 [.lst [B, B], .lst [B, B]] h = .ok (.v (.bl true)) h := fun h => es 4 _ h (fit_lst2 (by simp) (by simp [hBf])) (by decide)
  have es2 : ∀ a h, runFn G8 T8 59 15 [.lst [.bl a, .bl a], .lst [.bl a, .bl a]] h = .ok (.v (.bl true)) h := fun a h => es 1 _ h (fit_lst2 (by simp) (by simp)) (by decide)
  have es3 : ∀ a h, runFn G8 T8 59 15 [.bl a, .bl a] h = .ok (.v (.bl true)) h := fun a h => es 0 _ h (by rfl) (by decide)
  obtain ⟨fv, hfv⟩ : ∃ fv, fv = fnV k t := ⟨_, rfl⟩
  obtain ⟨V, hV⟩ : ∃ V, V = R.map rowV := ⟨_, rfl⟩
  have eV : relV m R = .tup [.int (m : Int), .tup V] := by rw [relV, hV]
  rw [eV] at eLB eB eK eKP eR ⊢
  rw [← hfv] at eLB eB eK ⊢
  have hVl : V.length ≤ 8 := by rw [hV]; simpa using h8
  obtain ⟨pf, hpf⟩ : ∃ pf, pf = fnV 2 (proj 2 1) := ⟨_, rfl⟩
  rw [← hpf] at eP eKP
  have m1 := hR.pos
  have m20 := hR.few
  obtain ⟨W1, hW1⟩ : ∃ W1, W1 = (R.reverse ++ R.take 1).map rowV := ⟨_, rfl⟩
  have e1 : ∀ h, opSem h (.bin .add) [.v (.tup V.reverse), .v (.tup (cut V none (some 1)))] = some (.v (.tup W1)) := fun h => by
    rw [hW1]
    have ec : cut V none (some 1) = (R.take 1).map rowV := by
      rw [cut_to _ (by decide), hV, ← List.map_take]
      rfl
    rw [ec, tup_add (by rw [p_SZ_eq]; simp; omega), hV, List.map_append, List.map_reverse]
  have e2 : ∀ h, opSem h (.bin .mul) [.v (.tup [.int 2]), .v (.int (m : Int))] = some (.v (.tup (List.replicate m (.int 2)))) := fun h => by
    rw [p_op_mulT (by omega) (by omega) (by simp), rep_one, Int.toNat_natCast]
  have e3 : ∀ (X : PV) h, opSem h (.bin .add) [.v (.tup V), .v (.tup [X])] = some (.v (.tup (V ++ [X]))) := fun X h => tup_add (by rw [p_SZ_eq]; simp; omega) h
  have hh : ∃ r0 R0, R = r0 :: R0 := by
    cases R with
    | nil => exact absurd rfl hR.ne
    | cons a b => exact ⟨a, b, rfl⟩
  obtain ⟨r0, R0, hR0⟩ := hh
  have e4 : pick V 0 = some (rowV r0) := by
    rw [show (0 : Int) = ((0 : Nat) : Int) from rfl, pick_nat, hV, hR0]
    rfl
  have e5 : ∀ h, opSem h .toLst [.v (rowV r0)] = some (.L false (r0.map tr)) := fun h => by rw [rowV]; simp
  simp [D_law_k08, eLB, eB, es1, eN, eK, es2, eP, eKP, eR, e1, e2, e3]
  rw [lst_add rfl rfl (SZ_ge (by simp))]
  simp [e4, e5]
  rw [app_L rfl (by simp [p_SZ_eq])]
  simp
  refine Ev.call (take_ok (G := G8) (T := T8) 58 ho (by decide) (by decide) []) ?_
  rintro _ _ ⟨w, o2, rfl, rfl, p2, w0, w1⟩
  obtain ⟨O, hO⟩ : ∃ O, O = odd8 m R := ⟨_, rfl⟩
  have hOl : O.length = 10 := by rw [hO]; rfl
  obtain ⟨y, ey, hy⟩ := pick_mem (xs := O) w0 (by rw [hOl]; exact w1)
  have hO2 : O = [.tup [.int (m : Int), .tup []], .tup [.int (m : Int), .tup W1], .tup [.int ((m : Int) + 1), .tup V], .lst [.int (m : Int), .tup V], .tup V, .non, .tup [.int (m : Int), .lst V], .tup [.int (m : Int), .tup (V ++ [.tup (List.replicate m (.int 2))])], .tup [.int 0, .tup [.tup []]], .tup [.int (m : Int), .tup [.lst (r0.map tr)]]] := by
    rw [hO, odd8, hV, hW1, hR0]
    rfl
  rw [hO] at hy
  have eo : ∀ h, runFn G8 T8 59 53 [y] h = .ok (.v (.bl false)) h := fun h => odd8_false 54 hR (by omega) hy h
  rw [hO2] at ey
  simp [ey, eo, es3]
  rw [hQ, hN]
  exact ⟨.inl rfl, o2, rfl, p2, _, _, _, _, _, _, _, _, _, rfl⟩
theorem turn_k08 (i : Nat) (ρ : Env) (h : AH) (hI : I8 ρ h) : Ev (stepK (.var 3) (execSs (runFn G8 T8 59) G8 (match D_law_k08.body with | _ :: _ :: .for_ _ _ b :: _ => b | _ => [])) (.int (i : Int)) ρ h) Go8 := by
  have k8i : K_law_k08 T8 := k8
  obtain ⟨o, rfl, ho, x0, x3, x4, x5, x6, x7, x8, x9, x10, rfl⟩ := hI
  have hrest := rest8
  obtain ⟨B, hB⟩ : ∃ B, B = (match D_law_k08.body with | _ :: _ :: .for_ _ _ (_ :: _ :: _ :: b) :: _ => b | _ => []) := ⟨_, rfl⟩
  have hb : (match D_law_k08.body with | _ :: _ :: .for_ _ _ b :: _ => b | _ => []) = (.asg (.var 4) (.call 18 [0, 1] (.cons (.var 1) (.cons (.op (.bin .add) (.cons (.cst (.int 1)) (.cons (.call 14 [0, 1] (.cons (.var 1) (.cons (.cst (.int 3)) .nil))) .nil))) .nil)))) ::
      (.asg (.var 5) (.call 57 [0, 1] (.cons (.var 1) (.cons (.op (.bin .add) (.cons (.cst (.int 1)) (.cons (.call 14 [0, 1] (.cons (.var 1) (.cons (.cst (.int 3)) .nil))) .nil))) .nil)))) ::
      (.ite (.and (.op (.cmp .eq) (.cons (.call 14 [0, 1] (.cons (.var 1) (.cons (.cst (.int 3)) .nil))) (.cons (.cst (.int 0)) .nil))) (.op (.cmp .lt) (.cons (.op .ix (.cons (.var 4) (.cons (.cst (.int 0)) .nil))) (.cons (.cst (.int 3)) .nil)))) [(.asg (.var 5) (.call 105 [0] (.cons (.op .ix (.cons (.var 2) (.cons (.call 14 [0, 1] (.cons (.var 1) (.cons (.cst (.int 9)) .nil))) .nil))) .nil)))] []) :: B := by rw [hB]; rfl
  rw [hb]
  rw [← hB] at hrest
  obtain ⟨Q, hQ⟩ : ∃ Q, Q = Go8 := ⟨_, rfl⟩
  obtain ⟨N, hN⟩ : ∃ N, N = names8 := ⟨_, rfl⟩
  have hNl : N.length = 9 := by rw [hN]; rfl
  have htest := test8
  rw [← hN] at htest
  rw [← hQ, ← hN] at hrest ⊢
  simp [stepK]
  refine Ev.call (take_ok (G := G8) (T := T8) 58 ho (by decide) (by decide) []) ?_
  rintro _ _ ⟨d, o1, rfl, rfl, p1, d0, d1⟩
  obtain ⟨k, hk⟩ : ∃ k : Nat, 1 + d = (k : Int) := ⟨(1 + d).toNat, by omega⟩
  have k1 : 1 ≤ k := by omega
  have k3 : k ≤ 3 := by omega
  simp [hk]
  refine Ev.call (law_function_ok (G := G8) (T := T8) 57 k1 (by omega) p1 []) ?_
  rintro _ _ ⟨tb, o2, rfl, rfl, p2, htb⟩
  simp
  refine Ev.call (take_ok (G := G8) (T := T8) 58 p2 (by decide) (by decide) []) ?_
  rintro _ _ ⟨e, o3, rfl, rfl, p3, e0, e1⟩
  obtain ⟨m, hm⟩ : ∃ m : Nat, 1 + e = (m : Int) := ⟨(1 + e).toNat, by omega⟩
  have m1 : 1 ≤ m := by omega
  have m3 : m ≤ 3 := by omega
  simp [hm]
  refine Ev.call (law_relation_ok (G := G8) (T := T8) 57 m1 (by omega) p3 []) ?_
  rintro _ _ ⟨R, o4, rfl, rfl, p4, hR, hRl⟩
  have h8 : R.length ≤ 8 := Nat.le_trans hRl (Nat.le_trans (Nat.pow_le_pow_right (by decide) m3) (by decide))
  simp
  refine Ev.call (take_ok (G := G8) (T := T8) 58 p4 (by decide) (by decide) []) ?_
  rintro _ _ ⟨c, o5, rfl, rfl, p5, c0, c1⟩
  by_cases hc : c = 0
  · by_cases hk3 : (k : Int) < 3
    · simp [hc, ix_fn0, hk3]
      refine Ev.call (take_ok (G := G8) (T := T8) 58 p5 (by decide) (by decide) []) ?_
      rintro _ _ ⟨w, o6, rfl, rfl, p6, w0, w1⟩
      obtain ⟨x, ex, hx⟩ := pick_mem (xs := N) w0 (by rw [hNl]; exact w1)
      obtain ⟨m', R', ⟨hR', h8'⟩, et⟩ := htest o6 x hx
      simp [ex, et]
      exact hrest i k m' tb R' k1 k3 htb hR' h8' o6 p6 _ _ _ _ _ _ _
    · simp [hc, ix_fn0, hk3]
      exact hrest i k m tb R k1 k3 htb hR h8 o5 p5 _ _ _ _ _ _ _
  · simp [hc]
    exact hrest i k m tb R k1 k3 htb hR h8 o5 p5 _ _ _ _ _ _ _
theorem law_k08 (_ : Nat) (ns : List Int) (hl : ns.length ≤ 63) : ∃ h', runFn G8 T8 60 107 [.sc (ns.map .int)] [] = .ok (.v (.bl true)) h' := by
  suffices h : Ev (runFn G8 T8 60 107 [.sc (ns.map .int)] []) fun r _ => r = .v (.bl true) by
    obtain ⟨r, h', e, rfl⟩ := h
    exact ⟨h', e⟩
  obtain ⟨R, hR⟩ : ∃ R : RV → AH → Prop, R = fun r _ => r = .v (.bl true) := ⟨_, rfl⟩
  rw [← hR]
  rw [run_eq k8.d 59 rfl rfl]
  have hr : rg1 (.v (.int 6)) = some ((List.range 6).map fun i => .int (i : Int)) := rg1_nat (n := 6) (by decide)
  simp
  rw [lst_add rfl rfl (SZ_ge (by simp; omega))]
  simp [exf, hr]
  refine for_inv_b (enc := fun i : Nat => PV.int (i : Int)) (l := List.range 6) I8 ⟨_, rfl, ⟨0, 7, 3, ns, rfl, by decide, by decide⟩, _, _, _, _, _, _, _, _, _, rfl⟩ ?_ ?_
  · intro i hi ρ h hI
    exact turn_k08 i ρ h hI
  · rintro ρ h ⟨o, rfl, ho, x0, x3, x4, x5, x6, x7, x8, x9, x10, rfl⟩
    simp
    rw [hR]
    exact leave_any 0 true _
end WT
end
section
namespace WT
open PySem
theorem plain (ns : List Int) (h : ns.length ≤ 63) : ∃ h', runFn (fun _ => none) (tabOf tab) 60 107 [.sc (ns.map .int)] [] = .ok (.v (.bl true)) h' :=
  have : K_law_k08 (tabOf tab) := tk_law_k08
  law_k08 30 ns h
end WT
end
set_option Elab.async false
set_option linter.all false
set_option maxRecDepth 100000
set_option maxHeartbeats 0
namespace WT
open PySem PySem.Spec PyProof.Rows L2
def lawP : Nat × DT := tab.getD 33 (0, ⟨"", d_law, [], [], ⟨0, 0, []⟩⟩)
theorem lawP_mem : lawP ∈ tab := by
  show tab.getD 33 _ ∈ tab
  rw [List.getD_eq_getElem?_getD]
  exact List.mem_of_getElem (i := 33) (h := by decide +kernel) rfl
end WT
open PySem PySem.W PySem.Calls PyProof.Rows
theorem PySem.Challenge.cw_wholetruths_k08_whole_keeping_and_breach_holds : PySem.Challenge.rw_wholetruths_k08_whole_keeping_and_breach.Holds := by
  w_on; o_law
  refine HandSHeadRun.head_any (r := OpenLaw.row PySem.Challenge.rw_wholetruths_k08_whole_keeping_and_breach) (q := view (OpenLaw.row PySem.Challenge.rw_wholetruths_k08_whole_keeping_and_breach).prog [WT.lawI]) (H := WT.hk) (ob := WT.ob) (M := 6000) (loose := WT.loose) (d := HandSHeadRun.topDef (OpenLaw.row PySem.Challenge.rw_wholetruths_k08_whole_keeping_and_breach).prog WT.lawI) (kwd := []) WT.ob_eq
    (by kernel_rfl) (fun s => by kernel_rfl) WT.run (by kernel_rfl) (by kernel_rfl) (by kernel_rfl) (by rfl) (by first | assumption | decide +kernel) (by decide +kernel) ⟨rfl, rfl, rfl, rfl, rfl, by decide +kernel⟩ ?hw ?hc
  case hw => w_witness2
  case hc =>
    refine L2.walk_ofE (l := PySem.Challenge.rw_wholetruths_k08_whole_keeping_and_breach) (n := 63) (k := 60) (x := "script") (CX := L2.CX0) rfl (by decide) (by kernel_rfl) ⟨rfl, by decide, by decide⟩ ?F (fun _ _ _ _ z => z)
    intro w mg fa h Y G hmg0
    obtain ⟨K, KX, c⟩ := Y
    have hmg : mg ("law" : PySem.Str) = some (.ref fa) := by
      have e : (HandSHeadRun.topDef (OpenLaw.row PySem.Challenge.rw_wholetruths_k08_whole_keeping_and_breach).prog WT.lawI).name = ("law" : PySem.Str) := by kernel_rfl
      rw [← e]
      exact hmg0
    exact WT.law_end (p := WT.lawP) (n := 59) w KX G c rfl rfl (by decide +kernel) WT.nd_tab WT.chk_tab WT.lawP_mem rfl hmg WT.plain

