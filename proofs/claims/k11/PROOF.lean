import PyProof.Rows.All
import HandS.ForMost
import HandS.Wide
import HandS.Defaults
import PyProof.ReprRoads
import HandS.TupAny
import HandS.Deep
import HandS.Style
import HandS.WideBits
import HandS.IsInst
import KE.KTupSum
import HandS.SortRule
import HandS.SortInts
import KE.KSortTupAny
import HandS.RaiseMore
import PyProof.ReprLen
import PyProof.SeqIndex
import HandS.Strs
import HandS.Zip
import PyProof.EnumMake
import HandS.TryOnly
import HandS.Exc
import HandS.More
import HandS.Head0
import HandS.Head1
import HandS.Head2
import HandS.HeadEnd
import HandS.HeadHook1
import HandS.HeadHook2
import HandS.EndBits
import PySem.Challenge.RW_healwires_k11_whole_back_and_forth
section
set_option Elab.async false
set_option linter.all false
set_option maxRecDepth 100000
/-! Values as trees, programs as small terms, and what they come to. -/
namespace Z
open PySem

inductive D where
  | non | bl (b : Bool) | int (i : Int) | str (x : Str) | tup (xs : List D) | lst (xs : List D) | dct (kvs : List (L2.Key × D)) | cell (n : Nat) | fn (n : Nat)
  deriving Inhabited

mutual
/-- the data that a tree is -/
def py : D → PyData
  | .non => .none
  | .bl b => .bool b
  | .int i => .int i
  | .str x => .str x
  | .tup xs => .tuple (pyL xs)
  | .lst xs => .list (pyL xs)
  | .dct kvs => .dict (pyK kvs)
  | .cell _ => .none
  | .fn _ => .none
def pyL : List D → List PyData
  | [] => []
  | d :: ds => py d :: pyL ds
def pyK : List (L2.Key × D) → List (PyData × PyData)
  | [] => []
  | (.inl i, d) :: r => (.int i, py d) :: pyK r
  | (.inr x, d) :: r => (.str x, py d) :: pyK r
end
mutual
/-- no dict, no cell, no def in it -/
def pl : D → Bool
  | .non => true
  | .bl _ => true
  | .int _ => true
  | .str _ => true
  | .tup xs => plL xs
  | .lst xs => plL xs
  | .dct _ => false
  | .cell _ => false
  | .fn _ => false
def plL : List D → Bool
  | [] => true
  | d :: ds => pl d && plL ds
end
/-- compared by == -/
def eqOk (d : D) : Bool := pl d && SeqAt.shaped (py d)
def eqD (d e : D) : Bool := PyData.eqv (py d) (py e)

mutual
/-- at least as long as the text that repr gives -/
def sz : D → Nat
  | .non => 4
  | .bl _ => 5
  | .int _ => 1921
  | .str x => (reprText x).length
  | .tup xs => szL xs + 3
  | .lst xs => szL xs + 3
  | .dct _ => 0
  | .cell _ => 0
  | .fn _ => 0
def szL : List D → Nat
  | [] => 0
  | d :: ds => sz d + 2 + szL ds
end
def showOk (d : D) : Bool := pl d && (py d).showable && decide (sz d ≤ sizeLine) && decide ((py d).depth ≤ 60)

/-! ### operators -/
inductive Op where
  | add | sub | mul | fdiv | mod | pow
  deriving DecidableEq
inductive Cp where
  | eq | ne | lt | le | gt | ge | is_ | isNot | in_ | notIn
  deriving DecidableEq
inductive Bi where
  | len | sum | max | min | abs | int | tuple | list | repr | str | bool | sorted
  deriving DecidableEq
inductive Md where
  | indexL | indexT | bits
  deriving DecidableEq

def mulOk (i j : Int) : Bool := decide (-(2 ^ 64) < i ∧ i < 2 ^ 64) || decide (-(2 ^ 64) < j ∧ j < 2 ^ 64) || decide (i.natAbs < 2 ^ 40000 ∧ j.natAbs < 2 ^ 40000)
def powOk (i j : Int) : Bool := decide (0 ≤ j ∧ (Builtin.Int.intBits i : Int) * j ≤ 2 ^ 27)
def divOk (j : Int) : Bool := decide (0 < j ∧ j.natAbs < 2 ^ 8999)

def opD : Op → D → D → Option (D × Bool)
  | .add, .int i, .int j => some (.int (i + j), false)
  | .add, .str x, .str y => if x.length + y.length ≤ sizeLine then some (.str (x ++ y), false) else none
  | .add, .lst xs, .lst ys => if xs.length + ys.length ≤ sizeLine then some (.lst (xs ++ ys), true) else none
  | .add, .tup xs, .tup ys => if xs.length + ys.length ≤ sizeLine then some (.tup (xs ++ ys), false) else none
  | .sub, .int i, .int j => some (.int (i - j), false)
  | .mul, .int i, .int j => if mulOk i j then some (.int (i * j), false) else none
  | .mul, .lst xs, .int k => if 0 ≤ k ∧ k ≤ 100000 ∧ xs.length * k.toNat ≤ sizeLine then some (.lst (List.replicate k.toNat xs).flatten, true) else none
  | .fdiv, .int i, .int j => if divOk j then some (.int (i / j), false) else none
  | .mod, .int i, .int j => if 0 < j then some (.int (i % j), false) else none
  | .pow, .int i, .int j => if powOk i j then some (.int (i ^ j.toNat), false) else none
  | _, _, _ => none

def scalar : D → Bool
  | .non => true
  | .bl _ => true
  | .int _ => true
  | .str _ => true
  | _ => false
def memD (d : D) : List D → Bool
  | [] => false
  | e :: r => eqD e d || memD d r
/-- two texts -/
def strEq : D → D → Option Bool
  | .str x, .str y => some (decide (x = y))
  | _, _ => none
def cpD : Cp → D → D → Option Bool
  | .eq, d, e => (match strEq d e with
    | some b => some b
    | none => if eqOk d && eqOk e then some (eqD d e) else none)
  | .ne, d, e => (match strEq d e with
    | some b => some (!b)
    | none => if eqOk d && eqOk e then some (!eqD d e) else none)
  | .lt, .int i, .int j => some (decide (i < j))
  | .le, .int i, .int j => some (decide (i ≤ j))
  | .gt, .int i, .int j => some (decide (j < i))
  | .ge, .int i, .int j => some (decide (j ≤ i))
  | .is_, d, .non => some (match d with | .non => true | _ => false)
  | .isNot, d, .non => some (match d with | .non => false | _ => true)
  | .is_, .bl a, .bl b => some (a == b)
  | .isNot, .bl a, .bl b => some (!(a == b))
  | .in_, d, .lst es => if eqOk d && eqOk (.lst es) then some (memD d es) else none
  | .notIn, d, .lst es => if eqOk d && eqOk (.lst es) then some (!memD d es) else none
  | .in_, d, .tup es => if eqOk d && eqOk (.tup es) then some (memD d es) else none
  | .notIn, d, .tup es => if eqOk d && eqOk (.tup es) then some (!memD d es) else none
  | _, _, _ => none

def intsD : List D → Option (List Int)
  | [] => some []
  | .int i :: r => (intsD r).map (i :: ·)
  | _ => none
def maxL : Int → List Int → Int
  | m, [] => m
  | m, i :: r => maxL (if m < i then i else m) r
def minL : Int → List Int → Int
  | m, [] => m
  | m, i :: r => minL (if i < m then i else m) r
def sumL : List Int → Int
  | [] => 0
  | i :: r => i + sumL r
/-! ### sorted: ints, or tuples of ints and texts -/
def itK : D → Option (Int ⊕ List Nat)
  | .int i => some (.inl i)
  | .str x => some (.inr x.cps.toList)
  | _ => none
def itKs : List D → Option (List (Int ⊕ List Nat))
  | [] => some []
  | d :: r => (match itK d with
    | some x => (match itKs r with
      | some xs => some (x :: xs)
      | none => none)
    | none => none)
def keyD : D → Option (List (Int ⊕ List Nat))
  | .tup (x :: xs) => itKs (x :: xs)
  | _ => none
def keyDs : List D → Option (List (List (Int ⊕ List Nat)))
  | [] => some []
  | d :: r => (match keyD d with
    | some x => (match keyDs r with
      | some xs => some (x :: xs)
      | none => none)
    | none => none)
/-- ints by ints, texts by texts, up to the first that differ -/
def alikeK : List (Int ⊕ List Nat) → List (Int ⊕ List Nat) → Bool
  | .inl i :: r, .inl j :: t => if i = j then alikeK r t else true
  | .inr x :: r, .inr y :: t => if x = y then alikeK r t else true
  | .inl _ :: _, .inr _ :: _ => false
  | .inr _ :: _, .inl _ :: _ => false
  | _, _ => true
def ltKs : List (Int ⊕ List Nat) → List (Int ⊕ List Nat) → Bool
  | .inl i :: r, .inl j :: t => if i = j then ltKs r t else decide (i < j)
  | .inr x :: r, .inr y :: t => if x = y then ltKs r t else decide (x < y)
  | .inl _ :: _, .inr _ :: _ => true
  | .inr _ :: _, .inl _ :: _ => false
  | [], [] => false
  | [], _ :: _ => true
  | _ :: _, [] => false
def keyOf (d : D) : List (Int ⊕ List Nat) := match d with
  | .int i => [.inl i]
  | d => (keyD d).getD []
def ltD (d e : D) : Bool := ltKs (keyOf d) (keyOf e)
def insD (d : D) : List D → List D
  | [] => [d]
  | e :: r => if ltD e d then e :: insD d r else d :: e :: r
def isortD : List D → List D
  | [] => []
  | d :: r => insD d (isortD r)
def srtOk (xs : List D) : Bool := (intsD xs).isSome || (match keyDs xs with
  | some ks => ks.all fun x => ks.all fun y => alikeK x y
  | none => false)
def biD : Bi → List D → Option (D × Bool)
  | .len, [.lst xs] => some (.int xs.length, false)
  | .len, [.tup xs] => some (.int xs.length, false)
  | .len, [.str x] => if x.length ≤ sizeLine then some (.int x.length, false) else none
  | .sum, [.lst xs] => (intsD xs).map fun ns => (.int (sumL ns), false)
  | .sum, [.tup xs] => (intsD xs).map fun ns => (.int (sumL ns), false)
  | .max, [.int i, .int j] => some (.int (if j > i then j else i), false)
  | .min, [.int i, .int j] => some (.int (if j < i then j else i), false)
  | .max, [.lst (.int i :: xs)] => (intsD xs).map fun ns => (.int (maxL i ns), false)
  | .min, [.lst (.int i :: xs)] => (intsD xs).map fun ns => (.int (minL i ns), false)
  | .abs, [.int i] => some (.int (if i < 0 then -i else i), false)
  | .int, [.int i] => some (.int i, false)
  | .int, [.bl b] => some (.int (if b then 1 else 0), false)
  | .bool, [.bl b] => some (.bl b, false)
  | .tuple, [.lst xs] => some (.tup xs, false)
  | .tuple, [.tup xs] => some (.tup xs, false)
  | .list, [.lst xs] => some (.lst xs, true)
  | .list, [.tup xs] => some (.lst xs, true)
  | .repr, [d] => if showOk d then some (.str (py d).shown, false) else none
  | .str, [.int i] => if i.natAbs.log2 < 1920 then some (.str (toString i), false) else none
  | .sorted, [.lst xs] => if srtOk xs then some (.lst (isortD xs), true) else none
  | _, _ => none

def idxD (d : D) : List D → Nat → Option Nat
  | [], _ => none
  | e :: r, n => if eqD e d then some n else idxD d r (n + 1)
def mdD : Md → D → List D → Option (D × Bool)
  | .indexL, .lst es, [d] => if eqOk d && eqOk (.lst es) then (match idxD d es 0 with
    | some n => some (.int n, false)
    | none => none) else none
  | .indexT, .tup es, [d] => if eqOk d && eqOk (.tup es) then (match idxD d es 0 with
    | some n => some (.int n, false)
    | none => none) else none
  | .bits, .int i, [] => some (.int (Builtin.Int.intBits i), false)
  | _, _, _ => none

def isT : String → D → Bool
  | "int", .int _ => true
  | "int", .bl _ => true
  | "bool", .bl _ => true
  | "str", .str _ => true
  | "tuple", .tup _ => true
  | "list", .lst _ => true
  | "dict", .dct _ => true
  | _, _ => false

def plain1 : D → Bool
  | .dct _ => false
  | .cell _ => false
  | .fn _ => false
  | _ => true

def subD : D → D → Option D
  | .lst xs, .int i => L2.atI xs i
  | .tup xs, .int i => L2.atI xs i
  | _, _ => none
def cutD (xs : List D) (lo hi : Option Int) : List D := (xs.drop (HT.sIx xs.length 0 lo)).take (HT.sIx xs.length xs.length hi - HT.sIx xs.length 0 lo)
def slcD : D → Option Int → Option Int → Option (D × Bool)
  | .lst xs, lo, hi => some (.lst (cutD xs lo hi), true)
  | .tup xs, lo, hi => some (.tup (cutD xs lo hi), false)
  | _, _, _ => none
def revD : D → Option (D × Bool)
  | .lst xs => some (.lst xs.reverse, true)
  | .tup xs => some (.tup xs.reverse, false)
  | _ => none

/-! ### terms -/
inductive X where
  | var (i : Nat) | pv (i : Nat) | cst (d : D) | con (j : Nat)
  | tup (es : X) | lst (es : X)
  | bin (o : Op) (a b : X) | neg (a : X) | not (a : X)
  | and (a r : X) | or (a r : X) | one (a : X)
  | cmp (c : Cp) (a b : X) | chn (c c' : Cp) (a b e : X)
  | ite (c a b : X)
  | call (f : Nat) (es : X) | callk (f : Nat) (pm : List Nat) (es ks : X)
  | bi (b : Bi) (es : X) | md (m : Md) (o es : X) | isi (a : X) (t : String)
  | sub (a i : X) | slc (a lo hi : X) | rev (a : X) | noX
  | comp (e t it c : X) (own : List Nat)
  | mk (a : X) | giv (a : X) | lend (is : List Nat) (a : X)
  | nil | cons (a r : X)
  | iEx (a : X) | iRng (es : X) | iEnum (a : X) | iZip (a b : X)
  | tName (i : Nat) | tTup (ts : X)
  | sSet (t e : X) | sSetO (i : Nat) (e : X) | sPar (is : List Nat) (es : X)
  | sRet (e : X) | sRetN | sIf (c a b : X) | sFor (t it b : X) | sWh (n : Nat) (c b : X) | sEx (e : X)
  | sApp (i : Nat) (e : X) | sAppC (i : Nat) (e : X) | sIns (i : Nat) (k e : X) | sSub (i : Nat) (k e : X) | sSubC (i : Nat) (k e : X)
  | sDis (i : Nat) (s : X) | sPass | sBk | sCt | sNo
  deriving Inhabited

abbrev Mu := List (List D)
abbrev Rho := List (Option (D × Bool))
abbrev RE := Option (D × Bool × Mu)
abbrev CallT := Nat → List D → Mu → RE
inductive SR where
  | nx (ρ : Rho) (μ : Mu) | rt (d : D) (o : Bool) (μ : Mu) | bk (ρ : Rho) (μ : Mu) | ct (ρ : Rho) (μ : Mu)

/-- the module's constants; how a call with keywords puts its arguments: the def, the places of the positional and the keywords' values -/
structure Tab where
  cons : List D
  kws : List (Nat × Nat × List Nat)

def wipeR (ρ : Rho) : List Nat → Rho
  | [] => ρ
  | v :: vs => (wipeR ρ vs).set v none
def setR (ρ : Rho) : List Nat → List (D × Bool) → Option Rho
  | [], [] => some ρ
  | i :: is, d :: ds => if i < ρ.length then setR (ρ.set i (some d)) is ds else none
  | _, _ => none
def disown (ρ : Rho) (i : Nat) : Rho := match ρ[i]? with
  | some (some (d, _)) => ρ.set i (some (d, false))
  | _ => ρ
def foldC (f : D → Mu → Option (Option D × Mu)) : List D → Mu → Option (List D × Mu)
  | [], μ => some ([], μ)
  | d :: ds, μ => match f d μ with
    | none => none
    | some (r, μ1) => match foldC f ds μ1 with
      | none => none
      | some (ys, μ2) => some ((match r with
        | some y => y :: ys
        | none => ys), μ2)
def foldS (f : D → Rho → Mu → Option SR) : List D → Rho → Mu → Option SR
  | [], ρ, μ => some (.nx ρ μ)
  | d :: ds, ρ, μ => match f d ρ μ with
    | none => none
    | some (.nx ρ1 μ1) => foldS f ds ρ1 μ1
    | some (.ct ρ1 μ1) => foldS f ds ρ1 μ1
    | some (.bk ρ1 μ1) => some (.nx ρ1 μ1)
    | some (.rt d o μ1) => some (.rt d o μ1)
def whileS (c : Rho → Mu → Option (Bool × Mu)) (f : Rho → Mu → Option SR) : Nat → Rho → Mu → Option SR
  | 0, _, _ => none
  | n + 1, ρ, μ => match c ρ μ with
    | none => none
    | some (false, μ1) => some (.nx ρ μ1)
    | some (true, μ1) => match f ρ μ1 with
      | none => none
      | some (.nx ρ2 μ2) => whileS c f n ρ2 μ2
      | some (.ct ρ2 μ2) => whileS c f n ρ2 μ2
      | some (.bk ρ2 μ2) => some (.nx ρ2 μ2)
      | some (.rt d o μ2) => some (.rt d o μ2)
def rngL : Nat → Int → List D
  | 0, _ => []
  | n + 1, lo => .int lo :: rngL n (lo + 1)
def enumL : List D → Int → List D
  | [], _ => []
  | d :: ds, i => .tup [.int i, d] :: enumL ds (i + 1)
def zipL : List D → List D → List D
  | x :: xs, y :: ys => .tup [x, y] :: zipL xs ys
  | _, _ => []
def seqD : D → Option (List D)
  | .lst xs => some xs
  | .tup xs => some xs
  | _ => none

def zipD : D → D → Option (List D)
  | .lst xs, .lst ys => some (zipL xs ys)
  | .tup xs, .tup ys => some (zipL xs ys)
  | _, _ => none

/-- targets -/
def dT : X → D → Rho → Option Rho
  | .tName i, d, ρ => if i < ρ.length then some (ρ.set i (some (d, false))) else none
  | .tTup ts, d, ρ => match d with
    | .tup ds => dTs ts ds ρ
    | .lst ds => dTs ts ds ρ
    | _ => none
  | _, _, _ => none
where dTs : X → List D → Rho → Option Rho
  | .nil, [], ρ => some ρ
  | .cons t r, d :: ds, ρ => match dT t d ρ with
    | none => none
    | some ρ1 => dTs r ds ρ1
  | _, _, _ => none

def subC (μ : Mu) (x y : D) : Option D := match x with
  | .cell n => (match μ[n]?, y with
    | some xs, .int k => L2.atI xs k
    | _, _ => none)
  | x => subD x y
/-- the keywords' values in the parameters' order -/
def pmL {α : Type} (pm : List Nat) (ws : List α) : List α := pm.filterMap fun i => ws[i]?
/-- a slot's value, whatever its mark -/
def peekD (ρ : Rho) (i : Nat) : Option D := match ρ[i]? with
  | some (some (d, _)) => some d
  | _ => none
def scalL : List D → Bool
  | [] => true
  | d :: ds => scalar d && scalL ds
def disowns (ρ : Rho) : List Nat → Rho
  | [] => ρ
  | i :: is => disowns (disown ρ i) is

/-- an operand: a name may stand for a list of one's own here -/
def pkR (a : X) (ρ : Rho) (μ : Mu) (r : RE) : Option (D × Mu) := match a with
  | .pv i => (match peekD ρ i with
    | some d => some (d, μ)
    | none => none)
  | _ => (match r with
    | some (d, _, μ1) => some (d, μ1)
    | none => none)
def pkB (pk : Bool) (a : X) (ρ : Rho) (μ : Mu) (r : RE) : Option (D × Mu) := match pk with
  | true => pkR a ρ μ r
  | false => (match r with
    | some (d, _, μ1) => some (d, μ1)
    | none => none)
/-- an end of a slice -/
def opO (a : X) (μ : Mu) (r : RE) : Option (Option Int × Mu) := match a with
  | .noX => some (none, μ)
  | _ => (match r with
    | some (.int i, _, μ1) => some (some i, μ1)
    | _ => none)

variable (T : Tab) (call : CallT)
mutual
/-- an expression: its value, whether it is a new list of nobody else's, the cells behind it -/
def dE : X → Rho → Mu → RE
  | .var i, ρ, μ => match ρ[i]? with
    | some (some (d, false)) => some (d, false, μ)
    | _ => none
  | .cst d, _, μ => if scalar d then some (d, false, μ) else none
  | .con j, _, μ => match T.cons[j]? with
    | some d => some (d, false, μ)
    | none => none
  | .tup es, ρ, μ => match dEs es ρ μ with
    | some (ds, μ1) => if ds.length ≤ sizeLine then some (.tup ds, false, μ1) else none
    | none => none
  | .lst es, ρ, μ => match dEs es ρ μ with
    | some (ds, μ1) => if ds.length ≤ sizeLine then some (.lst ds, true, μ1) else none
    | none => none
  | .bin o a b, ρ, μ => match pkR a ρ μ (dE a ρ μ) with
    | some (x, μ1) => (match pkR b ρ μ1 (dE b ρ μ1) with
      | some (y, μ2) => (match opD o x y with
        | some (z, w) => some (z, w, μ2)
        | none => none)
      | none => none)
    | none => none
  | .neg a, ρ, μ => match dE a ρ μ with
    | some (.int i, _, μ1) => some (.int (-i), false, μ1)
    | _ => none
  | .not a, ρ, μ => match dE a ρ μ with
    | some (.bl b, _, μ1) => some (.bl (!b), false, μ1)
    | _ => none
  | .and a r, ρ, μ => match dE a ρ μ with
    | some (.bl true, _, μ1) => dE r ρ μ1
    | some (.bl false, _, μ1) => some (.bl false, false, μ1)
    | _ => none
  | .or a r, ρ, μ => match dE a ρ μ with
    | some (.bl true, _, μ1) => some (.bl true, false, μ1)
    | some (.bl false, _, μ1) => dE r ρ μ1
    | _ => none
  | .one a, ρ, μ => dE a ρ μ
  | .cmp c a b, ρ, μ => match pkR a ρ μ (dE a ρ μ) with
    | some (x, μ1) => (match pkR b ρ μ1 (dE b ρ μ1) with
      | some (y, μ2) => (match cpD c x y with
        | some k => some (.bl k, false, μ2)
        | none => none)
      | none => none)
    | none => none
  | .chn c c' a b e, ρ, μ => match pkR a ρ μ (dE a ρ μ) with
    | some (x, μ1) => (match pkR b ρ μ1 (dE b ρ μ1) with
      | some (y, μ2) => (match cpD c x y with
        | some true => (match pkR e ρ μ2 (dE e ρ μ2) with
          | some (z, μ3) => (match cpD c' y z with
            | some k => some (.bl k, false, μ3)
            | none => none)
          | none => none)
        | some false => some (.bl false, false, μ2)
        | none => none)
      | none => none)
    | none => none
  | .ite c a b, ρ, μ => match dE c ρ μ with
    | some (.bl true, _, μ1) => dE a ρ μ1
    | some (.bl false, _, μ1) => dE b ρ μ1
    | _ => none
  | .call f es, ρ, μ => match dEs es ρ μ with
    | some (ds, μ1) => call f ds μ1
    | none => none
  | .callk f pm es ks, ρ, μ => match dEs es ρ μ with
    | some (ds, μ1) => (match dEs ks ρ μ1 with
      | some (ds2, μ2) => call f (ds ++ pmL pm ds2) μ2
      | none => none)
    | none => none
  | .bi b es, ρ, μ => match dPs es ρ μ with
    | some (ds, μ1) => (match biD b ds with
      | some (z, w) => some (z, w, μ1)
      | none => none)
    | none => none
  | .md m o es, ρ, μ => match pkR o ρ μ (dE o ρ μ) with
    | some (x, μ1) => (match dPs es ρ μ1 with
      | some (ds, μ2) => (match mdD m x ds with
        | some (z, w) => some (z, w, μ2)
        | none => none)
      | none => none)
    | none => none
  | .isi a t, ρ, μ => match pkR a ρ μ (dE a ρ μ) with
    | some (x, μ1) => if plain1 x then some (.bl (isT t x), false, μ1) else none
    | none => none
  | .sub a i, ρ, μ => match pkR a ρ μ (dE a ρ μ) with
    | some (x, μ1) => (match pkR i ρ μ1 (dE i ρ μ1) with
      | some (y, μ2) => (match subC μ2 x y with
        | some d => some (d, false, μ2)
        | none => none)
      | none => none)
    | none => none
  | .slc a lo hi, ρ, μ => match pkR a ρ μ (dE a ρ μ) with
    | some (x, μ1) => (match opO lo μ1 (dE lo ρ μ1) with
      | some (l, μ2) => (match opO hi μ2 (dE hi ρ μ2) with
        | some (h, μ3) => (match slcD x l h with
          | some (z, w) => some (z, w, μ3)
          | none => none)
        | none => none)
      | none => none)
    | none => none
  | .rev a, ρ, μ => match pkR a ρ μ (dE a ρ μ) with
    | some (x, μ1) => (match revD x with
      | some (z, w) => some (z, w, μ1)
      | none => none)
    | none => none
  | .comp e t it c own, ρ, μ => match dI true it ρ μ with
    | some (ds, μ1) => if ds.length ≤ sizeLine then (match foldC (fun d μ2 => match dT t d (wipeR ρ own) with
        | none => none
        | some ρ2 => (match dE c ρ2 μ2 with
          | some (.bl true, _, μ3) => (match dE e ρ2 μ3 with
            | some (y, _, μ4) => some (some y, μ4)
            | none => none)
          | some (.bl false, _, μ3) => some (none, μ3)
          | _ => none)) ds μ1 with
      | some (ys, μ5) => some (.lst ys, true, μ5)
      | none => none) else none
    | none => none
  | .mk a, ρ, μ => match dE a ρ μ with
    | some (.lst ds, true, μ1) => some (.cell μ1.length, false, μ1 ++ [ds])
    | _ => none
  | .giv a, ρ, μ => match dE a ρ μ with
    | some (d, _, μ1) => some (d, false, μ1)
    | none => none
  | .lend is a, ρ, μ => match dE a (disowns ρ is) μ with
    | some (d, _, μ1) => if scalar d && μ1.all scalL then some (d, false, μ1) else none
    | none => none
  | _, _, _ => none
def dEs : X → Rho → Mu → Option (List D × Mu)
  | .nil, _, μ => some ([], μ)
  | .cons a r, ρ, μ => match dE a ρ μ with
    | some (d, _, μ1) => (match dEs r ρ μ1 with
      | some (ds, μ2) => some (d :: ds, μ2)
      | none => none)
    | none => none
  | _, _, _ => none
def dPs : X → Rho → Mu → Option (List D × Mu)
  | .nil, _, μ => some ([], μ)
  | .cons a r, ρ, μ => match pkR a ρ μ (dE a ρ μ) with
    | some (d, μ1) => (match dPs r ρ μ1 with
      | some (ds, μ2) => some (d :: ds, μ2)
      | none => none)
    | none => none
  | _, _, _ => none
/-- what a loop walks -/
def dI : Bool → X → Rho → Mu → Option (List D × Mu)
  | pk, .iEx a, ρ, μ => match pkB pk a ρ μ (dE a ρ μ) with
    | some (x, μ1) => (match seqD x with
      | some ds => some (ds, μ1)
      | none => none)
    | none => none
  | _, .iRng es, ρ, μ => match dPs es ρ μ with
    | some ([.int n], μ1) => if -(2 ^ 62) ≤ n ∧ n ≤ sizeLine then some (rngL n.toNat 0, μ1) else none
    | some ([.int a, .int b], μ1) => if -(2 ^ 62) ≤ a ∧ a < 2 ^ 62 ∧ -(2 ^ 62) ≤ b ∧ b < 2 ^ 62 ∧ b - a ≤ sizeLine then some (rngL (b - a).toNat a, μ1) else none
    | _ => none
  | pk, .iEnum a, ρ, μ => match pkB pk a ρ μ (dE a ρ μ) with
    | some (x, μ1) => (match x with
      | .lst ds => some (enumL ds 0, μ1)
      | .tup ds => some (enumL ds 0, μ1)
      | _ => none)
    | none => none
  | pk, .iZip a b, ρ, μ => match pkB pk a ρ μ (dE a ρ μ) with
    | some (x, μ1) => (match pkB pk b ρ μ1 (dE b ρ μ1) with
      | some (y, μ2) => (match zipD x y with
        | some ds => some (ds, μ2)
        | none => none)
      | none => none)
    | none => none
  | _, _, _, _ => none
end

/-- values, with their marks -/
def dOs : X → Rho → Mu → Option (List (D × Bool) × Mu)
  | .nil, _, μ => some ([], μ)
  | .cons a r, ρ, μ => match dE T call a ρ μ with
    | some (d, o, μ1) => (match dOs r ρ μ1 with
      | some (ds, μ2) => some ((d, o) :: ds, μ2)
      | none => none)
    | none => none
  | _, _, _ => none
/-- statements -/
def dS : X → Rho → Mu → Option SR
  | .nil, ρ, μ => some (.nx ρ μ)
  | .cons s r, ρ, μ => match dS s ρ μ with
    | some (.nx ρ1 μ1) => dS r ρ1 μ1
    | o => o
  | .sSet t e, ρ, μ => match dE T call e ρ μ with
    | some (d, _, μ1) => (match dT t d ρ with
      | some ρ1 => some (.nx ρ1 μ1)
      | none => none)
    | none => none
  | .sSetO i e, ρ, μ => match dE T call e ρ μ with
    | some (.lst ds, true, μ1) => if i < ρ.length then some (.nx (ρ.set i (some (.lst ds, true))) μ1) else none
    | some (d, false, μ1) => if i < ρ.length then some (.nx (ρ.set i (some (d, false))) μ1) else none
    | _ => none
  | .sPar is es, ρ, μ => match dOs T call es ρ μ with
    | some (ds, μ1) => (match setR ρ is ds with
      | some ρ1 => some (.nx ρ1 μ1)
      | none => none)
    | none => none
  | .sRet e, ρ, μ => match e with
    | .pv i => (match ρ[i]? with
      | some (some (d, o)) => some (.rt d o μ)
      | _ => none)
    | e => (match dE T call e ρ μ with
      | some (d, o, μ1) => some (.rt d o μ1)
      | none => none)
  | .sRetN, _, μ => some (.rt .non false μ)
  | .sIf c a b, ρ, μ => match dE T call c ρ μ with
    | some (.bl true, _, μ1) => dS a ρ μ1
    | some (.bl false, _, μ1) => dS b ρ μ1
    | _ => none
  | .sFor t it b, ρ, μ => match dI T call false it ρ μ with
    | some (ds, μ1) => foldS (fun d ρ2 μ2 => match dT t d ρ2 with
        | some ρ3 => dS b ρ3 μ2
        | none => none) ds ρ μ1
    | none => none
  | .sWh n c b, ρ, μ => whileS (fun ρ1 μ1 => match dE T call c ρ1 μ1 with
      | some (.bl k, _, μ2) => some (k, μ2)
      | _ => none) (fun ρ1 μ1 => dS b ρ1 μ1) n ρ μ
  | .sEx e, ρ, μ => match dE T call e ρ μ with
    | some (_, _, μ1) => some (.nx ρ μ1)
    | none => none
  | .sApp i e, ρ, μ => match dE T call e ρ μ with
    | some (d, _, μ1) => (match ρ[i]? with
      | some (some (.lst ds, true)) => if ds.length < sizeLine then some (.nx (ρ.set i (some (.lst (ds ++ [d]), true))) μ1) else none
      | _ => none)
    | none => none
  | .sIns i k e, ρ, μ => match dE T call k ρ μ with
    | some (.int z, _, μ1) => (match dE T call e ρ μ1 with
      | some (d, _, μ2) => (match ρ[i]? with
        | some (some (.lst ds, true)) => if 0 ≤ z ∧ z < 2 ^ 62 ∧ ds.length < sizeLine then some (.nx (ρ.set i (some (.lst (ds.take z.toNat ++ [d] ++ ds.drop z.toNat), true))) μ2) else none
        | _ => none)
      | none => none)
    | _ => none
  | .sAppC i e, ρ, μ => match dE T call e ρ μ with
    | some (d, _, μ1) => (match ρ[i]? with
      | some (some (.cell n, false)) => (match μ1[n]? with
        | some ds => if ds.length < sizeLine then some (.nx ρ (μ1.set n (ds ++ [d]))) else none
        | none => none)
      | _ => none)
    | none => none
  | .sSub i k e, ρ, μ => match dE T call e ρ μ with
    | some (d, _, μ1) => (match dE T call k ρ μ1 with
      | some (.int z, _, μ2) => (match ρ[i]? with
        | some (some (.lst ds, true)) => (match L2.ixN ds.length z with
          | some j => some (.nx (ρ.set i (some (.lst (ds.set j d), true))) μ2)
          | none => none)
        | _ => none)
      | _ => none)
    | none => none
  | .sSubC i k e, ρ, μ => match dE T call e ρ μ with
    | some (d, _, μ1) => (match dE T call k ρ μ1 with
      | some (.int z, _, μ2) => (match ρ[i]? with
        | some (some (.cell n, false)) => (match μ2[n]? with
          | some ds => (match L2.ixN ds.length z with
            | some j => some (.nx ρ (μ2.set n (ds.set j d)))
            | none => none)
          | none => none)
        | _ => none)
      | _ => none)
    | none => none
  | .sDis i s, ρ, μ => dS s (disown ρ i) μ
  | .sPass, ρ, μ => some (.nx ρ μ)
  | .sBk, ρ, μ => some (.bk ρ μ)
  | .sCt, ρ, μ => some (.ct ρ μ)
  | _, _, _ => none

/-- a def: its name, its parameters, all its names (parameters first), its body -/
structure Def where
  name : Str
  ps : List Str
  ns : List Str
  body : X
/-- a def's call, k calls deep -/
def dCall (Δ : List Def) : Nat → CallT
  | 0, _, _, _ => none
  | k + 1, f, ds, μ => match Δ[f]? with
    | none => none
    | some F => if ds.length = F.ps.length then (match dS T (dCall Δ k) F.body (ds.map (fun d => some (d, false)) ++ List.replicate (F.ns.length - F.ps.length) none) μ with
      | some (.rt d o μ1) => some (d, o, μ1)
      | some (.nx _ μ1) => some (.non, false, μ1)
      | _ => none) else none
end Z
end

section
set_option Elab.async false
set_option autoImplicit false
set_option linter.all false
set_option maxRecDepth 100000
/-! How trees lie in the heap. -/
namespace Z
open PySem PySem.Spec L2

/-- the written part, and where the defs stand -/
structure En where
  K : PySem.W.Frag
  F : Nat → Option Addr

/-- a tuple of the written part -/
def KTs (K : PySem.W.Frag) (a : Addr) (vs : List V) : Prop := ∃ (its : List Value) (n : Nat), K.lookup a = some { cls := .type "tuple", data := .seq its.toArray n } ∧ its.length ≤ sizeLine ∧ Vals vs its
/-- a list of the written part -/
def KLs (K : PySem.W.Frag) (a : Addr) (vs : List V) : Prop := ∃ (its : List Value) (n : Nat), K.lookup a = some { cls := .type "list", data := .seq its.toArray n } ∧ its.length ≤ sizeLine ∧ Vals vs its

mutual
/-- v is the tree d: As are the cells' places, bad what may still be changed -/
inductive Rep (E : En) (As : List Addr) (H : Hp) (bad : Addr → Prop) : V → D → Prop
  | non : Rep E As H bad .non .non
  | bl (b : Bool) : Rep E As H bad (.bl b) (.bl b)
  | int (i : Int) : Rep E As H bad (.int i) (.int i)
  | str (x : Str) : Rep E As H bad (.str x) (.str x)
  | lst {a : Addr} {vs : List V} {ds : List D} : Rd H a (.lst vs) → ¬ bad a → Reps E As H bad vs ds → Rep E As H bad (.ref a) (.lst ds)
  | lstK {a : Addr} {vs : List V} {ds : List D} : KLs E.K a vs → Reps E As H bad vs ds → Rep E As H bad (.ref a) (.lst ds)
  | tup {a : Addr} {vs : List V} {ds : List D} : Rd H a (.tup vs) → ¬ bad a → Reps E As H bad vs ds → Rep E As H bad (.ref a) (.tup ds)
  | tupK {a : Addr} {vs : List V} {ds : List D} : KTs E.K a vs → Reps E As H bad vs ds → Rep E As H bad (.ref a) (.tup ds)
  | dct {a : Addr} {kvs : List (Key × V)} {kds : List (Key × D)} : Rd H a (.dK kvs) → ¬ bad a → RepK E As H bad kvs kds → Rep E As H bad (.ref a) (.dct kds)
  | cell {a : Addr} {n : Nat} : As[n]? = some a → Rep E As H bad (.ref a) (.cell n)
  | fn {a : Addr} {n : Nat} : E.F n = some a → Rep E As H bad (.ref a) (.fn n)
inductive Reps (E : En) (As : List Addr) (H : Hp) (bad : Addr → Prop) : List V → List D → Prop
  | nil : Reps E As H bad [] []
  | cons {v : V} {vs : List V} {d : D} {ds : List D} : Rep E As H bad v d → Reps E As H bad vs ds → Reps E As H bad (v :: vs) (d :: ds)
inductive RepK (E : En) (As : List Addr) (H : Hp) (bad : Addr → Prop) : List (Key × V) → List (Key × D) → Prop
  | nil : RepK E As H bad [] []
  | cons {k : Key} {v : V} {vs : List (Key × V)} {d : D} {ds : List (Key × D)} : Rep E As H bad v d → RepK E As H bad vs ds → RepK E As H bad ((k, v) :: vs) ((k, d) :: ds)
end

/-- from one heap to a later one -/
structure Ext (As : List Addr) (bad : Addr → Prop) (H : Hp) (As' : List Addr) (bad' : Addr → Prop) (H' : Hp) : Prop where
  sub : ∀ a ∈ As, bad a
  pre : ∃ e, As' = As ++ e
  fr : ∀ a, a ∈ As' → a ∉ As → H a = none
  all : ∀ a o, H a = some o → a ∉ As → H' a = some o
  nb : ∀ a o, H a = some o → ¬ bad a → ¬ bad' a
  bb : ∀ a, bad a → bad' a
/-- the same where lists of one's own may have changed -/
structure SExt (As : List Addr) (bad : Addr → Prop) (H : Hp) (As' : List Addr) (bad' : Addr → Prop) (H' : Hp) : Prop where
  pre : ∃ e, As' = As ++ e
  keep : ∀ a o, H a = some o → ¬ bad a → H' a = some o ∧ ¬ bad' a

section
variable {E : En} {As As' As2 : List Addr} {H H' H2 : Hp} {bad bad' bad2 : Addr → Prop}
theorem pre_get {As As' : List Addr} (h : ∃ e, As' = As ++ e) {n : Nat} {a : Addr} (q : As[n]? = some a) : As'[n]? = some a := by
  obtain ⟨e, rfl⟩ := h
  have hl : n < As.length := (List.getElem?_eq_some_iff.mp q).1
  rw [List.getElem?_append_left hl]
  exact q
theorem rd_keep {a : Addr} {u : HO} (r : Rd H a u) (k : ∀ o, H a = some o → H' a = some o) : Rd H' a u := by
  rcases r with h | ⟨o, h⟩
  · exact .inl (k _ h)
  · exact .inr ⟨o, k _ h⟩
theorem rd_there {a : Addr} {u : HO} (r : Rd H a u) : ∃ o, H a = some o := by
  rcases r with h | ⟨o, h⟩
  · exact ⟨_, h⟩
  · exact ⟨_, h⟩
mutual
theorem Rep.sx (x : SExt As bad H As' bad' H') : ∀ {v : V} {d : D}, Rep E As H bad v d → Rep E As' H' bad' v d
  | _, _, .non => .non
  | _, _, .bl b => .bl b
  | _, _, .int i => .int i
  | _, _, .str s => .str s
  | _, _, .lst r n q => by
    obtain ⟨o, ho⟩ := rd_there r
    exact .lst (rd_keep r fun o h => (x.keep _ o h n).1) (x.keep _ o ho n).2 (Reps.sx x q)
  | _, _, .lstK r q => .lstK r (Reps.sx x q)
  | _, _, .tup r n q => by
    obtain ⟨o, ho⟩ := rd_there r
    exact .tup (rd_keep r fun o h => (x.keep _ o h n).1) (x.keep _ o ho n).2 (Reps.sx x q)
  | _, _, .tupK r q => .tupK r (Reps.sx x q)
  | _, _, .dct r n q => by
    obtain ⟨o, ho⟩ := rd_there r
    exact .dct (rd_keep r fun o h => (x.keep _ o h n).1) (x.keep _ o ho n).2 (RepK.sx x q)
  | _, _, .cell h => .cell (pre_get x.pre h)
  | _, _, .fn h => .fn h
theorem Reps.sx (x : SExt As bad H As' bad' H') : ∀ {vs : List V} {ds : List D}, Reps E As H bad vs ds → Reps E As' H' bad' vs ds
  | _, _, .nil => .nil
  | _, _, .cons r q => .cons (Rep.sx x r) (Reps.sx x q)
theorem RepK.sx (x : SExt As bad H As' bad' H') : ∀ {vs : List (Key × V)} {ds : List (Key × D)}, RepK E As H bad vs ds → RepK E As' H' bad' vs ds
  | _, _, .nil => .nil
  | _, _, .cons r q => .cons (Rep.sx x r) (RepK.sx x q)
end
theorem SExt.refl : SExt As bad H As bad H := ⟨⟨[], by simp⟩, fun _ _ h n => ⟨h, n⟩⟩
theorem SExt.trans (x : SExt As bad H As' bad' H') (y : SExt As' bad' H' As2 bad2 H2) : SExt As bad H As2 bad2 H2 := by
  refine ⟨?_, fun a o h n => ?_⟩
  · obtain ⟨e, rfl⟩ := x.pre
    obtain ⟨f, rfl⟩ := y.pre
    exact ⟨e ++ f, by simp⟩
  · obtain ⟨h1, n1⟩ := x.keep a o h n
    exact y.keep a o h1 n1

theorem Ext.refl (s : ∀ a ∈ As, bad a) : Ext As bad H As bad H := ⟨s, ⟨[], by simp⟩, fun _ h n => absurd h n, fun _ _ h _ => h, fun _ _ _ n => n, fun _ b => b⟩
theorem Ext.trans (x : Ext As bad H As' bad' H') (y : Ext As' bad' H' As2 bad2 H2) : Ext As bad H As2 bad2 H2 := by
  have nx : ∀ a o, H a = some o → a ∉ As → a ∉ As' := fun a o h n m => by
    have := x.fr a m n
    rw [h] at this
    cases this
  refine ⟨x.sub, ?_, fun a m n => ?_, fun a o h n => y.all a o (x.all a o h n) (nx a o h n), fun a o h n => ?_, fun a b => y.bb a (x.bb a b)⟩
  · obtain ⟨e, rfl⟩ := x.pre
    obtain ⟨f, rfl⟩ := y.pre
    exact ⟨e ++ f, by simp⟩
  · by_cases q : a ∈ As'
    · exact x.fr a q n
    · cases e : H a with
      | none => rfl
      | some o =>
        have := y.fr a m q
        rw [x.all a o e n] at this
        cases this
  · have q : a ∉ As := fun q => n (x.sub a q)
    exact y.nb a o (x.all a o h q) (x.nb a o h n)
theorem Ext.sx (x : Ext As bad H As' bad' H') : SExt As bad H As' bad' H' :=
  ⟨x.pre, fun a o h n => ⟨x.all a o h fun q => n (x.sub a q), x.nb a o h n⟩⟩
theorem Rep.ext (x : Ext As bad H As' bad' H') {v : V} {d : D} (r : Rep E As H bad v d) : Rep E As' H' bad' v d := r.sx x.sx
theorem Reps.ext (x : Ext As bad H As' bad' H') {vs : List V} {ds : List D} (r : Reps E As H bad vs ds) : Reps E As' H' bad' vs ds := r.sx x.sx
/-- less may be changed -/
theorem SExt.less (h : ∀ a, bad' a → bad a) : SExt As bad H As bad' H := ⟨⟨[], by simp⟩, fun _ _ e n => ⟨e, fun b => n (h _ b)⟩⟩

theorem Reps.length : ∀ {vs : List V} {ds : List D}, Reps E As H bad vs ds → vs.length = ds.length
  | _, _, .nil => rfl
  | _, _, .cons _ q => by rw [List.length_cons, List.length_cons, Reps.length q]
theorem Reps.append : ∀ {vs ws : List V} {ds es : List D}, Reps E As H bad vs ds → Reps E As H bad ws es → Reps E As H bad (vs ++ ws) (ds ++ es)
  | _, _, _, _, .nil, q => q
  | _, _, _, _, .cons r p, q => .cons r (Reps.append p q)
theorem Reps.get : ∀ {vs : List V} {ds : List D} {i : Nat} {d : D}, Reps E As H bad vs ds → ds[i]? = some d → ∃ v, vs[i]? = some v ∧ Rep E As H bad v d
  | _, _, _, _, .nil, e => by simp at e
  | _, _, 0, _, .cons r _, e => by
    simp at e
    subst e
    exact ⟨_, rfl, r⟩
  | _, _, i + 1, _, .cons _ q, e => by
    obtain ⟨v, h1, h2⟩ := Reps.get (i := i) q (by simpa using e)
    exact ⟨v, by simpa using h1, h2⟩
theorem Reps.getV : ∀ {vs : List V} {ds : List D} {i : Nat} {v : V}, Reps E As H bad vs ds → vs[i]? = some v → ∃ d, ds[i]? = some d ∧ Rep E As H bad v d
  | _, _, _, _, .nil, e => by simp at e
  | _, _, 0, _, .cons r _, e => by
    simp at e
    subst e
    exact ⟨_, rfl, r⟩
  | _, _, i + 1, _, .cons _ q, e => by
    obtain ⟨v, h1, h2⟩ := Reps.getV (i := i) q (by simpa using e)
    exact ⟨v, by simpa using h1, h2⟩
theorem Reps.take : ∀ {vs : List V} {ds : List D} (n : Nat), Reps E As H bad vs ds → Reps E As H bad (vs.take n) (ds.take n)
  | _, _, 0, _ => .nil
  | _, _, _ + 1, .nil => .nil
  | _, _, n + 1, .cons r q => .cons r (Reps.take n q)
theorem Reps.drop : ∀ {vs : List V} {ds : List D} (n : Nat), Reps E As H bad vs ds → Reps E As H bad (vs.drop n) (ds.drop n)
  | _, _, 0, q => q
  | _, _, _ + 1, .nil => .nil
  | _, _, n + 1, .cons _ q => Reps.drop n q
theorem Reps.set : ∀ {vs : List V} {ds : List D} (n : Nat) {v : V} {d : D}, Reps E As H bad vs ds → Rep E As H bad v d → Reps E As H bad (vs.set n v) (ds.set n d)
  | _, _, _, _, _, .nil, _ => .nil
  | _, _, 0, _, _, .cons _ q, r => .cons r q
  | _, _, n + 1, _, _, .cons p q, r => .cons p (Reps.set n q r)
theorem Reps.reverse : ∀ {vs : List V} {ds : List D}, Reps E As H bad vs ds → Reps E As H bad vs.reverse ds.reverse
  | _, _, .nil => .nil
  | _, _, .cons r q => by
    rw [List.reverse_cons, List.reverse_cons]
    exact Reps.append (Reps.reverse q) (.cons r .nil)
theorem Reps.flat {vs : List V} {ds : List D} (q : Reps E As H bad vs ds) : ∀ n : Nat, Reps E As H bad (List.replicate n vs).flatten (List.replicate n ds).flatten
  | 0 => .nil
  | n + 1 => by
    rw [List.replicate_succ, List.replicate_succ, List.flatten_cons, List.flatten_cons]
    exact Reps.append q (Reps.flat q n)

/-- the cells -/
structure CRel (E : En) (As : List Addr) (bad : Addr → Prop) (H : Hp) (μ : Mu) : Prop where
  nd : As.Nodup
  sub : ∀ a ∈ As, bad a
  lists : ∀ a, bad a → ∃ vs, H a = some (.lst vs)
  len : As.length = μ.length
  cel : ∀ (n : Nat) (a : Addr) (ds : List D), As[n]? = some a → μ[n]? = some ds → ∃ vs, H a = some (.lst vs) ∧ Reps E As H bad vs ds
/-- the slots -/
structure SRel (E : En) (H0 : Hp) (As : List Addr) (bad : Addr → Prop) (H : Hp) (σ : St) (ρ : Rho) : Prop where
  len : ρ.length = σ.length
  val : ∀ (i : Nat) (d : D), ρ[i]? = some (some (d, false)) → ∃ v, σ[i]? = some (some v) ∧ Rep E As H bad v d
  own : ∀ (i : Nat) (d : D), ρ[i]? = some (some (d, true)) → ∃ a vs ds, d = .lst ds ∧ σ[i]? = some (some (.ref a)) ∧ H a = some (.lst vs) ∧ Reps E As H bad vs ds ∧ bad a ∧ a ∉ As ∧ H0 a = none
  dis : ∀ (i j : Nat) (d e : D) (a : Addr), ρ[i]? = some (some (d, true)) → ρ[j]? = some (some (e, true)) → σ[i]? = some (some (.ref a)) → σ[j]? = some (some (.ref a)) → i = j

theorem CRel.ext0 {μ : Mu} (c : CRel E As bad H μ) : Ext As bad H As bad H := Ext.refl c.sub
theorem CRel.nbad {μ : Mu} (c : CRel E As bad H μ) {p : Addr} (h : H p = none) : ¬ bad p := fun b => by
  obtain ⟨vs, e⟩ := c.lists p b
  rw [h] at e
  cases e
theorem SRel.ext {H0 : Hp} {σ : St} {ρ : Rho} (s : SRel E H0 As bad H σ ρ) (x : Ext As bad H As' bad' H') : SRel E H0 As' bad' H' σ ρ := by
  refine ⟨s.len, fun i d h => ?_, fun i d h => ?_, s.dis⟩
  · obtain ⟨v, h1, h2⟩ := s.val i d h
    exact ⟨v, h1, h2.ext x⟩
  · obtain ⟨a, vs, ds, e, h1, h2, h3, h4, h5, h6⟩ := s.own i d h
    refine ⟨a, vs, ds, e, h1, x.all _ _ h2 h5, h3.ext x, x.bb a h4, fun m => ?_, h6⟩
    have := x.fr a m h5
    rw [h2] at this
    cases this

/-- a new object -/
theorem new_ext {μ : Mu} (c : CRel E As bad H μ) {p : Addr} (hp : H p = none) (o : HO) : Ext As bad H As bad (upd H p o) :=
  ⟨c.sub, ⟨[], by simp⟩, fun _ m n => absurd m n, fun a u h _ => by rw [upd_ne (ne_of_none h hp)]; exact h, fun _ _ _ n => n, fun _ b => b⟩
theorem new_rel {μ : Mu} (c : CRel E As bad H μ) {p : Addr} (hp : H p = none) (o : HO) : CRel E As bad (upd H p o) μ := by
  have x := new_ext c hp o
  have ne : ∀ a vs, H a = some (.lst vs) → upd H p o a = some (.lst vs) := fun a vs h => by rw [upd_ne (ne_of_none h hp)]; exact h
  refine ⟨c.nd, c.sub, fun a b => ?_, c.len, fun n a ds h1 h2 => ?_⟩
  · obtain ⟨vs, e⟩ := c.lists a b
    exact ⟨vs, ne a vs e⟩
  · obtain ⟨vs, e, r⟩ := c.cel n a ds h1 h2
    exact ⟨vs, ne a vs e, r.ext x⟩
/-- a new list of one's own -/
theorem own_ext {μ : Mu} (c : CRel E As bad H μ) {p : Addr} (hp : H p = none) (o : HO) : Ext As bad H As (fun a => bad a ∨ a = p) (upd H p o) :=
  ⟨c.sub, ⟨[], by simp⟩, fun _ m n => absurd m n, fun a u h _ => by rw [upd_ne (ne_of_none h hp)]; exact h, fun a u h n z => z.elim n (fun e => by rw [e, hp] at h; cases h), fun _ b => .inl b⟩
theorem own_rel {μ : Mu} (c : CRel E As bad H μ) {p : Addr} (hp : H p = none) (xs : List V) : CRel E As (fun a => bad a ∨ a = p) (upd H p (.lst xs)) μ := by
  have x := own_ext c hp (.lst xs)
  have ne : ∀ a vs, H a = some (.lst vs) → upd H p (.lst xs) a = some (.lst vs) := fun a vs h => by rw [upd_ne (ne_of_none h hp)]; exact h
  refine ⟨c.nd, fun a m => .inl (c.sub a m), fun a b => ?_, c.len, fun n a ds h1 h2 => ?_⟩
  · rcases b with b | rfl
    · obtain ⟨vs, e⟩ := c.lists a b
      exact ⟨vs, ne a vs e⟩
    · exact ⟨xs, upd_same⟩
  · obtain ⟨vs, e, r⟩ := c.cel n a ds h1 h2
    exact ⟨vs, ne a vs e, r.ext x⟩

/-- what an expression leaves -/
def RepO (E : En) (H : Hp) (As' : List Addr) (bad' : Addr → Prop) (H' : Hp) (v : V) (d : D) : Bool → Prop
  | false => Rep E As' H' bad' v d
  | true => ∃ a vs ds, v = .ref a ∧ d = .lst ds ∧ H' a = some (.lst vs) ∧ Reps E As' H' bad' vs ds ∧ bad' a ∧ a ∉ As' ∧ H a = none
/-- a list of one's own is handed on -/
theorem give {μ μ' : Mu} {v : V} {d : D} (c : CRel E As bad H μ) (c' : CRel E As' bad' H' μ') (x : Ext As bad H As' bad' H') : ∀ {o : Bool}, RepO E H As' bad' H' v d o →
    ∃ bad2, CRel E As' bad2 H' μ' ∧ Ext As bad H As' bad2 H' ∧ Rep E As' H' bad2 v d
  | false, r => ⟨bad', c', x, r⟩
  | true, r => by
    obtain ⟨a, vs, ds, rfl, rfl, h1, h2, h3, h4, h5⟩ := r
    have le : SExt As' bad' H' As' (fun b => bad' b ∧ b ≠ a) H' := SExt.less fun b z => z.1
    refine ⟨fun b => bad' b ∧ b ≠ a, ⟨c'.nd, fun b m => ⟨c'.sub b m, fun e => h4 (e ▸ m)⟩, fun b z => c'.lists b z.1, c'.len, fun n b es e1 e2 => ?_⟩, ⟨x.sub, x.pre, x.fr, x.all, fun b o e n z => x.nb b o e n z.1, fun b z => ⟨x.bb b z, fun e => ?_⟩⟩, ?_⟩
    · obtain ⟨ws, q1, q2⟩ := c'.cel n b es e1 e2
      exact ⟨ws, q1, q2.sx le⟩
    · obtain ⟨ws, q⟩ := c.lists b z
      rw [e, h5] at q
      cases q
    · exact .lst (.inl h1) (fun z => z.2 rfl) (h2.sx le)
end
end Z
end

section
set_option Elab.async false
set_option autoImplicit false
set_option linter.all false
set_option maxRecDepth 100000
/-! Calls of defs where no text is being written (for repr), and their ends. -/
namespace Z
open PySem PySem.Spec PyProof.Rows L2

structure FnG (P : Program) (w : World) (K : PySem.W.Frag) (mg : Str → Option Value) (base : Heap) (CX : CXT) (k : Nat) (f : Addr) (fd : FuncData) (ps : List Str) (sp : Sp) : Prop where
  len : ∀ vs H Q E, sp vs H Q E → vs.length = ps.length
  run : ∀ (A : Around) (out : List Env) (s : Shared) (H : Hp) (ar : Args) (us : List Value) (vs : List V) (Q : VK) (E : XK), Room k A → A.guards = some [] →
    Env0 P w K mg base A out s H → BindsTo s fd ar (ps.zip us) → Vals vs us → sp vs H Q E → codeAny (model P w) A (.call (.ref f) ar) (CR CX out P w H s Q E) s
section
variable {P : Program} {w : World} {K : PySem.W.Frag} {mg : Str → Option Value} {base : Heap} {CX : CXT}
theorem FnG.more {j k : Nat} {f : Addr} {fd : FuncData} {ps : List Str} {sp : Sp} (F : FnG P w K mg base CX j f fd ps sp) (h : j ≤ k) : FnG P w K mg base CX k f fd ps sp :=
  ⟨F.len, fun A out s H ar us vs Q E hr => F.run A out s H ar us vs Q E (hr.mono h)⟩
/-- a def by its body -/
theorem FunD.okG {x qual : Str} {params : Arguments} {body : List Stmt} {scope : Scope} {dvs : List V} {kws : List (Str × V)} {f : Addr} {fd : FuncData} {N ps : List Str} {k : Nat} {sp : Sp}
    (F : FunD K x qual params body scope dvs kws f fd) (S : FnScope N ps scope) (len : ∀ vs H Q E, sp vs H Q E → vs.length = ps.length)
    (hb : ∀ (cdv : Value) (A : Around) (out : List Env) (s : Shared) (H : Hp) (vs : List V) (Q : VK) (E : XK), Room k (A.deeper (envOfC qual scope s.heap.objs.size f cdv)) → A.guards = some [] → sp vs H Q E →
      ∃ t, PSs (cxOf CX P w K mg base N qual scope f cdv A out s H E) body t ∧ t { nx := fun _ H' => Q .non H', rt := Q } (start N vs) H) : FnG P w K mg base CX (k + 1) f fd ps sp := by
  obtain ⟨oc, od, dV, kV, doc, pm, an, cdv, ct, osl, rfl, lk, hcd, _, _⟩ := F.ex
  refine ⟨len, fun A out s H ar us vs Q E hr hg e0 bnd rv hsp => ?_⟩
  have kx : K.In s.heap := e0.mod.kin.keeps fun b o h => (e0.bs b o h).1
  have nolim : s.heap.NoLimit := e0.mod.nolimit.keeps fun b o h => (e0.bs b o h).1
  have kinds : ∀ y ∈ ps.zip us, scope.names.lookup y.1 = some .local ∨ (scope.names.lookup y.1 = some .cell ∧ ((cellsFrom (s.heap.objs.size + 1) scope.names []).lookup y.1).isSome = true) := by
    rintro ⟨n, v⟩ hy
    rcases S.par n (List.of_mem_zip hy).1 with q | q
    · left
      exact q
    · right
      exact ⟨q, PySem.W.cellsFrom_some _ _ _ (.inl q)⟩
  refine codeAny_call_function hr.depth (kx _ _ lk) rfl S.co S.gen rfl (PySem.W.codeRec_of kx hcd) (bnd _ _ _ _ ?_)
  refine wpAny_newFunctionEnv_cells S.kind kinds fun env henv s1 inc => ?_
  subst henv
  refine ⟨nolim.keeps inc.toInCall.keep, codeAny_func ?_⟩
  obtain ⟨t, ht, hq⟩ := hb cdv A out s H vs Q E (hr.deeper _) hg hsp
  have I0 : Inv (cxOf CX P w K mg base N qual scope f cdv A out s H E) [] (start N vs) H s1 := inv_start S hr.hd e0 (len _ _ _ _ hsp) rv inc
  have done : ∀ {σ2 : L2.St} {H2 : Hp} {v : V} {u : Value} {s2 : Shared}, Inv (cxOf CX P w K mg base N qual scope f cdv A out s H E) [] σ2 H2 s2 → RelV v u → Q v H2 → CE out P w H s Q u s2 := by
    intro σ2 H2 v u s2 J r q
    exact ⟨v, H2, J.os, J.bare, J.base, J.hok, r, q⟩
  refine wpAny_mono (ht.run [] s1 (start N vs) H _ I0 hq) (fun fl s2 hs => ?_) fun _ _ h => h
  cases fl with
  | next =>
    obtain ⟨_, _, J, q⟩ := hs
    exact done (v := V.non) (u := Value.none) J rfl q
  | ret u =>
    obtain ⟨_, _, _, J, r, q⟩ := hs
    exact done J r q
  | brk =>
    obtain ⟨_, _, _, q⟩ := hs
    exact q.elim
  | cont =>
    obtain ⟨_, _, _, q⟩ := hs
    exact q.elim
end
section
variable {X : Cx} {CX : CXT} {k : Nat} {f : Addr} {fd : FuncData} {ps ks : List Str} {sp : Sp} {x : Str} {p pos : Pos} {e : Expr} {es : List Expr} {kws : List Keyword} {t tk : TA}
/-- the end of a call that lets nothing out -/
theorem end_call {pins : List (Addr × Obj)} {σ : L2.St} {H : Hp} {s : Shared} {Q : VK} {ar : List Value} {kw : List (Str × Value)} (I : Inv X pins σ H s)
    (h : codeAny (model X.prog X.w) X.A (.call (.ref f) ⟨ar, kw⟩) (CR CX0 X.stack X.prog X.w H s Q E0) s) : wpAny (model X.prog X.w) X.A (call (.ref f) ar kw) (EP X pins σ Q) X.xe s := by
  refine wpAny_call (codeAny_mono h fun r s2 q => ?_)
  cases r with
  | error e => exact False.elim q
  | ok fl => cases fl with
    | ret u => exact I.after q
    | next => exact False.elim q
    | brk => exact False.elim q
    | cont => exact False.elim q
theorem run_G {pins : List (Addr × Obj)} {σ : L2.St} {H : Hp} {s : Shared} {Q : VK} {us : List Value} {vs : List V} (F : FnG X.prog X.w X.K X.mg X.base CX0 k f fd ps sp) (hr : Room k X.A) (hg : X.A.guards = some []) (hb : Binds X.K fd ps [])
    (I : Inv X pins σ H s) (r : Vals vs us) (h : sp vs H Q E0) : wpAny (model X.prog X.w) X.A (call (.ref f) us) (EP X pins σ Q) X.xe s := by
  have hl : (us ++ []).length = ps.length := by
    rw [List.append_nil, ← r.length]
    exact F.len _ _ _ _ h
  have bnd := hb s us I.kIn hl
  rw [List.append_nil] at bnd
  exact end_call I (F.run X.A X.stack s H ⟨us, []⟩ us vs Q E0 hr hg I.env0 bnd r h)
theorem vals_pm {zs : List V} {ws : List Value} (r : Vals zs ws) : ∀ pm : List Nat, Vals (pmL pm zs) (pmL pm ws)
  | [] => .nil
  | i :: pm => by
    unfold pmL
    rw [List.filterMap_cons, List.filterMap_cons]
    cases h : zs[i]? with
    | none =>
      have h2 : ws[i]? = none := by
        rw [List.getElem?_eq_none_iff] at h ⊢
        rw [← r.length]
        exact h
      rw [h2]
      exact vals_pm r pm
    | some z =>
      have : ∃ u, ws[i]? = some u ∧ RelV z u := by
        clear vals_pm
        induction r generalizing i with
        | nil => cases h
        | cons r1 _ ih =>
          cases i with
          | zero =>
            cases h
            exact ⟨_, rfl, r1⟩
          | succ i => exact ih i (by simpa using h)
      obtain ⟨u, h2, h3⟩ := this
      rw [h2]
      exact .cons h3 (vals_pm r pm)
theorem kw_names {env : Env} : ∀ (kws : List Keyword), (backToKw pos (keywordEach kws env)).map (·.1) = kws.map (·.arg)
  | [] => rfl
  | ⟨n, v, p⟩ :: kws => by
    show n :: (backToKw pos (keywordEach kws env)).map (·.1) = n :: kws.map (·.arg)
    rw [kw_names kws]
theorem kw_all {env : Env} (h : kws.all (·.arg.isSome) = true) : (backToKw pos (keywordEach kws env)).all (·.1.isSome) = true := by
  have e := congrArg (fun l => l.all Option.isSome) (kw_names (pos := pos) (env := env) kws)
  simp only [List.all_map] at e
  exact e.trans h
theorem kw_any {env : Env} (h : kws.all (·.arg.isSome) = true) : (backToKw pos (keywordEach kws env)).any (·.1.isNone) = false := by
  have e := congrArg (fun l => l.any Option.isNone) (kw_names (pos := pos) (env := env) kws)
  simp only [List.any_map] at e
  refine e.trans ?_
  rw [List.any_eq_false]
  intro x hx
  have := List.all_eq_true.mp h x hx
  cases q : x.arg with
  | none =>
    rw [q] at this
    cases this
  | some _ =>
    show ¬ (Option.isNone x.arg) = true
    rw [q]
    exact Bool.false_ne_true
theorem kw_ks {env : Env} : (backToKw pos (keywordEach kws env)).filterMap (·.1) = kws.filterMap (·.arg) := by
  have e := congrArg (fun l => l.filterMap id) (kw_names (pos := pos) (env := env) kws)
  simp only [List.filterMap_map] at e
  exact e
theorem run_GK {pins : List (Addr × Obj)} {σ : L2.St} {H : Hp} {s : Shared} {Q : VK} {us ws : List Value} {vs zs : List V} {n : Nat} {pm : List Nat} (F : FnG X.prog X.w X.K X.mg X.base CX0 k f fd ps sp) (hr : Room k X.A) (hg : X.A.guards = some [])
    (hb : ∀ (s : Shared) (us ws : List Value), us.length = n → ws.length = ks.length → BindsTo s fd ⟨us, ks.zip ws⟩ (ps.zip (us ++ pmL pm ws)))
    (I : Inv X pins σ H s) (r : Vals vs us) (rz : Vals zs ws) (l1 : vs.length = n) (l2 : zs.length = ks.length) (h : sp (vs ++ pmL pm zs) H Q E0) : wpAny (model X.prog X.w) X.A (call (.ref f) us (ks.zip ws)) (EP X pins σ Q) X.xe s :=
  end_call I (F.run X.A X.stack s H ⟨us, ks.zip ws⟩ (us ++ pmL pm ws) (vs ++ pmL pm zs) Q E0 hr hg I.env0 (hb s us ws (by rw [← r.length]; exact l1) (by rw [← rz.length]; exact l2)) (r.append (vals_pm rz pm)) h)
theorem pe_GK {n : Nat} {pm : List Nat} (F : FnG X.prog X.w X.K X.mg X.base CX0 k f fd ps sp) (hr : Room k X.A) (hG : X.A.guards = some []) (hg : Gl X x) (hm : X.mg x = some (.ref f)) (hk : PySem.W.keepIn X.K (.ref f) = true)
    (hb : ∀ (s : Shared) (us ws : List Value), us.length = n → ws.length = ks.length → BindsTo s fd ⟨us, ks.zip ws⟩ (ps.zip (us ++ pmL pm ws)))
    (ha : PA X (e :: es) t) (hkw : PK X kws tk) (hall : kws.all (·.arg.isSome) = true) (hks : kws.filterMap (·.arg) = ks)
    (hdb : (x == ("__debug__" : Str)) = false) (he : starEach (e :: es) X.env = (false, eval e X.env) :: starEach es X.env) (hpl : (backTo pos (starEach es X.env)).any (·.1) = false) :
    PE X (.Call (.Name x p) (e :: es) kws pos) (fun σ H Q => t σ H fun vs H1 => tk σ H1 fun zs H2 => vs.length = n ∧ zs.length = ks.length ∧ sp (vs ++ pmL pm zs) H2 Q E0) := by
  refine ⟨fun pins s σ H Q I h => wpAny_Call_Name_kw (ld_glob I hg hm ?_ hdb)⟩
  refine PySem.W.callWith_KW (h₀ := X.base) I.ok.mod.kin hk (kw_all hall) (thn (ha.run pos pins s σ H _ I h) fun us s1 ⟨vs, H1, I1, r, q⟩ => ?_) ?_ he
  · refine thn (hkw.run pos pins s1 σ H1 _ I1 q) fun ws s2 ⟨zs, H2, I2, rz, l1, l2, q2⟩ => ⟨I2.kIn, ?_⟩
    rw [kw_ks, hks]
    exact run_GK F hr hG hb I2 r rz l1 l2 q2
  · rw [he]
    show ((false || (backTo pos (starEach es X.env)).any (·.1)) || _) = false
    rw [hpl, kw_any hall]
    rfl
theorem pe_GK0 {pm : List Nat} (F : FnG X.prog X.w X.K X.mg X.base CX0 k f fd ps sp) (hr : Room k X.A) (hG : X.A.guards = some []) (hg : Gl X x) (hm : X.mg x = some (.ref f)) (hk : PySem.W.keepIn X.K (.ref f) = true)
    (hb : ∀ (s : Shared) (us ws : List Value), us.length = 0 → ws.length = ks.length → BindsTo s fd ⟨us, ks.zip ws⟩ (ps.zip (us ++ pmL pm ws)))
    (hkw : PK X kws tk) (hall : kws.all (·.arg.isSome) = true) (hks : kws.filterMap (·.arg) = ks) (hdb : (x == ("__debug__" : Str)) = false) :
    PE X (.Call (.Name x p) [] kws pos) (fun σ H Q => tk σ H fun zs H2 => zs.length = ks.length ∧ sp (pmL pm zs) H2 Q E0) := by
  refine ⟨fun pins s σ H Q I h => wpAny_Call_Name_kw (ld_glob I hg hm ?_ hdb)⟩
  refine PySem.W.callWith_KW0 (h₀ := X.base) I.ok.mod.kin hk (kw_all hall) ?_ ?_
  · refine thn (hkw.run pos pins s σ H _ I h) fun ws s2 ⟨zs, H2, I2, rz, l2, q2⟩ => ⟨I2.kIn, ?_⟩
    rw [kw_ks, hks]
    exact run_GK (us := []) F hr hG hb I2 .nil rz rfl l2 q2
  · show (false || _) = false
    rw [kw_any hall]
    rfl
theorem pe_G (F : FnG X.prog X.w X.K X.mg X.base CX0 k f fd ps sp) (hr : Room k X.A) (hG : X.A.guards = some []) (hg : Gl X x) (hm : X.mg x = some (.ref f)) (hk : PySem.W.keepIn X.K (.ref f) = true) (hb : Binds X.K fd ps [])
    (ha : PA X (e :: es) t) (hdb : (x == ("__debug__" : Str)) = false) (he : starEach (e :: es) X.env = (false, eval e X.env) :: starEach es X.env) (hpl : (backTo pos (starEach es X.env)).any (·.1) = false) :
    PE X (.Call (.Name x p) (e :: es) [] pos) (fun σ H Q => t σ H fun vs H1 => sp vs H1 Q E0) := by
  refine ⟨fun pins s σ H Q I h => wpAny_Call_Name_kw (ld_glob I hg hm ?_ hdb)⟩
  refine PySem.W.callWith_K (h₀ := X.base) I.ok.mod.kin hk (thn (ha.run pos pins s σ H _ I h) ?_) he hpl
  rintro us s1 ⟨vs, H1, J, r, q⟩
  exact ⟨J.kIn, run_G F hr hG hb J r q⟩
theorem pe_G0 (F : FnG X.prog X.w X.K X.mg X.base CX0 k f fd ps sp) (hr : Room k X.A) (hG : X.A.guards = some []) (hg : Gl X x) (hm : X.mg x = some (.ref f)) (hk : PySem.W.keepIn X.K (.ref f) = true) (hb : Binds X.K fd ps [])
    (hdb : (x == ("__debug__" : Str)) = false) : PE X (.Call (.Name x p) [] [] pos) (fun σ H Q => sp [] H Q E0) := by
  refine ⟨fun pins s σ H Q I h => wpAny_Call_Name_kw (ld_glob I hg hm ?_ hdb)⟩
  exact PySem.W.callWith_K0 I.kIn hk (run_G (us := []) F hr hG hb I .nil h)
end
end Z
end

section
set_option Elab.async false
set_option autoImplicit false
set_option linter.all false
set_option maxRecDepth 100000
set_option maxHeartbeats 1000000
/-! Operators over trees. -/
namespace Z
open PySem PySem.Spec PyProof.Rows L2

section
variable {K : PySem.W.Frag} {H : Hp} {a : Addr} {vs : List V}
theorem KLs.sq (h : KLs K a vs) : SqL K H a vs := by
  obtain ⟨its, n, h1, h2, h3⟩ := h
  exact .inr ⟨_, its.toArray, n, h1, rfl, rfl, rfl, by simpa using h2, by simpa using h3⟩
/-- a list that is read, with its very object -/
def LX (K : PySem.W.Frag) (H : Hp) (a : Addr) (vs : List V) : Prop := Rd H a (.lst vs) ∨ KLs K a vs
theorem LX.sq (h : LX K H a vs) : SqL K H a vs := h.elim .inl KLs.sq
theorem KTs.sq (h : KTs K a vs) : SqT K H a vs := by
  obtain ⟨its, n, h1, h2, h3⟩ := h
  exact .inr ⟨_, its.toArray, n, h1, rfl, rfl, by simpa using h2, by simpa using h3⟩
end

/-- a value that may be a list of one's own -/
def RepP (E : En) (As : List Addr) (H : Hp) (bad : Addr → Prop) (v : V) (d : D) : Prop :=
  Rep E As H bad v d ∨ ∃ a vs ds, v = .ref a ∧ d = .lst ds ∧ H a = some (.lst vs) ∧ Reps E As H bad vs ds ∧ a ∉ As
section
variable {E : En} {As As' : List Addr} {H H' : Hp} {bad bad' : Addr → Prop} {v : V}
theorem RepP.ext {d : D} (r : RepP E As H bad v d) (x : Ext As bad H As' bad' H') : RepP E As' H' bad' v d := by
  rcases r with r | ⟨a, vs, ds, h1, h2, h3, h4, h5⟩
  · exact .inl (r.ext x)
  · refine .inr ⟨a, vs, ds, h1, h2, x.all _ _ h3 h5, h4.ext x, fun m => ?_⟩
    have := x.fr a m h5
    rw [h3] at this
    cases this
theorem RepP.lst {ds : List D} (r : RepP E As H bad v (.lst ds)) : ∃ a vs, v = .ref a ∧ LX E.K H a vs ∧ Reps E As H bad vs ds := by
  rcases r with r | ⟨a, vs, es, h1, h2, h3, h4, h5⟩
  · cases r with
    | lst r n q => exact ⟨_, _, rfl, .inl r, q⟩
    | lstK r q => exact ⟨_, _, rfl, .inr r, q⟩
  · cases h2
    exact ⟨a, vs, h1, .inl (.inl h3), h4⟩
theorem RepP.tup {ds : List D} (r : RepP E As H bad v (.tup ds)) : ∃ a vs, v = .ref a ∧ SqT E.K H a vs ∧ Reps E As H bad vs ds := by
  rcases r with r | ⟨a, vs, es, h1, h2, h3, h4, h5⟩
  · cases r with
    | tup r n q => exact ⟨_, _, rfl, .inl r, q⟩
    | tupK r q => exact ⟨_, _, rfl, r.sq, q⟩
  · cases h2
theorem RepP.int {i : Int} (r : RepP E As H bad v (.int i)) : v = .int i := by
  rcases r with r | ⟨a, vs, es, h1, h2, h3, h4, h5⟩
  · cases r
    rfl
  · cases h2
theorem RepP.str {x : Str} (r : RepP E As H bad v (.str x)) : v = .str x := by
  rcases r with r | ⟨a, vs, es, h1, h2, h3, h4, h5⟩
  · cases r
    rfl
  · cases h2
theorem RepP.bl {b : Bool} (r : RepP E As H bad v (.bl b)) : v = .bl b := by
  rcases r with r | ⟨a, vs, es, h1, h2, h3, h4, h5⟩
  · cases r
    rfl
  · cases h2
mutual
theorem Rep.dp : ∀ {v : V} {d : D}, Rep E As H bad v d → pl d = true → Dp E.K H v (py d)
  | _, _, .non, _ => .non
  | _, _, .bl b, _ => .bl b
  | _, _, .int i, _ => .int i
  | _, _, .str s, _ => .str s
  | _, _, .lst r n q, h => .lst (.inl r) (Reps.dp q h)
  | _, _, .lstK r q, h => .lst r.sq (Reps.dp q h)
  | _, _, .tup r n q, h => .tup (.inl r) (Reps.dp q h)
  | _, _, .tupK r q, h => .tup r.sq (Reps.dp q h)
  | _, _, .dct r n q, h => by cases h
  | _, _, .cell q, h => by cases h
  | _, _, .fn q, h => by cases h
theorem Reps.dp : ∀ {vs : List V} {ds : List D}, Reps E As H bad vs ds → plL ds = true → DpAll E.K H vs (pyL ds)
  | _, _, .nil, _ => .nil
  | _, _, .cons r q, h => by
    obtain ⟨h1, h2⟩ := Bool.and_eq_true_iff.mp (show (pl _ && plL _) = true from h)
    exact .cons (Rep.dp r h1) (Reps.dp q h2)
end
theorem RepP.dp {d : D} (r : RepP E As H bad v d) (h : pl d = true) : Dp E.K H v (py d) := by
  rcases r with r | ⟨a, vs, ds, rfl, rfl, h3, h4, h5⟩
  · exact r.dp h
  · exact .lst (.inl (.inl h3)) (h4.dp h)

/-- what an operator leaves: no cell is touched -/
def Fin (E : En) (As : List Addr) (bad : Addr → Prop) (H : Hp) (μ : Mu) (z : D) (w : Bool) (Q : VK) : Prop :=
  ∀ v H' bad', CRel E As bad' H' μ → Ext As bad H As bad' H' → RepO E H As bad' H' v z w → Q v H'
variable {μ : Mu} {Q : VK}
theorem Fin.same {z : D} (f : Fin E As bad H μ z false Q) (c : CRel E As bad H μ) {v : V} (r : Rep E As H bad v z) : Q v H := f v H bad c c.ext0 r
theorem Fin.tup {ds : List D} (f : Fin E As bad H μ (.tup ds) false Q) (c : CRel E As bad H μ) {vs : List V} (r : Reps E As H bad vs ds) : ∀ p, H p = none → Q (.ref p) (upd H p (.tup vs)) := fun p hp => by
  have x := new_ext c hp (.tup vs)
  exact f _ _ bad (new_rel c hp _) x (.tup (.inl upd_same) (c.nbad hp) (r.ext x))
theorem Fin.lst {ds : List D} (f : Fin E As bad H μ (.lst ds) true Q) (c : CRel E As bad H μ) {vs : List V} (r : Reps E As H bad vs ds) : ∀ p, H p = none → Q (.ref p) (upd H p (.lst vs)) := fun p hp => by
  have x := own_ext c hp (.lst vs)
  exact f _ _ _ (own_rel c hp _) x ⟨p, vs, ds, rfl, rfl, upd_same, r.ext x, .inr rfl, fun m => c.nbad hp (c.sub p m), hp⟩
end

/-- an operator on trees, by values -/
def rZ (E : En) (f : D → D → Option (D × Bool)) : R2 := fun vx vy H Q => ∃ As bad μ x y z w, CRel E As bad H μ ∧ RepP E As H bad vx x ∧ RepP E As H bad vy y ∧ f x y = some (z, w) ∧ Fin E As bad H μ z w Q

section
variable {X : Cx} {pins : List (Addr × Obj)} {σ : L2.St} {H : Hp} {s : Shared}
theorem lx_obj (I : Inv X pins σ H s) {a : Addr} {xs : List V} (h : LX X.K H a xs) : ∃ (its : List Value) (n : Nat), Vals xs its ∧ s.heap.get? a = some { cls := .type "list", data := .seq its.toArray n } ∧ xs.length ≤ sizeLine := by
  rcases h with h | ⟨its, n, h1, h2, h3⟩
  · obtain ⟨z, its, n, r, e⟩ := h.ok I.hok
    exact ⟨its, n, r, e, z⟩
  · exact ⟨its, n, h3, I.kIn a _ h1, by rw [h3.length]; exact h2⟩
theorem long_no {n : Nat} (h : n ≤ sizeLine) : Builtin.List.listTooLong n = false := notLongL h
/-- list + list, whatever lists -/
theorem cat_any {l b : Addr} {xs zs : List V} {Q : VK} (I : Inv X pins σ H s) (h1 : LX X.K H l xs) (h2 : LX X.K H b zs) (hz : xs.length + zs.length ≤ sizeLine)
    (q : ∀ p, H p = none → Q (.ref p) (upd H p (.lst (xs ++ zs)))) : wpAny (model X.prog X.w) X.A (binaryOp .Add (.ref l) (.ref b)) (EP X pins σ Q) X.xe s := by
  obtain ⟨its, n, r, e, _⟩ := lx_obj I h1
  obtain ⟨its2, n2, r2, e2, _⟩ := lx_obj I h2
  have hl := r.length
  have hl2 := r2.length
  refine PySem.P.add_list e e2 ?_ (by rw [List.size_toArray, List.size_toArray, ← hl, ← hl2]; exact hz)
  rw [show its.toArray ++ its2.toArray = (its ++ its2).toArray by simp]
  refine ⟨.ref _, _, I.lnew (t' := s.toks) (r.append r2) ?_, rfl, q _ I.fresh⟩
  rw [List.length_append]
  exact hz
/-- list * int -/
theorem rep_any {l : Addr} {xs : List V} {k : Int} {t : Tok} {Q : VK} (I : Inv X pins σ H s) (h1 : LX X.K H l xs) (k0 : 0 ≤ k) (k1 : k ≤ 100000) (hz : xs.length * k.toNat ≤ sizeLine)
    (q : ∀ p, H p = none → Q (.ref p) (upd H p (.lst (List.replicate k.toNat xs).flatten))) : wpAny (model X.prog X.w) X.A (binaryOp .Mult (.ref l) (.int k t)) (EP X pins σ Q) X.xe s := by
  obtain ⟨its, n, r, e, _⟩ := lx_obj I h1
  have hlen : its.toArray.size * k.toNat ≤ sizeLine := by
    rw [List.size_toArray, ← r.length]
    exact hz
  have hcap : ¬ its.toArray.size * k.toNat > (2 ^ 63 - 1) / 8 := by
    have h9 : (sizeLine : Nat) ≤ (2 ^ 63 - 1) / 8 := by decide
    exact Nat.not_lt.mpr (Nat.le_trans hlen h9)
  have hfit : ¬ (!Builtin.List.listFitsIndex k) = true := by
    rw [fitsIndex_both (by omega) (by omega)]
    exact Bool.false_ne_true
  have hlong : ¬ Builtin.List.listTooLong (its.toArray.size * k.toNat) = true := by
    rw [long_no hlen]
    exact Bool.false_ne_true
  have hnew : List.foldl (fun x1 x2 => x1 ++ x2) #[] (List.replicate (if its.toArray.isEmpty = true then 0 else k.toNat) its.toArray) = (List.replicate k.toNat its).flatten.toArray := by
    have all : ∀ m : Nat, List.foldl (fun x1 x2 => x1 ++ x2) #[] (List.replicate m its.toArray) = (List.replicate m its).flatten.toArray := by
      intro m
      have z := foldl_rep its m []
      rwa [List.nil_append] at z
    rw [all]
    cases its with
    | nil => simp
    | cons a r' => rw [if_neg (by simp)]
  refine wpAny_binaryOp_repeat_ref (T := "list") (U := "int") (by decide) ⟨_, e, rfl⟩ (fun s' => typeIs_int s' k t) noFill_list_mul F.fills_int_mul F.slot_int_rmul repeat_list F.slot_int_index.lookup ?_
  refine call_meets F.slot_int_rmul (typeIs_int s k t) F.entry_int_rmul (F.args_int_rmul_2 _ _) (int___rmul___int_list k t l its.toArray n) ⟨e, rfl, ⟨_, e, rfl⟩, ?_⟩
  refine call_meets F.slot_list_mul ⟨_, e, rfl⟩ F.entry_list_mul (F.args_list_mul_2 _ _) (AutoListH.list___mul___list_int_3 l its.toArray n k t hfit hcap hlong) ⟨e, ?_⟩
  rw [hnew]
  refine ⟨.ref _, _, I.lnew (t' := s.toks) (r.rep k.toNat) ?_, rfl, q _ I.fresh⟩
  rw [PyProof.Rows.lm_len_rep_flat, Nat.mul_comm]
  exact hz
end

section
variable {X : Cx} {E : En} (hK : X.K = E.K)
include hK
theorem mul_ok {i j : Int} (h : mulOk i j = true) : CMul i j ∨ CMulW i j := by
  unfold mulOk at h
  simp only [Bool.or_eq_true, decide_eq_true_eq] at h
  rcases h with (h | h) | ⟨h1, h2⟩
  · exact .inl (.inl h)
  · exact .inl (.inr h)
  · exact .inr (wide_mul h1 h2 (by decide) (by decide) (by decide))
theorem op_ok (o : Op) : OpR X (binaryOp (match o with
  | .add => .Add
  | .sub => .Sub
  | .mul => .Mult
  | .fdiv => .FloorDiv
  | .mod => .Mod
  | .pow => .Pow)) (rZ E (opD o)) := by
  intro pins s σ H vx vy v u Q I rx ry h
  obtain ⟨As, bad, μ, x, y, z, w, c, px, py, e, f⟩ := h
  cases o with
  | add =>
    cases x <;> cases y <;> simp only [opD] at e <;> first
      | (cases e; done)
      | skip
    · cases e
      rw [px.int] at rx
      rw [py.int] at ry
      exact op_add pins s σ H _ _ v u Q I rx ry ⟨_, _, rfl, rfl, f.same c (.int _)⟩
    · split at e
      · rename_i hz
        cases e
        rw [px.str] at rx
        rw [py.str] at ry
        exact op_add_str pins s σ H _ _ v u Q I rx ry ⟨_, _, rfl, rfl, hz, f.same c (.str _)⟩
      · cases e
    · split at e
      · rename_i hz
        cases e
        obtain ⟨a, xs, rfl, l1, r1⟩ := px.tup
        obtain ⟨b, ys, rfl, l2, r2⟩ := py.tup
        have n1 := r1.length
        have n2 := r2.length
        rw [← hK] at l1 l2
        refine op_catA pins s σ H _ _ v u Q I rx ry ⟨a, b, xs, ys, rfl, rfl, l1, l2, by omega, fun z => ?_, fun z z2 => ?_, fun _ _ => f.tup c (r1.append r2)⟩
        · subst z
          cases r1
          have p2 := py
          rcases py with r | ⟨_, _, _, _, q, _⟩
          · exact f.same c r
          · cases q
        · subst z2
          cases r2
          rcases px with r | ⟨_, _, _, _, q, _⟩
          · exact f.same c (by rw [List.append_nil]; exact r)
          · cases q
      · cases e
    · split at e
      · rename_i hz
        cases e
        obtain ⟨a, xs, rfl, l1, r1⟩ := px.lst
        obtain ⟨b, ys, rfl, l2, r2⟩ := py.lst
        have n1 := r1.length
        have n2 := r2.length
        rw [← hK] at l1 l2
        cases rx
        cases ry
        exact cat_any I l1 l2 (by omega) (f.lst c (r1.append r2))
      · cases e
  | sub =>
    cases x <;> cases y <;> simp only [opD] at e <;> first
      | (cases e; done)
      | skip
    cases e
    rw [px.int] at rx
    rw [py.int] at ry
    exact op_sub pins s σ H _ _ v u Q I rx ry ⟨_, _, rfl, rfl, f.same c (.int _)⟩
  | mul =>
    cases x <;> cases y <;> simp only [opD] at e <;> first
      | (cases e; done)
      | skip
    · split at e
      · rename_i hz
        cases e
        rw [px.int] at rx
        rw [py.int] at ry
        rcases mul_ok hK hz with hm | hm
        · exact op_mul pins s σ H _ _ v u Q I rx ry ⟨_, _, rfl, rfl, hm, f.same c (.int _)⟩
        · exact op_mulW pins s σ H _ _ v u Q I rx ry ⟨_, _, rfl, rfl, hm, f.same c (.int _)⟩
      · cases e
    · split at e
      · rename_i hz
        obtain ⟨h0, h1, h2⟩ := hz
        cases e
        obtain ⟨a, xs, rfl, l1, r1⟩ := px.lst
        have n1 := r1.length
        rw [← hK] at l1
        rw [py.int] at ry
        obtain ⟨t, rfl⟩ := ry
        cases rx
        exact rep_any I l1 h0 h1 (by rw [n1]; exact h2) (f.lst c (r1.flat _))
      · cases e
  | fdiv =>
    cases x <;> cases y <;> simp only [opD] at e <;> first
      | (cases e; done)
      | skip
    split at e
    · rename_i hz
      cases e
      rw [px.int] at rx
      rw [py.int] at ry
      obtain ⟨h1, h2⟩ := of_decide_eq_true hz
      exact op_fdivW pins s σ H _ _ v u Q I rx ry ⟨_, _, rfl, rfl, wide_div h1 h2 (by decide) (by decide), f.same c (.int _)⟩
    · cases e
  | mod =>
    cases x <;> cases y <;> simp only [opD] at e <;> first
      | (cases e; done)
      | skip
    split at e
    · rename_i hz
      cases e
      rw [px.int] at rx
      rw [py.int] at ry
      exact op_mod pins s σ H _ _ v u Q I rx ry ⟨_, _, rfl, rfl, hz, f.same c (.int _)⟩
    · cases e
  | pow =>
    cases x <;> cases y <;> simp only [opD] at e <;> first
      | (cases e; done)
      | skip
    split at e
    · rename_i hz
      cases e
      rw [px.int] at rx
      rw [py.int] at ry
      obtain ⟨h1, h2⟩ := of_decide_eq_true hz
      obtain ⟨t, rfl⟩ := rx
      obtain ⟨t2, rfl⟩ := ry
      exact pow_int h1 h2 ⟨.int _, H, I.tok _, ⟨_, rfl⟩, f.same c (.int _)⟩
    · cases e
end
end Z
end

section
set_option Elab.async false
set_option autoImplicit false
set_option linter.all false
set_option maxRecDepth 100000
set_option maxHeartbeats 1000000
/-! Comparisons, built-ins, methods, subscripts over trees. -/
namespace Z
open PySem PySem.Spec PyProof.Rows L2
theorem memD_any (d : D) : ∀ es : List D, (pyL es).any (fun z => PyData.eqv z (py d)) = memD d es
  | [] => rfl
  | e :: r => by
    show (PyData.eqv (py e) (py d) || (pyL r).any fun z => PyData.eqv z (py d)) = (eqD e d || memD d r)
    rw [memD_any d r]
    rfl
def cpOf : Cp → CmpOp
  | .eq => .Eq
  | .ne => .NotEq
  | .lt => .Lt
  | .le => .LtE
  | .gt => .Gt
  | .ge => .GtE
  | .is_ => .Is
  | .isNot => .IsNot
  | .in_ => .In
  | .notIn => .NotIn
def cpF (c : Cp) (x y : D) : Option (D × Bool) := match cpD c x y with
  | some k => some (.bl k, false)
  | none => none
theorem cpF_of {c : Cp} {x y z : D} {w : Bool} (h : cpF c x y = some (z, w)) : ∃ k, cpD c x y = some k ∧ z = .bl k ∧ w = false := by
  unfold cpF at h
  split at h
  · rename_i k e
    cases h
    exact ⟨k, e, rfl, rfl⟩
  · cases h
section
variable {E : En} {As : List Addr} {H : Hp} {bad : Addr → Prop}
/-- whether it is None -/
def isNon : D → Bool
  | .non => true
  | _ => false
theorem RepP.nonV {v : V} {d : D} (r : RepP E As H bad v d) : decide (v = .non) = isNon d := by
  rcases r with r | ⟨a, vs, ds, rfl, rfl, _⟩
  · cases r <;> rfl
  · rfl
theorem RepP.isnon {v : V} (r : RepP E As H bad v .non) : v = .non := by
  rcases r with r | ⟨a, vs, ds, _, h, _⟩
  · cases r
    rfl
  · cases h
end
theorem isD (d : D) : cpD .is_ d .non = some (isNon d) := by cases d <;> rfl
theorem isNotD (d : D) : cpD .isNot d .non = some (!isNon d) := by cases d <;> rfl
section
variable {X : Cx} {E : En} (hK : X.K = E.K) (hu : X.A.units + 65 < cLine)
include hK hu
theorem cp_ok (cc : Cp) : OpR X (compareOp (cpOf cc)) (rZ E (cpF cc)) := by
  intro pins s σ H vx vy v u Q I rx ry h
  obtain ⟨As, bad, μ, x, y, z, w, c, px, py', e0, f⟩ := h
  obtain ⟨k, e, rfl, rfl⟩ := cpF_of e0
  clear e0
  have fq : Q (.bl k) H := f.same c (.bl k)
  cases cc with
  | eq =>
    unfold cpD at e
    dsimp only at e
    split at e
    · rename_i b hz
      cases e
      cases x with
      | str sx => cases y with
        | str sy =>
          cases hz
          rw [px.str] at rx
          rw [py'.str] at ry
          refine op_eq pins s σ H _ _ v u Q I rx ry ⟨rfl, ?_⟩
          have e2 : decide (V.str sx = V.str sy) = decide (sx = sy) := by
            by_cases q : sx = sy
            · rw [decide_eq_true q, decide_eq_true (by rw [q])]
            · rw [decide_eq_false q, decide_eq_false fun z => q (V.str.inj z)]
          rw [e2]
          exact fq
        | _ => cases hz
      | _ => cases y <;> cases hz
    split at e
    · rename_i hz
      obtain ⟨h1, h2⟩ := Bool.and_eq_true_iff.mp hz
      obtain ⟨a1, a2⟩ := Bool.and_eq_true_iff.mp h1
      obtain ⟨b1, b2⟩ := Bool.and_eq_true_iff.mp h2
      cases e
      refine op_eqD (by omega) pins s σ H _ _ v u Q I rx ry ⟨py x, py y, ?_, ?_, a2, b2, fq⟩
      · rw [hK]
        exact px.dp a1
      · rw [hK]
        exact py'.dp b1
    · cases e
  | ne =>
    unfold cpD at e
    dsimp only at e
    split at e
    · rename_i b hz
      cases e
      cases x with
      | str sx => cases y with
        | str sy =>
          cases hz
          rw [px.str] at rx
          rw [py'.str] at ry
          refine op_ne pins s σ H _ _ v u Q I rx ry ⟨rfl, ?_⟩
          have e2 : decide (V.str sx = V.str sy) = decide (sx = sy) := by
            by_cases q : sx = sy
            · rw [decide_eq_true q, decide_eq_true (by rw [q])]
            · rw [decide_eq_false q, decide_eq_false fun z => q (V.str.inj z)]
          rw [e2]
          exact fq
        | _ => cases hz
      | _ => cases y <;> cases hz
    split at e
    · rename_i hz
      obtain ⟨h1, h2⟩ := Bool.and_eq_true_iff.mp hz
      obtain ⟨a1, a2⟩ := Bool.and_eq_true_iff.mp h1
      obtain ⟨b1, b2⟩ := Bool.and_eq_true_iff.mp h2
      cases e
      refine op_neD (by omega) pins s σ H _ _ v u Q I rx ry ⟨py x, py y, ?_, ?_, a2, b2, fq⟩
      · rw [hK]
        exact px.dp a1
      · rw [hK]
        exact py'.dp b1
    · cases e
  | lt =>
    cases x <;> cases y <;> (unfold cpD at e; dsimp only at e) <;> first
      | (cases e; done)
      | skip
    cases e
    rw [px.int] at rx
    rw [py'.int] at ry
    exact op_lt pins s σ H _ _ v u Q I rx ry ⟨_, _, rfl, rfl, fq⟩
  | le =>
    cases x <;> cases y <;> (unfold cpD at e; dsimp only at e) <;> first
      | (cases e; done)
      | skip
    cases e
    rw [px.int] at rx
    rw [py'.int] at ry
    exact op_le pins s σ H _ _ v u Q I rx ry ⟨_, _, rfl, rfl, fq⟩
  | gt =>
    cases x <;> cases y <;> (unfold cpD at e; dsimp only at e) <;> first
      | (cases e; done)
      | skip
    cases e
    rw [px.int] at rx
    rw [py'.int] at ry
    exact op_gt pins s σ H _ _ v u Q I rx ry ⟨_, _, rfl, rfl, fq⟩
  | ge =>
    cases x <;> cases y <;> (unfold cpD at e; dsimp only at e) <;> first
      | (cases e; done)
      | skip
    cases e
    rw [px.int] at rx
    rw [py'.int] at ry
    exact op_ge pins s σ H _ _ v u Q I rx ry ⟨_, _, rfl, rfl, fq⟩
  | is_ =>
    cases y with
    | non =>
      rw [isD] at e
      cases e
      rw [py'.isnon] at ry
      exact op_isN pins s σ H _ _ v u Q I rx ry ⟨rfl, by rw [px.nonV]; exact fq⟩
    | bl b =>
      cases x <;> (unfold cpD at e; dsimp only at e) <;> first
        | (cases e; done)
        | skip
      cases e
      rw [px.bl] at rx
      rw [py'.bl] at ry
      exact op_isBl pins s σ H _ _ v u Q I rx ry ⟨_, _, rfl, rfl, by rw [← Bool.beq_eq_decide_eq]; exact fq⟩
    | _ => cases x <;> (unfold cpD at e; dsimp only at e) <;> cases e
  | isNot =>
    cases y with
    | non =>
      rw [isNotD] at e
      cases e
      rw [py'.isnon] at ry
      exact op_notN pins s σ H _ _ v u Q I rx ry ⟨rfl, by rw [px.nonV]; exact fq⟩
    | bl b =>
      cases x <;> (unfold cpD at e; dsimp only at e) <;> first
        | (cases e; done)
        | skip
      cases e
      rw [px.bl] at rx
      rw [py'.bl] at ry
      exact op_notBl pins s σ H _ _ v u Q I rx ry ⟨_, _, rfl, rfl, by rw [← Bool.beq_eq_decide_eq]; exact fq⟩
    | _ => cases x <;> (unfold cpD at e; dsimp only at e) <;> cases e
  | in_ =>
    cases y <;> (unfold cpD at e; dsimp only at e) <;> first
      | (cases e; done)
      | skip
    · rename_i es
      split at e
      · rename_i hz
        obtain ⟨h1, h2⟩ := Bool.and_eq_true_iff.mp hz
        obtain ⟨a1, a2⟩ := Bool.and_eq_true_iff.mp h1
        obtain ⟨b1, b2⟩ := Bool.and_eq_true_iff.mp h2
        cases e
        obtain ⟨as, r1⟩ := Dp.reads I (py x) _ v (by rw [hK]; exact px.dp a1) rx
        obtain ⟨bs, r2⟩ := Dp.reads I (.tuple (pyL es)) _ u (by rw [hK]; exact py'.dp b1) ry
        exact SeqAt.in_tuple_reads r2 r1 (SeqAt.canLay_of_shaped b2) (SeqAt.canLay_of_shaped a2) (room_in_shaped a2 hu) ⟨.bl _, H, I, rfl, by rw [memD_any]; exact fq⟩
      · cases e
    · rename_i es
      split at e
      · rename_i hz
        obtain ⟨h1, h2⟩ := Bool.and_eq_true_iff.mp hz
        obtain ⟨a1, a2⟩ := Bool.and_eq_true_iff.mp h1
        obtain ⟨b1, b2⟩ := Bool.and_eq_true_iff.mp h2
        cases e
        refine op_inD hu pins s σ H _ _ v u Q I rx ry ⟨py x, pyL es, ?_, ?_, a2, b2, by rw [memD_any]; exact fq⟩
        · rw [hK]
          exact px.dp a1
        · rw [hK]
          exact py'.dp b1
      · cases e
  | notIn =>
    cases y <;> (unfold cpD at e; dsimp only at e) <;> first
      | (cases e; done)
      | skip
    · rename_i es
      split at e
      · rename_i hz
        obtain ⟨h1, h2⟩ := Bool.and_eq_true_iff.mp hz
        obtain ⟨a1, a2⟩ := Bool.and_eq_true_iff.mp h1
        obtain ⟨b1, b2⟩ := Bool.and_eq_true_iff.mp h2
        cases e
        obtain ⟨as, r1⟩ := Dp.reads I (py x) _ v (by rw [hK]; exact px.dp a1) rx
        obtain ⟨bs, r2⟩ := Dp.reads I (.tuple (pyL es)) _ u (by rw [hK]; exact py'.dp b1) ry
        exact SeqAt.notIn_tuple_reads r2 r1 (SeqAt.canLay_of_shaped b2) (SeqAt.canLay_of_shaped a2) (room_in_shaped a2 hu) ⟨.bl _, H, I, rfl, by rw [memD_any]; exact fq⟩
      · cases e
    · rename_i es
      split at e
      · rename_i hz
        obtain ⟨h1, h2⟩ := Bool.and_eq_true_iff.mp hz
        obtain ⟨a1, a2⟩ := Bool.and_eq_true_iff.mp h1
        obtain ⟨b1, b2⟩ := Bool.and_eq_true_iff.mp h2
        cases e
        refine op_notInD hu pins s σ H _ _ v u Q I rx ry ⟨py x, pyL es, ?_, ?_, a2, b2, by rw [memD_any]; exact fq⟩
        · rw [hK]
          exact px.dp a1
        · rw [hK]
          exact py'.dp b1
      · cases e
end
end Z
end

section
set_option Elab.async false
set_option autoImplicit false
set_option linter.all false
set_option maxRecDepth 100000
set_option maxHeartbeats 1000000
/-! sorted: ints, or tuples of ints and texts, over trees. -/
namespace Z.Sr
open PySem PySem.Spec PyProof.Rows L2

abbrev It := Int ⊕ List Nat
/-! ### the order -/
theorem lt_nats {x y : List Nat} (h : ¬ x = y) : strKind.blt x y = decide (x < y) := rfl
theorem ltKs_eq : ∀ xs ys : List It, ltKs xs ys = lexLt itemOrd xs ys
  | [], [] => rfl
  | [], _ :: _ => rfl
  | .inl _ :: _, [] => rfl
  | .inr _ :: _, [] => rfl
  | .inl i :: r, .inl j :: t => by
    show (if i = j then ltKs r t else decide (i < j)) = _
    by_cases e : i = j
    · subst e
      rw [if_pos rfl, lex_self (O := itemOrd), ltKs_eq r t]
    · rw [if_neg e, lex_diff (O := itemOrd) fun q => e (Sum.inl.inj q)]
      rfl
  | .inr i :: r, .inr j :: t => by
    show (if i = j then ltKs r t else decide (i < j)) = _
    by_cases e : i = j
    · subst e
      rw [if_pos rfl, lex_self (O := itemOrd), ltKs_eq r t]
    · rw [if_neg e, lex_diff (O := itemOrd) fun q => e (Sum.inr.inj q)]
      rfl
  | .inl i :: r, .inr j :: t => by
    rw [lex_diff (O := itemOrd) (by intro q; cases q)]
    rfl
  | .inr i :: r, .inl j :: t => by
    rw [lex_diff (O := itemOrd) (by intro q; cases q)]
    rfl
theorem swoK {α : Type} (k : α → List It) : SrtO.Swo fun x y => ltKs (k x) (k y) := by
  refine ⟨fun x y h => ?_, fun x y z h1 h2 => ?_⟩
  · rw [ltKs_eq] at h ⊢
    cases q : lexLt itemOrd (k y) (k x) with
    | false => rfl
    | true =>
      have := lex_trans (O := itemOrd) _ _ _ h q
      rw [lex_irrefl] at this
      cases this
  · rw [ltKs_eq] at h1 h2 ⊢
    cases q : lexLt itemOrd (k z) (k x) with
    | false => rfl
    | true =>
      rcases lex_negTrans (O := itemOrd) _ (k y) _ q with h | h
      · rw [h2] at h
        cases h
      · rw [h1] at h
        cases h
theorem ltKs_tot {xs ys : List It} (h1 : ltKs xs ys = false) (h2 : ltKs ys xs = false) : xs = ys := by
  rw [ltKs_eq] at h1 h2
  exact lex_total (O := itemOrd) _ _ h1 h2

/-! ### the sorting of trees -/
theorem swoD : SrtO.Swo ltD := swoK keyOf
theorem ins_perm (d : D) : ∀ l : List D, (insD d l).Perm (d :: l)
  | [] => List.Perm.refl _
  | e :: r => by
    show (if ltD e d = true then e :: insD d r else d :: e :: r).Perm (d :: e :: r)
    split
    · exact ((ins_perm d r).cons e).trans (List.Perm.swap ..)
    · exact List.Perm.refl _
theorem isort_perm : ∀ l : List D, (isortD l).Perm l
  | [] => List.Perm.refl _
  | d :: r => (ins_perm d (isortD r)).trans ((isort_perm r).cons d)
theorem ins_srt (d : D) : ∀ l : List D, SrtO.Srtd ltD l → SrtO.Srtd ltD (insD d l)
  | [], _ => List.pairwise_singleton _ _
  | e :: r, h => by
    obtain ⟨h1, h2⟩ := List.pairwise_cons.mp h
    show SrtO.Srtd ltD (if ltD e d = true then e :: insD d r else d :: e :: r)
    split
    · rename_i q
      refine List.pairwise_cons.mpr ⟨fun y hy => ?_, ins_srt d r h2⟩
      rcases List.mem_cons.mp ((ins_perm d r).mem_iff.mp hy) with e1 | hy
      · subst e1
        exact swoD.asym _ _ q
      · exact h1 y hy
    · rename_i q
      have q' : ltD e d = false := by simpa using q
      refine List.pairwise_cons.mpr ⟨fun y hy => ?_, h⟩
      rcases List.mem_cons.mp hy with e1 | hy
      · subst e1
        exact q'
      · exact swoD.tr d e y q' (h1 y hy)
theorem isort_srt : ∀ l : List D, SrtO.Srtd ltD (isortD l)
  | [] => List.Pairwise.nil
  | d :: r => ins_srt d _ (isort_srt r)
/-- sorted lists of the same items are one, where keys tell them apart -/
theorem srt_uniq : ∀ {l m : List D}, (∀ x ∈ l, ∀ y ∈ l, keyOf x = keyOf y → x = y) → l.Perm m → SrtO.Srtd ltD l → SrtO.Srtd ltD m → l = m
  | [], m, _, p, _, _ => (List.Perm.eq_nil p.symm).symm
  | x :: l, [], _, p, _, _ => absurd p.length_eq (by simp)
  | x :: l, y :: m, k, p, hl, hm => by
    have hy : y ∈ x :: l := p.mem_iff.mpr List.mem_cons_self
    have h1 : ltD x y = false := by
      rcases List.mem_cons.mp (p.mem_iff.mp (List.mem_cons_self (a := x) (l := l))) with e | hx
      · rw [e]
        exact swoD.refl y
      · exact SrtO.srtd_head hm x hx
    have h2 : ltD y x = false := by
      rcases List.mem_cons.mp hy with e | hy
      · rw [e]
        exact swoD.refl x
      · exact SrtO.srtd_head hl y hy
    have e : x = y := k x List.mem_cons_self y hy (ltKs_tot h1 h2)
    subst e
    rw [srt_uniq (fun a ha b hb => k a (List.mem_cons_of_mem _ ha) b (List.mem_cons_of_mem _ hb)) p.cons_inv (List.pairwise_cons.mp hl).2 (List.pairwise_cons.mp hm).2]

/-! ### ints -/
theorem ints_isort {ns ms : List Int} (p : ms.Perm ns) (h : ms.Pairwise (· ≤ ·)) : ms.map D.int = isortD (ns.map D.int) := by
  refine srt_uniq (fun x hx y hy e => ?_) ?_ ?_ (isort_srt _)
  · obtain ⟨i, _, rfl⟩ := List.mem_map.mp hx
    obtain ⟨j, _, rfl⟩ := List.mem_map.mp hy
    have e' : [(Sum.inl i : It)] = [Sum.inl j] := e
    cases e'
    rfl
  · exact (p.map D.int).trans (isort_perm _).symm
  · refine List.pairwise_map.mpr (h.imp fun {a b} q => ?_)
    show (if b = a then ltKs [] [] else decide (b < a)) = false
    split
    · rfl
    · exact decide_eq_false (by omega)
theorem intsD_map : ∀ {xs : List D} {ns : List Int}, intsD xs = some ns → xs = ns.map D.int
  | [], ns, e => by
    cases e
    rfl
  | d :: ds, ns, e => by
    cases d with
    | int i =>
      rw [show intsD (.int i :: ds) = (intsD ds).map (i :: ·) from rfl] at e
      cases q : intsD ds with
      | none =>
        rw [q] at e
        cases e
      | some ms =>
        rw [q] at e
        cases e
        rw [intsD_map q]
        rfl
    | _ => exact nomatch e

/-! ### tuples -/
theorem cps_eq {x y : Str} : x = y ↔ x.cps.toList = y.cps.toList := by
  refine ⟨fun e => by rw [e], fun e => ?_⟩
  cases x
  cases y
  simp_all
theorem itK_inj {x y : D} {a : It} (h1 : itK x = some a) (h2 : itK y = some a) : x = y := by
  cases x with
  | int i =>
    cases h1
    cases y with
    | int j =>
      cases h2
      rfl
    | str _ => exact nomatch (Option.some.inj h2)
    | _ => cases h2
  | str u =>
    cases h1
    cases y with
    | int j => exact nomatch (Option.some.inj h2)
    | str v =>
      have q := Sum.inr.inj (Option.some.inj h2)
      rw [cps_eq.mpr q]
    | _ => cases h2
  | _ => cases h1
theorem itKs_inj : ∀ {xs ys : List D} {ks : List It}, itKs xs = some ks → itKs ys = some ks → xs = ys
  | [], [], _, _, _ => rfl
  | [], y :: ys, ks, h1, h2 => by
    cases h1
    rw [itKs] at h2
    split at h2
    · split at h2 <;> cases h2
    · cases h2
  | x :: xs, [], ks, h1, h2 => by
    cases h2
    rw [itKs] at h1
    split at h1
    · split at h1 <;> cases h1
    · cases h1
  | x :: xs, y :: ys, ks, h1, h2 => by
    rw [itKs] at h1 h2
    split at h1
    · rename_i a ea
      split at h1
      · rename_i as eas
        cases h1
        split at h2
        · rename_i b eb
          split at h2
          · rename_i bs ebs
            cases h2
            rw [itKs_inj eas ebs]
            rw [itK_inj ea eb]
          · cases h2
        · cases h2
      · cases h1
    · cases h1
theorem keyD_inj {d e : D} {k : List It} (h1 : keyD d = some k) (h2 : keyD e = some k) : d = e := by
  cases d with
  | tup xs => cases xs with
    | nil => cases h1
    | cons x xs => cases e with
      | tup ys => cases ys with
        | nil => cases h2
        | cons y ys => rw [itKs_inj (show itKs (x :: xs) = some k from h1) h2]
      | _ => cases h2
  | _ => cases h1
theorem keyDs_all : ∀ {xs : List D} {ks : List (List It)}, keyDs xs = some ks → ∀ d ∈ xs, ∃ k ∈ ks, keyD d = some k
  | [], _, _, d, h => absurd h (by simp)
  | x :: xs, ks, e, d, h => by
    rw [keyDs] at e
    split at e
    · rename_i a ea
      split at e
      · rename_i as eas
        cases e
        rcases List.mem_cons.mp h with q | h
        · subst q
          exact ⟨a, List.mem_cons_self, ea⟩
        · obtain ⟨k, hk, e⟩ := keyDs_all eas d h
          exact ⟨k, List.mem_cons_of_mem _ hk, e⟩
      · cases e
    · cases e
theorem keyOf_of {d : D} {k : List It} (h : keyD d = some k) : keyOf d = k := by
  cases d with
  | tup xs =>
    show (keyD (.tup xs)).getD [] = k
    rw [h]
    rfl
  | _ => cases h

/-- an item of a tuple -/
inductive ItV : List Value → List It → Prop
  | nil : ItV [] []
  | int (i : Int) (t : Tok) {vs : List Value} {ks : List It} : ItV vs ks → ItV (.int i t :: vs) (.inl i :: ks)
  | str (x : Str) (t : Tok) {vs : List Value} {ks : List It} : ItV vs ks → ItV (.str x t :: vs) (.inr x.cps.toList :: ks)
/-- a tuple with such items -/
def FT (h : Heap) (u : Value) (k : List It) : Prop := ∃ a o its n, u = .ref a ∧ h.get? a = some o ∧ o.cls = .type "tuple" ∧ o.data = .seq (List.toArray its) n ∧ ItV its k ∧ k ≠ []
theorem FT.keeps {h h' : Heap} {v : Value} {k : List It} (p : FT h v k) (q : ∀ b o, h.get? b = some o → o.cls = .type "tuple" → h'.get? b = some o) : FT h' v k := by
  obtain ⟨a, o, its, n, e, ho, hc, hd, r, ne⟩ := p
  exact ⟨a, o, its, n, e, q _ _ ho hc, hc, hd, r, ne⟩
def itV : Value → It
  | .int i _ => .inl i
  | .str x _ => .inr x.cps.toList
  | _ => .inl 0
/-- the key that a heap gives -/
def keyV (h : Heap) : Value → List It
  | .ref a => (match h.get? a with
    | some o => (match o.data with
      | .seq xs _ => xs.toList.map itV
      | _ => [])
    | none => [])
  | _ => []
theorem itV_map : ∀ {vs : List Value} {ks : List It}, ItV vs ks → vs.map itV = ks
  | _, _, .nil => rfl
  | _, _, .int i t r => by
    rw [List.map_cons, itV_map r]
    rfl
  | _, _, .str x t r => by
    rw [List.map_cons, itV_map r]
    rfl
theorem FT.key {h : Heap} {u : Value} {k : List It} (f : FT h u k) : keyV h u = k := by
  obtain ⟨a, o, its, n, rfl, ho, hc, hd, r, ne⟩ := f
  show (match h.get? a with
    | some o => (match o.data with
      | .seq xs _ => xs.toList.map itV
      | _ => [])
    | none => []) = k
  rw [ho]
  show (match o.data with
      | .seq xs _ => xs.toList.map itV
      | _ => []) = k
  rw [hd]
  exact itV_map r

section
variable {prog : Program} {w : World} {A : Around} {E : Value → Shared → Prop} {s : Shared}
theorem lex_run {b fin : Bool} {Q : Bool → Shared → Prop} : ∀ {ps qs : List Value} {as bs : List It} (i : Nat), ItV ps as → ItV qs bs → alikeK as bs = true → fin = decide (ps.length < qs.length) → Q (ltKs as bs) s →
    PySem.W.KatLex prog w A b fin Q (ps.zip qs) i s
  | _, _, _, _, i, .nil, .nil, _, e, h => by
    subst e
    exact PySem.W.kat_nil h
  | _, _, _, _, i, .nil, .int _ _ r, _, e, h => by
    subst e
    exact PySem.W.kat_nil h
  | _, _, _, _, i, .nil, .str _ _ r, _, e, h => by
    subst e
    exact PySem.W.kat_nil h
  | _, _, _, _, i, .int _ _ r, .nil, _, e, h => by
    subst e
    exact PySem.W.kat_nil h
  | _, _, _, _, i, .str _ _ r, .nil, _, e, h => by
    subst e
    exact PySem.W.kat_nil h
  | _, _, _, _, i, .int x t r, .int y u q, k, e, h => by
    rw [List.zip_cons_cons]
    refine PySem.W.kat_cons (SeqAt.EqAt.int_int x t y u prog w _ _ ?_)
    have k' : (if x = y then alikeK _ _ else true) = true := k
    refine PySem.W.kat_go (fun e1 => ?_) (fun e1 => ?_)
    · have ex : x = y := by simpa using e1
      rw [if_pos ex] at k'
      have h' : Q (if x = y then ltKs _ _ else decide (x < y)) s := h
      rw [if_pos ex] at h'
      refine PySem.W.kat_yes (lex_run (i + 1) r q k' ?_ h')
      rw [e, List.length_cons, List.length_cons]
      exact decide_eq_decide.mpr (by omega)
    · have ex : ¬ x = y := by simpa using e1
      have h' : Q (if x = y then ltKs _ _ else decide (x < y)) s := h
      rw [if_neg ex] at h'
      exact PySem.W.kat_no (oneLt_any_int h')
  | _, _, _, _, i, .str x t r, .str y u q, k, e, h => by
    rw [List.zip_cons_cons]
    refine PySem.W.kat_cons (SeqAt.EqAt.str_str x t y u prog w _ _ ?_)
    have k' : (if x.cps.toList = y.cps.toList then alikeK _ _ else true) = true := k
    have h' : Q (if x.cps.toList = y.cps.toList then ltKs _ _ else decide (x.cps.toList < y.cps.toList)) s := h
    refine PySem.W.kat_go (fun e1 => ?_) (fun e1 => ?_)
    · have ex : x = y := by simpa using e1
      rw [if_pos (cps_eq.mp ex)] at k' h'
      refine PySem.W.kat_yes (lex_run (i + 1) r q k' ?_ h')
      rw [e, List.length_cons, List.length_cons]
      exact decide_eq_decide.mpr (by omega)
    · have ex : ¬ x = y := by simpa using e1
      rw [if_neg fun q => ex (cps_eq.mpr q)] at h'
      exact PySem.W.kat_no (oneLt_any_str h')
  | _, _, _, _, i, .int x t r, .str y u q, k, e, h => by cases k
  | _, _, _, _, i, .str x t r, .int y u q, k, e, h => by cases k

theorem ft_cmp {h : Heap} {vs : List Value} {b : Bool} (hp : ∀ v ∈ vs, ∃ k, FT s.heap v k ∧ keyV h v = k) (hk : ∀ v ∈ vs, ∀ u ∈ vs, alikeK (keyV h v) (keyV h u) = true) :
    SrtO.Cmp prog w A s (tuples' b) (fun p => p.1 ∈ vs) (SrtO.lt2 fun v u => ltKs (keyV h v) (keyV h u)) := by
  intro p q hm hm'
  have kk := hk _ hm _ hm'
  obtain ⟨k1, f1, e1⟩ := hp _ hm
  obtain ⟨k2, f2, e2⟩ := hp _ hm'
  show wpAny (model prog w) A (keyLt' (tuples' b) p.1 q.1) (fun r s' => s' = s ∧ r = ltKs (keyV h p.1) (keyV h q.1)) (fun _ _ => False) s
  rw [e1, e2] at kk ⊢
  obtain ⟨a, o, its, n, e, ho, hc, hd, r, _⟩ := f1
  obtain ⟨a', o', its', n', e', ho', hc', hd', r', _⟩ := f2
  rw [e, e']
  refine PySem.W.kat_lt ho hd ho' hd' ?_
  refine lex_run 0 r r' kk ?_ ⟨rfl, rfl⟩
  simp

theorem fts_firsts {h : Heap} {b : Bool} : ∀ {vs : List Value}, (∀ v ∈ vs, ∃ k x, FT h v (x :: k) ∧ x.isLeft = b) → ∃ fs : List Value, PySem.W.KatTups h vs fs ∧ fs.length = vs.length ∧ ∀ f ∈ fs, if b then ∃ x t, f = Value.int x t else ∃ x t, f = Value.str x t
  | [], _ => ⟨[], PySem.W.KatTups.nil, rfl, fun _ hm => by simp at hm⟩
  | v :: vs, hp => by
    obtain ⟨fs, h1, h2, h3⟩ := fts_firsts (vs := vs) fun v' hm => hp v' (List.mem_cons_of_mem _ hm)
    obtain ⟨k, x, ⟨a, o, its, n, e, ho, hc, hd, r, _⟩, eb⟩ := hp v (List.mem_cons_self ..)
    subst e
    cases r with
    | int i t r =>
      cases eb
      refine ⟨.int i t :: fs, PySem.W.KatTups.cons ho hc hd rfl h1, by rw [List.length_cons, List.length_cons, h2], fun f hm => ?_⟩
      rcases List.mem_cons.mp hm with rfl | hm
      · exact ⟨i, t, rfl⟩
      · exact h3 f hm
    | str i t r =>
      cases eb
      refine ⟨.str i t :: fs, PySem.W.KatTups.cons ho hc hd rfl h1, by rw [List.length_cons, List.length_cons, h2], fun f hm => ?_⟩
      rcases List.mem_cons.mp hm with rfl | hm
      · exact ⟨i, t, rfl⟩
      · exact h3 f hm
theorem head_alike {x y : It} {r t : List It} (h : alikeK (x :: r) (y :: t) = true) : x.isLeft = y.isLeft := by
  cases x <;> cases y <;> first | rfl | cases h

theorem ft_sortable {a : Addr} {vs : List Value} (h0 : 0 < vs.length) (hp : ∀ v ∈ vs, ∃ k, FT s.heap v k) (h : Heap) (hh : ∀ v ∈ vs, ∀ k, FT s.heap v k → keyV h v = k)
    (hk : ∀ v ∈ vs, ∀ u ∈ vs, alikeK (keyV h v) (keyV h u) = true) (ha : ∀ o, s.heap.get? a = some o → o.cls ≠ .type "tuple") : SrtO.SortableO prog w A s a vs fun v u => ltKs (keyV h v) (keyV h u) := by
  intro h' keep
  have kp : ∀ v ∈ vs, ∀ k, FT s.heap v k → FT h' v k := fun v hm k f => f.keeps fun b o e c => keep b o (fun z => by subst z; exact ha o e c) e
  obtain ⟨v0, vr, rfl⟩ : ∃ v0 vr, vs = v0 :: vr := by
    match vs, h0 with
    | v0 :: vr, _ => exact ⟨v0, vr, rfl⟩
  obtain ⟨k0, f0⟩ := hp v0 List.mem_cons_self
  have hx : ∃ x r, k0 = x :: r := by
    obtain ⟨_, _, _, _, _, _, _, _, _, ne⟩ := f0
    cases k0 with
    | nil => exact absurd rfl ne
    | cons x r => exact ⟨x, r, rfl⟩
  obtain ⟨x0, r0, rfl⟩ := hx
  have e0 := hh v0 List.mem_cons_self _ f0
  have all : ∀ v ∈ v0 :: vr, ∃ k x, FT h' v (x :: k) ∧ x.isLeft = x0.isLeft := fun v hm => by
    obtain ⟨k, f⟩ := hp v hm
    have ev := hh v hm _ f
    have al := hk v0 List.mem_cons_self v hm
    rw [e0, ev] at al
    have f' := f
    obtain ⟨_, _, _, _, _, _, _, _, _, ne⟩ := f
    cases k with
    | nil => exact absurd rfl ne
    | cons x r => exact ⟨r, x, kp v hm _ f', (head_alike al).symm⟩
  obtain ⟨fs, h1, h2, h3⟩ := fts_firsts all
  refine ⟨tuples' true, fun Q E hq => ?_, ft_cmp (h := h) (fun v hm => ?_) hk⟩
  · cases x0 with
    | inl i =>
      refine PySem.W.kat_kind (T := .type "int") h1 (by omega) (fun f hm => ?_) (by rfl) ?_
      · obtain ⟨x, t, rfl⟩ := h3 f hm
        exact PySem.W.Looks.now
      · have e : (Value.type "int" != Value.type "tuple") = true := by first | decide +kernel | rfl | decide
        rw [e]
        exact hq
    | inr i =>
      refine PySem.W.kat_kind (T := .type "str") h1 (by omega) (fun f hm => ?_) (by rfl) ?_
      · obtain ⟨x, t, rfl⟩ := h3 f hm
        exact PySem.W.Looks.now
      · have e : (Value.type "str" != Value.type "tuple") = true := by first | decide +kernel | rfl | decide
        rw [e]
        exact hq
  · obtain ⟨k, f⟩ := hp v hm
    exact ⟨k, kp v hm k f, hh v hm k f⟩

/-- sorted(l) of tuples of ints and texts -/
theorem sorted_ft {l : Addr} {vs : List Value} {Q : Value → Shared → Prop} (hl : s.heap.IsList l vs.toArray) (hz : vs.length ≤ sizeLine) (hp : ∀ v ∈ vs, ∃ k, FT s.heap v k)
    (hk : ∀ v ∈ vs, ∀ u ∈ vs, alikeK (keyV s.heap v) (keyV s.heap u) = true)
    (h : ∀ (h' : Heap) (d : Addr) (out : List Value), SrtO.Srtd (fun v u => ltKs (keyV s.heap v) (keyV s.heap u)) out → out.Perm vs → (∀ b o, s.heap.get? b = some o → h'.get? b = some o) → s.heap.objs.size ≤ d → (∃ n, h'.get? d = some (seqObj "list" out.toArray n)) → Q (.ref d) { s with heap := h' }) :
    wpAny (model prog w) A (call (.builtin "sorted") [.ref l]) Q E s := by
  refine SrtO.sorted_ord (swoK (keyV s.heap)) hl hz (fun h2 h₁ a ha kk => ?_) fun out hs hb => ?_
  · have kp : ∀ v k, FT s.heap v k → FT h₁ v k := fun v k f => f.keeps fun b o e _ => (kk b o e).2
    refine ft_sortable (s := { s with heap := h₁ }) (by omega) (fun v hm => ?_) s.heap (fun v hm k f => ?_) hk fun o e => ?_
    · obtain ⟨k, f⟩ := hp v hm
      exact ⟨k, kp v k f⟩
    · obtain ⟨k', f'⟩ := hp v hm
      have g := kp v k' f'
      rw [f'.key, ← g.key]
      exact f.key
    · have e' : some o = some (seqObj "list" vs.toArray 0) := e.symm.trans ha
      cases e'
      intro c
      exact absurd (Value.type.inj c) (by decide)
  · exact h _ _ out hs hb.perm (fun b o e => sortedAll_old e) (Nat.le_succ _) (sortedAll_at s.heap vs out.toArray)
end

/-! ### as a rule over trees -/
section
variable {E : En} {As : List Addr} {H : Hp} {bad : Addr → Prop}
theorem its_of : ∀ {vs : List V} {ds : List D} {us : List Value} {ks : List It}, Reps E As H bad vs ds → Vals vs us → itKs ds = some ks → ItV us ks
  | _, _, _, ks, .nil, .nil, e => by
    cases e
    exact .nil
  | _, _, _, ks, .cons (d := d) a t, .cons r q, e => by
    rw [itKs] at e
    split at e
    · rename_i x ex
      split at e
      · rename_i xs exs
        cases e
        have ih := its_of t q exs
        cases d with
        | int i =>
          cases ex
          cases a
          obtain ⟨t, rfl⟩ := r
          exact .int i t ih
        | str y =>
          cases ex
          cases a
          obtain ⟨t, rfl⟩ := r
          exact .str y t ih
        | _ => cases ex
      · cases e
    · cases e
theorem reps_perm {vs ws : List V} (p : vs.Perm ws) : ∀ {ds : List D}, Reps E As H bad vs ds → ∃ es, Reps E As H bad ws es ∧ es.Perm ds := by
  induction p with
  | nil => exact fun r => ⟨_, r, List.Perm.refl _⟩
  | cons x _ ih =>
    intro ds r
    cases r with
    | cons a t =>
      obtain ⟨es, r, q⟩ := ih t
      exact ⟨_, .cons a r, q.cons _⟩
  | swap x y l =>
    intro ds r
    cases r with
    | cons a t =>
      cases t with
      | cons b t => exact ⟨_, .cons b (.cons a t), List.Perm.swap ..⟩
  | trans _ _ ih1 ih2 =>
    intro ds r
    obtain ⟨es, r, q⟩ := ih1 r
    obtain ⟨fs, r, q'⟩ := ih2 r
    exact ⟨fs, r, q'.trans q⟩
variable {X : Cx} {pins : List (Addr × Obj)} {σ : L2.St} {s : Shared}
theorem ft_of (hK : X.K = E.K) (I : Inv X pins σ H s) {v : V} {d : D} {k : List It} (r : Rep E As H bad v d) (e : keyD d = some k) : ∃ a, v = .ref a ∧ FT s.heap (.ref a) k := by
  cases d with
  | tup xs => cases xs with
    | nil => cases e
    | cons x xs =>
      have ne : k ≠ [] := by
        intro q
        subst q
        have e' : itKs (x :: xs) = some [] := e
        rw [itKs] at e'
        split at e'
        · split at e' <;> cases e'
        · cases e'
      have r' : RepP E As H bad v (.tup (x :: xs)) := .inl r
      obtain ⟨a, ws, rfl, l, q⟩ := r'.tup
      rw [← hK] at l
      obtain ⟨its, rv, p, _⟩ := I.tuple l
      obtain ⟨o, ho, hc, n, hd⟩ := p
      exact ⟨a, rfl, a, o, its, n, rfl, ho, hc, hd, its_of q rv e, ne⟩
  | _ => cases e
theorem fts_of (hK : X.K = E.K) (I : Inv X pins σ H s) : ∀ {vs : List V} {ds : List D} {ks : List (List It)}, Reps E As H bad vs ds → (∀ d ∈ ds, ∃ k ∈ ks, keyD d = some k) →
    (∀ v ∈ vs, ∃ a, v = V.ref a) ∧ ∀ v ∈ vs, ∀ a, v = V.ref a → ∃ k ∈ ks, FT s.heap (.ref a) k
  | _, _, ks, .nil, _ => ⟨fun v h => absurd h (by simp), fun v h => absurd h (by simp)⟩
  | _, _, ks, .cons a t, h => by
    obtain ⟨h1, h2⟩ := fts_of hK I t fun d hd => h d (List.mem_cons_of_mem _ hd)
    obtain ⟨k, hk, e⟩ := h _ List.mem_cons_self
    obtain ⟨b, rfl, f⟩ := ft_of hK I a e
    refine ⟨fun v hv => ?_, fun v hv b' e' => ?_⟩
    · rcases List.mem_cons.mp hv with q | hv
      · exact ⟨b, q⟩
      · exact h1 v hv
    · rcases List.mem_cons.mp hv with q | hv
      · subst q
        cases e'
        exact ⟨k, hk, f⟩
      · exact h2 v hv b' e'
/-- the keys that the heap gives are those of the trees -/
theorem srt_of (hK : X.K = E.K) (I : Inv X pins σ H s) : ∀ {us : List Value} {ds : List D}, Reps E As H bad (us.map backV) ds → (∀ d ∈ ds, ∃ k, keyD d = some k) → (∀ u ∈ us, ∃ a, u = Value.ref a) →
    Paired (fun u d => keyV s.heap u = keyOf d) us ds
  | [], _, r, _, _ => by
    cases r
    exact .nil
  | u :: us, _, r, h, hu => by
    cases r with
    | cons a t =>
      obtain ⟨k, e⟩ := h _ List.mem_cons_self
      obtain ⟨b, rfl⟩ := hu u List.mem_cons_self
      obtain ⟨b', q, f⟩ := ft_of hK I a e
      cases q
      exact .cons (by rw [f.key, keyOf_of e]) (srt_of hK I t (fun d hd => h d (List.mem_cons_of_mem _ hd)) fun u hm => hu u (List.mem_cons_of_mem _ hm))
theorem paired_mem {α β : Type} {R : α → β → Prop} : ∀ {us : List α} {ds : List β}, Paired R us ds → ∀ d ∈ ds, ∃ u ∈ us, R u d
  | _, _, .nil, d, h => absurd h (by simp)
  | _, _, .cons r t, d, h => by
    rcases List.mem_cons.mp h with q | h
    · subst q
      exact ⟨_, List.mem_cons_self, r⟩
    · obtain ⟨u, hu, q⟩ := paired_mem t d h
      exact ⟨u, List.mem_cons_of_mem _ hu, q⟩
theorem srtd_pair {h : Heap} : ∀ {us : List Value} {ds : List D}, Paired (fun u d => keyV h u = keyOf d) us ds → SrtO.Srtd (fun v u => ltKs (keyV h v) (keyV h u)) us → SrtO.Srtd ltD ds
  | _, _, .nil, _ => List.Pairwise.nil
  | _, _, .cons r t, q => by
    obtain ⟨q1, q2⟩ := List.pairwise_cons.mp q
    refine List.pairwise_cons.mpr ⟨fun d hd => ?_, srtd_pair t q2⟩
    obtain ⟨u, hu, e⟩ := paired_mem t d hd
    have z : ltKs (keyV h u) (keyV h _) = false := q1 u hu
    rw [e, r] at z
    exact z
theorem sorted_tups (hK : X.K = E.K) (I : Inv X pins σ H s) {l : Addr} {ws : List V} {ds : List D} {ks : List (List It)} {Q : VK} (hl : SqL X.K H l ws) (g : Reps E As H bad ws ds) (e : keyDs ds = some ks) (al : (ks.all fun x => ks.all fun y => alikeK x y) = true)
    (q : ∀ (vs : List V), Reps E As H bad vs (isortD ds) → ∀ p, H p = none → Q (.ref p) (upd H p (.lst vs))) :
    wpAny (model X.prog X.w) X.A (call (.builtin "sorted") [.ref l]) (EP X pins σ Q) X.xe s := by
  obtain ⟨its, rv, hl', hz⟩ := I.list hl
  have hks := keyDs_all e
  obtain ⟨hr, hf⟩ := fts_of hK I g hks
  obtain ⟨e1, e2⟩ := refs_back rv hr
  have ft : ∀ v ∈ its, ∃ k ∈ ks, FT s.heap v k := fun v hv => by
    obtain ⟨t, rfl⟩ := e2 v hv
    exact hf (.ref t) (by rw [e1]; exact List.mem_map.mpr ⟨_, hv, rfl⟩) t rfl
  refine sorted_ft hl'.isList (by rw [← rv.length]; exact hz) (fun v hv => ?_) (fun v hv u hu => ?_) fun h' d out h1 h2 kp hd hn => ?_
  · obtain ⟨k, _, f⟩ := ft v hv
    exact ⟨k, f⟩
  · obtain ⟨k, m, f⟩ := ft v hv
    obtain ⟨k', m', f'⟩ := ft u hu
    rw [f.key, f'.key]
    exact List.all_eq_true.mp (List.all_eq_true.mp al k m) k' m'
  · have h3 : ∀ u ∈ out, ∃ a, u = Value.ref a := fun u hu => e2 u (h2.mem_iff.mp hu)
    obtain ⟨n, hn⟩ := hn
    have pw : ws.Perm (out.map backV) := by
      rw [e1]
      exact (h2.map backV).symm
    obtain ⟨es, re, pe⟩ := reps_perm pw g
    have kes : ∀ d ∈ es, ∃ k, keyD d = some k := fun d hd => by
      obtain ⟨k, _, e⟩ := hks d (pe.mem_iff.mp hd)
      exact ⟨k, e⟩
    have se := srtd_pair (srt_of hK I re kes h3) h1
    have ee : es = isortD ds := by
      refine srt_uniq (fun x hx y hy q => ?_) (pe.trans (isort_perm ds).symm) se (isort_srt ds)
      obtain ⟨k, ek⟩ := kes x hx
      obtain ⟨k', ek'⟩ := kes y hy
      rw [keyOf_of ek, keyOf_of ek'] at q
      subst q
      exact keyD_inj ek ek'
    rw [ee] at re
    refine ⟨.ref d, upd H d (.lst (out.map backV)), I.laid (t' := s.toks) kp hd ⟨?_, out, n, vals_back h3, hn⟩, rfl, q _ re d (I.hok.fresh hd)⟩
    rw [← pw.length_eq]
    exact hz
end
theorem reps_ints {E : En} {As : List Addr} {H : Hp} {bad : Addr → Prop} : ∀ ns : List Int, Reps E As H bad (ns.map V.int) (ns.map D.int)
  | [] => .nil
  | n :: ns => .cons (.int n) (reps_ints ns)
end Z.Sr
end

section
set_option Elab.async false
set_option autoImplicit false
set_option linter.all false
set_option maxRecDepth 100000
set_option maxHeartbeats 1000000
/-! Built-ins, methods, subscripts over trees. -/
namespace Z
open PySem PySem.Spec PyProof.Rows L2

/-! ### how long a text of repr is -/
mutual
theorem shown_le : ∀ d : D, pl d = true → (py d).showable = true → ((py d).shown).length ≤ sz d
  | .non, _, _ => by show (Str.ofString "None").length ≤ 4; decide +kernel
  | .bl b, _, _ => by cases b <;> (show (Str.ofString _).length ≤ 5; decide +kernel)
  | .int i, _, h => int_text_len_1921 (of_decide_eq_true (show decide (i.natAbs.log2 < 1920) = true from h))
  | .str x, _, _ => Nat.le_refl _
  | .tup xs, h, g => by
    have q := shownL_le xs h g
    have z := tupleText_len_le (PyData.shownAll (pyL xs))
    show (tupleText (PyData.shownAll (pyL xs))).length ≤ szL xs + 3
    omega
  | .lst xs, h, g => by
    have q := shownL_le xs h g
    have z := listText_len_le (PyData.shownAll (pyL xs))
    show (listText (PyData.shownAll (pyL xs))).length ≤ szL xs + 3
    omega
  | .dct _, h, _ => by cases h
  | .cell _, h, _ => by cases h
  | .fn _, h, _ => by cases h
theorem shownL_le : ∀ ds : List D, plL ds = true → PyData.showableAll (pyL ds) = true → ((PyData.shownAll (pyL ds)).map (·.length)).sum + 2 * (PyData.shownAll (pyL ds)).length ≤ szL ds
  | [], _, _ => Nat.le_refl _
  | d :: ds, h, g => by
    obtain ⟨h1, h2⟩ := Bool.and_eq_true_iff.mp (show (pl d && plL ds) = true from h)
    obtain ⟨g1, g2⟩ := Bool.and_eq_true_iff.mp (show ((py d).showable && PyData.showableAll (pyL ds)) = true from g)
    have q := shown_le d h1 g1
    have r := shownL_le ds h2 g2
    show (((py d).shown :: PyData.shownAll (pyL ds)).map (·.length)).sum + 2 * ((py d).shown :: PyData.shownAll (pyL ds)).length ≤ sz d + 2 + szL ds
    rw [List.map_cons, List.sum_cons, List.length_cons]
    omega
end
mutual
theorem noDict : ∀ d : D, pl d = true → (py d).hasDict = false
  | .non, _ => rfl
  | .bl _, _ => rfl
  | .int _, _ => rfl
  | .str _, _ => rfl
  | .tup xs, h => noDictL xs h
  | .lst xs, h => noDictL xs h
  | .dct _, h => by cases h
  | .cell _, h => by cases h
  | .fn _, h => by cases h
theorem noDictL : ∀ ds : List D, plL ds = true → PyData.hasDictAll (pyL ds) = false
  | [], _ => rfl
  | d :: ds, h => by
    obtain ⟨h1, h2⟩ := Bool.and_eq_true_iff.mp (show (pl d && plL ds) = true from h)
    show ((py d).hasDict || PyData.hasDictAll (pyL ds)) = false
    rw [noDict d h1, noDictL ds h2]
    rfl
end

/-- several operands -/
abbrev RepsP (E : En) (As : List Addr) (H : Hp) (bad : Addr → Prop) : List V → List D → Prop := Paired (RepP E As H bad)
def rB (E : En) (f : List D → Option (D × Bool)) : List V → Hp → VK → Prop := fun vs H Q => ∃ As bad μ ds z w, CRel E As bad H μ ∧ RepsP E As H bad vs ds ∧ f ds = some (z, w) ∧ Fin E As bad H μ z w Q
def biV : Bi → Value
  | .len => .builtin "len"
  | .sum => .builtin "sum"
  | .max => .builtin "max"
  | .min => .builtin "min"
  | .abs => .builtin "abs"
  | .int => .type "int"
  | .tuple => .type "tuple"
  | .list => .type "list"
  | .repr => .builtin "repr"
  | .str => .type "str"
  | .bool => .type "bool"
  | .sorted => .builtin "sorted"
section
variable {E : En} {As : List Addr} {H : Hp} {bad : Addr → Prop}
theorem repsP1 {vs : List V} {d : D} (r : RepsP E As H bad vs [d]) : ∃ v, vs = [v] ∧ RepP E As H bad v d := by
  cases r with
  | cons a t =>
    cases t
    exact ⟨_, rfl, a⟩
theorem repsP2 {vs : List V} {d e : D} (r : RepsP E As H bad vs [d, e]) : ∃ v w, vs = [v, w] ∧ RepP E As H bad v d ∧ RepP E As H bad w e := by
  cases r with
  | cons a t =>
    cases t with
    | cons b t =>
      cases t
      exact ⟨_, _, rfl, a, b⟩
theorem ints_of : ∀ {vs : List V} {ds : List D} {ns : List Int}, Reps E As H bad vs ds → intsD ds = some ns → vs = ns.map V.int
  | _, [], _, r, e => by
    cases e
    cases r
    rfl
  | _, d :: ds, ns, r, e => by
    cases r with
    | cons a t =>
      cases d with
      | int i =>
        cases q : intsD ds with
        | none =>
          rw [show intsD (.int i :: ds) = (intsD ds).map (i :: ·) from rfl, q] at e
          cases e
        | some ms =>
          rw [show intsD (.int i :: ds) = (intsD ds).map (i :: ·) from rfl, q] at e
          cases e
          cases a
          rw [ints_of t q]
          rfl
      | _ => exact nomatch e
end
theorem sumL_eq : ∀ ns : List Int, sumL ns = ns.sum
  | [] => rfl
  | n :: ns => by
    rw [List.sum_cons, ← sumL_eq ns]
    rfl
theorem maxL_top : ∀ (ns : List Int) (m : Int), maxL m ns ∈ m :: ns ∧ ∀ y ∈ m :: ns, y ≤ maxL m ns
  | [], m => ⟨by simp [maxL], fun y h => by
    rw [List.mem_singleton] at h
    subst h
    exact Int.le_refl _⟩
  | n :: ns, m => by
    obtain ⟨h1, h2⟩ := maxL_top ns (if m < n then n else m)
    show maxL (if m < n then n else m) ns ∈ m :: n :: ns ∧ ∀ y ∈ m :: n :: ns, y ≤ maxL (if m < n then n else m) ns
    have hb := h2 (if m < n then n else m) (by simp)
    refine ⟨?_, fun y hy => ?_⟩
    · rcases List.mem_cons.mp h1 with q | q
      · rw [q]
        split <;> simp
      · exact List.mem_cons_of_mem _ (List.mem_cons_of_mem _ q)
    · rcases List.mem_cons.mp hy with q | q
      · subst q
        refine Int.le_trans ?_ hb
        split <;> omega
      · rcases List.mem_cons.mp q with q | q
        · subst q
          refine Int.le_trans ?_ hb
          split <;> omega
        · exact h2 y (List.mem_cons_of_mem _ q)
theorem minL_top : ∀ (ns : List Int) (m : Int), minL m ns ∈ m :: ns ∧ ∀ y ∈ m :: ns, minL m ns ≤ y
  | [], m => ⟨by simp [minL], fun y h => by
    rw [List.mem_singleton] at h
    subst h
    exact Int.le_refl _⟩
  | n :: ns, m => by
    obtain ⟨h1, h2⟩ := minL_top ns (if n < m then n else m)
    show minL (if n < m then n else m) ns ∈ m :: n :: ns ∧ ∀ y ∈ m :: n :: ns, minL (if n < m then n else m) ns ≤ y
    have hb := h2 (if n < m then n else m) (by simp)
    refine ⟨?_, fun y hy => ?_⟩
    · rcases List.mem_cons.mp h1 with q | q
      · rw [q]
        split <;> simp
      · exact List.mem_cons_of_mem _ (List.mem_cons_of_mem _ q)
    · rcases List.mem_cons.mp hy with q | q
      · subst q
        refine Int.le_trans hb ?_
        split <;> omega
      · rcases List.mem_cons.mp q with q | q
        · subst q
          refine Int.le_trans hb ?_
          split <;> omega
        · exact h2 y (List.mem_cons_of_mem _ q)
section
variable {X : Cx} {E : En} (hK : X.K = E.K) (hc : X.calm = true) (hu : X.A.units + 100 < cLine) (hG : X.A.guards = some [])
include hK hc hu hG
theorem sum_tup {pins : List (Addr × Obj)} {σ : L2.St} {H : Hp} {s : Shared} {a : Addr} {ns : List Int} {Q : VK} (I : Inv X pins σ H s) (h : SqT X.K H a (ns.map V.int)) (q : Q (.int ns.sum) H) :
    wpAny (model X.prog X.w) X.A (call (.builtin "sum") [.ref a]) (EP X pins σ Q) X.xe s := by
  obtain ⟨its, rv, p, _⟩ := I.tuple h
  have hi : IntsAre its.toArray.toList ns := by simpa using intsAre_of rv
  obtain ⟨xs, hx⟩ := hi.allInts.items
  have hn : numsOf its.toArray.toList = ns := hi.numsOf
  have hx' : its.toArray = intItems xs := by simpa using hx
  have pt : s.heap.IsTuple a its.toArray := p
  rw [hx'] at pt hn
  rw [nums_intItems] at hn
  refine PySem.W.ktm_sumG (I.ok.hd hc) pt fun h' tk t' hk => ?_
  rw [preSum_eq, List.take_of_length_le (by simp), hn]
  exact ⟨.int _, H, I.kept hk, ⟨_, rfl⟩, q⟩
theorem repr_ok : CallR X (.builtin "repr") (rB E (biD .repr)) := by
  intro pins s σ H vs us Q I r h
  obtain ⟨As, bad, μ, ds, z, w, c, ps, e, f⟩ := h
  match ds, e with
  | [d], e =>
    unfold biD at e
    dsimp only at e
    split at e
    · rename_i hz
      cases e
      obtain ⟨v, rfl, pv'⟩ := repsP1 ps
      unfold showOk at hz
      simp only [Bool.and_eq_true, decide_eq_true_eq] at hz
      obtain ⟨⟨⟨h1, h2⟩, h3⟩, h4⟩ := hz
      obtain ⟨u, rfl, ru⟩ := vals1 r
      have dp := pv'.dp h1
      rw [← hK] at dp
      obtain ⟨as, rd⟩ := Dp.reads I (py d) v u dp ru
      have hsz : (py d).shown.length ≤ sizeLine := Nat.le_trans (shown_le d h1 h2) h3
      have fq : Q (.str (py d).shown) H := f.same c (.str _)
      cases d with
      | non =>
        rw [show u = Value.none by rw [pv'.isnon] at ru; exact ru]
        exact P.repr_of_none ⟨.str _, H, I.tok _, ⟨_, rfl⟩, fq⟩
      | bl b =>
        rw [show u = Value.bool b by rw [pv'.bl] at ru; exact ru]
        exact P.repr_of_bool ⟨.str _, H, I.tok _, ⟨_, by cases b <;> rfl⟩, fq⟩
      | int i =>
        rw [pv'.int] at ru
        obtain ⟨t, rfl⟩ := ru
        exact P.repr_of_int (of_decide_eq_true h2) ⟨.str _, H, I.tok _, ⟨_, rfl⟩, fq⟩
      | str x =>
        rw [pv'.str] at ru
        obtain ⟨t, rfl⟩ := ru
        exact P.repr_of_str ⟨.str _, H, I.tok _, ⟨_, rfl⟩, fq⟩ hsz
      | tup xs =>
        obtain ⟨a, ws, rfl, _, _⟩ := pv'.tup
        cases ru
        exact repr_of_reads' rd h2 (PyData.noDict_hsm (noDict _ h1)) hG (by omega) (fun _ _ q => q) (fun h' u tk hk => ⟨.str _, H, I.kept hk, ⟨_, rfl⟩, fq⟩) hsz
      | lst xs =>
        obtain ⟨a, ws, rfl, _, _⟩ := pv'.lst
        cases ru
        exact repr_of_reads' rd h2 (PyData.noDict_hsm (noDict _ h1)) hG (by omega) (fun _ _ q => q) (fun h' u tk hk => ⟨.str _, H, I.kept hk, ⟨_, rfl⟩, fq⟩) hsz
      | dct _ => cases h1
      | cell _ => cases h1
      | fn _ => cases h1
    · cases e
  | [], e => cases e
  | _ :: _ :: _, e => exact nomatch e
theorem bi_ok (b : Bi) : CallR X (biV b) (rB E (biD b)) := by
  by_cases hb : b = .repr
  · subst hb
    exact repr_ok hK hc hu hG
  intro pins s σ H vs us Q I r h
  obtain ⟨As, bad, μ, ds, z, w, c, ps, e, f⟩ := h
  cases b with
  | repr => exact absurd rfl hb
  | len =>
    cases ds with
    | nil => exact nomatch e
    | cons x t => cases t with
      | cons _ _ => cases x <;> exact nomatch e
      | nil => cases x with
        | lst xs =>
          cases e
          obtain ⟨v, rfl, p⟩ := repsP1 ps
          obtain ⟨a, ws, rfl, l, q⟩ := p.lst
          have l' := l.sq
          rw [← hK] at l'
          exact call_len_seq pins s σ H _ us Q I r ⟨a, ws, rfl, .inl l', by rw [q.length]; exact f.same c (.int _)⟩
        | tup xs =>
          cases e
          obtain ⟨v, rfl, p⟩ := repsP1 ps
          obtain ⟨a, ws, rfl, l, q⟩ := p.tup
          rw [← hK] at l
          exact call_len_seq pins s σ H _ us Q I r ⟨a, ws, rfl, .inr l, by rw [q.length]; exact f.same c (.int _)⟩
        | str x =>
          unfold biD at e
          dsimp only at e
          split at e
          · rename_i hz
            cases e
            obtain ⟨v, rfl, p⟩ := repsP1 ps
            rw [p.str] at r
            exact call_len_str pins s σ H _ us Q I r ⟨x, rfl, hz, f.same c (.int _)⟩
          · cases e
        | _ => exact nomatch e
  | sum =>
    cases ds with
    | nil => exact nomatch e
    | cons x t => cases t with
      | cons _ _ => cases x <;> exact nomatch e
      | nil => cases x with
        | lst xs =>
          have e' : (intsD xs).map (fun ns => ((D.int (sumL ns)), false)) = some (z, w) := e
          cases q : intsD xs with
          | none =>
            rw [q] at e'
            cases e'
          | some ns =>
            rw [q] at e'
            cases e'
            obtain ⟨v, rfl, p⟩ := repsP1 ps
            obtain ⟨a, ws, rfl, l, g⟩ := p.lst
            have l' := l.sq
            rw [← hK, ints_of g q] at l'
            exact cr_sum hc pins s σ H _ us Q I r ⟨a, ns, rfl, l', by rw [← sumL_eq]; exact f.same c (.int _)⟩
        | tup xs =>
          have e' : (intsD xs).map (fun ns => ((D.int (sumL ns)), false)) = some (z, w) := e
          cases q : intsD xs with
          | none =>
            rw [q] at e'
            cases e'
          | some ns =>
            rw [q] at e'
            cases e'
            obtain ⟨v, rfl, p⟩ := repsP1 ps
            obtain ⟨a, ws, rfl, l, g⟩ := p.tup
            rw [← hK, ints_of g q] at l
            rw [Vals.ref1 r]
            exact sum_tup hK hc hu hG I l (by rw [← sumL_eq]; exact f.same c (.int _))
        | _ => exact nomatch e
  | max =>
    cases ds with
    | nil => exact nomatch e
    | cons x t => cases t with
      | cons y t2 => cases t2 with
        | cons _ _ => cases x with
          | lst l0 => cases l0 with
            | nil => exact nomatch e
            | cons x0 _ => cases x0 <;> exact nomatch e
          | _ => cases y <;> exact nomatch e
        | nil => cases x with
          | int i => cases y with
            | int j =>
              cases e
              obtain ⟨v, v2, rfl, p, p2⟩ := repsP2 ps
              rw [p.int, p2.int] at r
              exact call_max2 hc pins s σ H _ us Q I r ⟨i, j, rfl, f.same c (.int _)⟩
            | _ => exact nomatch e
          | lst l0 => cases l0 with
            | nil => exact nomatch e
            | cons x0 _ => cases x0 <;> exact nomatch e
          | _ => cases y <;> exact nomatch e
      | nil => cases x with
        | lst l0 => cases l0 with
          | nil => exact nomatch e
          | cons x0 xs => cases x0 with
            | int i =>
              have e' : (intsD xs).map (fun ns => ((D.int (maxL i ns)), false)) = some (z, w) := e
              cases q : intsD xs with
              | none =>
                rw [q] at e'
                cases e'
              | some ns =>
                rw [q] at e'
                cases e'
                obtain ⟨v, rfl, p⟩ := repsP1 ps
                obtain ⟨a, ws, rfl, l, g⟩ := p.lst
                have l' := l.sq
                have q2 : intsD (.int i :: xs) = some (i :: ns) := by
                  show (intsD xs).map (i :: ·) = _
                  rw [q]
                  rfl
                rw [← hK, ints_of g q2] at l'
                refine cr_max hc pins s σ H _ us Q I r ⟨a, i :: ns, rfl, l', by simp, fun m h1 h2 => ?_⟩
                obtain ⟨t1, t2⟩ := maxL_top ns i
                rw [show m = maxL i ns from Int.le_antisymm (t2 m h1) (h2 _ t1)]
                exact f.same c (.int _)
            | _ => exact nomatch e
        | _ => exact nomatch e
  | min =>
    cases ds with
    | nil => exact nomatch e
    | cons x t => cases t with
      | cons y t2 => cases t2 with
        | cons _ _ => cases x with
          | lst l0 => cases l0 with
            | nil => exact nomatch e
            | cons x0 _ => cases x0 <;> exact nomatch e
          | _ => cases y <;> exact nomatch e
        | nil => cases x with
          | int i => cases y with
            | int j =>
              cases e
              obtain ⟨v, v2, rfl, p, p2⟩ := repsP2 ps
              rw [p.int, p2.int] at r
              exact call_min2 hc pins s σ H _ us Q I r ⟨i, j, rfl, f.same c (.int _)⟩
            | _ => exact nomatch e
          | lst l0 => cases l0 with
            | nil => exact nomatch e
            | cons x0 _ => cases x0 <;> exact nomatch e
          | _ => cases y <;> exact nomatch e
      | nil => cases x with
        | lst l0 => cases l0 with
          | nil => exact nomatch e
          | cons x0 xs => cases x0 with
            | int i =>
              have e' : (intsD xs).map (fun ns => ((D.int (minL i ns)), false)) = some (z, w) := e
              cases q : intsD xs with
              | none =>
                rw [q] at e'
                cases e'
              | some ns =>
                rw [q] at e'
                cases e'
                obtain ⟨v, rfl, p⟩ := repsP1 ps
                obtain ⟨a, ws, rfl, l, g⟩ := p.lst
                have l' := l.sq
                have q2 : intsD (.int i :: xs) = some (i :: ns) := by
                  show (intsD xs).map (i :: ·) = _
                  rw [q]
                  rfl
                rw [← hK, ints_of g q2] at l'
                refine cr_min hc pins s σ H _ us Q I r ⟨a, i :: ns, rfl, l', by simp, fun m h1 h2 => ?_⟩
                obtain ⟨t1, t2⟩ := minL_top ns i
                rw [show m = minL i ns from Int.le_antisymm (h2 _ t1) (t2 m h1)]
                exact f.same c (.int _)
            | _ => exact nomatch e
        | _ => exact nomatch e
  | abs =>
    cases ds with
    | nil => exact nomatch e
    | cons x t => cases t with
      | cons _ _ => cases x <;> exact nomatch e
      | nil => cases x with
        | int i =>
          cases e
          obtain ⟨v, rfl, p⟩ := repsP1 ps
          rw [p.int] at r
          exact call_abs pins s σ H _ us Q I r ⟨i, rfl, f.same c (.int _)⟩
        | _ => exact nomatch e
  | int =>
    cases ds with
    | nil => exact nomatch e
    | cons x t => cases t with
      | cons _ _ => cases x <;> exact nomatch e
      | nil => cases x with
        | int i =>
          cases e
          obtain ⟨v, rfl, p⟩ := repsP1 ps
          rw [p.int] at r
          exact call_int1 pins s σ H _ us Q I r (.inl ⟨i, rfl, f.same c (.int _)⟩)
        | bl b =>
          cases e
          obtain ⟨v, rfl, p⟩ := repsP1 ps
          rw [p.bl] at r
          exact call_int1 pins s σ H _ us Q I r (.inr ⟨b, rfl, f.same c (.int _)⟩)
        | _ => exact nomatch e
  | bool =>
    cases ds with
    | nil => exact nomatch e
    | cons x t => cases t with
      | cons _ _ => cases x <;> exact nomatch e
      | nil => cases x with
        | bl b =>
          cases e
          obtain ⟨v, rfl, p⟩ := repsP1 ps
          rw [p.bl] at r
          exact call_bool1 pins s σ H _ us Q I r (.inr ⟨b, rfl, f.same c (.bl _)⟩)
        | _ => exact nomatch e
  | tuple =>
    cases ds with
    | nil => exact nomatch e
    | cons x t => cases t with
      | cons _ _ => cases x <;> exact nomatch e
      | nil => cases x with
        | lst xs =>
          cases e
          obtain ⟨v, rfl, p⟩ := repsP1 ps
          obtain ⟨a, ws, rfl, l, q⟩ := p.lst
          have l' := l.sq
          rw [← hK] at l'
          exact call_tuple_of pins s σ H _ us Q I r ⟨a, ws, rfl, .inl ⟨l', f.tup c q⟩⟩
        | tup xs =>
          cases e
          obtain ⟨v, rfl, p⟩ := repsP1 ps
          rcases p with p | ⟨_, _, _, _, q, _⟩
          · have p2 : RepP E As H bad v (.tup xs) := .inl p
            obtain ⟨a, ws, rfl, l, q⟩ := p2.tup
            rw [← hK] at l
            exact call_tupleT pins s σ H _ us Q I r ⟨a, ws, rfl, l, f.same c p⟩
          · cases q
        | _ => exact nomatch e
  | list =>
    cases ds with
    | nil => exact nomatch e
    | cons x t => cases t with
      | cons _ _ => cases x <;> exact nomatch e
      | nil => cases x with
        | lst xs =>
          cases e
          obtain ⟨v, rfl, p⟩ := repsP1 ps
          obtain ⟨a, ws, rfl, l, q⟩ := p.lst
          have l' := l.sq
          rw [← hK] at l'
          exact call_list_of pins s σ H _ us Q I r ⟨a, ws, rfl, .inl l', f.lst c q⟩
        | tup xs =>
          cases e
          obtain ⟨v, rfl, p⟩ := repsP1 ps
          obtain ⟨a, ws, rfl, l, q⟩ := p.tup
          rw [← hK] at l
          exact call_list_of pins s σ H _ us Q I r ⟨a, ws, rfl, .inr l, f.lst c q⟩
        | _ => exact nomatch e
  | str =>
    cases ds with
    | nil => exact nomatch e
    | cons x t => cases t with
      | cons _ _ => cases x <;> exact nomatch e
      | nil => cases x with
        | int i =>
          unfold biD at e
          dsimp only at e
          split at e
          · rename_i hz
            cases e
            obtain ⟨v, rfl, p⟩ := repsP1 ps
            rw [p.int] at r
            exact call_str_int pins s σ H _ us Q I r ⟨i, rfl, hz, f.same c (.str _)⟩
          · cases e
        | _ => exact nomatch e
  | sorted =>
    cases ds with
    | nil => exact nomatch e
    | cons x t => cases t with
      | cons _ _ => cases x <;> exact nomatch e
      | nil => cases x with
        | lst xs =>
          unfold biD at e
          dsimp only at e
          split at e
          · rename_i hz
            cases e
            obtain ⟨v, rfl, p⟩ := repsP1 ps
            obtain ⟨a, ws, rfl, l, g⟩ := p.lst
            have l' := l.sq
            rw [← hK] at l'
            cases q : intsD xs with
            | some ns =>
              rw [ints_of g q] at l'
              refine L2.cr_sortedI pins s σ H _ us Q I r ⟨a, ns, rfl, l', fun ns' p h1 h2 hp => ?_⟩
              have e1 := Sr.ints_isort h1 h2
              rw [← Sr.intsD_map q] at e1
              refine f.lst c ?_ p hp
              rw [← e1]
              exact Sr.reps_ints _
            | none =>
              cases q2 : keyDs xs with
              | none =>
                unfold srtOk at hz
                rw [q, q2] at hz
                cases hz
              | some ks =>
                have al : (ks.all fun x => ks.all fun y => alikeK x y) = true := by
                  unfold srtOk at hz
                  rw [q, q2] at hz
                  simpa using hz
                rw [Vals.ref1 r]
                exact Sr.sorted_tups hK I l' g q2 al fun vs rv p hp => f.lst c rv p hp
          · cases e
        | _ => exact nomatch e
end
end Z
end

section
set_option Elab.async false
set_option autoImplicit false
set_option linter.all false
set_option maxRecDepth 100000
set_option maxHeartbeats 1000000
/-! Subscripts, slices, methods, isinstance over trees. -/
namespace Z
open PySem PySem.Spec PyProof.Rows L2

theorem rev_adjust (n : Nat) : Builtin.Slice.sliceAdjust none none (-1) (n : Int) = ((n : Int) - 1, -1) := by
  unfold Builtin.Slice.sliceAdjust
  simp
theorem rev_places (n : Nat) : Builtin.Slice.slicePlaces ((n : Int) - 1) (-1) (-1) = n := by
  unfold Builtin.Slice.slicePlaces
  have h1 : ¬ ((-1 : Int) > 0) := by omega
  rw [if_neg h1]
  by_cases h : (n : Int) - 1 > -1
  · rw [if_pos h]
    have : ((n : Int) - 1 - -1 - 1) / - -1 = (n : Int) - 1 := by
      rw [show (- -1 : Int) = 1 from rfl, Int.ediv_one]
      omega
    rw [this]
    omega
  · rw [if_neg h]
    omega
theorem fmc {α β : Type} {f g : α → Option β} : ∀ {l : List α}, (∀ x ∈ l, f x = g x) → l.filterMap f = l.filterMap g
  | [], _ => rfl
  | x :: l, h => by
    rw [List.filterMap_cons, List.filterMap_cons, h x (List.mem_cons_self), fmc fun y hy => h y (List.mem_cons_of_mem _ hy)]
theorem rev_fm : ∀ (xs : List Value) (k : Nat), k ≤ xs.length → ((List.range k).filterMap fun (m : Nat) => xs.toArray[(((k : Int) - 1) + (m : Int) * (-1)).toNat]?) = (xs.take k).reverse := by
  intro xs k hk
  have e : ((List.range k).filterMap fun (m : Nat) => xs.toArray[(((k : Int) - 1) + (m : Int) * (-1)).toNat]?) = ((List.range k).filterMap fun (m : Nat) => (xs.take k).reverse[m]?) := by
    apply fmc
    intro m hm
    have hm' : m < k := List.mem_range.mp hm
    have e1 : (((k : Int) - 1) + (m : Int) * (-1)).toNat = k - 1 - m := by omega
    rw [e1, List.getElem?_toArray, List.getElem?_reverse (by rw [List.length_take]; omega), List.length_take, Nat.min_eq_left hk, List.getElem?_take_of_lt (by omega)]
  rw [e]
  have g : ∀ ys : List Value, ((List.range ys.length).filterMap fun (m : Nat) => ys[m]?) = ys := by
    intro ys
    induction ys with
    | nil => rfl
    | cons y ys ih =>
      rw [List.length_cons, List.range_succ_eq_map, List.filterMap_cons]
      show y :: _ = y :: ys
      rw [List.filterMap_map]
      congr 1
  have := g (xs.take k).reverse
  rw [List.length_reverse, List.length_take, Nat.min_eq_left hk] at this
  exact this
section
variable {prog : Program} {w : World} {A : Around} {E : Value → Shared → Prop} {s : Shared}
theorem getItem_tuple_rev {t sl : Addr} {items : List Value} {vl vu vs : Value} {Q : Value → Shared → Prop} (ht : IsTup s.heap t items.toArray) (hs : s.heap.IsSliceOf sl vl vu vs) (pl : IsPart vl none) (pu : IsPart vu none) (ps : IsPart vs (some (-1)))
    (h : Q (.ref s.heap.objs.size) { s with heap := s.heap.push { cls := .type "tuple", data := .seq items.reverse.toArray } })
    (hsz : items.length ≤ sizeLine) : wpAny (model prog w) A (getItem (.ref t) (.ref sl)) Q E s := by
  have htake : sizeOk (.seq items.reverse.toArray) := by
    show items.reverse.toArray.size ≤ sizeLine
    rw [List.size_toArray, List.length_reverse]
    exact hsz
  obtain ⟨os, hos, hcs, hds⟩ := id hs
  have hTs : s.TypeIs (.ref sl) "slice" := ⟨os, hos, hcs⟩
  unfold getItem
  try with_reducible refine wpAny_holding ?_
  first | refine wpAny_bind (wpAny_pure ?_) | skip
  refine wpAny_bind (wpAny_sequenceKey ht.typeIs (by decide) ?_)
  refine wpAny_bind (wpAny_callSpecial?_slot (name := Str.ofString "__getitem__") ht.typeIs PyProof.Rows.slot_tuple_getitem
    (wpAny_call_entry PyProof.Rows.slot_tuple_getitem ht.typeIs entry_tuple_getitem ?_ (args_tuple_getitem _ _)))
  show wpAny _ _ (Builtin.Tuple.tupleItemsOf (.ref t) >>= _) _ _ s
  refine wpAny_bind (tupleItemsOf_ ht ?_)
  refine wpAny_bind (wpAny_typeOf hTs ?_)
  rw [if_pos (by decide)]
  refine wpAny_bind ?_
  unfold Builtin.Slice.sliceApplied Builtin.Slice.sliceFields
  refine wpAny_bind (wpAny_bind (wpAny_field hos hds (x := vl) rfl (wpAny_bind (wpAny_field hos hds (x := vu) rfl (wpAny_bind (wpAny_field hos hds (x := vs) rfl (wpAny_pure ?_)))))))
  refine wpAny_bind (HT.slicePart_ ps ?_)
  show wpAny _ _ (if ((-1 : Int) == 0) = true then _ else _) _ _ s
  rw [if_neg (by decide)]
  refine wpAny_bind (HT.slicePart_ pl (wpAny_bind (HT.slicePart_ pu (wpAny_bind (wpAny_pure ?_)))))
  show wpAny _ _ (match Builtin.Slice.sliceAdjust none none (-1) (items.toArray.size : Int) with | (lo, hi) => pure (lo, (-1 : Int), Builtin.Slice.slicePlaces lo hi (-1))) _ _ s
  rw [rev_adjust]
  show wpAny _ _ (pure (((items.toArray.size : Int) - 1), (-1 : Int), Builtin.Slice.slicePlaces ((items.toArray.size : Int) - 1) (-1) (-1))) _ _ s
  rw [rev_places]
  refine wpAny_pure ?_
  have hno : ¬ ((((items.toArray.size : Int) - 1) == 0 && (-1 : Int) == 1 && items.toArray.size == items.toArray.size) = true) := by
    intro q
    rw [Bool.and_eq_true, Bool.and_eq_true] at q
    exact absurd (eq_of_beq q.1.2) (by decide)
  show wpAny _ _ (if ((((items.toArray.size : Int) - 1) == 0 && (-1 : Int) == 1 && items.toArray.size == items.toArray.size) = true) then _ else _) _ _ s
  have hp : ((List.range items.toArray.size).filterMap fun (m : Nat) => items.toArray[(((items.toArray.size : Int) - 1) + (m : Int) * (-1)).toNat]?).toArray = items.reverse.toArray := by
    rw [List.size_toArray, rev_fm items items.length (Nat.le_refl _), List.take_length]
  rw [if_neg hno, hp]
  first
    | exact wpAny_bind (m := Builtin.Tuple.tupleExact _) (wpAny_newObj_type (wpAny_pure ⟨_, rfl, wpAny_pure h⟩) htake)
    | exact wpAny_bind (m := Builtin.Tuple.tupleExact _) (wpAny_newObj_type (wpAny_bind (wpAny_pure (wpAny_pure ⟨_, rfl, wpAny_pure h⟩))) htake)
    | exact wpAny_bind (wpAny_bind (m := Builtin.Tuple.tupleExact _) (wpAny_newObj_type (wpAny_pure (wpAny_pure ⟨_, rfl, wpAny_pure h⟩)) htake))
    | exact wpAny_bind (wpAny_bind (m := Builtin.Tuple.tupleExact _) (wpAny_newObj_type (wpAny_pure ⟨_, rfl, wpAny_pure h⟩) htake))
end
theorem atI_len {α β : Type} {xs : List α} {ys : List β} (h : xs.length = ys.length) {i : Int} {y : β} (e : atI ys i = some y) : ∃ j, ixN xs.length i = some j ∧ ys[j]? = some y := by
  unfold atI at e
  rw [h]
  cases q : ixN ys.length i with
  | none =>
    rw [q] at e
    cases e
  | some j =>
    rw [q] at e
    exact ⟨j, rfl, e⟩
section
variable {E : En} {As : List Addr} {H : Hp} {bad : Addr → Prop}
theorem Reps.atI {vs : List V} {ds : List D} {i : Int} {d : D} (r : Reps E As H bad vs ds) (e : L2.atI ds i = some d) : ∃ v, L2.atI vs i = some v ∧ Rep E As H bad v d := by
  obtain ⟨j, h1, h2⟩ := atI_len r.length e
  obtain ⟨v, h3, h4⟩ := r.get h2
  refine ⟨v, ?_, h4⟩
  unfold L2.atI
  rw [h1]
  exact h3
end
def subF (μ : Mu) (x y : D) : Option (D × Bool) := match subC μ x y with
  | some d => some (d, false)
  | none => none
/-- a subscript by values -/
def rS (E : En) : R2 := fun vx vy H Q => ∃ As bad μ x y z, CRel E As bad H μ ∧ RepP E As H bad vx x ∧ RepP E As H bad vy y ∧ subC μ x y = some z ∧ Fin E As bad H μ z false Q
/-- a slice by values -/
def rC (E : En) : V → Option Int → Option Int → Hp → VK → Prop := fun vx lo hi H Q => ∃ As bad μ x z w, CRel E As bad H μ ∧ RepP E As H bad vx x ∧ slcD x lo hi = some (z, w) ∧ Fin E As bad H μ z w Q
theorem cut_reps {E : En} {As : List Addr} {H : Hp} {bad : Addr → Prop} {vs : List V} {ds : List D} (r : Reps E As H bad vs ds) (lo hi : Option Int) : Reps E As H bad (cutV vs lo hi) (cutD ds lo hi) := by
  unfold cutV cutD
  rw [r.length]
  exact (r.drop _).take _
section
variable {X : Cx} {E : En} (hK : X.K = E.K)
include hK
theorem sub_ok : IxR X (rS E) := by
  intro value slice pins s σ H vx vy v u Q I rx ry h hs
  obtain ⟨As, bad, μ, x, y, z, c, px, py', e, f⟩ := h
  cases x with
  | lst xs => cases y with
    | int i =>
      have e' : L2.atI xs i = some z := e
      obtain ⟨a, vs, rfl, l, r⟩ := px.lst
      obtain ⟨w, h1, h2⟩ := r.atI e'
      have l' := l.sq
      rw [← hK] at l'
      rw [py'.int] at ry
      exact ix_list value slice pins s σ H _ _ v u Q I rx ry ⟨a, vs, i, w, rfl, rfl, l', h1, f.same c h2⟩ hs
    | _ => exact nomatch e
  | tup xs => cases y with
    | int i =>
      have e' : L2.atI xs i = some z := e
      obtain ⟨a, vs, rfl, l, r⟩ := px.tup
      obtain ⟨w, h1, h2⟩ := r.atI e'
      rw [← hK] at l
      rw [py'.int] at ry
      exact ix_tup value slice pins s σ H _ _ v u Q I rx ry ⟨a, vs, i, w, rfl, rfl, l, h1, f.same c h2⟩ hs
    | _ => exact nomatch e
  | cell n =>
    cases q : μ[n]? with
    | none =>
      unfold subC at e
      dsimp only at e
      rw [q] at e
      cases e
    | some ds => cases y with
      | int i =>
        unfold subC at e
        dsimp only at e
        rw [q] at e
        have e' : L2.atI ds i = some z := e
        rcases px with px | ⟨_, _, _, _, z2, _⟩
        · cases px with
          | cell hn =>
            rename_i a
            obtain ⟨vs, h1, r⟩ := c.cel n a ds hn q
            obtain ⟨w, h2, h3⟩ := r.atI e'
            rw [py'.int] at ry
            exact ix_list value slice pins s σ H _ _ v u Q I rx ry ⟨a, vs, i, w, rfl, rfl, .inl (.inl h1), h2, f.same c h3⟩ hs
        · cases z2
      | _ =>
        unfold subC at e
        dsimp only at e
        rw [q] at e
        exact nomatch e
  | _ => cases y <;> exact nomatch e
theorem slc_ok : SlR X (rC E) := by
  intro pins s σ H vx v vl vu lo hi sl Q I rx hs pl pu h
  obtain ⟨As, bad, μ, x, z, w, c, px, e, f⟩ := h
  cases x with
  | lst xs =>
    cases e
    obtain ⟨a, vs, rfl, l, r⟩ := px.lst
    have l' := l.sq
    rw [← hK] at l'
    exact sl_list pins s σ H _ v vl vu lo hi sl Q I rx hs pl pu ⟨a, vs, rfl, l', f.lst c (cut_reps r lo hi)⟩
  | tup xs =>
    cases e
    obtain ⟨a, vs, rfl, l, r⟩ := px.tup
    rw [← hK] at l
    refine sl_tupA pins s σ H _ v vl vu lo hi sl Q I rx hs pl pu ⟨a, vs, rfl, l, fun hw => ?_, fun _ => f.tup c (cut_reps r lo hi)⟩
    rcases px with p | ⟨_, _, _, _, q, _⟩
    · refine f.same c ?_
      have e1 : cutD xs lo hi = xs := by
        unfold cutD
        rw [← r.length, hw.1, hw.2, List.drop_zero, Nat.sub_zero, r.length, List.take_length]
      rw [e1]
      exact p
    · cases q
  | _ => exact nomatch e
/-- list[::-1] by values -/
theorem rev_ok {e : Expr} {te : TE} {k : Nat} {p1 p2 p3 pos : Pos} (he : PE X e te) :
    PE X (.Subscript e (.Slice none none (some (.UnaryOp .USub (.Constant (.int 1) k p1) p2)) p3) pos)
      (fun σ H Q => te σ H fun x H1 => ∃ As bad μ d z w, CRel E As bad H1 μ ∧ RepP E As H1 bad x d ∧ revD d = some (z, w) ∧ Fin E As bad H1 μ z w Q) := by
  refine ⟨fun pins s σ H Q I h => ?_⟩
  refine Subscript_ (thn (he.run pins s σ H _ I h) fun v s1 ⟨x, H1, I1, r1, q1⟩ => ?_)
  obtain ⟨As, bad, μ, d, z, w, c, px, er, f⟩ := q1
  have hst : PO X (some (.UnaryOp .USub (.Constant (.int 1) k p1) p2)) (tPart (tUn (rU fun i => .int (-i)) (tC (.int 1)))) := po_some (pe_un un_neg pe_int)
  refine wpAny_Slice (thn (po_none.run pins s1 σ H1 (fun o H2 => o = none ∧ H2 = H1) I1 ⟨rfl, rfl⟩) fun vl s2 ⟨l, H2, I2, pl, el, e2⟩ => ?_)
  subst el e2
  refine thn (po_none.run pins s2 σ H2 (fun o H3 => o = none ∧ H3 = H2) I2 ⟨rfl, rfl⟩) fun vu s3 ⟨u, H3, I3, pu, eu, e3⟩ => ?_
  subst eu e3
  refine thn (hst.run pins s3 σ H3 (fun o H4 => o = some (-1) ∧ H4 = H3) I3 ⟨1, rfl, -1, rfl, rfl, rfl⟩) fun vst s4 ⟨o, H4, I4, ps, eo, e4⟩ => ?_
  subst eo e4
  have I5 : Inv X pins σ H4 { s4 with heap := s4.heap.push { cls := .type "slice", data := .fields #[vl, vu, vst] } } := I4.kept (t' := s4.toks) fun b ob q => Heap.get?_push_of_some _ q
  cases d with
  | lst xs =>
    cases er
    obtain ⟨a, vs, rfl, l, r⟩ := px.lst
    have l' := l.sq
    rw [← hK] at l'
    cases r1
    obtain ⟨its, rv, ht, hz⟩ := I5.list l'
    have hlen := rv.length
    refine tail_any (ops := [.ref a, .ref s4.heap.objs.size]) ht.isList.typeIs (PySem.slot_list_getitem.lookup) ?_ (by with_unfolding_all rfl)
    refine wpAny_getItem_list_slice ht.isList (Heap.IsSliceOf.new _ vl vu vst) pl pu ps (by decide) ?_ (by rw [List.size_toArray]; omega)
    rw [PySem.W.krv_pick]
    refine ⟨.ref _, _, I5.laid (t' := s4.toks) (o := .lst vs.reverse) (fun b ob q => Heap.get?_push_of_some _ q) (Nat.le_refl _) ?_, rfl, f.lst c r.reverse _ (I5.hok.fresh (Nat.le_refl _))⟩
    exact ⟨by rw [List.length_reverse]; exact hz, _, 0, rv.reverse, Heap.get?_push_size _ rfl⟩
  | tup xs =>
    cases er
    obtain ⟨a, vs, rfl, l, r⟩ := px.tup
    rw [← hK] at l
    cases r1
    obtain ⟨its, rv, ht, hz⟩ := I5.tuple l
    refine tail_any (ops := [.ref a, .ref s4.heap.objs.size]) ht.typeIs (PyProof.Rows.slot_tuple_getitem.lookup) ?_ (by with_unfolding_all rfl)
    refine getItem_tuple_rev ht (Heap.IsSliceOf.new _ vl vu vst) pl pu ps ?_ (by rw [← rv.length]; exact hz)
    refine ⟨.ref _, _, I5.laid (t' := s4.toks) (o := .tup vs.reverse) (fun b ob q => Heap.get?_push_of_some _ q) (Nat.le_refl _) ?_, rfl, f.tup c r.reverse _ (I5.hok.fresh (Nat.le_refl _))⟩
    exact ⟨by rw [List.length_reverse]; exact hz, _, rv.reverse, IsTup.new _ _⟩
  | _ => exact nomatch er
end
end Z
end

section
set_option Elab.async false
set_option autoImplicit false
set_option linter.all false
set_option maxRecDepth 100000
set_option maxHeartbeats 1000000
/-! Methods and isinstance over trees. -/
namespace Z
open PySem PySem.Spec PyProof.Rows L2

theorem pyL_get : ∀ (ds : List D) (i : Nat), (pyL ds)[i]? = (ds[i]?).map py
  | [], i => by simp [pyL]
  | d :: ds, 0 => by simp [pyL]
  | d :: ds, i + 1 => by simpa [pyL] using pyL_get ds i
theorem idxD_spec (d : D) : ∀ (ds : List D) (k n : Nat), idxD d ds k = some n → ∃ j z, n = k + j ∧ ds[j]? = some z ∧ eqD z d = true ∧ ∀ m z', m < j → ds[m]? = some z' → eqD z' d = false
  | [], _, _, h => by cases h
  | e :: r, k, n, h => by
    unfold idxD at h
    split at h
    · rename_i q
      cases h
      refine ⟨0, e, rfl, rfl, q, fun m _ hm => absurd hm (Nat.not_lt_zero m)⟩
    · rename_i q
      obtain ⟨j, z, h1, h2, h3, h4⟩ := idxD_spec d r (k + 1) n h
      refine ⟨j + 1, z, by omega, by simpa using h2, h3, fun m z' hm hz => ?_⟩
      cases m with
      | zero =>
        simp at hz
        subst hz
        simpa using q
      | succ m => exact h4 m z' (by omega) (by simpa using hz)
/-- the same of data -/
theorem idx_py {d : D} {ds : List D} {n : Nat} (h : idxD d ds 0 = some n) : ∃ z, (pyL ds)[n]? = some z ∧ PyData.eqv z (py d) = true ∧ ∀ (m : Nat) (z' : PyData), m < n → (pyL ds)[m]? = some z' → PyData.eqv z' (py d) = false := by
  obtain ⟨j, z, h1, h2, h3, h4⟩ := idxD_spec d ds 0 n h
  have e : n = j := by omega
  subst e
  refine ⟨py z, by rw [pyL_get, h2]; rfl, h3, fun m z' hm hz => ?_⟩
  rw [pyL_get] at hz
  cases q : ds[m]? with
  | none =>
    rw [q] at hz
    cases hz
  | some y =>
    rw [q] at hz
    cases hz
    exact h4 m y hm q
/-- a method by values -/
def rM (E : En) (f : D → List D → Option (D × Bool)) : V → List V → Hp → VK → Prop := fun vx vs H Q => ∃ As bad μ x ds z w, CRel E As bad H μ ∧ RepP E As H bad vx x ∧ RepsP E As H bad vs ds ∧ f x ds = some (z, w) ∧ Fin E As bad H μ z w Q
/-- .. of a tuple of the written part -/
def rMT (E : En) (xs : List D) : V → List V → Hp → VK → Prop := fun vx vs H Q => ∃ As bad μ a ws d n, vx = .ref a ∧ KTs E.K a ws ∧ CRel E As bad H μ ∧ Reps E As H bad ws xs ∧ RepsP E As H bad vs [d] ∧ eqOk d = true ∧ eqOk (.tup xs) = true ∧ idxD d xs 0 = some n ∧ Fin E As bad H μ (.int n) false Q
section
variable {X : Cx} {E : En} (hK : X.K = E.K) (hu : X.A.units + 65 < cLine)
include hK hu
theorem mt_indexL : MtR X "list.index" (rM E (mdD .indexL)) := by
  intro pins s σ H vx vs v us Q I rx rs h
  obtain ⟨As, bad, μ, x, ds, z, w, c, px, ps, e, f⟩ := h
  cases x with
  | lst xs =>
    cases ds with
    | nil => cases e
    | cons d r =>
      cases r with
      | cons _ _ => cases e
      | nil =>
        unfold mdD at e
        dsimp only at e
        split at e
        · rename_i hz
          cases q : idxD d xs 0 with
          | none =>
            rw [q] at e
            cases e
          | some n =>
            rw [q] at e
            cases e
            obtain ⟨h1, h2⟩ := Bool.and_eq_true_iff.mp hz
            obtain ⟨a1, a2⟩ := Bool.and_eq_true_iff.mp h1
            obtain ⟨b1, b2⟩ := Bool.and_eq_true_iff.mp h2
            obtain ⟨y, rfl, ry⟩ := repsP1 ps
            obtain ⟨a, ws, rfl, l, rr⟩ := px.lst
            obtain ⟨zz, k1, k2, k3⟩ := idx_py q
            refine mt_indexD (by omega) pins s σ H _ _ v us Q I rx rs ⟨a, y, py d, pyL xs, n, zz, rfl, rfl, ?_, ?_, b2, a2, k1, k2, k3, f.same c (.int _)⟩
            · rw [hK]
              exact px.dp b1
            · rw [hK]
              exact ry.dp a1
        · cases e
  | _ => cases ds <;> exact nomatch e
theorem mt_indexT (xs : List D) : MtR X "tuple.index" (rMT E xs) := by
  intro pins s σ H vx vs v us Q I rx rs h
  obtain ⟨As, bad, μ, a, ws, d, n, rfl, l, c, rr, ps, h1, h2, q, f⟩ := h
  obtain ⟨y, rfl, ry⟩ := repsP1 ps
  obtain ⟨a1, a2⟩ := Bool.and_eq_true_iff.mp h1
  obtain ⟨b1, b2⟩ := Bool.and_eq_true_iff.mp h2
  obtain ⟨z, hz, hzj, hno⟩ := idx_py q
  obtain ⟨uy, rfl, ruy⟩ := vals1 rs
  cases rx
  have dy : Dp X.K H y (py d) := by
    rw [hK]
    exact ry.dp a1
  have da : DpAll X.K H ws (pyL xs) := by
    rw [hK]
    exact rr.dp b1
  obtain ⟨bs, r1⟩ := Dp.reads I (py d) y uy dy ruy
  have hxs : PyData.canLayAll0 (pyL xs) = true := SeqAt.canLay_of_shaped b2
  have hroom : X.A.units + 1 + min (PyData.depthAll (pyL xs)) (py d).depth < cLine := room_in_shaped a2 hu
  obtain ⟨its, m, hk, hl, rv⟩ := l
  rw [← hK] at hk
  have ho := I.kIn _ _ hk
  obtain ⟨as, h4⟩ := Dp.readsAll I (pyL xs) _ its da rv
  have hn : its.length = (pyL xs).length := SeqAt.ReadsAll.length (pyL xs) its as h4
  have hmap : its.map (SeqAt.readOf s.heap) = pyL xs := SeqAt.readsAll_map (pyL xs) its as hxs h4
  have hvl := rv.length
  obtain ⟨hjd, _⟩ := List.getElem?_eq_some_iff.mp hz
  have hjl : n < its.length := by omega
  have hj : n < its.toArray.size := by simpa using hjl
  have at_ : ∀ (m : Nat) (hm : m < its.toArray.size) (z' : PyData), (pyL xs)[m]? = some z' → SeqAt.readOf s.heap its.toArray[m] = z' := by
    intro m hm z' hz'
    have hml : m < its.length := by simpa using hm
    rw [← hmap, List.getElem?_map, List.getElem?_eq_getElem hml] at hz'
    have e1 : SeqAt.readOf s.heap its[m] = z' := Option.some.inj (show some (SeqAt.readOf s.heap its[m]) = some z' from hz')
    simpa using e1
  refine call_meets PySem.F.slot_tuple_index ⟨_, ho, rfl⟩ PySem.F.entry_tuple_index (PySem.F.args_tuple_index_2 _ _)
    (TI.tuple_indexAt a its.toArray m none #[] uy (fun u => PyData.eqv (SeqAt.readOf s.heap u) (py d)) n hj ?_ ?_) ⟨ho, SeqAt.items_eqAt (vs := its.toArray) (show ReadsAll s.heap its.toArray.toList (pyL xs) as from h4) r1 hxs (SeqAt.canLay_of_shaped a2) hroom, ?_⟩
  · show PyData.eqv (SeqAt.readOf s.heap its.toArray[n]) (py d) = true
    rw [at_ n hj z hz]
    exact hzj
  · intro m' hm hmj
    have hmd : m' < (pyL xs).length := by omega
    have hz' : (pyL xs)[m']? = some (pyL xs)[m'] := List.getElem?_eq_getElem hmd
    show PyData.eqv (SeqAt.readOf s.heap its.toArray[m']) (py d) = false
    rw [at_ m' hm _ hz']
    exact hno m' _ hmj hz'
  · exact ⟨.int (n : Nat), H, I.tok _, ⟨_, rfl⟩, f.same c (.int _)⟩
end
/-- isinstance by values -/
def rT (E : En) (t : String) : List V → Hp → VK → Prop := fun vs H Q => ∃ As bad μ v x, vs = [v, .ty t] ∧ CRel E As bad H μ ∧ RepP E As H bad v x ∧ plain1 x = true ∧ Fin E As bad H μ (.bl (isT t x)) false Q
def tyD : D → String
  | .non => "NoneType"
  | .bl _ => "bool"
  | .int _ => "int"
  | .str _ => "str"
  | .tup _ => "tuple"
  | _ => "list"
theorem RepP.ty {E : En} {As : List Addr} {H : Hp} {bad : Addr → Prop} {v : V} {d : D} (r : RepP E As H bad v d) (h : plain1 d = true) : TyX E.K H v (.type (tyD d)) := by
  rcases r with r | ⟨a, vs, ds, rfl, rfl, h3, h4, h5⟩
  · cases r with
    | non => exact .base .non
    | bl b => exact .base (.bl b)
    | int i => exact .base (.int i)
    | str x => exact .base (.str x)
    | lst r n q =>
      rcases r with r | ⟨o, r⟩
      · exact .base (.lst r)
      · exact .base (.frz r)
    | lstK r q =>
      obtain ⟨its, n, h1, h2, h3⟩ := r
      exact .kList h1 rfl
    | tup r n q =>
      rcases r with r | ⟨o, r⟩
      · exact .base (.tup r)
      · exact .fTuple r
    | tupK r q =>
      obtain ⟨its, n, h1, h2, h3⟩ := r
      exact .kTuple h1 rfl
    | dct r n q => cases h
    | cell q => cases h
    | fn q => cases h
  · exact .base (.lst h3)
/-- the classes that are asked for -/
def tyOk (t : String) : Bool := t == "int" || t == "bool" || t == "str" || t == "tuple" || t == "list" || t == "dict"
theorem ty_ans {t : String} (h : tyOk t = true) (d : D) (hd : plain1 d = true) : kitB (tyD d) t = some (isT t d) := by
  have h' : t = "int" ∨ t = "bool" ∨ t = "str" ∨ t = "tuple" ∨ t = "list" ∨ t = "dict" := by
    simpa [tyOk, or_assoc] using h
  rcases h' with rfl | rfl | rfl | rfl | rfl | rfl <;> cases d
  · exact (by decide +kernel : kitB "NoneType" "int" = some false)
  · exact (by decide +kernel : kitB "bool" "int" = some true)
  · exact (by decide +kernel : kitB "int" "int" = some true)
  · exact (by decide +kernel : kitB "str" "int" = some false)
  · exact (by decide +kernel : kitB "tuple" "int" = some false)
  · exact (by decide +kernel : kitB "list" "int" = some false)
  · cases hd
  · cases hd
  · cases hd
  · exact (by decide +kernel : kitB "NoneType" "bool" = some false)
  · exact (by decide +kernel : kitB "bool" "bool" = some true)
  · exact (by decide +kernel : kitB "int" "bool" = some false)
  · exact (by decide +kernel : kitB "str" "bool" = some false)
  · exact (by decide +kernel : kitB "tuple" "bool" = some false)
  · exact (by decide +kernel : kitB "list" "bool" = some false)
  · cases hd
  · cases hd
  · cases hd
  · exact (by decide +kernel : kitB "NoneType" "str" = some false)
  · exact (by decide +kernel : kitB "bool" "str" = some false)
  · exact (by decide +kernel : kitB "int" "str" = some false)
  · exact (by decide +kernel : kitB "str" "str" = some true)
  · exact (by decide +kernel : kitB "tuple" "str" = some false)
  · exact (by decide +kernel : kitB "list" "str" = some false)
  · cases hd
  · cases hd
  · cases hd
  · exact (by decide +kernel : kitB "NoneType" "tuple" = some false)
  · exact (by decide +kernel : kitB "bool" "tuple" = some false)
  · exact (by decide +kernel : kitB "int" "tuple" = some false)
  · exact (by decide +kernel : kitB "str" "tuple" = some false)
  · exact (by decide +kernel : kitB "tuple" "tuple" = some true)
  · exact (by decide +kernel : kitB "list" "tuple" = some false)
  · cases hd
  · cases hd
  · cases hd
  · exact (by decide +kernel : kitB "NoneType" "list" = some false)
  · exact (by decide +kernel : kitB "bool" "list" = some false)
  · exact (by decide +kernel : kitB "int" "list" = some false)
  · exact (by decide +kernel : kitB "str" "list" = some false)
  · exact (by decide +kernel : kitB "tuple" "list" = some false)
  · exact (by decide +kernel : kitB "list" "list" = some true)
  · cases hd
  · cases hd
  · cases hd
  · exact (by decide +kernel : kitB "NoneType" "dict" = some false)
  · exact (by decide +kernel : kitB "bool" "dict" = some false)
  · exact (by decide +kernel : kitB "int" "dict" = some false)
  · exact (by decide +kernel : kitB "str" "dict" = some false)
  · exact (by decide +kernel : kitB "tuple" "dict" = some false)
  · exact (by decide +kernel : kitB "list" "dict" = some false)
  · cases hd
  · cases hd
  · cases hd
section
variable {X : Cx} {E : En} (hK : X.K = E.K)
include hK
theorem isi_ok {t : String} (h : tyOk t = true) : CallR X (.builtin "isinstance") (rT E t) := by
  intro pins s σ H vs us Q I r q
  obtain ⟨As, bad, μ, v, x, rfl, c, px, hp, f⟩ := q
  refine call_isi pins s σ H _ us Q I r ⟨v, .ty t, _, .type t, isT t x, rfl, .ty t, ?_, kit_ty (ty_ans h x hp), f.same c (.bl _)⟩
  rw [hK]
  exact px.ty hp
end
end Z
end

section
set_option Elab.async false
set_option autoImplicit false
set_option linter.all false
set_option maxRecDepth 100000
set_option maxHeartbeats 2000000
/-! enumerate(tuple), as the library has it of lists. -/
namespace Z.Et
open PySem PySem.Spec PyProof.Rows L2
open PySem.Sem (wp)
open AutoSeq1 (wpAny_loadPart')
section
variable {prog : Program} {w : World} {A : Around} {E : Value → Shared → Prop} {s : Shared}
theorem next_item {e it l : Addr} {i : Nat} {xs : Array Value} {x old : Value} {Q : Value → Shared → Prop} (he : IsEnum s.heap e it i old) (ht : s.heap.IsTupleIter it l i) (hl : s.heap.IsTuple l xs) (hx : xs[i]? = some x) (ne : e ≠ it)
    (hQ : ∀ h', IsEnumOut h' e it ((i : Int) + 1) x s.heap.objs.size → h'.IsTupleIter it l (i + 1) → h'.get? s.heap.objs.size = some { cls := .type "tuple", data := .seq #[.int i s.toks, x] } →
      h'.objs.size = s.heap.objs.size + 1 → (∀ b o, b ≠ e → b ≠ it → s.heap.get? b = some o → h'.get? b = some o) → Q (.ref s.heap.objs.size) { s with heap := h', toks := s.toks + 1 }) :
    wpAny (model prog w) A (Builtin.«enumerate.__next__» ⟨[.ref e], []⟩) (fun fin s' => ∃ v, fin = .done (.ret v) ∧ Q v s') E s := by
  obtain ⟨h0, gs, dr, tk, os⟩ := s
  show wpAny _ _ (field (.ref e) 2 >>= _) _ _ _
  refine wpAny_bind (wpAny_field he rfl (x := .ref it) rfl (wpAny_bind (RZ.nextOf_tuple_item ht hl hx fun h1 t1 b1 => ?_)))
  replace b1 : Heap.SameBut it h0 h1 := b1
  have e1 : IsEnum h1 e it i old := (b1.2 e ne).trans he
  show wpAny _ _ (field (.ref e) 3 >>= _) _ _ ⟨h1, gs, dr, tk, os⟩
  refine wpAny_bind (wpAny_field e1 rfl (x := rawInt i) rfl ?_)
  show wpAny _ _ (field (.ref e) 4 >>= _) _ _ ⟨h1, gs, dr, tk, os⟩
  refine wpAny_bind (wpAny_field e1 rfl (x := .none) rfl ?_)
  show wpAny _ _ (mkInt i >>= _) _ _ ⟨h1, gs, dr, tk, os⟩
  refine wpAny_bind (wpAny_mkInt ?_)
  show wpAny _ _ (setField (.ref e) 3 (rawInt ((i : Int) + 1)) >>= _) _ _ ⟨h1, gs, dr, tk + 1, os⟩
  refine wpAny_bind (wpAny_setField_rec e1 (by simp) fun h2 e2 b2 => ?_)
  replace b2 : Heap.SameBut e h1 h2 := b2
  replace e2 : IsEnum h2 e it ((i : Int) + 1) old := e2
  show wpAny _ _ (setField (.ref e) 4 .none >>= _) _ _ ⟨h2, gs, dr, tk + 1, os⟩
  refine wpAny_bind (wpAny_setField_rec e2 (by simp) fun h3 e3 b3 => ?_)
  replace b3 : Heap.SameBut e h2 h3 := b3
  replace e3 : IsEnum h3 e it ((i : Int) + 1) old := e3
  show wpAny _ _ (newTuple [.int i tk, x] >>= _) _ _ ⟨h3, gs, dr, tk + 1, os⟩
  refine wpAny_bind (wpAny_newTuple ?_)
  have e4 : IsEnum (h3.push { cls := .type "tuple", data := .seq #[.int i tk, x] }) e it ((i : Int) + 1) old := Heap.get?_push_of_some _ e3
  generalize q4 : h3.push { cls := .type "tuple", data := .seq #[.int i tk, x] } = h4 at e4
  have z3 : h3.objs.size = h0.objs.size := by rw [b3.1, b2.1, b1.1]
  have lte : e < h0.objs.size := Heap.lt_size he
  have nt4 : h4.get? h0.objs.size = some { cls := .type "tuple", data := .seq #[.int i tk, x] } := by
    rw [← q4, ← z3]
    exact Heap.get?_push_size _ rfl
  have z4 : h4.objs.size = h0.objs.size + 1 := by rw [← q4, Heap.size_push, z3]
  have k4 : ∀ b o, b ≠ e → b ≠ it → h0.get? b = some o → h4.get? b = some o := fun b o n1 n2 hb => by
    rw [← q4]
    exact Heap.get?_push_of_some _ (b3.extBut b o n1 (b2.extBut b o n1 (b1.extBut b o n2 hb)))
  have ti4 : h4.IsTupleIter it l (i + 1) := by
    rw [← q4]
    obtain ⟨o, ho, r⟩ := (t1.extBut b2.extBut (Ne.symm ne)).extBut b3.extBut (Ne.symm ne)
    exact ⟨o, Heap.get?_push_of_some _ ho, r⟩
  show wpAny _ _ (Builtin.SmallTypes.ownedTupleIsFree (.ref e) >>= _) _ _ ⟨h4, gs, dr, tk + 1, os⟩
  rw [z3]
  clear q4 e3 b3 e2 b2 e1 b1 t1 z3 h3 h2 h1
  refine wpAny_bind ?_
  unfold Builtin.SmallTypes.ownedTupleIsFree
  refine wpAny_bind (wpAny_field e4 rfl (x := .none) rfl (wpAny_pure ?_))
  simp only [if_true]
  refine wpAny_bind (wpAny_rule (wpAny_bind (wpAny_field e4 rfl (x := old) rfl (wpAny_bind (wpAny_setField_rec e4 (by simp) fun h5 e5 b5 => ?_)))))
  replace b5 : Heap.SameBut e h4 h5 := b5
  replace e5 : IsEnum h5 e it ((i : Int) + 1) x := e5
  show wpAny _ _ (Builtin.SmallTypes.ownedTupleHandOut (.ref e) (.ref h0.objs.size) >>= _) _ _ ⟨h5, gs, dr, tk + 1, os⟩
  refine wpAny_bind ?_
  unfold Builtin.SmallTypes.ownedTupleHandOut
  refine wpAny_bind (wpAny_setField_rec e5 (by simp) fun h6 e6 b6 => ?_)
  replace b6 : Heap.SameBut e h5 h6 := b6
  replace e6 : IsEnumOut h6 e it ((i : Int) + 1) x h0.objs.size := e6
  refine wpAny_setField_rec e6 (by simp) fun h7 e7 b7 => ?_
  replace b7 : Heap.SameBut e h6 h7 := b7
  replace e7 : IsEnumOut h7 e it ((i : Int) + 1) x h0.objs.size := e7
  refine wpAny_bind (wpAny_letGo (wpAny_pure ⟨_, rfl, hQ h7 e7 ?_ ?_ ?_ ?_⟩))
  · exact ((ti4.extBut b5.extBut (Ne.symm ne)).extBut b6.extBut (Ne.symm ne)).extBut b7.extBut (Ne.symm ne)
  · exact b7.extBut _ _ (Nat.ne_of_gt lte) (b6.extBut _ _ (Nat.ne_of_gt lte) (b5.extBut _ _ (Nat.ne_of_gt lte) nt4))
  · rw [b7.1, b6.1, b5.1, z4]
  · exact fun b o n1 n2 hb => b7.extBut b o n1 (b6.extBut b o n1 (b5.extBut b o n1 (k4 b o n1 n2 hb)))
theorem py_item {e it l : Addr} {i : Nat} {xs : Array Value} {x old : Value} {Q : Option Value → Shared → Prop} (he : IsEnum s.heap e it i old) (ht : s.heap.IsTupleIter it l i) (hl : s.heap.IsTuple l xs) (hx : xs[i]? = some x) (ne : e ≠ it)
    (hQ : ∀ h', IsEnumOut h' e it ((i : Int) + 1) x s.heap.objs.size → h'.IsTupleIter it l (i + 1) → h'.get? s.heap.objs.size = some { cls := .type "tuple", data := .seq #[.int i s.toks, x] } →
      h'.objs.size = s.heap.objs.size + 1 → (∀ b o, b ≠ e → b ≠ it → s.heap.get? b = some o → h'.get? b = some o) → Q (some (.ref s.heap.objs.size)) { s with heap := h', toks := s.toks + 1 }) :
    wpAny (model prog w) A (pyNext (.ref e)) Q E s := by
  have ty : s.TypeIs (.ref e) "enumerate" := ⟨_, he, rfl⟩
  unfold pyNext
  exact wpAny_bind (wpAny_attempt (wpAny_callSpecial?_slot (name := Str.ofString "__next__") ty F.slot_enumerate_next (wpAny_call_entry F.slot_enumerate_next ty F.entry_enumerate_next
    (next_item he ht hl hx ne fun h' a b c d k => wpAny_pure (hQ h' a b c d k)) (F.args_enumerate_next_1 _))))
theorem py_end {e it l : Addr} {i : Nat} {xs : Array Value} {old : Value} {Q : Option Value → Shared → Prop} (hh : A.handled = none) (he : IsEnum s.heap e it i old) (ht : s.heap.IsTupleIter it l i) (hl : s.heap.IsTuple l xs) (hx : xs[i]? = none)
    (hQ : ∀ h', Heap.ExtBut it s.heap h' → Q none { s with heap := h' }) : wpAny (model prog w) A (pyNext (.ref e)) Q E s := by
  have ty : s.TypeIs (.ref e) "enumerate" := ⟨_, he, rfl⟩
  unfold pyNext
  refine wpAny_bind (wpAny_attempt (wpAny_callSpecial?_slot (name := Str.ofString "__next__") ty F.slot_enumerate_next (wpAny_call_entry F.slot_enumerate_next ty F.entry_enumerate_next ?_ (F.args_enumerate_next_1 _))))
  show wpAny _ _ (field (.ref e) 2 >>= _) _ _ _
  refine wpAny_bind (wpAny_field he rfl (x := .ref it) rfl (wpAny_bind (RZ.nextOf_tuple_end hh ht hl hx fun h' x b' hx' => ?_)))
  obtain ⟨o, ho, hc⟩ := hx'
  exact wpAny_bind (wpAny_isInstance (T := "StopIteration") (b := true) ⟨o, ho, hc⟩ isSubtype_stop (wpAny_pure (hQ _ b')))
end
theorem meets_newT (l : Addr) (xs : Array Value) (n : Nat) (dc : Option Addr) (sl : Array (Option Value)) :
    Meets (Builtin.«enumerate.__new__» ⟨[.type "enumerate", .ref l], []⟩) (fun _ R s => s.heap.get? l = some { cls := .type "tuple", dict := dc, data := .seq xs n, slots := sl } ∧
      R (.ok (.ret (.ref (s.heap.push { cls := .type "tuple_iterator", data := .fields #[.ref l, .int 0 0] }).objs.size)))
        { s with heap := (s.heap.push { cls := .type "tuple_iterator", data := .fields #[.ref l, .int 0 0] }).push { cls := .type "enumerate", data := .fields #[.none, .bool false, .ref s.heap.objs.size, rawInt 0, .none, .none] } }) :=
  .of_wp fun prog w A R s h => by
    obtain ⟨h0, gs, dr, tk, os⟩ := s
    obtain ⟨hl, h⟩ := h
    have sub := sub_enumerate
    have ht : Heap.IsTuple (Shared.heap ⟨h0, gs, dr, tk, os⟩) l xs := ⟨_, hl, rfl, n, rfl⟩
    wp_walk using wpAny_loadPart' hl
    refine wpAny_stack_any fun st => wpAny_pure ?_
    split
    · rename_i c _ _ _ _ _
      cases (c == Value.type "enumerate")
      · wp_walk using wpAny_loadPart' hl, wpAny_pyIter_tuple ht
        exact ⟨_, rfl, h⟩
      · wp_walk using wpAny_loadPart' hl, wpAny_pyIter_tuple ht
        exact ⟨_, rfl, h⟩
    · wp_walk using wpAny_loadPart' hl, wpAny_pyIter_tuple ht
      exact ⟨_, rfl, h⟩
section
variable {prog : Program} {w : World} {A : Around} {E : Value → Shared → Prop} {s : Shared}
theorem call_T {l : Addr} {xs : Array Value} {Q : Value → Shared → Prop} (hT : s.heap.IsTuple l xs)
    (h : ∀ h', IsEnum h' (s.heap.objs.size + 1) s.heap.objs.size 0 .none → h'.IsTupleIter s.heap.objs.size l 0 → h'.objs.size = s.heap.objs.size + 2 → (∀ b o, s.heap.get? b = some o → h'.get? b = some o) → Q (.ref (s.heap.objs.size + 1)) { s with heap := h' }) :
    wpAny (model prog w) A (call (.type "enumerate") [.ref l]) Q E s := by
  obtain ⟨⟨c, dct, dt, sl⟩, hl, hc, n, hd⟩ := hT
  replace hc : c = .type "tuple" := hc
  replace hd : dt = .seq xs n := hd
  subst hc hd
  refine callType_new F.called_enumerate (by decide) (F.typeCall_enumerate_1 _) (F.newCall_enumerate_1 _) (fun obj => F.args_object_init_2 obj _) F.entry_enumerate_new (meets_newT l xs n dct sl) ⟨hl, ?_⟩
  have hz : (s.heap.push { cls := .type "tuple_iterator", data := .fields #[.ref l, .int 0 0] }).objs.size = s.heap.objs.size + 1 := Heap.size_push ..
  show _ ∧ _
  rw [hz]
  have he : IsEnum ((s.heap.push { cls := .type "tuple_iterator", data := .fields #[.ref l, .int 0 0] }).push { cls := .type "enumerate", data := .fields #[.none, .bool false, .ref s.heap.objs.size, rawInt 0, .none, .none] }) (s.heap.objs.size + 1) s.heap.objs.size 0 .none := by
    have := Heap.get?_push_size (s.heap.push { cls := .type "tuple_iterator", data := .fields #[.ref l, .int 0 0] }) (o := { cls := .type "enumerate", data := .fields #[.none, .bool false, .ref s.heap.objs.size, rawInt 0, .none, .none] }) rfl
    rw [hz] at this
    exact this
  exact ⟨⟨_, he, rfl⟩, h _ he ⟨_, Heap.get?_push_of_some _ (Heap.get?_push_size _ rfl), rfl, rfl⟩ (by rw [Heap.size_push, hz]) fun b o x => Heap.get?_push_of_some _ (Heap.get?_push_of_some _ x)⟩
end
/-- the tuple at a, each item in a new pair -/
def IteT (K : PySem.W.Frag) (a : Addr) : It :=
  ⟨fun i H => ∃ (xs : List V) (x : V), SqT K H a xs ∧ xs[i]? = some x, fun i H v H' => ∃ T x, v = .ref T ∧ H T = none ∧ H' = upd H T (.tup [.int (i : Nat), x]) ∧ ∀ xs, SqT K H a xs → xs[i]? = some x, fun i H => ∃ xs : List V, SqT K H a xs ∧ xs.length ≤ i⟩
theorem turn_T {P : Program} {w : World} {K : PySem.W.Frag} {elts : List Expr} {kk : Nat} {tpos : Pos} (a e it : Addr) :
    Turn P w K (.Tuple elts kk tpos) (IteT K a) [e, it] e (fun i h => (∃ old, IsEnum h e it ((i : Nat) : Int) old) ∧ h.IsTupleIter it a i ∧ e ≠ it) where
  mem := by simp
  obj := fun i h st b hb => by
    obtain ⟨⟨old, he⟩, ⟨o, ho, hc, hd⟩, _⟩ := st
    rcases (show b = e ∨ b = it by simpa using hb) with z | z
    · rw [z]
      exact ⟨_, he, fun v q => nomatch q⟩
    · rw [z]
      exact ⟨o, ho, fun v q => by rw [hd] at q; cases q⟩
  keep := fun i h h' st k => let ⟨⟨old, he⟩, hi, hne⟩ := st; ⟨⟨old, k e (by simp) _ he⟩, hi.at fun o q => k it (by simp) o q, hne⟩
  item := by
    intro X hP hw hK hc i pins s σ H E I hf st hg
    subst hP hw hK
    obtain ⟨⟨old, he⟩, hit, hne⟩ := st
    obtain ⟨xs, x, hq, hx⟩ := hg
    obtain ⟨its, rv, p, hz⟩ := I.tuple hq
    obtain ⟨u, hu, ru⟩ := rv.get hx
    have lte : e < s.heap.objs.size := Heap.lt_size he
    have lti : it < s.heap.objs.size := by
      obtain ⟨_, q, _⟩ := hit
      exact Heap.lt_size q
    refine py_item he hit p (x := u) (by simpa using hu) hne fun h' ho hit' hT hsz hk => ⟨_, rfl, wpAny_letOwnedTupleGo_enum (s := { s with heap := h', toks := s.toks + 1 }) ho fun h'' he' sb => ?_⟩
    have hT2 : h''.get? s.heap.objs.size = some { cls := .type "tuple", data := .seq #[.int i s.toks, u] } := (sb.2 _ (Nat.ne_of_gt lte)).trans hT
    have new : ObjOk X.prog X.w (upd H s.heap.objs.size (.tup [.int (i : Nat), x])) h'' s.heap.objs.size (.tup [.int (i : Nat), x]) :=
      ⟨by show 2 ≤ sizeLine; decide, [.int i s.toks, u], .cons ⟨_, rfl⟩ (.cons ru .nil), ⟨_, hT2, rfl, _, rfl⟩⟩
    have I1 : Inv X pins σ (upd H s.heap.objs.size (.tup [.int (i : Nat), x])) { s with heap := h'', toks := s.toks + 1 } :=
      I.turnedNew (ch := [e, it]) (fun b ob hb q => (sb.2 b (fun z => hb (by simp [z]))).trans (hk b ob (fun z => hb (by simp [z])) (fun z => hb (by simp [z])) q)) hf (Nat.le_refl _) new
    refine ⟨.ref s.heap.objs.size, _, I1, rfl, ⟨_, x, rfl, I.hok.fresh (Nat.le_refl _), rfl, fun ys hy => by rw [I.tuple_inj hy hq]; exact hx⟩, ⟨⟨u, ?_⟩, hit'.at fun o q => (sb.2 it (Ne.symm hne)).trans q, hne⟩, fun b hb => ?_⟩
    · rw [show ((i + 1 : Nat) : Int) = (i : Int) + 1 by omega]
      exact he'
    · have hb' : b < s.heap.objs.size := by
        rcases (show b = e ∨ b = it by simpa using hb) with z | z
        · rw [z]
          exact lte
        · rw [z]
          exact lti
      rw [upd_ne (Nat.ne_of_lt hb')]
      exact (hf b hb).1
  done := by
    intro X hP hw hK hc i pins s σ H E I hf st hg
    subst hP hw hK
    obtain ⟨⟨old, he⟩, hit, hne⟩ := st
    obtain ⟨xs, hq, hx⟩ := hg
    obtain ⟨its, rv, p, hz⟩ := I.tuple hq
    obtain ⟨f0, f1, f2, f3, f4, f5⟩ := hf it (by simp)
    have hl := rv.length
    exact py_end (I.ok.hd hc) he hit p (by simp; omega) fun h' eb => ⟨rfl, I.turned (t' := s.toks) (fun b o hb q => eb b o hb q) f0 f1 f3 f4 f5⟩
  self := fun A i s Q E st h => let ⟨⟨_, he⟩, _⟩ := st; wpAny_pyIter_enum he h
def iEnumA (K : PySem.W.Frag) (ta : TA) : TI := fun σ H R => ta σ H fun vs H1 => ∃ a xs, vs = [.ref a] ∧ ((SqL K H1 a xs ∧ R (Ite K a) H1) ∨ (SqT K H1 a xs ∧ R (IteT K a) H1))
theorem pi_enumA {X : Cx} {e : Expr} {ta : TA} {p pos tpos : Pos} {elts : List Expr} {kk : Nat} (hg : Gl X "enumerate") (hm : X.mg "enumerate" = none) (ha : PA X [e] ta) (hs : starEach [e] X.env = [(false, eval e X.env)]) :
    PI X (.Tuple elts kk tpos) (.Call (.Name "enumerate" p) [e] [] pos) (iEnumA X.K ta) := by
  refine ⟨fun pins s σ H R I h => ?_⟩
  refine Call_ (ld_blt I hg hm boot_enumerate (PyProof.Rows.callWith_type1 (thn (ha.run pos pins s σ H _ I h) fun us s1 ⟨vs, H1, I1, r1, q1⟩ => ?_) hs rfl))
  obtain ⟨a, xs, ex, q1⟩ := q1
  subst ex
  cases r1 with
  | cons r rr =>
    cases rr
    cases r
    have fr : ∀ b, b ∈ [s1.heap.objs.size + 1, s1.heap.objs.size] → FpOk X pins H1 b := fun b hb => by
      have hle : s1.heap.objs.size ≤ b := by
        rcases (show b = s1.heap.objs.size + 1 ∨ b = s1.heap.objs.size by simpa using hb) with z | z <;> omega
      exact I1.fpOk hle (I1.hok.fresh hle)
    rcases q1 with ⟨hq, q⟩ | ⟨hq, q⟩
    · obtain ⟨its, rv, p', hz⟩ := I1.list hq
      refine call_enumerate_list p'.isList fun h' he hit hsz hk => wpAny_pyIter_enum he ?_
      have I2 : Inv X pins σ H1 { s1 with heap := h' } := I1.kept (t' := s1.toks) hk
      exact ⟨s1.heap.objs.size + 1, [s1.heap.objs.size + 1, s1.heap.objs.size], _, _, H1, rfl, I2, turn_enum a (s1.heap.objs.size + 1) s1.heap.objs.size, ⟨⟨.none, he⟩, hit, Nat.succ_ne_self _⟩, fr, q⟩
    · obtain ⟨its, rv, p', hz⟩ := I1.tuple hq
      refine call_T p' fun h' he hit hsz hk => wpAny_pyIter_enum he ?_
      have I2 : Inv X pins σ H1 { s1 with heap := h' } := I1.kept (t' := s1.toks) hk
      exact ⟨s1.heap.objs.size + 1, [s1.heap.objs.size + 1, s1.heap.objs.size], _, _, H1, rfl, I2, turn_T a (s1.heap.objs.size + 1) s1.heap.objs.size, ⟨⟨.none, he⟩, hit, Nat.succ_ne_self _⟩, fr, q⟩
end Z.Et
end

section
set_option Elab.async false
set_option autoImplicit false
set_option linter.all false
set_option maxRecDepth 100000
set_option maxHeartbeats 1000000
/-! Readings of expressions that come to trees. -/
namespace Z
open PySem PySem.Spec PyProof.Rows L2

theorem _root_.L2.PE.weak {X : Cx} {e : Expr} {t t' : TE} (h : PE X e t) (w : ∀ σ H Q, t' σ H Q → t σ H Q) : PE X e t' := ⟨fun pins s σ H Q I q => h.run pins s σ H Q I (w σ H Q q)⟩
theorem _root_.L2.PT.weak {X : Cx} {e : Expr} {t t' : TT} (h : PT X e t) (w : ∀ σ H Q, t' σ H Q → t σ H Q) : PT X e t' := ⟨fun pins s σ H Q I q => h.run pins s σ H Q I (w σ H Q q)⟩
theorem _root_.L2.PA.weak {X : Cx} {e : List Expr} {t t' : TA} (h : PA X e t) (w : ∀ σ H Q, t' σ H Q → t σ H Q) : PA X e t' := ⟨fun pos pins s σ H Q I q => h.run pos pins s σ H Q I (w σ H Q q)⟩
theorem _root_.L2.PS.weak {X : Cx} {e : Stmt} {t t' : TS} (h : PS X e t) (w : ∀ D σ H, t' D σ H → t D σ H) : PS X e t' := ⟨fun pins s σ H D I q => h.run pins s σ H D I (w D σ H q)⟩
theorem _root_.L2.PSs.weak {X : Cx} {e : List Stmt} {t t' : TS} (h : PSs X e t) (w : ∀ D σ H, t' D σ H → t D σ H) : PSs X e t' := ⟨fun pins s σ H D I q => h.run pins s σ H D I (w D σ H q)⟩
theorem _root_.L2.PI.weak {X : Cx} {tg e : Expr} {t t' : TI} (h : PI X tg e t) (w : ∀ σ H Q, t' σ H Q → t σ H Q) : PI X tg e t' := ⟨fun pins s σ H Q I q => h.run pins s σ H Q I (w σ H Q q)⟩

/-- what follows an expression -/
def FinE (E : En) (As : List Addr) (bad : Addr → Prop) (H : Hp) (d : D) (o : Bool) (μ' : Mu) (Q : VK) : Prop :=
  ∀ v H' As' bad', CRel E As' bad' H' μ' → Ext As bad H As' bad' H' → RepO E H As' bad' H' v d o → Q v H'
def FinP (E : En) (As : List Addr) (bad : Addr → Prop) (H : Hp) (d : D) (μ' : Mu) (Q : VK) : Prop :=
  ∀ v H' As' bad', CRel E As' bad' H' μ' → Ext As bad H As' bad' H' → RepP E As' H' bad' v d → Q v H'
def FinR (E : En) (As : List Addr) (bad : Addr → Prop) (H : Hp) (d : D) (μ' : Mu) (Q : VK) : Prop :=
  ∀ v H' As' bad', CRel E As' bad' H' μ' → Ext As bad H As' bad' H' → Rep E As' H' bad' v d → Q v H'
def FinA (E : En) (As : List Addr) (bad : Addr → Prop) (H : Hp) (ds : List D) (μ' : Mu) (Q : List V → Hp → Prop) : Prop :=
  ∀ vs H' As' bad', CRel E As' bad' H' μ' → Ext As bad H As' bad' H' → Reps E As' H' bad' vs ds → Q vs H'
def FinQ (E : En) (As : List Addr) (bad : Addr → Prop) (H : Hp) (ds : List D) (μ' : Mu) (Q : List V → Hp → Prop) : Prop :=
  ∀ vs H' As' bad', CRel E As' bad' H' μ' → Ext As bad H As' bad' H' → RepsP E As' H' bad' vs ds → Q vs H'
/-- where an expression stands -/
structure At (E : En) (As : List Addr) (bad : Addr → Prop) (H : Hp) (μ : Mu) (σ : L2.St) (ρ : Rho) : Prop where
  c : CRel E As bad H μ
  s : ∃ H0, SRel E H0 As bad H σ ρ
/-- an expression's reading; as an operand; as a value handed on; a list of values; of operands -/
def rE (E : En) (f : Rho → Mu → RE) : TE := fun σ H Q => ∃ As bad μ ρ d o μ', At E As bad H μ σ ρ ∧ f ρ μ = some (d, o, μ') ∧ FinE E As bad H d o μ' Q
def rP (E : En) (f : Rho → Mu → Option (D × Mu)) : TE := fun σ H Q => ∃ As bad μ ρ d μ', At E As bad H μ σ ρ ∧ f ρ μ = some (d, μ') ∧ FinP E As bad H d μ' Q
def rR (E : En) (f : Rho → Mu → RE) : TE := fun σ H Q => ∃ As bad μ ρ d o μ', At E As bad H μ σ ρ ∧ f ρ μ = some (d, o, μ') ∧ FinR E As bad H d μ' Q
def rA (E : En) (f : Rho → Mu → Option (List D × Mu)) : TA := fun σ H Q => ∃ As bad μ ρ ds μ', At E As bad H μ σ ρ ∧ f ρ μ = some (ds, μ') ∧ FinA E As bad H ds μ' Q
def rQ (E : En) (f : Rho → Mu → Option (List D × Mu)) : TA := fun σ H Q => ∃ As bad μ ρ ds μ', At E As bad H μ σ ρ ∧ f ρ μ = some (ds, μ') ∧ FinQ E As bad H ds μ' Q
section
variable {E : En} {As As' As1 : List Addr} {H H' H1 : Hp} {bad bad' bad1 : Addr → Prop} {μ μ' μ1 : Mu} {σ : L2.St} {ρ : Rho} {v : V} {d : D} {o : Bool}
theorem At.ext (a : At E As bad H μ σ ρ) (c : CRel E As1 bad1 H1 μ1) (x : Ext As bad H As1 bad1 H1) : At E As1 bad1 H1 μ1 σ ρ := ⟨c, let ⟨H0, s⟩ := a.s; ⟨H0, s.ext x⟩⟩
theorem RepO.p (r : RepO E H As' bad' H' v d o) : RepP E As' H' bad' v d := by
  cases o with
  | false => exact .inl r
  | true =>
    obtain ⟨a, vs, ds, h1, h2, h3, h4, h5, h6, h7⟩ := r
    exact .inr ⟨a, vs, ds, h1, h2, h3, h4, h6⟩
/-- the freshness to an earlier heap -/
theorem RepO.back (x : Ext As bad H As1 bad1 H1) (y : Ext As1 bad1 H1 As' bad' H') (r : RepO E H1 As' bad' H' v d o) : RepO E H As' bad' H' v d o := by
  cases o with
  | false => exact r
  | true =>
    obtain ⟨a, vs, ds, h1, h2, h3, h4, h5, h6, h7⟩ := r
    refine ⟨a, vs, ds, h1, h2, h3, h4, h5, h6, ?_⟩
    cases q : H a with
    | none => rfl
    | some u =>
      have na : a ∉ As := fun m => by
        obtain ⟨e1, rfl⟩ := x.pre
        obtain ⟨e2, rfl⟩ := y.pre
        exact h6 (by simp [m])
      rw [x.all a u q na] at h7
      cases h7
theorem RepO.ext (r : RepO E H As1 bad1 H1 v d o) (y : Ext As1 bad1 H1 As' bad' H') : RepO E H As' bad' H' v d o := by
  cases o with
  | false => exact Rep.ext y r
  | true =>
    obtain ⟨a, vs, ds, h1, h2, h3, h4, h5, h6, h7⟩ := r
    refine ⟨a, vs, ds, h1, h2, y.all _ _ h3 h6, h4.ext y, y.bb _ h5, fun m => ?_, h7⟩
    have := y.fr a m h6
    rw [h3] at this
    cases this
theorem FinE.fin {Q : VK} (f : FinE E As bad H d o μ' Q) (x : Ext As bad H As1 bad1 H1) : Fin E As1 bad1 H1 μ' d o Q := fun v H' bad' c y r =>
  f v H' As1 bad' c (x.trans y) (r.back x y)
theorem FinE.later {Q : VK} (f : FinE E As bad H d o μ' Q) (x : Ext As bad H As1 bad1 H1) : FinE E As1 bad1 H1 d o μ' Q := fun v H' As' bad' c y r =>
  f v H' As' bad' c (x.trans y) (r.back x y)
theorem FinP.later {Q : VK} (f : FinP E As bad H d μ' Q) (x : Ext As bad H As1 bad1 H1) : FinP E As1 bad1 H1 d μ' Q := fun v H' As' bad' c y r =>
  f v H' As' bad' c (x.trans y) r
/-- a value as it is -/
theorem FinE.same {Q : VK} (f : FinE E As bad H d false μ Q) (c : CRel E As bad H μ) (r : Rep E As H bad v d) : Q v H := f v H As bad c c.ext0 r

/-! ### operands -/
variable {f : Rho → Mu → RE}
theorem w_p {σ : L2.St} {H : Hp} {Q : VK} : rP E (fun ρ μ => match f ρ μ with
    | some (d, _, μ1) => some (d, μ1)
    | none => none) σ H Q → rE E f σ H Q := by
  rintro ⟨As, bad, μ, ρ, d, μ', a, e, k⟩
  dsimp only at e
  cases q : f ρ μ with
  | none =>
    rw [q] at e
    cases e
  | some z =>
    obtain ⟨d', o, μ2⟩ := z
    rw [q] at e
    cases e
    exact ⟨As, bad, μ, ρ, d, o, μ', a, q, fun v H' As' bad' c x r => k v H' As' bad' c x r.p⟩
theorem w_r {σ : L2.St} {H : Hp} {Q : VK} : rR E f σ H Q → rE E f σ H Q := by
  rintro ⟨As, bad, μ, ρ, d, o, μ', a, e, k⟩
  refine ⟨As, bad, μ, ρ, d, o, μ', a, e, fun v H' As' bad' c x r => ?_⟩
  obtain ⟨bad2, c2, x2, r2⟩ := give a.c c x r
  exact k v H' As' bad2 c2 x2 r2
end

section
variable {X : Cx} {E : En} {e e1 e2 e3 : Expr} {f g h : Rho → Mu → RE} {fp gp hp : Rho → Mu → Option (D × Mu)} {pos : Pos}
theorem pe_p (he : PE X e (rE E f)) : PE X e (rP E (fun ρ μ => match f ρ μ with
    | some (d, _, μ1) => some (d, μ1)
    | none => none)) := he.weak fun _ _ _ => w_p
theorem pe_r (he : PE X e (rE E f)) : PE X e (rR E f) := he.weak fun _ _ _ => w_r
/-- a name, whatever its mark -/
theorem pe_pv {i : Nat} {x : Str} (hN : X.N[i]? = some x) (hv : Vis X.env.scope x) (hd : (x == ("__debug__" : Str)) = false) (hcd : (x == ("__classdict__" : Str)) = false) : PE X (.Name x pos) (rP E fun ρ μ => match peekD ρ i with
    | some d => some (d, μ)
    | none => none) := by
  refine (pe_var hN hv hd hcd).weak fun σ H Q => ?_
  rintro ⟨As, bad, μ, ρ, d, μ', a, e, k⟩
  obtain ⟨H0, s⟩ := a.s
  dsimp only at e
  cases q : peekD ρ i with
  | none =>
    rw [q] at e
    cases e
  | some d' =>
    rw [q] at e
    cases e
    unfold peekD at q
    cases q2 : ρ[i]? with
    | none =>
      rw [q2] at q
      cases q
    | some z =>
      rw [q2] at q
      cases z with
      | none => cases q
      | some z =>
        obtain ⟨d2, b⟩ := z
        cases q
        cases b with
        | false =>
          obtain ⟨v, h1, h2⟩ := s.val i _ q2
          exact ⟨v, h1, k v H As bad a.c a.c.ext0 (.inl h2)⟩
        | true =>
          obtain ⟨p, vs, ds, h0, h1, h2, h3, h4, h5, h6⟩ := s.own i _ q2
          exact ⟨.ref p, h1, k _ H As bad a.c a.c.ext0 (.inr ⟨p, vs, ds, rfl, h0, h2, h3, h5⟩)⟩
theorem pe_v {i : Nat} {x : Str} (hN : X.N[i]? = some x) (hv : Vis X.env.scope x) (hd : (x == ("__debug__" : Str)) = false) (hcd : (x == ("__classdict__" : Str)) = false) : PE X (.Name x pos) (rE E fun ρ μ => match ρ[i]? with
    | some (some (d, false)) => some (d, false, μ)
    | _ => none) := by
  refine (pe_var hN hv hd hcd).weak fun σ H Q => ?_
  rintro ⟨As, bad, μ, ρ, d, o, μ', a, e, k⟩
  obtain ⟨H0, s⟩ := a.s
  dsimp only at e
  split at e
  · rename_i d' q2
    cases e
    obtain ⟨v, h1, h2⟩ := s.val i _ q2
    exact ⟨v, h1, k.same a.c h2⟩
  · cases e
/-- a constant -/
theorem rep_scal {As : List Addr} {H : Hp} {bad : Addr → Prop} : ∀ {d : D}, scalar d = true → ∃ v, Rep E As H bad v d := by
  intro d h
  cases d with
  | non => exact ⟨_, .non⟩
  | bl b => exact ⟨_, .bl b⟩
  | int i => exact ⟨_, .int i⟩
  | str x => exact ⟨_, .str x⟩
  | _ => cases h
def scV : D → V
  | .bl b => .bl b
  | .int i => .int i
  | .str x => .str x
  | _ => .non
theorem rep_scV {As : List Addr} {H : Hp} {bad : Addr → Prop} {d : D} (h : scalar d = true) : Rep E As H bad (scV d) d := by
  cases d with
  | non => exact .non
  | bl b => exact .bl b
  | int i => exact .int i
  | str x => exact .str x
  | _ => cases h
theorem pe_cst {d : D} (h : PE X e (tC (scV d))) : PE X e (rE E fun _ μ => if scalar d then some (d, false, μ) else none) := by
  refine h.weak fun σ H Q => ?_
  rintro ⟨As, bad, μ, ρ, d', o, μ', a, e, k⟩
  dsimp only at e
  split at e
  · rename_i hs
    cases e
    exact k.same a.c (rep_scV hs)
  · cases e
theorem pe_con {v : V} {d : D} (h : PE X e (tC v)) (r : ∀ As H bad, Rep E As H bad v d) : PE X e (rE E fun _ μ => some (d, false, μ)) := by
  refine h.weak fun σ H Q => ?_
  rintro ⟨As, bad, μ, ρ, d', o, μ', a, e, k⟩
  cases e
  exact k.same a.c (r _ _ _)
/-- two operands and an operator -/
def fOp (r : D → D → Option (D × Bool)) (f g : Rho → Mu → Option (D × Mu)) : Rho → Mu → RE := fun ρ μ => match f ρ μ with
  | some (x, μ1) => (match g ρ μ1 with
    | some (y, μ2) => (match r x y with
      | some (z, w) => some (z, w, μ2)
      | none => none)
    | none => none)
  | none => none
theorem w_op {r : D → D → Option (D × Bool)} {σ : L2.St} {H : Hp} {Q : VK} : rE E (fOp r fp gp) σ H Q → tOp (rZ E r) (rP E fp) (rP E gp) σ H Q := by
  rintro ⟨As, bad, μ, ρ, d, o, μ', a, e, k⟩
  unfold fOp at e
  cases q1 : fp ρ μ with
  | none =>
    rw [q1] at e
    cases e
  | some z1 =>
    obtain ⟨x, μ1⟩ := z1
    rw [q1] at e
    dsimp only at e
    cases q2 : gp ρ μ1 with
    | none =>
      rw [q2] at e
      cases e
    | some z2 =>
      obtain ⟨y, μ2⟩ := z2
      rw [q2] at e
      dsimp only at e
      cases q3 : r x y with
      | none =>
        rw [q3] at e
        cases e
      | some z3 =>
        obtain ⟨z, w⟩ := z3
        rw [q3] at e
        cases e
        refine ⟨As, bad, μ, ρ, x, μ1, a, q1, fun v H1 As1 bad1 c1 x1 r1 => ?_⟩
        refine ⟨As1, bad1, μ1, ρ, y, _, a.ext c1 x1, q2, fun u H2 As2 bad2 c2 x2 r2 => ?_⟩
        exact ⟨As2, bad2, _, x, y, d, o, c2, r1.ext x2, r2, q3, k.fin (x1.trans x2)⟩
end
end Z
end

section
set_option Elab.async false
set_option autoImplicit false
set_option linter.all false
set_option maxRecDepth 100000
set_option maxHeartbeats 1000000
/-! Each kind of expression, over trees. -/
namespace Z
open PySem PySem.Spec PyProof.Rows L2

/-! ### what an expression of each kind comes to -/
def fTup (f : Rho → Mu → Option (List D × Mu)) : Rho → Mu → RE := fun ρ μ => match f ρ μ with
  | some (ds, μ1) => if ds.length ≤ sizeLine then some (.tup ds, false, μ1) else none
  | none => none
def fLst (f : Rho → Mu → Option (List D × Mu)) : Rho → Mu → RE := fun ρ μ => match f ρ μ with
  | some (ds, μ1) => if ds.length ≤ sizeLine then some (.lst ds, true, μ1) else none
  | none => none
def fNeg (f : Rho → Mu → RE) : Rho → Mu → RE := fun ρ μ => match f ρ μ with
  | some (.int i, _, μ1) => some (.int (-i), false, μ1)
  | _ => none
def fNot (f : Rho → Mu → RE) : Rho → Mu → RE := fun ρ μ => match f ρ μ with
  | some (.bl b, _, μ1) => some (.bl (!b), false, μ1)
  | _ => none
def fAnd (f g : Rho → Mu → RE) : Rho → Mu → RE := fun ρ μ => match f ρ μ with
  | some (.bl true, _, μ1) => g ρ μ1
  | some (.bl false, _, μ1) => some (.bl false, false, μ1)
  | _ => none
def fOr (f g : Rho → Mu → RE) : Rho → Mu → RE := fun ρ μ => match f ρ μ with
  | some (.bl true, _, μ1) => some (.bl true, false, μ1)
  | some (.bl false, _, μ1) => g ρ μ1
  | _ => none
def fIte (f g h : Rho → Mu → RE) : Rho → Mu → RE := fun ρ μ => match f ρ μ with
  | some (.bl true, _, μ1) => g ρ μ1
  | some (.bl false, _, μ1) => h ρ μ1
  | _ => none
def fChn (c c' : Cp) (f g h : Rho → Mu → Option (D × Mu)) : Rho → Mu → RE := fun ρ μ => match f ρ μ with
  | some (x, μ1) => (match g ρ μ1 with
    | some (y, μ2) => (match cpD c x y with
      | some true => (match h ρ μ2 with
        | some (z, μ3) => (match cpD c' y z with
          | some k => some (.bl k, false, μ3)
          | none => none)
        | none => none)
      | some false => some (.bl false, false, μ2)
      | none => none)
    | none => none)
  | none => none
def fCall (k : List D → Mu → RE) (f : Rho → Mu → Option (List D × Mu)) : Rho → Mu → RE := fun ρ μ => match f ρ μ with
  | some (ds, μ1) => k ds μ1
  | none => none
def fCallk (k : List D → Mu → RE) (pm : List Nat) (f g : Rho → Mu → Option (List D × Mu)) : Rho → Mu → RE := fun ρ μ => match f ρ μ with
  | some (ds, μ1) => (match g ρ μ1 with
    | some (ds2, μ2) => k (ds ++ pmL pm ds2) μ2
    | none => none)
  | none => none
def fBi (k : List D → Option (D × Bool)) (f : Rho → Mu → Option (List D × Mu)) : Rho → Mu → RE := fun ρ μ => match f ρ μ with
  | some (ds, μ1) => (match k ds with
    | some (z, w) => some (z, w, μ1)
    | none => none)
  | none => none
def fMd (k : D → List D → Option (D × Bool)) (f : Rho → Mu → Option (D × Mu)) (g : Rho → Mu → Option (List D × Mu)) : Rho → Mu → RE := fun ρ μ => match f ρ μ with
  | some (x, μ1) => (match g ρ μ1 with
    | some (ds, μ2) => (match k x ds with
      | some (z, w) => some (z, w, μ2)
      | none => none)
    | none => none)
  | none => none
def fIsi (t : String) (f : Rho → Mu → Option (D × Mu)) : Rho → Mu → RE := fun ρ μ => match f ρ μ with
  | some (x, μ1) => if plain1 x then some (.bl (isT t x), false, μ1) else none
  | none => none
def fSub (f g : Rho → Mu → Option (D × Mu)) : Rho → Mu → RE := fun ρ μ => match f ρ μ with
  | some (x, μ1) => (match g ρ μ1 with
    | some (y, μ2) => (match subC μ2 x y with
      | some d => some (d, false, μ2)
      | none => none)
    | none => none)
  | none => none
def fSlc (f : Rho → Mu → Option (D × Mu)) (g h : Rho → Mu → Option (Option Int × Mu)) : Rho → Mu → RE := fun ρ μ => match f ρ μ with
  | some (x, μ1) => (match g ρ μ1 with
    | some (l, μ2) => (match h ρ μ2 with
      | some (u, μ3) => (match slcD x l u with
        | some (z, w) => some (z, w, μ3)
        | none => none)
      | none => none)
    | none => none)
  | none => none
def fRev (f : Rho → Mu → Option (D × Mu)) : Rho → Mu → RE := fun ρ μ => match f ρ μ with
  | some (x, μ1) => (match revD x with
    | some (z, w) => some (z, w, μ1)
    | none => none)
  | none => none

/-- a test -/
def rTt (E : En) (f : Rho → Mu → RE) : TT := fun σ H Q => ∃ As bad μ ρ b o μ', At E As bad H μ σ ρ ∧ f ρ μ = some (.bl b, o, μ') ∧
  ∀ H' As' bad', CRel E As' bad' H' μ' → Ext As bad H As' bad' H' → Q b H'
section
variable {X : Cx} {E : En} {e e1 e2 e3 : Expr} {es : List Expr} {rest : List Expr} {f g h : Rho → Mu → RE} {fp gp hp : Rho → Mu → Option (D × Mu)} {fa : Rho → Mu → Option (List D × Mu)} {pos : Pos}
theorem repO_bl {H : Hp} {As' : List Addr} {bad' : Addr → Prop} {H' : Hp} {v : V} {b : Bool} : ∀ {o : Bool}, RepO E H As' bad' H' v (.bl b) o → v = .bl b
  | false, r => by
    cases r
    rfl
  | true, r => by
    obtain ⟨_, _, _, _, z, _⟩ := r
    cases z
theorem repO_int {H : Hp} {As' : List Addr} {bad' : Addr → Prop} {H' : Hp} {v : V} {i : Int} : ∀ {o : Bool}, RepO E H As' bad' H' v (.int i) o → v = .int i
  | false, r => by
    cases r
    rfl
  | true, r => by
    obtain ⟨_, _, _, _, z, _⟩ := r
    cases z
theorem w_test {σ : L2.St} {H : Hp} {Q : Bool → Hp → Prop} : rTt E f σ H Q → tB (rE E f) σ H Q := by
  rintro ⟨As, bad, μ, ρ, b, o, μ', a, e, k⟩
  exact ⟨As, bad, μ, ρ, _, o, μ', a, e, fun v H' As' bad' c x r => ⟨b, repO_bl r, k H' As' bad' c x⟩⟩
theorem pt_of (he : PE X e (rE E f)) (hp : ∀ whole, isTrue e X.env whole = (do let v ← whole; standAt e.pos; holding [v] (truthy v))) : PT X e (rTt E f) := (pt_val he hp).weak fun _ _ _ => w_test
/-! tests of tests -/
theorem w_tAnd {σ : L2.St} {H : Hp} {Q : Bool → Hp → Prop} : rTt E (fAnd f g) σ H Q → tAnd (rTt E f) (rTt E g) σ H Q := by
  rintro ⟨As, bad, μ, ρ, b, o, μ', a, e, k⟩
  unfold fAnd at e
  split at e
  · rename_i o1 μ1 q
    refine ⟨As, bad, μ, ρ, true, o1, μ1, a, q, fun H1 As1 bad1 c1 x1 => ?_⟩
    show rTt E g σ H1 Q
    exact ⟨As1, bad1, μ1, ρ, b, o, μ', a.ext c1 x1, e, fun H' As' bad' c x => k H' As' bad' c (x1.trans x)⟩
  · rename_i o1 μ1 q
    cases e
    refine ⟨As, bad, μ, ρ, false, o1, _, a, q, fun H1 As1 bad1 c1 x1 => ?_⟩
    show Q false H1
    exact k H1 As1 bad1 c1 x1
  · cases e
theorem w_tOr {σ : L2.St} {H : Hp} {Q : Bool → Hp → Prop} : rTt E (fOr f g) σ H Q → tOr (rTt E f) (rTt E g) σ H Q := by
  rintro ⟨As, bad, μ, ρ, b, o, μ', a, e, k⟩
  unfold fOr at e
  split at e
  · rename_i o1 μ1 q
    cases e
    refine ⟨As, bad, μ, ρ, true, o1, _, a, q, fun H1 As1 bad1 c1 x1 => ?_⟩
    show Q true H1
    exact k H1 As1 bad1 c1 x1
  · rename_i o1 μ1 q
    refine ⟨As, bad, μ, ρ, false, o1, μ1, a, q, fun H1 As1 bad1 c1 x1 => ?_⟩
    show rTt E g σ H1 Q
    exact ⟨As1, bad1, μ1, ρ, b, o, μ', a.ext c1 x1, e, fun H' As' bad' c x => k H' As' bad' c (x1.trans x)⟩
  · cases e
theorem w_tNot {σ : L2.St} {H : Hp} {Q : Bool → Hp → Prop} : rTt E (fNot f) σ H Q → tNot (rTt E f) σ H Q := by
  rintro ⟨As, bad, μ, ρ, b, o, μ', a, e, k⟩
  unfold fNot at e
  split at e
  · rename_i b1 o1 μ1 q
    cases e
    exact ⟨As, bad, μ, ρ, b1, o1, _, a, q, fun H1 As1 bad1 c1 x1 => k H1 As1 bad1 c1 x1⟩
  · cases e
theorem w_tIte {σ : L2.St} {H : Hp} {Q : VK} : rE E (fIte f g h) σ H Q → tIf (rTt E f) (rE E g) (rE E h) σ H Q := by
  rintro ⟨As, bad, μ, ρ, d, o, μ', a, e, k⟩
  unfold fIte at e
  split at e
  · rename_i o1 μ1 q
    refine ⟨As, bad, μ, ρ, true, o1, μ1, a, q, fun H1 As1 bad1 c1 x1 => ?_⟩
    show rE E g σ H1 Q
    exact ⟨As1, bad1, μ1, ρ, d, o, μ', a.ext c1 x1, e, k.later x1⟩
  · rename_i o1 μ1 q
    refine ⟨As, bad, μ, ρ, false, o1, μ1, a, q, fun H1 As1 bad1 c1 x1 => ?_⟩
    show rE E h σ H1 Q
    exact ⟨As1, bad1, μ1, ρ, d, o, μ', a.ext c1 x1, e, k.later x1⟩
  · cases e
/-! values -/
theorem w_and {σ : L2.St} {H : Hp} {Q : VK} : rE E (fAnd f g) σ H Q → tAndV (rE E f) (rE E g) σ H Q := by
  rintro ⟨As, bad, μ, ρ, d, o, μ', a, e, k⟩
  unfold fAnd at e
  split at e
  · rename_i o1 μ1 q
    refine ⟨As, bad, μ, ρ, _, o1, μ1, a, q, fun v H1 As1 bad1 c1 x1 r => ⟨true, repO_bl r, ?_⟩⟩
    rw [if_pos rfl]
    exact ⟨As1, bad1, μ1, ρ, d, o, μ', a.ext c1 x1, e, k.later x1⟩
  · rename_i o1 μ1 q
    cases e
    refine ⟨As, bad, μ, ρ, _, o1, _, a, q, fun v H1 As1 bad1 c1 x1 r => ⟨false, repO_bl r, ?_⟩⟩
    rw [if_neg (by decide)]
    exact k _ H1 As1 bad1 c1 x1 (.bl false)
  · cases e
theorem w_or {σ : L2.St} {H : Hp} {Q : VK} : rE E (fOr f g) σ H Q → tOrV (rE E f) (rE E g) σ H Q := by
  rintro ⟨As, bad, μ, ρ, d, o, μ', a, e, k⟩
  unfold fOr at e
  split at e
  · rename_i o1 μ1 q
    cases e
    refine ⟨As, bad, μ, ρ, _, o1, _, a, q, fun v H1 As1 bad1 c1 x1 r => ⟨true, repO_bl r, ?_⟩⟩
    rw [if_pos rfl]
    exact k _ H1 As1 bad1 c1 x1 (.bl true)
  · rename_i o1 μ1 q
    refine ⟨As, bad, μ, ρ, _, o1, μ1, a, q, fun v H1 As1 bad1 c1 x1 r => ⟨false, repO_bl r, ?_⟩⟩
    rw [if_neg (by decide)]
    exact ⟨As1, bad1, μ1, ρ, d, o, μ', a.ext c1 x1, e, k.later x1⟩
  · cases e
theorem w_not {σ : L2.St} {H : Hp} {Q : VK} : rE E (fNot f) σ H Q → tNotV (rE E f) σ H Q := by
  rintro ⟨As, bad, μ, ρ, d, o, μ', a, e, k⟩
  unfold fNot at e
  split at e
  · rename_i b1 o1 μ1 q
    cases e
    exact ⟨As, bad, μ, ρ, _, o1, _, a, q, fun v H1 As1 bad1 c1 x1 r => ⟨b1, repO_bl r, k _ H1 As1 bad1 c1 x1 (.bl _)⟩⟩
  · cases e
theorem w_neg {σ : L2.St} {H : Hp} {Q : VK} : rE E (fNeg f) σ H Q → tUn (rU fun i => .int (-i)) (rE E f) σ H Q := by
  rintro ⟨As, bad, μ, ρ, d, o, μ', a, e, k⟩
  unfold fNeg at e
  split at e
  · rename_i b1 o1 μ1 q
    cases e
    exact ⟨As, bad, μ, ρ, _, o1, _, a, q, fun v H1 As1 bad1 c1 x1 r => ⟨b1, repO_int r, k _ H1 As1 bad1 c1 x1 (.int _)⟩⟩
  · cases e
theorem w_tup {σ : L2.St} {H : Hp} {Q : VK} : rE E (fTup fa) σ H Q → tTup (rA E fa) σ H Q := by
  rintro ⟨As, bad, μ, ρ, d, o, μ', a, e, k⟩
  unfold fTup at e
  split at e
  · rename_i ds μ1 q
    split at e
    · rename_i hz
      cases e
      exact ⟨As, bad, μ, ρ, ds, _, a, q, fun vs H1 As1 bad1 c1 x1 r => ⟨by rw [r.length]; exact hz, (k.fin x1).tup c1 r⟩⟩
    · cases e
  · cases e
theorem w_lst {σ : L2.St} {H : Hp} {Q : VK} : rE E (fLst fa) σ H Q → tLst (rA E fa) σ H Q := by
  rintro ⟨As, bad, μ, ρ, d, o, μ', a, e, k⟩
  unfold fLst at e
  split at e
  · rename_i ds μ1 q
    split at e
    · rename_i hz
      cases e
      exact ⟨As, bad, μ, ρ, ds, _, a, q, fun vs H1 As1 bad1 c1 x1 r => ⟨by rw [r.length]; exact hz, (k.fin x1).lst c1 r⟩⟩
    · cases e
  · cases e
/-! lists of values -/
def fNil : Rho → Mu → Option (List D × Mu) := fun _ μ => some ([], μ)
def fCons (f : Rho → Mu → RE) (g : Rho → Mu → Option (List D × Mu)) : Rho → Mu → Option (List D × Mu) := fun ρ μ => match f ρ μ with
  | some (d, _, μ1) => (match g ρ μ1 with
    | some (ds, μ2) => some (d :: ds, μ2)
    | none => none)
  | none => none
def fConsP (f : Rho → Mu → Option (D × Mu)) (g : Rho → Mu → Option (List D × Mu)) : Rho → Mu → Option (List D × Mu) := fun ρ μ => match f ρ μ with
  | some (d, μ1) => (match g ρ μ1 with
    | some (ds, μ2) => some (d :: ds, μ2)
    | none => none)
  | none => none
theorem w_nil {σ : L2.St} {H : Hp} {Q : List V → Hp → Prop} : rA E fNil σ H Q → tNil σ H Q := by
  rintro ⟨As, bad, μ, ρ, ds, μ', a, e, k⟩
  cases e
  exact k [] H As bad a.c a.c.ext0 .nil
theorem w_nilQ {σ : L2.St} {H : Hp} {Q : List V → Hp → Prop} : rQ E fNil σ H Q → tNil σ H Q := by
  rintro ⟨As, bad, μ, ρ, ds, μ', a, e, k⟩
  cases e
  exact k [] H As bad a.c a.c.ext0 .nil
theorem w_cons {σ : L2.St} {H : Hp} {Q : List V → Hp → Prop} : rA E (fCons f fa) σ H Q → tCons (rR E f) (rA E fa) σ H Q := by
  rintro ⟨As, bad, μ, ρ, ds, μ', a, e, k⟩
  unfold fCons at e
  split at e
  · rename_i d o μ1 q
    split at e
    · rename_i ds μ2 q2
      cases e
      exact ⟨As, bad, μ, ρ, d, o, μ1, a, q, fun v H1 As1 bad1 c1 x1 r1 => ⟨As1, bad1, μ1, ρ, ds, _, a.ext c1 x1, q2, fun vs H2 As2 bad2 c2 x2 r2 => k _ H2 As2 bad2 c2 (x1.trans x2) (.cons (r1.ext x2) r2)⟩⟩
    · cases e
  · cases e
theorem w_consP {σ : L2.St} {H : Hp} {Q : List V → Hp → Prop} : rQ E (fConsP fp fa) σ H Q → tCons (rP E fp) (rQ E fa) σ H Q := by
  rintro ⟨As, bad, μ, ρ, ds, μ', a, e, k⟩
  unfold fConsP at e
  split at e
  · rename_i d μ1 q
    split at e
    · rename_i ds μ2 q2
      cases e
      exact ⟨As, bad, μ, ρ, d, μ1, a, q, fun v H1 As1 bad1 c1 x1 r1 => ⟨As1, bad1, μ1, ρ, ds, _, a.ext c1 x1, q2, fun vs H2 As2 bad2 c2 x2 r2 => k _ H2 As2 bad2 c2 (x1.trans x2) (.cons (r1.ext x2) r2)⟩⟩
    · cases e
  · cases e
/-! calls, subscripts -/
theorem w_bi {b : Bi} {σ : L2.St} {H : Hp} {Q : VK} : rE E (fBi (biD b) fa) σ H Q → tCB (rB E (biD b)) (rQ E fa) σ H Q := by
  rintro ⟨As, bad, μ, ρ, d, o, μ', a, e, k⟩
  unfold fBi at e
  split at e
  · rename_i ds μ1 q
    split at e
    · rename_i z w q2
      cases e
      exact ⟨As, bad, μ, ρ, ds, _, a, q, fun vs H1 As1 bad1 c1 x1 r1 => ⟨As1, bad1, _, ds, d, o, c1, r1, q2, k.fin x1⟩⟩
    · cases e
  · cases e
/-- what a def promises -/
def spC (E : En) (k : List D → Mu → RE) : Sp := fun vs H Q _ => ∃ As bad μ ds d o μ', CRel E As bad H μ ∧ Reps E As H bad vs ds ∧ k ds μ = some (d, o, μ') ∧ FinE E As bad H d o μ' Q
theorem w_call {c : List D → Mu → RE} {σ : L2.St} {H : Hp} {Q : VK} : rE E (fCall c fa) σ H Q → rA E fa σ H (fun vs H1 => spC E c vs H1 Q E0) := by
  rintro ⟨As, bad, μ, ρ, d, o, μ', a, e, k⟩
  unfold fCall at e
  split at e
  · rename_i ds μ1 q
    exact ⟨As, bad, μ, ρ, ds, μ1, a, q, fun vs H1 As1 bad1 c1 x1 r1 => ⟨As1, bad1, μ1, ds, d, o, μ', c1, r1, e, k.later x1⟩⟩
  · cases e
theorem reps_pm {As : List Addr} {H : Hp} {bad : Addr → Prop} {vs : List V} {ds : List D} (r : Reps E As H bad vs ds) : ∀ pm : List Nat, Reps E As H bad (pmL pm vs) (pmL pm ds)
  | [] => .nil
  | i :: pm => by
    unfold pmL
    rw [List.filterMap_cons, List.filterMap_cons]
    cases h : ds[i]? with
    | none =>
      have h2 : vs[i]? = none := by
        rw [List.getElem?_eq_none_iff] at h ⊢
        rw [r.length]
        exact h
      rw [h2]
      exact reps_pm r pm
    | some z =>
      obtain ⟨v, h2, h3⟩ := r.get h
      rw [h2]
      exact .cons h3 (reps_pm r pm)
theorem w_callk {c : List D → Mu → RE} {pm : List Nat} {fb : Rho → Mu → Option (List D × Mu)} {n m : Nat} (l1 : ∀ ρ μ ds μ1, fa ρ μ = some (ds, μ1) → ds.length = n) (l2 : ∀ ρ μ ds μ1, fb ρ μ = some (ds, μ1) → ds.length = m) {σ : L2.St} {H : Hp} {Q : VK} : rE E (fCallk c pm fa fb) σ H Q →
    rA E fa σ H (fun vs H1 => rA E fb σ H1 fun zs H2 => vs.length = n ∧ zs.length = m ∧ spC E c (vs ++ pmL pm zs) H2 Q E0) := by
  rintro ⟨As, bad, μ, ρ, d, o, μ', a, e, k⟩
  unfold fCallk at e
  split at e
  · rename_i ds μ1 q
    split at e
    · rename_i ds2 μ2 q2
      refine ⟨As, bad, μ, ρ, ds, μ1, a, q, fun vs H1 As1 bad1 c1 x1 r1 => ⟨As1, bad1, μ1, ρ, ds2, μ2, a.ext c1 x1, q2, fun zs H2 As2 bad2 c2 x2 r2 => ⟨?_, ?_, As2, bad2, μ2, ds ++ pmL pm ds2, d, o, μ', c2, (r1.ext x2).append (reps_pm r2 pm), e, k.later (x1.trans x2)⟩⟩⟩
      · rw [r1.length]
        exact l1 _ _ _ _ q
      · rw [r2.length]
        exact l2 _ _ _ _ q2
    · cases e
  · cases e
theorem w_callk0 {c : List D → Mu → RE} {pm : List Nat} {fb : Rho → Mu → Option (List D × Mu)} {m : Nat} (l2 : ∀ ρ μ ds μ1, fb ρ μ = some (ds, μ1) → ds.length = m) {σ : L2.St} {H : Hp} {Q : VK} : rE E (fCallk c pm (fun _ μ => some ([], μ)) fb) σ H Q →
    rA E fb σ H fun zs H2 => zs.length = m ∧ spC E c (pmL pm zs) H2 Q E0 := by
  rintro ⟨As, bad, μ, ρ, d, o, μ', a, e, k⟩
  unfold fCallk at e
  dsimp only at e
  split at e
  · rename_i ds2 μ2 q2
    rw [List.nil_append] at e
    refine ⟨As, bad, μ, ρ, ds2, μ2, a, q2, fun zs H2 As2 bad2 c2 x2 r2 => ⟨?_, As2, bad2, μ2, pmL pm ds2, d, o, μ', c2, reps_pm r2 pm, e, k.later x2⟩⟩
    rw [r2.length]
    exact l2 _ _ _ _ q2
  · cases e
theorem w_sub {σ : L2.St} {H : Hp} {Q : VK} : rE E (fSub fp gp) σ H Q → tOp (rS E) (rP E fp) (rP E gp) σ H Q := by
  rintro ⟨As, bad, μ, ρ, d, o, μ', a, e, k⟩
  unfold fSub at e
  split at e
  · rename_i x μ1 q1
    split at e
    · rename_i y μ2 q2
      split at e
      · rename_i z q3
        cases e
        exact ⟨As, bad, μ, ρ, x, μ1, a, q1, fun v H1 As1 bad1 c1 x1 r1 => ⟨As1, bad1, μ1, ρ, y, _, a.ext c1 x1, q2, fun u H2 As2 bad2 c2 x2 r2 => ⟨As2, bad2, _, x, y, d, c2, r1.ext x2, r2, q3, k.fin (x1.trans x2)⟩⟩⟩
      · cases e
    · cases e
  · cases e
theorem w_chn {c c' : Cp} {σ : L2.St} {H : Hp} {Q : VK} : rE E (fChn c c' fp gp hp) σ H Q → tChain (rZ E (cpF c)) (rZ E (cpF c')) (rP E fp) (rP E gp) (rP E hp) σ H Q := by
  rintro ⟨As, bad, μ, ρ, d, o, μ', a, e, k⟩
  unfold fChn at e
  split at e
  · rename_i x μ1 q1
    split at e
    · rename_i y μ2 q2
      refine ⟨As, bad, μ, ρ, x, μ1, a, q1, fun v H1 As1 bad1 c1 x1 r1 => ⟨As1, bad1, μ1, ρ, y, _, a.ext c1 x1, q2, fun u H2 As2 bad2 c2 x2 r2 => ?_⟩⟩
      split at e
      · rename_i q3
        refine ⟨As2, bad2, _, x, y, .bl true, false, c2, r1.ext x2, r2, by unfold cpF; rw [q3], fun v3 H3 bad3 c3 x3 r3 => ⟨true, repO_bl r3, ?_⟩⟩
        show rP E hp σ H3 _
        split at e
        · rename_i z μ3 q4
          split at e
          · rename_i k3 q5
            cases e
            refine ⟨As2, bad3, _, ρ, z, _, ((a.ext c1 x1).ext c2 x2).ext c3 x3, q4, fun w H4 As4 bad4 c4 x4 r4 => ?_⟩
            exact ⟨As4, bad4, _, y, z, .bl k3, false, c4, r2.ext (x3.trans x4), r4, by unfold cpF; rw [q5], k.fin (((x1.trans x2).trans x3).trans x4)⟩
          · cases e
        · cases e
      · rename_i q3
        cases e
        refine ⟨As2, bad2, _, x, y, .bl false, false, c2, r1.ext x2, r2, by unfold cpF; rw [q3], fun v3 H3 bad3 c3 x3 r3 => ⟨false, repO_bl r3, ?_⟩⟩
        show Q (.bl false) H3
        exact (k.later ((x1.trans x2).trans x3)).same c3 (.bl false)
      · cases e
    · cases e
  · cases e
/-- an end of a slice -/
def rO (E : En) (f : Rho → Mu → Option (Option Int × Mu)) : TO := fun σ H Q => ∃ As bad μ ρ i μ', At E As bad H μ σ ρ ∧ f ρ μ = some (i, μ') ∧ ∀ H' As' bad', CRel E As' bad' H' μ' → Ext As bad H As' bad' H' → Q i H'
theorem w_noPart {σ : L2.St} {H : Hp} {Q : Option Int → Hp → Prop} : rO E (fun _ μ => some (none, μ)) σ H Q → tNoPart σ H Q := by
  rintro ⟨As, bad, μ, ρ, i, μ', a, e, k⟩
  cases e
  exact k H As bad a.c a.c.ext0
theorem w_part {σ : L2.St} {H : Hp} {Q : Option Int → Hp → Prop} : rO E (fun ρ μ => match f ρ μ with
    | some (.int i, _, μ1) => some (some i, μ1)
    | _ => none) σ H Q → tPart (rE E f) σ H Q := by
  rintro ⟨As, bad, μ, ρ, i, μ', a, e, k⟩
  dsimp only at e
  split at e
  · rename_i i o1 μ1 q
    cases e
    exact ⟨As, bad, μ, ρ, _, o1, _, a, q, fun v H1 As1 bad1 c1 x1 r => ⟨i, repO_int r, k H1 As1 bad1 c1 x1⟩⟩
  · cases e
theorem w_slc {go ho : Rho → Mu → Option (Option Int × Mu)} {σ : L2.St} {H : Hp} {Q : VK} : rE E (fSlc fp go ho) σ H Q → tSl (rC E) (rP E fp) (rO E go) (rO E ho) σ H Q := by
  rintro ⟨As, bad, μ, ρ, d, o, μ', a, e, k⟩
  unfold fSlc at e
  split at e
  · rename_i x μ1 q1
    split at e
    · rename_i l μ2 q2
      split at e
      · rename_i u μ3 q3
        split at e
        · rename_i z w q4
          cases e
          exact ⟨As, bad, μ, ρ, x, μ1, a, q1, fun v H1 As1 bad1 c1 x1 r1 => ⟨As1, bad1, μ1, ρ, l, _, a.ext c1 x1, q2, fun H2 As2 bad2 c2 x2 => ⟨As2, bad2, _, ρ, u, _, (a.ext c1 x1).ext c2 x2, q3, fun H3 As3 bad3 c3 x3 =>
            ⟨As3, bad3, _, x, d, o, c3, r1.ext (x2.trans x3), q4, k.fin ((x1.trans x2).trans x3)⟩⟩⟩⟩
        · cases e
      · cases e
    · cases e
  · cases e
theorem w_rev {σ : L2.St} {H : Hp} {Q : VK} : rE E (fRev fp) σ H Q → rP E fp σ H (fun x H1 => ∃ As bad μ d z w, CRel E As bad H1 μ ∧ RepP E As H1 bad x d ∧ revD d = some (z, w) ∧ Fin E As bad H1 μ z w Q) := by
  rintro ⟨As, bad, μ, ρ, d, o, μ', a, e, k⟩
  unfold fRev at e
  split at e
  · rename_i x μ1 q1
    split at e
    · rename_i z w q2
      cases e
      exact ⟨As, bad, μ, ρ, x, _, a, q1, fun v H1 As1 bad1 c1 x1 r1 => ⟨As1, bad1, _, x, d, o, c1, r1, q2, k.fin x1⟩⟩
    · cases e
  · cases e
theorem w_isi {t : String} {σ : L2.St} {H : Hp} {Q : VK} : rE E (fIsi t fp) σ H Q → tCB (rT E t) (tCons (rP E fp) (tCons (tC (.ty t)) tNil)) σ H Q := by
  rintro ⟨As, bad, μ, ρ, d, o, μ', a, e, k⟩
  unfold fIsi at e
  split at e
  · rename_i x μ1 q1
    split at e
    · rename_i hp
      cases e
      exact ⟨As, bad, μ, ρ, x, _, a, q1, fun v H1 As1 bad1 c1 x1 r1 => ⟨As1, bad1, _, v, x, rfl, c1, r1, hp, k.fin x1⟩⟩
    · cases e
  · cases e
theorem w_mdL {σ : L2.St} {H : Hp} {Q : VK} : rE E (fMd (mdD .indexL) fp fa) σ H Q → tBM E.K "list" (rM E (mdD .indexL)) (rP E fp) (rQ E fa) σ H Q := by
  rintro ⟨As, bad, μ, ρ, d, o, μ', a, e, k⟩
  unfold fMd at e
  split at e
  · rename_i x μ1 q1
    split at e
    · rename_i ds μ2 q2
      split at e
      · rename_i z w q3
        cases e
        refine ⟨As, bad, μ, ρ, x, μ1, a, q1, fun v H1 As1 bad1 c1 x1 r1 => ⟨?_, ⟨As1, bad1, μ1, ρ, ds, _, a.ext c1 x1, q2, fun vs H2 As2 bad2 c2 x2 r2 => ⟨As2, bad2, _, x, ds, d, o, c2, r1.ext x2, r2, q3, k.fin (x1.trans x2)⟩⟩⟩⟩
        cases x with
        | lst xs =>
          obtain ⟨p, vs, rfl, l, _⟩ := r1.lst
          exact .inl ⟨rfl, vs, l.sq⟩
        | _ => cases ds <;> exact nomatch q3
      · cases e
    · cases e
  · cases e
theorem w_bits {σ : L2.St} {H : Hp} {Q : VK} : rE E (fMd (mdD .bits) fp fNil) σ H Q → tBits (rP E fp) σ H Q := by
  rintro ⟨As, bad, μ, ρ, d, o, μ', a, e, k⟩
  unfold fMd at e
  split at e
  · rename_i x μ1 q1
    split at e
    · rename_i ds μ2 q2
      cases q2
      split at e
      · rename_i z w q3
        cases e
        refine ⟨As, bad, μ, ρ, x, _, a, q1, fun v H1 As1 bad1 c1 x1 r1 => ?_⟩
        cases x with
        | int i =>
          cases q3
          exact ⟨i, r1.int, (k.fin x1).same c1 (.int _)⟩
        | _ => exact nomatch q3
      · cases e
    · cases e
  · cases e
/-- index of a written tuple -/
theorem w_mdT {xs : List D} {p : Addr} {ws : List V} (kt : KTs E.K p ws) (rp : ∀ As H bad, Reps E As H bad ws xs) {σ : L2.St} {H : Hp} {Q : VK} :
    rE E (fMd (mdD .indexT) (fun _ μ => some (.tup xs, μ)) fa) σ H Q → tBM E.K "tuple" (rMT E xs) (tC (.ref p)) (rQ E fa) σ H Q := by
  rintro ⟨As, bad, μ, ρ, d, o, μ', a, e, k⟩
  unfold fMd at e
  dsimp only at e
  split at e
  · rename_i ds μ2 q2
    split at e
    · rename_i z w q3
      cases e
      obtain ⟨its, n, h1, h2, h3⟩ := id kt
      refine ⟨.inr (.inl ⟨rfl, _, h1, rfl, rfl⟩), ⟨As, bad, μ, ρ, ds, _, a, q2, fun vs H2 As2 bad2 c2 x2 r2 => ?_⟩⟩
      cases ds with
      | nil => cases q3
      | cons y r =>
        cases r with
        | cons _ _ => cases q3
        | nil =>
          unfold mdD at q3
          dsimp only at q3
          split at q3
          · rename_i hz
            split at q3
            · rename_i m hm
              cases q3
              obtain ⟨z1, z2⟩ := Bool.and_eq_true_iff.mp hz
              exact ⟨As2, bad2, _, p, ws, y, m, rfl, kt, c2, rp _ _ _, r2, z1, z2, hm, k.fin x2⟩
            · cases q3
          · cases q3
    · cases e
  · cases e
end
end Z
end

section
set_option Elab.async false
set_option autoImplicit false
set_option linter.all false
set_option maxRecDepth 100000
set_option maxHeartbeats 1000000
/-! What is walked, over trees. -/
namespace Z
open PySem PySem.Spec PyProof.Rows L2

/-- J walks the trees ds -/
structure Wk (E : En) (pk : Bool) (As : List Addr) (bad : Addr → Prop) (H : Hp) (J : It) (ds : List D) : Prop where
  go : ∀ (i : Nat) (d : D) (μ : Mu), CRel E As bad H μ → ds[i]? = some d → J.go i H ∧ ∀ x H', J.yld i H x H' → CRel E As bad H' μ ∧ Ext As bad H As bad H' ∧ Rep E As H' bad x d
  stop : ∀ i, ds.length ≤ i → J.stop i H
/-- .. and goes on doing so -/
def Wks (E : En) (pk : Bool) (As : List Addr) (bad : Addr → Prop) (H : Hp) (J : It) (ds : List D) : Prop :=
  ∃ st : List Addr → (Addr → Prop) → Hp → Prop, st As bad H ∧ (∀ As bad H As' bad' H', st As bad H → Ext As bad H As' bad' H' → st As' bad' H') ∧
    (pk = false → ∀ As bad H As' bad' H', st As bad H → SExt As bad H As' bad' H' → st As' bad' H') ∧ ∀ As bad H, st As bad H → Wk E pk As bad H J ds
/-- a list that is walked -/
def LW (pk : Bool) (E : En) (a : Addr) (vs : List V) (ds : List D) (As : List Addr) (bad : Addr → Prop) (H : Hp) : Prop :=
  ((Rd H a (.lst vs) ∧ (pk = true → a ∉ As) ∧ (pk = false → ¬ bad a)) ∨ KLs E.K a vs) ∧ Reps E As H bad vs ds
def TW (E : En) (a : Addr) (vs : List V) (ds : List D) (As : List Addr) (bad : Addr → Prop) (H : Hp) : Prop :=
  ((Rd H a (.tup vs) ∧ ¬ bad a) ∨ KTs E.K a vs) ∧ Reps E As H bad vs ds
section
variable {E : En} {pk : Bool} {a b : Addr} {vs ws : List V} {ds es : List D} {As As' : List Addr} {bad bad' : Addr → Prop} {H H' : Hp}
theorem LW.sq (w : LW pk E a vs ds As bad H) : SqL E.K H a vs := by
  obtain ⟨w | w, _⟩ := w
  · exact .inl w.1
  · exact w.sq
theorem TW.sq (w : TW E a vs ds As bad H) : SqT E.K H a vs := by
  obtain ⟨w | w, _⟩ := w
  · exact .inl w.1
  · exact w.sq
theorem Ext.na (x : Ext As bad H As' bad' H') {a : Addr} {o : HO} (h : H a = some o) (n : a ∉ As) : a ∉ As' := fun m => by
  have := x.fr a m n
  rw [h] at this
  cases this
theorem LW.ext (w : LW pk E a vs ds As bad H) (x : Ext As bad H As' bad' H') : LW pk E a vs ds As' bad' H' := by
  obtain ⟨w | w, r⟩ := w
  · obtain ⟨h1, h2, h3⟩ := w
    obtain ⟨o, ho⟩ := rd_there h1
    have na : a ∉ As := by
      cases pk with
      | true => exact h2 rfl
      | false => exact fun m => h3 rfl (x.sub a m)
    exact ⟨.inl ⟨rd_keep h1 fun o h => x.all a o h na, fun _ => x.na ho na, fun e => x.nb a o ho (h3 e)⟩, r.ext x⟩
  · exact ⟨.inr w, r.ext x⟩
theorem LW.sx (w : LW false E a vs ds As bad H) (x : SExt As bad H As' bad' H') : LW false E a vs ds As' bad' H' := by
  obtain ⟨w | w, r⟩ := w
  · obtain ⟨h1, h2, h3⟩ := w
    obtain ⟨o, ho⟩ := rd_there h1
    exact ⟨.inl ⟨rd_keep h1 fun o h => (x.keep a o h (h3 rfl)).1, (fun e => nomatch e), fun _ => (x.keep a o ho (h3 rfl)).2⟩, r.sx x⟩
  · exact ⟨.inr w, r.sx x⟩
theorem TW.sx (w : TW E a vs ds As bad H) (x : SExt As bad H As' bad' H') : TW E a vs ds As' bad' H' := by
  obtain ⟨w | w, r⟩ := w
  · obtain ⟨h1, h3⟩ := w
    obtain ⟨o, ho⟩ := rd_there h1
    exact ⟨.inl ⟨rd_keep h1 fun o h => (x.keep a o h h3).1, (x.keep a o ho h3).2⟩, r.sx x⟩
  · exact ⟨.inr w, r.sx x⟩
theorem TW.ext (w : TW E a vs ds As bad H) (x : Ext As bad H As' bad' H') : TW E a vs ds As' bad' H' := w.sx x.sx
/-- a list, a tuple -/
theorem walk_list (w : LW pk E a vs ds As bad H) : Wks E pk As bad H (Itl E.K a) ds := by
  refine ⟨fun As bad H => LW pk E a vs ds As bad H, w, fun _ _ _ _ _ _ w x => w.ext x, fun e => ?_, fun As bad H w => ⟨fun i d μ c hd => ?_, fun i hi => ⟨vs, w.sq, by rw [w.2.length]; exact hi⟩⟩⟩
  · subst e
    exact fun _ _ _ _ _ _ w x => w.sx x
  · obtain ⟨v, h1, h2⟩ := w.2.get hd
    refine ⟨⟨vs, v, w.sq, h1⟩, fun x H' y => ?_⟩
    obtain ⟨rfl, y⟩ := y
    have e := y vs w.sq
    rw [h1] at e
    cases e
    exact ⟨c, c.ext0, h2⟩
theorem walk_tup (w : TW E a vs ds As bad H) : Wks E pk As bad H (Itt E.K a) ds := by
  refine ⟨fun As bad H => TW E a vs ds As bad H, w, fun _ _ _ _ _ _ w x => w.ext x, fun _ _ _ _ _ _ _ w x => w.sx x, fun As bad H w => ⟨fun i d μ c hd => ?_, fun i hi => ⟨vs, w.sq, by rw [w.2.length]; exact hi⟩⟩⟩
  obtain ⟨v, h1, h2⟩ := w.2.get hd
  refine ⟨⟨vs, v, w.sq, h1⟩, fun x H' y => ?_⟩
  obtain ⟨rfl, y⟩ := y
  have e := y vs w.sq
  rw [h1] at e
  cases e
  exact ⟨c, c.ext0, h2⟩
theorem rngL_get : ∀ (n : Nat) (lo : Int) (i : Nat), (rngL n lo)[i]? = if i < n then some (.int (lo + i)) else none
  | 0, lo, i => by simp [rngL]
  | n + 1, lo, 0 => by simp [rngL]
  | n + 1, lo, i + 1 => by
    rw [show rngL (n + 1) lo = .int lo :: rngL n (lo + 1) from rfl, List.getElem?_cons_succ, rngL_get n (lo + 1) i]
    by_cases h : i < n
    · rw [if_pos h, if_pos (by omega)]
      congr 2
      omega
    · rw [if_neg h, if_neg (by omega)]
theorem rngL_len : ∀ (n : Nat) (lo : Int), (rngL n lo).length = n
  | 0, _ => rfl
  | n + 1, lo => by rw [show rngL (n + 1) lo = .int lo :: rngL n (lo + 1) from rfl, List.length_cons, rngL_len n (lo + 1)]
theorem walk_rng {lo : Int} {n : Nat} : Wks E pk As bad H (Itr lo n) (rngL n lo) := by
  refine ⟨fun _ _ _ => True, True.intro, fun _ _ _ _ _ _ _ _ => True.intro, fun _ _ _ _ _ _ _ _ _ => True.intro, fun As bad H _ => ⟨fun i d μ c hd => ?_, fun i hi => ?_⟩⟩
  · rw [rngL_get] at hd
    split at hd
    · rename_i h
      cases hd
      refine ⟨h, fun x H' y => ?_⟩
      obtain ⟨rfl, rfl⟩ := y
      exact ⟨c, c.ext0, .int _⟩
    · cases hd
  · rw [rngL_len] at hi
    exact hi
theorem enumL_get : ∀ (ds : List D) (k : Int) (i : Nat), (enumL ds k)[i]? = (ds[i]?).map fun d => .tup [.int (k + i), d]
  | [], k, i => by simp [enumL]
  | d :: ds, k, 0 => by simp [enumL]
  | d :: ds, k, i + 1 => by
    rw [show enumL (d :: ds) k = .tup [.int k, d] :: enumL ds (k + 1) from rfl, List.getElem?_cons_succ, enumL_get ds (k + 1) i, List.getElem?_cons_succ]
    congr 1
    funext z
    congr 3
    omega
theorem enumL_len : ∀ (ds : List D) (k : Int), (enumL ds k).length = ds.length
  | [], _ => rfl
  | d :: ds, k => by rw [show enumL (d :: ds) k = .tup [.int k, d] :: enumL ds (k + 1) from rfl, List.length_cons, List.length_cons, enumL_len ds (k + 1)]
theorem new_tup {μ : Mu} {T : Addr} {xs : List V} {es : List D} (c : CRel E As bad H μ) (hT : H T = none) (r : Reps E As H bad xs es) : CRel E As bad (upd H T (.tup xs)) μ ∧ Ext As bad H As bad (upd H T (.tup xs)) ∧ Rep E As (upd H T (.tup xs)) bad (.ref T) (.tup es) := by
  have x := new_ext c hT (.tup xs)
  exact ⟨new_rel c hT _, x, .tup (.inl upd_same) (c.nbad hT) (r.ext x)⟩
theorem walk_enum (w : LW pk E a vs ds As bad H) : Wks E pk As bad H (Ite E.K a) (enumL ds 0) := by
  refine ⟨fun As bad H => LW pk E a vs ds As bad H, w, fun _ _ _ _ _ _ w x => w.ext x, fun e => ?_, fun As bad H w => ⟨fun i d μ c hd => ?_, fun i hi => ⟨vs, w.sq, by rw [enumL_len] at hi; rw [w.2.length]; exact hi⟩⟩⟩
  · subst e
    exact fun _ _ _ _ _ _ w x => w.sx x
  · rw [enumL_get] at hd
    cases q : ds[i]? with
    | none =>
      rw [q] at hd
      cases hd
    | some d0 =>
      rw [q] at hd
      cases hd
      obtain ⟨v, h1, h2⟩ := w.2.get q
      refine ⟨⟨vs, v, w.sq, h1⟩, fun x H' y => ?_⟩
      obtain ⟨T, x', rfl, hT, rfl, y⟩ := y
      have e := y vs w.sq
      rw [h1] at e
      cases e
      have ez : (0 : Int) + (i : Int) = (i : Int) := Int.zero_add _
      rw [ez]
      exact new_tup c hT (.cons (.int _) (.cons h2 .nil))
theorem walk_enumT (w : TW E a vs ds As bad H) : Wks E pk As bad H (Et.IteT E.K a) (enumL ds 0) := by
  refine ⟨fun As bad H => TW E a vs ds As bad H, w, fun _ _ _ _ _ _ w x => w.ext x, fun _ _ _ _ _ _ _ w x => w.sx x, fun As bad H w => ⟨fun i d μ c hd => ?_, fun i hi => ⟨vs, w.sq, by rw [enumL_len] at hi; rw [w.2.length]; exact hi⟩⟩⟩
  rw [enumL_get] at hd
  cases q : ds[i]? with
  | none =>
    rw [q] at hd
    cases hd
  | some d0 =>
    rw [q] at hd
    cases hd
    obtain ⟨v, h1, h2⟩ := w.2.get q
    refine ⟨⟨vs, v, w.sq, h1⟩, fun x H' y => ?_⟩
    obtain ⟨T, x', rfl, hT, rfl, y⟩ := y
    have e := y vs w.sq
    rw [h1] at e
    cases e
    have ez : (0 : Int) + (i : Int) = (i : Int) := Int.zero_add _
    rw [ez]
    exact new_tup c hT (.cons (.int _) (.cons h2 .nil))
theorem zipL_get : ∀ (xs ys : List D) (i : Nat) (d : D), (zipL xs ys)[i]? = some d → ∃ x y, d = .tup [x, y] ∧ xs[i]? = some x ∧ ys[i]? = some y
  | [], _, _, _, h => by simp [zipL] at h
  | _ :: _, [], _, _, h => by simp [zipL] at h
  | x :: xs, y :: ys, 0, d, h => by
    simp [zipL] at h
    exact ⟨x, y, h.symm, rfl, rfl⟩
  | x :: xs, y :: ys, i + 1, d, h => by
    obtain ⟨x', y', e, h1, h2⟩ := zipL_get xs ys i d (by simpa [zipL] using h)
    exact ⟨x', y', e, by simpa using h1, by simpa using h2⟩
theorem zipL_len : ∀ (xs ys : List D) (i : Nat), (zipL xs ys).length ≤ i → xs.length ≤ i ∨ ys.length ≤ i
  | [], _, _, _ => .inl (Nat.zero_le _)
  | _ :: _, [], _, _ => .inr (Nat.zero_le _)
  | x :: xs, y :: ys, 0, h => by simp [zipL] at h
  | x :: xs, y :: ys, i + 1, h => by
    have := zipL_len xs ys i (by simpa [zipL] using h)
    simpa using this
theorem walk_zipL (w : LW pk E a vs ds As bad H) (w2 : LW pk E b ws es As bad H) : Wks E pk As bad H (Itz E.K a b) (zipL ds es) := by
  refine ⟨fun As bad H => LW pk E a vs ds As bad H ∧ LW pk E b ws es As bad H, ⟨w, w2⟩, fun _ _ _ _ _ _ w x => ⟨w.1.ext x, w.2.ext x⟩, fun e => ?_, fun As bad H w => ⟨fun i d μ c hd => ?_, fun i hi => ⟨vs, ws, w.1.sq, w.2.sq, by rw [w.1.2.length, w.2.2.length]; exact zipL_len _ _ _ hi⟩⟩⟩
  · subst e
    exact fun _ _ _ _ _ _ w x => ⟨w.1.sx x, w.2.sx x⟩
  · obtain ⟨x0, y0, rfl, q1, q2⟩ := zipL_get _ _ _ _ hd
    obtain ⟨v, h1, h2⟩ := w.1.2.get q1
    obtain ⟨u, h3, h4⟩ := w.2.2.get q2
    refine ⟨⟨vs, ws, v, u, w.1.sq, w.2.sq, h1, h3⟩, fun x H' y => ?_⟩
    obtain ⟨T, x', y', rfl, hT, rfl, f1, f2⟩ := y
    have e1 := f1 vs w.1.sq
    have e2 := f2 ws w.2.sq
    rw [h1] at e1
    rw [h3] at e2
    cases e1
    cases e2
    exact new_tup c hT (.cons h2 (.cons h4 .nil))
theorem walk_zipT (w : TW E a vs ds As bad H) (w2 : TW E b ws es As bad H) : Wks E pk As bad H (RZ.ItzT E.K a b) (zipL ds es) := by
  refine ⟨fun As bad H => TW E a vs ds As bad H ∧ TW E b ws es As bad H, ⟨w, w2⟩, fun _ _ _ _ _ _ w x => ⟨w.1.ext x, w.2.ext x⟩, fun _ _ _ _ _ _ _ w x => ⟨w.1.sx x, w.2.sx x⟩, fun As bad H w => ⟨fun i d μ c hd => ?_, fun i hi => ⟨vs, ws, w.1.sq, w.2.sq, by rw [w.1.2.length, w.2.2.length]; exact zipL_len _ _ _ hi⟩⟩⟩
  obtain ⟨x0, y0, rfl, q1, q2⟩ := zipL_get _ _ _ _ hd
  obtain ⟨v, h1, h2⟩ := w.1.2.get q1
  obtain ⟨u, h3, h4⟩ := w.2.2.get q2
  refine ⟨⟨vs, ws, v, u, w.1.sq, w.2.sq, h1, h3⟩, fun x H' y => ?_⟩
  obtain ⟨T, x', y', rfl, hT, rfl, f1, f2⟩ := y
  have e1 := f1 vs w.1.sq
  have e2 := f2 ws w.2.sq
  rw [h1] at e1
  rw [h3] at e2
  cases e1
  cases e2
  exact new_tup c hT (.cons h2 (.cons h4 .nil))
end
end Z
end

section
set_option Elab.async false
set_option autoImplicit false
set_option linter.all false
set_option maxRecDepth 100000
set_option maxHeartbeats 1000000
/-! Iterators, targets, comprehensions, over trees. -/
namespace Z
open PySem PySem.Spec PyProof.Rows L2

/-- an operand that is walked -/
def RV (E : En) (pk : Bool) (As : List Addr) (H : Hp) (bad : Addr → Prop) (v : V) (d : D) : Prop := match pk with
  | true => RepP E As H bad v d
  | false => Rep E As H bad v d
def rV (E : En) (pk : Bool) (f : Rho → Mu → Option (D × Mu)) : TE := fun σ H Q => ∃ As bad μ ρ d μ', At E As bad H μ σ ρ ∧ f ρ μ = some (d, μ') ∧
  ∀ v H' As' bad', CRel E As' bad' H' μ' → Ext As bad H As' bad' H' → RV E pk As' H' bad' v d → Q v H'
/-- what is walked -/
def rI (E : En) (pk : Bool) (f : Rho → Mu → Option (List D × Mu)) : TI := fun σ H R => ∃ As bad μ ρ ds μ', At E As bad H μ σ ρ ∧ f ρ μ = some (ds, μ') ∧
  ∀ J H' As' bad', CRel E As' bad' H' μ' → Ext As bad H As' bad' H' → Wks E pk As' bad' H' J ds → R J H'
def fEx (f : Rho → Mu → Option (D × Mu)) : Rho → Mu → Option (List D × Mu) := fun ρ μ => match f ρ μ with
  | some (x, μ1) => (match seqD x with
    | some ds => some (ds, μ1)
    | none => none)
  | none => none
def fRng (f : Rho → Mu → Option (List D × Mu)) : Rho → Mu → Option (List D × Mu) := fun ρ μ => match f ρ μ with
  | some ([.int n], μ1) => if -(2 ^ 62) ≤ n ∧ n ≤ sizeLine then some (rngL n.toNat 0, μ1) else none
  | some ([.int a, .int b], μ1) => if -(2 ^ 62) ≤ a ∧ a < 2 ^ 62 ∧ -(2 ^ 62) ≤ b ∧ b < 2 ^ 62 ∧ b - a ≤ sizeLine then some (rngL (b - a).toNat a, μ1) else none
  | _ => none
def fEnum (f : Rho → Mu → Option (D × Mu)) : Rho → Mu → Option (List D × Mu) := fun ρ μ => match f ρ μ with
  | some (x, μ1) => (match x with
    | .lst ds => some (enumL ds 0, μ1)
    | .tup ds => some (enumL ds 0, μ1)
    | _ => none)
  | none => none
def fZip (f g : Rho → Mu → Option (D × Mu)) : Rho → Mu → Option (List D × Mu) := fun ρ μ => match f ρ μ with
  | some (x, μ1) => (match g ρ μ1 with
    | some (y, μ2) => (match zipD x y with
      | some ds => some (ds, μ2)
      | none => none)
    | none => none)
  | none => none
section
variable {E : En} {pk : Bool} {As As' : List Addr} {bad bad' : Addr → Prop} {H H' : Hp} {μ : Mu} {v : V} {d : D} {f : Rho → Mu → RE} {fp gp : Rho → Mu → Option (D × Mu)} {fa : Rho → Mu → Option (List D × Mu)}
theorem RV.p (r : RV E pk As H bad v d) : RepP E As H bad v d := by
  cases pk with
  | true => exact r
  | false => exact .inl r
theorem RV.ext (r : RV E pk As H bad v d) (x : Ext As bad H As' bad' H') : RV E pk As' H' bad' v d := by
  cases pk with
  | true => exact RepP.ext r x
  | false => exact Rep.ext x r
theorem RV.lst {ds : List D} (r : RV E pk As H bad v (.lst ds)) (c : CRel E As bad H μ) : ∃ a vs, v = .ref a ∧ LW pk E a vs ds As bad H := by
  have one : Rep E As H bad v (.lst ds) → ∃ a vs, v = .ref a ∧ LW pk E a vs ds As bad H := fun r => by
    cases r with
    | lst r0 n q => exact ⟨_, _, rfl, .inl ⟨r0, fun _ m => n (c.sub _ m), fun _ => n⟩, q⟩
    | lstK r0 q => exact ⟨_, _, rfl, .inr r0, q⟩
  cases pk with
  | false => exact one r
  | true =>
    rcases r with r | ⟨a, vs, es, rfl, h2, h3, h4, h5⟩
    · exact one r
    · cases h2
      exact ⟨a, vs, rfl, .inl ⟨.inl h3, fun _ => h5, fun e => nomatch e⟩, h4⟩
theorem RepP.tw {ds : List D} (r : RepP E As H bad v (.tup ds)) : ∃ a vs, v = .ref a ∧ TW E a vs ds As bad H := by
  rcases r with r | ⟨a, vs, es, rfl, h2, h3, h4, h5⟩
  · cases r with
    | tup r n q => exact ⟨_, _, rfl, .inl ⟨r, n⟩, q⟩
    | tupK r q => exact ⟨_, _, rfl, .inr r, q⟩
  · cases h2
theorem w_v1 {σ : L2.St} {H : Hp} {Q : VK} : rV E true fp σ H Q → rP E fp σ H Q := fun h => h
theorem w_v0 {σ : L2.St} {H : Hp} {Q : VK} : rV E false (fun ρ μ => match f ρ μ with
    | some (d, _, μ1) => some (d, μ1)
    | none => none) σ H Q → rR E f σ H Q := by
  rintro ⟨As, bad, μ, ρ, d, μ', a, e, k⟩
  dsimp only at e
  split at e
  · rename_i d' o μ1 q
    cases e
    exact ⟨As, bad, μ, ρ, d, o, μ', a, q, k⟩
  · cases e
theorem w_iEx {σ : L2.St} {H : Hp} {R : It → Hp → Prop} : rI E pk (fEx fp) σ H R → iList E.K (rV E pk fp) σ H R ∨ iTup E.K (rV E pk fp) σ H R := by
  rintro ⟨As, bad, μ, ρ, ds, μ', a, e, k⟩
  unfold fEx at e
  split at e
  · rename_i x μ1 q1
    split at e
    · rename_i es q2
      cases e
      cases x with
      | lst xs =>
        cases q2
        refine .inl ⟨As, bad, μ, ρ, _, _, a, q1, fun v H' As' bad' c x r => ?_⟩
        obtain ⟨p, vs, rfl, w⟩ := r.lst c
        exact ⟨p, rfl, ⟨vs, w.sq⟩, k _ H' As' bad' c x (walk_list w)⟩
      | tup xs =>
        cases q2
        refine .inr ⟨As, bad, μ, ρ, _, _, a, q1, fun v H' As' bad' c x r => ?_⟩
        obtain ⟨p, vs, rfl, w⟩ := r.p.tw
        exact ⟨p, rfl, ⟨vs, w.sq⟩, k _ H' As' bad' c x (walk_tup w)⟩
      | _ => cases q2
    · cases e
  · cases e
theorem sz62 {n : Nat} {i : Int} (h : i ≤ (sizeLine : Nat)) : i < 2 ^ 62 := by
  rw [sizeLine_eq] at h
  omega
theorem w_iRng1 {σ : L2.St} {H : Hp} {R : It → Hp → Prop} : rI E pk (fRng (fConsP fp fNil)) σ H R → iRng1 (tCons (rP E fp) tNil) σ H R := by
  rintro ⟨As, bad, μ, ρ, ds, μ', a, e, k⟩
  unfold fRng fConsP fNil at e
  dsimp only at e
  cases q : fp ρ μ with
  | none =>
    rw [q] at e
    cases e
  | some z =>
    obtain ⟨d, μ1⟩ := z
    rw [q] at e
    dsimp only at e
    refine ⟨As, bad, μ, ρ, d, μ1, a, q, fun v H' As' bad' c x r => ?_⟩
    cases d with
    | int n =>
      dsimp only at e
      split at e
      · rename_i hz
        cases e
        have hv := r.int
        subst hv
        exact ⟨n, rfl, hz.1, sz62 (n := 0) hz.2, k _ H' As' bad' c x walk_rng⟩
      · cases e
    | _ => cases e
theorem w_iRng2 {σ : L2.St} {H : Hp} {R : It → Hp → Prop} : rI E pk (fRng (fConsP fp (fConsP gp fNil))) σ H R → iRng2 (tCons (rP E fp) (tCons (rP E gp) tNil)) σ H R := by
  rintro ⟨As, bad, μ, ρ, ds, μ', a, e, k⟩
  unfold fRng fConsP fNil at e
  dsimp only at e
  cases q : fp ρ μ with
  | none =>
    rw [q] at e
    cases e
  | some z =>
    obtain ⟨d, μ1⟩ := z
    rw [q] at e
    dsimp only at e
    cases q2 : gp ρ μ1 with
    | none =>
      rw [q2] at e
      cases e
    | some z2 =>
      obtain ⟨d2, μ2⟩ := z2
      rw [q2] at e
      dsimp only at e
      refine ⟨As, bad, μ, ρ, d, μ1, a, q, fun v H1 As1 bad1 c1 x1 r1 => ⟨As1, bad1, μ1, ρ, d2, μ2, a.ext c1 x1, q2, fun u H' As' bad' c x r => ?_⟩⟩
      cases d with
      | int n => cases d2 with
        | int m =>
          dsimp only at e
          split at e
          · rename_i hz
            cases e
            have hv := r1.int
            have hu := r.int
            subst hv hu
            exact ⟨n, m, rfl, ⟨hz.1, hz.2.1, hz.2.2.1, hz.2.2.2.1⟩, k _ H' As' bad' c (x1.trans x) walk_rng⟩
          · cases e
        | _ => cases e
      | _ => cases d2 <;> cases e
theorem w_iEnum {σ : L2.St} {H : Hp} {R : It → Hp → Prop} : rI E pk (fEnum fp) σ H R → Et.iEnumA E.K (tCons (rV E pk fp) tNil) σ H R := by
  rintro ⟨As, bad, μ, ρ, ds, μ', a, e, k⟩
  unfold fEnum at e
  split at e
  · rename_i x μ1 q1
    split at e
    · rename_i es
      cases e
      refine ⟨As, bad, μ, ρ, _, _, a, q1, fun v H' As' bad' c x r => ?_⟩
      obtain ⟨p, vs, rfl, w⟩ := r.lst c
      exact ⟨p, vs, rfl, .inl ⟨w.sq, k _ H' As' bad' c x (walk_enum w)⟩⟩
    · rename_i es
      cases e
      refine ⟨As, bad, μ, ρ, _, _, a, q1, fun v H' As' bad' c x r => ?_⟩
      obtain ⟨p, vs, rfl, w⟩ := r.p.tw
      exact ⟨p, vs, rfl, .inr ⟨w.sq, k _ H' As' bad' c x (walk_enumT w)⟩⟩
    · cases e
  · cases e
theorem w_iZip {σ : L2.St} {H : Hp} {R : It → Hp → Prop} : rI E pk (fZip fp gp) σ H R → RZ.iZipA E.K (tCons (rV E pk fp) (tCons (rV E pk gp) tNil)) σ H R := by
  rintro ⟨As, bad, μ, ρ, ds, μ', a, e, k⟩
  unfold fZip at e
  split at e
  · rename_i x μ1 q1
    split at e
    · rename_i y μ2 q2
      split at e
      · rename_i es q3
        cases e
        refine ⟨As, bad, μ, ρ, _, _, a, q1, fun v H1 As1 bad1 c1 x1 r1 => ⟨As1, bad1, μ1, ρ, y, _, a.ext c1 x1, q2, fun u H' As' bad' c x2 r => ?_⟩⟩
        cases x with
        | lst xs => cases y with
          | lst ys =>
            cases q3
            obtain ⟨p, vs, rfl, w⟩ := (r1.ext x2).lst c
            obtain ⟨p2, vs2, rfl, w2⟩ := r.lst c
            exact ⟨p, p2, vs, vs2, rfl, .inl ⟨w.sq, w2.sq, k _ H' As' bad' c (x1.trans x2) (walk_zipL w w2)⟩⟩
          | _ => cases q3
        | tup xs => cases y with
          | tup ys =>
            cases q3
            obtain ⟨p, vs, rfl, w⟩ := (r1.ext x2).p.tw
            obtain ⟨p2, vs2, rfl, w2⟩ := r.p.tw
            exact ⟨p, p2, vs, vs2, rfl, .inr ⟨w.sq, w2.sq, k _ H' As' bad' c (x1.trans x2) (walk_zipT w w2)⟩⟩
          | _ => cases q3
        | _ => cases y <;> cases q3
      · cases e
    · cases e
  · cases e

/-! ### slots -/
variable {H0 : Hp} {σ : L2.St} {ρ : Rho}
theorem SRel.set {i : Nat} (s : SRel E H0 As bad H σ ρ) (r : Rep E As H bad v d) (hi : i < ρ.length) : SRel E H0 As bad H (σ.set i (some v)) (ρ.set i (some (d, false))) := by
  have hiσ : i < σ.length := by rw [← s.len]; exact hi
  refine ⟨by simpa using s.len, fun j e h => ?_, fun j e h => ?_, fun j k d1 d2 p h1 h2 h3 h4 => ?_⟩
  · by_cases q : i = j
    · subst q
      rw [List.getElem?_set_self hi] at h
      cases h
      exact ⟨v, by rw [List.getElem?_set_self hiσ], r⟩
    · rw [List.getElem?_set_ne q] at h
      rw [List.getElem?_set_ne q]
      exact s.val j e h
  · by_cases q : i = j
    · subst q
      rw [List.getElem?_set_self hi] at h
      cases h
    · rw [List.getElem?_set_ne q] at h
      rw [List.getElem?_set_ne q]
      exact s.own j e h
  · have nj : ∀ {l : Nat} {y : D}, (ρ.set i (some (d, false)))[l]? = some (some (y, true)) → i ≠ l := fun {l y} h q => by
      subst q
      rw [List.getElem?_set_self hi] at h
      cases h
    have n1 := nj h1
    have n2 := nj h2
    rw [List.getElem?_set_ne n1] at h1 h3
    rw [List.getElem?_set_ne n2] at h2 h4
    exact s.dis j k d1 d2 p h1 h2 h3 h4
/-- a new list of one's own -/
theorem SRel.setO {i : Nat} {a : Addr} {vs : List V} {ds : List D} (s : SRel E H0 As bad H σ ρ) (hi : i < ρ.length) (h : H a = some (.lst vs)) (r : Reps E As H bad vs ds) (hb : bad a) (na : a ∉ As) (h0 : H0 a = none)
    (ap : ∀ (j : Nat) (e : D), ρ[j]? = some (some (e, true)) → σ[j]? ≠ some (some (.ref a))) : SRel E H0 As bad H (σ.set i (some (.ref a))) (ρ.set i (some (.lst ds, true))) := by
  have hiσ : i < σ.length := by rw [← s.len]; exact hi
  refine ⟨by simpa using s.len, fun j e h => ?_, fun j e h => ?_, fun j k d1 d2 p h1 h2 h3 h4 => ?_⟩
  · by_cases q : i = j
    · subst q
      rw [List.getElem?_set_self hi] at h
      cases h
    · rw [List.getElem?_set_ne q] at h
      rw [List.getElem?_set_ne q]
      exact s.val j e h
  · by_cases q : i = j
    · subst q
      rw [List.getElem?_set_self hi] at h
      cases h
      exact ⟨a, vs, ds, rfl, by rw [List.getElem?_set_self hiσ], by assumption, r, hb, na, h0⟩
    · rw [List.getElem?_set_ne q] at h
      rw [List.getElem?_set_ne q]
      exact s.own j e h
  · by_cases q : i = j
    · by_cases q2 : i = k
      · rw [← q, ← q2]
      · subst q
        rw [List.getElem?_set_self hiσ] at h3
        rw [List.getElem?_set_ne q2] at h2 h4
        cases h3
        exact absurd h4 (ap k d2 h2)
    · by_cases q2 : i = k
      · subst q2
        rw [List.getElem?_set_self hiσ] at h4
        rw [List.getElem?_set_ne q] at h1 h3
        cases h4
        exact absurd h3 (ap j d1 h1)
      · rw [List.getElem?_set_ne q] at h1 h3
        rw [List.getElem?_set_ne q2] at h2 h4
        exact s.dis j k d1 d2 p h1 h2 h3 h4
theorem wipeR_length (ρ : Rho) : ∀ vs : List Nat, (wipeR ρ vs).length = ρ.length
  | [] => rfl
  | v :: vs => by unfold wipeR; rw [List.length_set, wipeR_length ρ vs]
theorem wipeR_some {i : Nat} {x : D × Bool} : ∀ {vs : List Nat}, (wipeR ρ vs)[i]? = some (some x) → ρ[i]? = some (some x) ∧ i ∉ vs
  | [], h => ⟨h, by simp⟩
  | v :: vs, h => by
    unfold wipeR at h
    by_cases hi : v = i
    · subst hi
      by_cases hv : v < (wipeR ρ vs).length
      · rw [List.getElem?_set_self hv] at h; cases h
      · rw [List.getElem?_eq_none (by simpa using hv)] at h; cases h
    · rw [List.getElem?_set_ne hi] at h
      obtain ⟨h1, h2⟩ := wipeR_some h
      exact ⟨h1, by simp only [List.mem_cons, not_or]; exact ⟨fun e => hi e.symm, h2⟩⟩
theorem wipe_other {i : Nat} : ∀ {vs : List Nat}, i ∉ vs → (wipe σ vs)[i]? = σ[i]?
  | [], _ => rfl
  | v :: vs, h => by
    simp only [List.mem_cons, not_or] at h
    unfold wipe
    rw [List.getElem?_set_ne (fun e => h.1 e.symm)]
    exact wipe_other h.2
theorem SRel.wiped (s : SRel E H0 As bad H σ ρ) (vs : List Nat) : SRel E H0 As bad H (wipe σ vs) (wipeR ρ vs) := by
  refine ⟨by rw [wipeR_length, wipe_length, s.len], fun j e h => ?_, fun j e h => ?_, fun j k d1 d2 p h1 h2 h3 h4 => ?_⟩
  · obtain ⟨h1, h2⟩ := wipeR_some h
    rw [wipe_other h2]
    exact s.val j e h1
  · obtain ⟨h1, h2⟩ := wipeR_some h
    rw [wipe_other h2]
    exact s.own j e h1
  · obtain ⟨p1, n1⟩ := wipeR_some h1
    obtain ⟨p2, n2⟩ := wipeR_some h2
    rw [wipe_other n1] at h3
    rw [wipe_other n2] at h4
    exact s.dis j k d1 d2 p p1 p2 h3 h4
theorem wipe_same {σ' : L2.St} {vs : List Nat} (hl : σ'.length = σ.length) (h : ∀ i, i ∉ vs → σ'[i]? = σ[i]?) : wipe σ' vs = wipe σ vs := by
  apply List.ext_getElem?
  intro i
  by_cases m : i ∈ vs
  · have no : ∀ (τ : L2.St), τ.length = σ.length → (wipe τ vs)[i]? = if i < σ.length then some none else none := fun τ ht => by
      by_cases hi : i < σ.length
      · rw [if_pos hi]
        have hi' : i < (wipe τ vs).length := by rw [wipe_length, ht]; exact hi
        rw [List.getElem?_eq_getElem hi']
        cases q : (wipe τ vs)[i] with
        | none => rfl
        | some x =>
          have q' : (wipe τ vs)[i]? = some (some x) := by rw [List.getElem?_eq_getElem hi', q]
          exact absurd m (wipe_some q').2
      · rw [if_neg hi, List.getElem?_eq_none]
        rw [wipe_length, ht]
        omega
    rw [no σ' hl, no σ rfl]
  · rw [wipe_other m, wipe_other m]
    exact h i m

/-! ### targets -/
mutual
/-- the slots of a target -/
def tIx : X → List Nat
  | .tName i => [i]
  | .tTup ts => tIxs ts
  | _ => []
def tIxs : X → List Nat
  | .nil => []
  | .cons t r => tIx t ++ tIxs r
  | _ => []
end
def rG (E : En) (t : X) : TG := fun v σ H Q => ∃ As bad ρ d ρ' H0, SRel E H0 As bad H σ ρ ∧ Rep E As H bad v d ∧ dT t d ρ = some ρ' ∧
  ∀ σ', SRel E H0 As bad H σ' ρ' → σ'.length = σ.length → (∀ i, i ∉ tIx t → σ'[i]? = σ[i]?) → Q σ' H
def rGs (E : En) (t : X) : TGs := fun vs σ H Q => ∃ As bad ρ ds ρ' H0, SRel E H0 As bad H σ ρ ∧ Reps E As H bad vs ds ∧ dT.dTs t ds ρ = some ρ' ∧
  ∀ σ', SRel E H0 As bad H σ' ρ' → σ'.length = σ.length → (∀ i, i ∉ tIxs t → σ'[i]? = σ[i]?) → Q σ' H
theorem w_gName {i : Nat} {Q : L2.St → Hp → Prop} : rG E (.tName i) v σ H Q → gName i v σ H Q := by
  rintro ⟨As, bad, ρ, d, ρ', H0, s, r, e, k⟩
  unfold dT at e
  split at e
  · rename_i hi
    cases e
    refine k _ (s.set r hi) (by simp) fun j hj => ?_
    rw [List.getElem?_set_ne]
    intro q
    exact hj (by simp [tIx, q])
  · cases e
theorem w_gNil {vs : List V} {Q : L2.St → Hp → Prop} : rGs E .nil vs σ H Q → gNil vs σ H Q := by
  rintro ⟨As, bad, ρ, ds, ρ', H0, s, r, e, k⟩
  cases r with
  | nil =>
    cases e
    exact ⟨rfl, k _ s rfl fun _ _ => rfl⟩
  | cons _ _ => exact nomatch e
theorem w_gCons {t r : X} {vs : List V} {Q : L2.St → Hp → Prop} : rGs E (.cons t r) vs σ H Q → gCons (rG E t) (rGs E r) vs σ H Q := by
  rintro ⟨As, bad, ρ, ds, ρ', H0, s, rr, e, k⟩
  cases rr with
  | nil => exact nomatch e
  | cons r1 r2 =>
    unfold dT.dTs at e
    split at e
    · cases e
    · rename_i ρ1 q
      refine ⟨_, _, rfl, As, bad, ρ, _, ρ1, H0, s, r1, q, fun σ1 s1 l1 o1 => ⟨As, bad, ρ1, _, ρ', H0, s1, r2, e, fun σ2 s2 l2 o2 => k σ2 s2 (l2.trans l1) fun i hi => ?_⟩⟩
      have hi' : i ∉ tIx t ++ tIxs r := hi
      rw [List.mem_append, not_or] at hi'
      rw [o2 i hi'.2, o1 i hi'.1]
/-- how many -/
def tLen : X → Nat
  | .cons _ r => tLen r + 1
  | _ => 0
theorem dTs_len : ∀ (t : X) (ds : List D) (ρ ρ' : Rho), dT.dTs t ds ρ = some ρ' → ds.length = tLen t
  | .nil, [], _, _, _ => rfl
  | .cons t r, d :: ds, ρ, ρ', h => by
    unfold dT.dTs at h
    split at h
    · cases h
    · rename_i ρ1 q
      rw [List.length_cons, dTs_len r ds ρ1 ρ' h]
      rfl
theorem w_gTup {ts : X} {Q : L2.St → Hp → Prop} : rG E (.tTup ts) v σ H Q → gTup E.K (tLen ts) (rGs E ts) v σ H Q ∨ gLst E.K (tLen ts) (rGs E ts) v σ H Q := by
  rintro ⟨As, bad, ρ, d, ρ', H0, s, r, e, k⟩
  cases d with
  | tup ds =>
    have e' : dT.dTs ts ds ρ = some ρ' := by
      unfold dT at e
      exact e
    obtain ⟨a, vs, rfl, l, rr⟩ := (show RepP E As H bad v (.tup ds) from .inl r).tup
    exact .inl ⟨a, vs, rfl, l, by rw [rr.length]; exact dTs_len _ _ _ _ e', As, bad, ρ, ds, ρ', H0, s, rr, e', k⟩
  | lst ds =>
    have e' : dT.dTs ts ds ρ = some ρ' := by
      unfold dT at e
      exact e
    obtain ⟨a, vs, rfl, l, rr⟩ := (show RepP E As H bad v (.lst ds) from .inl r).lst
    exact .inr ⟨a, vs, rfl, l.sq, by rw [rr.length]; exact dTs_len _ _ _ _ e', As, bad, ρ, ds, ρ', H0, s, rr, e', k⟩
  | _ =>
    unfold dT at e
    cases e
end
end Z
end

section
set_option Elab.async false
set_option autoImplicit false
set_option linter.all false
set_option maxRecDepth 100000
set_option maxHeartbeats 1000000
/-! Comprehensions over trees. -/
namespace Z
open PySem PySem.Spec PyProof.Rows L2
section
variable {E : En} {As As0 : List Addr} {bad bad0 : Addr → Prop} {H H0 : Hp} {μ : Mu} {a : Addr}
/-- a list of one's own is changed -/
theorem own_sx (hb : bad a) {o : HO} : SExt As bad H As bad (upd H a o) := ⟨⟨[], by simp⟩, fun b u h n => ⟨by rw [upd_ne (show b ≠ a from fun e => n (by rw [e]; exact hb))]; exact h, n⟩⟩
theorem own_crel (c : CRel E As bad H μ) (hb : bad a) (na : a ∉ As) (xs : List V) : CRel E As bad (upd H a (.lst xs)) μ := by
  refine ⟨c.nd, c.sub, fun b h => ?_, c.len, fun n b ds h1 h2 => ?_⟩
  · by_cases q : b = a
    · subst q
      exact ⟨xs, upd_same⟩
    · rw [upd_ne q]
      exact c.lists b h
  · obtain ⟨vs, h3, h4⟩ := c.cel n b ds h1 h2
    have q : b ≠ a := fun e => na (e ▸ List.mem_of_getElem? h1)
    exact ⟨vs, by rw [upd_ne q]; exact h3, h4.sx (own_sx hb)⟩
theorem Ext.own (x : Ext As0 bad0 H0 As bad H) (h0 : H0 a = none) {o : HO} : Ext As0 bad0 H0 As bad (upd H a o) :=
  ⟨x.sub, x.pre, x.fr, fun b u h n => by rw [upd_ne (ne_of_none h h0)]; exact x.all b u h n, x.nb, x.bb⟩
theorem Ext.freshB {As' : List Addr} {bad' : Addr → Prop} {H' : Hp} (x : Ext As bad H As' bad' H') (h : H' a = none) (na : a ∉ As) : H a = none := by
  cases q : H a with
  | none => rfl
  | some u =>
    rw [x.all a u q na] at h
    cases h
end
def fComp (t : X) (own : List Nat) (fi : Rho → Mu → Option (List D × Mu)) (fc fe : Rho → Mu → RE) : Rho → Mu → RE := fun ρ μ => match fi ρ μ with
  | some (ds, μ1) => if ds.length ≤ sizeLine then (match foldC (fun d μ2 => match dT t d (wipeR ρ own) with
      | none => none
      | some ρ2 => (match fc ρ2 μ2 with
        | some (.bl true, _, μ3) => (match fe ρ2 μ3 with
          | some (y, _, μ4) => some (some y, μ4)
          | none => none)
        | some (.bl false, _, μ3) => some (none, μ3)
        | _ => none)) ds μ1 with
    | some (ys, μ5) => some (.lst ys, true, μ5)
    | none => none) else none
  | none => none
section
variable {E : En} {t : X} {own : List Nat} {fi : Rho → Mu → Option (List D × Mu)} {fc fe : Rho → Mu → RE} {σ : L2.St} {H : Hp} {Q : VK}
theorem ite_t {p q : Prop} (h : p) : if true = true then p else q := h
theorem ite_f {p q : Prop} (h : q) : if false = true then p else q := by
  rw [if_neg (by decide)]
  exact h
theorem foldC_cons {f : D → Mu → Option (Option D × Mu)} {d : D} {ds : List D} {μ μ5 : Mu} {ys : List D} (h : foldC f (d :: ds) μ = some (ys, μ5)) :
    ∃ r μ1 zs, f d μ = some (r, μ1) ∧ foldC f ds μ1 = some (zs, μ5) ∧ ys = (match r with
      | some y => y :: zs
      | none => zs) := by
  unfold foldC at h
  split at h
  · cases h
  · rename_i r μ1 q
    split at h
    · cases h
    · rename_i zs μ2 q2
      cases h
      exact ⟨r, μ1, zs, q, q2, rfl⟩
theorem w_comp (ht : ∀ i ∈ tIx t, i ∈ own) : rE E (fComp t own fi fc fe) σ H Q → tLc (rI E true fi) (rG E t) (rTt E fc) (rR E fe) own σ H Q := by
  rintro ⟨As, bad, μ, ρ, d0, o0, μ', a, e, k⟩
  unfold fComp at e
  split at e
  rotate_left
  · cases e
  rename_i ds μ1 q1
  split at e
  rotate_left
  · cases e
  rename_i hz
  split at e
  rotate_left
  · cases e
  rename_i ys μ5 q2
  cases e
  obtain ⟨H0, s0⟩ := a.s
  refine ⟨As, bad, μ, ρ, ds, μ1, a, q1, fun J H1 As1 bad1 c1 x1 w1 Dl hD => ?_⟩
  obtain ⟨st, st0, stE, _, stW⟩ := w1
  have s1 := (s0.ext x1).wiped own
  have nD : Dl ∉ As1 := fun m => by
    obtain ⟨vs, e⟩ := c1.lists _ (c1.sub _ m)
    rw [hD] at e
    cases e
  generalize hF : (fun d μ2 => match dT t d (wipeR ρ own) with
      | none => none
      | some ρ2 => (match fc ρ2 μ2 with
        | some (.bl true, _, μ3) => (match fe ρ2 μ3 with
          | some (y, _, μ4) => some (some y, μ4)
          | none => none)
        | some (.bl false, _, μ3) => some (none, μ3)
        | _ => none)) = F at q2
  refine ⟨fun i m Hc => m = ds.length - i ∧ i ≤ ds.length ∧ ∃ As' bad' μc acc accD rest, CRel E As' bad' Hc μc ∧ bad' Dl ∧ Dl ∉ As' ∧ Ext As1 bad1 H1 As' bad' Hc ∧ Hc Dl = some (.lst acc) ∧ Reps E As' Hc bad' acc accD ∧
    accD.length ≤ i ∧ foldC F (ds.drop i) μc = some (rest, μ') ∧ ys = accD ++ rest, ⟨ds.length, by simp, Nat.zero_le _, As1, _, μ1, [], [], ys, own_rel c1 hD [], .inr rfl, nD, own_ext c1 hD _, upd_same, .nil, Nat.le_refl _, by simpa using q2, rfl⟩, ?_⟩
  rintro i m Hc ⟨rfl, hi, As', bad', μc, acc, accD, rest, c, bD, naD, x, hDl, rs, hl, fe', hy⟩
  have wk := stW _ _ _ (stE _ _ _ _ _ _ st0 x)
  by_cases hlt : i < ds.length
  · have hd : ds[i]? = some ds[i] := List.getElem?_eq_getElem hlt
    rw [List.drop_eq_getElem_cons hlt] at fe'
    obtain ⟨r, μ3, zs, f1, f2, f3⟩ := foldC_cons fe'
    obtain ⟨go, yl⟩ := wk.go i ds[i] μc c hd
    refine .inr ⟨go, _, fun H' n => ⟨ds.length - (i + 1), by omega, n⟩, fun v H' y => ?_⟩
    obtain ⟨c2, x2, r2⟩ := yl v H' y
    rw [← hF] at f1
    dsimp only at f1
    split at f1
    · cases f1
    rename_i ρ2 g1
    have s2 : SRel E H0 As' bad' H' (wipe σ own) (wipeR ρ own) := (s1.ext x).ext x2
    refine ⟨As', bad', wipeR ρ own, ds[i], ρ2, H0, s2, r2, g1, fun σ' s' l' o' => ⟨?_, ?_⟩⟩
    · have e1 : wipe σ' own = wipe (wipe σ own) own := wipe_same l' fun j hj => o' j fun m => hj (ht j m)
      have e2 : wipe (wipe σ own) own = wipe σ own := wipe_same (wipe_length _ _) fun j hj => wipe_other hj
      rw [e1, e2]
    split at f1
    · rename_i o3 μ3' g2
      split at f1
      · rename_i yy o4 μ4 g3
        cases f1
        refine ⟨As', bad', μc, ρ2, true, o3, μ3', ⟨c2, H0, s'⟩, g2, fun H3 As3 bad3 c3 x3 => ?_⟩
        refine ite_t ?_
        refine ⟨As3, bad3, μ3', ρ2, yy, o4, _, ⟨c3, H0, s'.ext x3⟩, g3, fun y4 H4 As4 bad4 c4 x4 r4 => ?_⟩
        have xx := (x2.trans x3).trans x4
        have n4 : Dl ∉ As4 := xx.na hDl naD
        have b4 : bad4 Dl := xx.bb _ bD
        refine ⟨acc, xx.all _ _ hDl naD, ?_, ?_⟩
        · rw [rs.length]
          omega
        · refine ⟨rfl, hlt, As4, bad4, _, acc ++ [y4], accD ++ [yy], zs, own_crel c4 b4 n4 _, b4, n4, (x.trans xx).own hD, upd_same, ?_, by rw [List.length_append, List.length_singleton]; omega, f2, by rw [hy, f3, List.append_assoc]; rfl⟩
          exact ((rs.ext xx).append (.cons r4 .nil)).sx (own_sx b4)
      · cases f1
    · rename_i o3 μ3' g2
      cases f1
      refine ⟨As', bad', μc, ρ2, false, o3, _, ⟨c2, H0, s'⟩, g2, fun H3 As3 bad3 c3 x3 => ?_⟩
      refine ite_f ?_
      have xx := x2.trans x3
      exact ⟨rfl, hlt, As3, bad3, _, acc, accD, zs, c3, xx.bb _ bD, xx.na hDl naD, x.trans xx, xx.all _ _ hDl naD, rs.ext xx, by omega, f2, by rw [hy, f3]⟩
    · cases f1
  · have e : i = ds.length := by omega
    subst e
    rw [List.drop_length] at fe'
    cases fe'
    refine .inl ⟨wk.stop _ (Nat.le_refl _), ?_⟩
    have hys : ys = accD := by rw [hy, List.append_nil]
    subst hys
    refine k _ Hc As' bad' c (x1.trans x) ⟨Dl, acc, _, rfl, rfl, hDl, rs, bD, naD, ?_⟩
    refine x1.freshB hD fun m => nD ?_
    obtain ⟨ee, rfl⟩ := x1.pre
    exact List.mem_append_left _ m
/-- no test -/
theorem w_yes {Q : Bool → Hp → Prop} : rTt E (fun _ μ => some (.bl true, false, μ)) σ H Q → tYes σ H Q := by
  rintro ⟨As, bad, μ, ρ, b, o, μ', a, e, k⟩
  cases e
  exact k H As bad a.c a.c.ext0
end
end Z
end

section
set_option Elab.async false
set_option autoImplicit false
set_option linter.all false
set_option maxRecDepth 100000
set_option maxHeartbeats 1000000
/-! Statements over trees. -/
namespace Z
open PySem PySem.Spec PyProof.Rows L2

/-- the entry -/
structure Bs where
  As : List Addr
  bad : Addr → Prop
  H : Hp
  μ : Mu
/-- where a statement stands -/
structure StR (E : En) (B : Bs) (As : List Addr) (bad : Addr → Prop) (H : Hp) (μ : Mu) (σ : L2.St) (ρ : Rho) : Prop where
  c0 : CRel E B.As B.bad B.H B.μ
  c : CRel E As bad H μ
  s : SRel E B.H As bad H σ ρ
  x : Ext B.As B.bad B.H As bad H
def FinS (E : En) (B : Bs) (As : List Addr) (bad : Addr → Prop) (H : Hp) (D : Ends) : SR → Prop
  | .nx ρ' μ' => ∀ σ' H' As' bad', StR E B As' bad' H' μ' σ' ρ' → SExt As bad H As' bad' H' → D.nx σ' H'
  | .bk ρ' μ' => ∀ σ' H' As' bad', StR E B As' bad' H' μ' σ' ρ' → SExt As bad H As' bad' H' → D.bk σ' H'
  | .ct ρ' μ' => ∀ σ' H' As' bad', StR E B As' bad' H' μ' σ' ρ' → SExt As bad H As' bad' H' → D.ct σ' H'
  | .rt d o μ' => ∀ v H' As' bad', CRel E As' bad' H' μ' → Ext B.As B.bad B.H As' bad' H' → RepO E B.H As' bad' H' v d o → D.rt v H'
def rW (E : En) (f : Rho → Mu → Option SR) : TS := fun D σ H => ∃ B As bad μ ρ r, StR E B As bad H μ σ ρ ∧ f ρ μ = some r ∧ FinS E B As bad H D r
section
variable {E : En} {B : Bs} {As As' : List Addr} {bad bad' : Addr → Prop} {H H' : Hp} {μ μ' : Mu} {σ : L2.St} {ρ : Rho} {v : V} {d : D}
theorem StR.at_ (s : StR E B As bad H μ σ ρ) : At E As bad H μ σ ρ := ⟨s.c, B.H, s.s⟩
theorem StR.ext (s : StR E B As bad H μ σ ρ) (c : CRel E As' bad' H' μ') (x : Ext As bad H As' bad' H') : StR E B As' bad' H' μ' σ ρ := ⟨s.c0, c, s.s.ext x, s.x.trans x⟩
theorem FinS.later {D : Ends} (x : SExt As bad H As' bad' H') : ∀ {r : SR}, FinS E B As bad H D r → FinS E B As' bad' H' D r
  | .nx _ _, f => fun σ' H2 As2 bad2 s y => f σ' H2 As2 bad2 s (x.trans y)
  | .bk _ _, f => fun σ' H2 As2 bad2 s y => f σ' H2 As2 bad2 s (x.trans y)
  | .ct _ _, f => fun σ' H2 As2 bad2 s y => f σ' H2 As2 bad2 s (x.trans y)
  | .rt _ _ _, f => f
/-- other ends -/
theorem FinS.ends {D D' : Ends} (nx : ∀ σ H, D.nx σ H → D'.nx σ H) (bk : ∀ σ H, D.bk σ H → D'.bk σ H) (ct : ∀ σ H, D.ct σ H → D'.ct σ H) (rt : ∀ v H, D.rt v H → D'.rt v H) : ∀ {r : SR}, FinS E B As bad H D r → FinS E B As bad H D' r
  | .nx _ _, f => fun σ' H2 As2 bad2 s y => nx _ _ (f σ' H2 As2 bad2 s y)
  | .bk _ _, f => fun σ' H2 As2 bad2 s y => bk _ _ (f σ' H2 As2 bad2 s y)
  | .ct _ _, f => fun σ' H2 As2 bad2 s y => ct _ _ (f σ' H2 As2 bad2 s y)
  | .rt _ _ _, f => fun v H2 As2 bad2 c x r => rt _ _ (f v H2 As2 bad2 c x r)
theorem FinS.nx1 {D : Ends} {ρ' : Rho} {μ' : Mu} (f : FinS E B As bad H D (.nx ρ' μ')) {σ' : L2.St} {H' : Hp} {As' : List Addr} {bad' : Addr → Prop} (s : StR E B As' bad' H' μ' σ' ρ') (x : SExt As bad H As' bad' H') : D.nx σ' H' := f σ' H' As' bad' s x

/-! ### what a statement of each kind does -/
variable {D : Ends} {f g : Rho → Mu → Option SR} {fe fc : Rho → Mu → RE} {fi : Rho → Mu → Option (List Z.D × Mu)}
def kNx : Rho → Mu → Option SR := fun ρ μ => some (.nx ρ μ)
def kBk : Rho → Mu → Option SR := fun ρ μ => some (.bk ρ μ)
def kCt : Rho → Mu → Option SR := fun ρ μ => some (.ct ρ μ)
def kSeq (f g : Rho → Mu → Option SR) : Rho → Mu → Option SR := fun ρ μ => match f ρ μ with
  | some (.nx ρ1 μ1) => g ρ1 μ1
  | o => o
def kIf (c : Rho → Mu → RE) (f g : Rho → Mu → Option SR) : Rho → Mu → Option SR := fun ρ μ => match c ρ μ with
  | some (.bl true, _, μ1) => f ρ μ1
  | some (.bl false, _, μ1) => g ρ μ1
  | _ => none
def kRet (fe : Rho → Mu → RE) : Rho → Mu → Option SR := fun ρ μ => match fe ρ μ with
  | some (d, o, μ1) => some (.rt d o μ1)
  | none => none
def kRetV (i : Nat) : Rho → Mu → Option SR := fun ρ μ => match ρ[i]? with
  | some (some (d, o)) => some (.rt d o μ)
  | _ => none
def kRetN : Rho → Mu → Option SR := fun _ μ => some (.rt .non false μ)
def kFor (t : X) (fi : Rho → Mu → Option (List Z.D × Mu)) (f : Rho → Mu → Option SR) : Rho → Mu → Option SR := fun ρ μ => match fi ρ μ with
  | some (ds, μ1) => foldS (fun d ρ2 μ2 => match dT t d ρ2 with
    | some ρ3 => f ρ3 μ2
    | none => none) ds ρ μ1
  | none => none
def kWh (n : Nat) (c : Rho → Mu → RE) (f : Rho → Mu → Option SR) : Rho → Mu → Option SR := fun ρ μ => whileS (fun ρ1 μ1 => match c ρ1 μ1 with
  | some (.bl k, _, μ2) => some (k, μ2)
  | _ => none) (fun ρ1 μ1 => f ρ1 μ1) n ρ μ
def kEx (fe : Rho → Mu → RE) : Rho → Mu → Option SR := fun ρ μ => match fe ρ μ with
  | some (_, _, μ1) => some (.nx ρ μ1)
  | none => none
def kSet (t : X) (fe : Rho → Mu → RE) : Rho → Mu → Option SR := fun ρ μ => match fe ρ μ with
  | some (d, _, μ1) => (match dT t d ρ with
    | some ρ1 => some (.nx ρ1 μ1)
    | none => none)
  | none => none
def kSetO (i : Nat) (fe : Rho → Mu → RE) : Rho → Mu → Option SR := fun ρ μ => match fe ρ μ with
  | some (.lst ds, true, μ1) => if i < ρ.length then some (.nx (ρ.set i (some (.lst ds, true))) μ1) else none
  | some (d, false, μ1) => if i < ρ.length then some (.nx (ρ.set i (some (d, false))) μ1) else none
  | _ => none
def kPar (is : List Nat) (fa : Rho → Mu → Option (List (Z.D × Bool) × Mu)) : Rho → Mu → Option SR := fun ρ μ => match fa ρ μ with
  | some (ds, μ1) => (match setR ρ is ds with
    | some ρ1 => some (.nx ρ1 μ1)
    | none => none)
  | none => none
def kApp (i : Nat) (fe : Rho → Mu → RE) : Rho → Mu → Option SR := fun ρ μ => match fe ρ μ with
  | some (d, _, μ1) => (match ρ[i]? with
    | some (some (.lst ds, true)) => if ds.length < sizeLine then some (.nx (ρ.set i (some (.lst (ds ++ [d]), true))) μ1) else none
    | _ => none)
  | none => none
def kIns (i : Nat) (fk fe : Rho → Mu → RE) : Rho → Mu → Option SR := fun ρ μ => match fk ρ μ with
  | some (.int z, _, μ1) => (match fe ρ μ1 with
    | some (d, _, μ2) => (match ρ[i]? with
      | some (some (.lst ds, true)) => if 0 ≤ z ∧ z < 2 ^ 62 ∧ ds.length < sizeLine then some (.nx (ρ.set i (some (.lst (ds.take z.toNat ++ [d] ++ ds.drop z.toNat), true))) μ2) else none
      | _ => none)
    | none => none)
  | _ => none
def kAppC (i : Nat) (fe : Rho → Mu → RE) : Rho → Mu → Option SR := fun ρ μ => match fe ρ μ with
  | some (d, _, μ1) => (match ρ[i]? with
    | some (some (.cell n, false)) => (match μ1[n]? with
      | some ds => if ds.length < sizeLine then some (.nx ρ (μ1.set n (ds ++ [d]))) else none
      | none => none)
    | _ => none)
  | none => none
def kSub (i : Nat) (fk fe : Rho → Mu → RE) : Rho → Mu → Option SR := fun ρ μ => match fe ρ μ with
  | some (d, _, μ1) => (match fk ρ μ1 with
    | some (.int z, _, μ2) => (match ρ[i]? with
      | some (some (.lst ds, true)) => (match L2.ixN ds.length z with
        | some j => some (.nx (ρ.set i (some (.lst (ds.set j d), true))) μ2)
        | none => none)
      | _ => none)
    | _ => none)
  | none => none
def kSubC (i : Nat) (fk fe : Rho → Mu → RE) : Rho → Mu → Option SR := fun ρ μ => match fe ρ μ with
  | some (d, _, μ1) => (match fk ρ μ1 with
    | some (.int z, _, μ2) => (match ρ[i]? with
      | some (some (.cell n, false)) => (match μ2[n]? with
        | some ds => (match L2.ixN ds.length z with
          | some j => some (.nx ρ (μ2.set n (ds.set j d)))
          | none => none)
        | none => none)
      | _ => none)
    | _ => none)
  | none => none
theorem u_nx : rW E kNx D σ H → tNext D σ H := by
  rintro ⟨B, As, bad, μ, ρ, r, s, e, k⟩
  cases e
  exact k.nx1 s .refl
theorem u_bk : rW E kBk D σ H → tBreak D σ H := by
  rintro ⟨B, As, bad, μ, ρ, r, s, e, k⟩
  cases e
  exact k σ H As bad s .refl
theorem u_ct : rW E kCt D σ H → tCont D σ H := by
  rintro ⟨B, As, bad, μ, ρ, r, s, e, k⟩
  cases e
  exact k σ H As bad s .refl
theorem u_seq : rW E (kSeq f g) D σ H → tSeq (rW E f) (rW E g) D σ H := by
  rintro ⟨B, As, bad, μ, ρ, r, s, e, k⟩
  unfold kSeq at e
  split at e
  · rename_i ρ1 μ1 q
    exact ⟨B, As, bad, μ, ρ, _, s, q, fun σ' H' As' bad' s' x => ⟨B, As', bad', μ1, ρ1, r, s', e, k.later x⟩⟩
  · rename_i o h
    refine ⟨B, As, bad, μ, ρ, r, s, e, ?_⟩
    cases r with
    | nx ρ1 μ1 => exact absurd e (h ρ1 μ1)
    | bk _ _ => exact k
    | ct _ _ => exact k
    | rt _ _ _ => exact k
theorem u_if : rW E (kIf fc f g) D σ H → tIfS (rTt E fc) (rW E f) (rW E g) D σ H := by
  rintro ⟨B, As, bad, μ, ρ, r, s, e, k⟩
  unfold kIf at e
  split at e
  · rename_i o μ1 q
    exact ⟨As, bad, μ, ρ, true, o, μ1, s.at_, q, fun H1 As1 bad1 c1 x1 => ite_t ⟨B, As1, bad1, μ1, ρ, r, s.ext c1 x1, e, k.later x1.sx⟩⟩
  · rename_i o μ1 q
    exact ⟨As, bad, μ, ρ, false, o, μ1, s.at_, q, fun H1 As1 bad1 c1 x1 => ite_f ⟨B, As1, bad1, μ1, ρ, r, s.ext c1 x1, e, k.later x1.sx⟩⟩
  · cases e
theorem u_ret : rW E (kRet fe) D σ H → tRet (rE E fe) D σ H := by
  rintro ⟨B, As, bad, μ, ρ, r, s, e, k⟩
  unfold kRet at e
  split at e
  · rename_i d o μ1 q
    cases e
    exact ⟨As, bad, μ, ρ, d, o, μ1, s.at_, q, fun v H' As' bad' c x r => k v H' As' bad' c (s.x.trans x) (r.back s.x x)⟩
  · cases e
theorem u_retV {i : Nat} : rW E (kRetV i) D σ H → tRet (tVar i) D σ H := by
  rintro ⟨B, As, bad, μ, ρ, r, s, e, k⟩
  unfold kRetV at e
  split at e
  · rename_i d o q
    cases e
    cases o with
    | false =>
      obtain ⟨v, h1, h2⟩ := s.s.val i d q
      exact ⟨v, h1, k v H As bad s.c s.x h2⟩
    | true =>
      obtain ⟨a, vs, ds, h0, h1, h2, h3, h4, h5, h6⟩ := s.s.own i d q
      exact ⟨.ref a, h1, k _ H As bad s.c s.x ⟨a, vs, ds, rfl, h0, h2, h3, h4, h5, h6⟩⟩
  · cases e
theorem u_retN : rW E kRetN D σ H → tRetN D σ H := by
  rintro ⟨B, As, bad, μ, ρ, r, s, e, k⟩
  cases e
  exact k .non H As bad s.c s.x .non
theorem u_ex : rW E (kEx fe) D σ H → tDrop (rE E fe) D σ H := by
  rintro ⟨B, As, bad, μ, ρ, r, s, e, k⟩
  unfold kEx at e
  split at e
  · rename_i d o μ1 q
    cases e
    exact ⟨As, bad, μ, ρ, d, o, _, s.at_, q, fun v H1 As1 bad1 c1 x1 r1 => k.nx1 (s.ext c1 x1) x1.sx⟩
  · cases e
theorem u_set {t : X} : rW E (kSet t fe) D σ H → tAsg (rR E fe) (rG E t) D σ H := by
  rintro ⟨B, As, bad, μ, ρ, r, s, e, k⟩
  unfold kSet at e
  split at e
  · rename_i d o μ1 q
    split at e
    · rename_i ρ1 q2
      cases e
      refine ⟨As, bad, μ, ρ, d, o, _, s.at_, q, fun v H1 As1 bad1 c1 x1 r1 => ?_⟩
      have s1 := s.ext c1 x1
      exact ⟨As1, bad1, ρ, d, ρ1, B.H, s1.s, r1, q2, fun σ' s' _ _ => k.nx1 ⟨s1.c0, c1, s', s1.x⟩ x1.sx⟩
    · cases e
  · cases e
theorem StR.setO {i : Nat} {o : Hp} {ds : List Z.D} (s : StR E B As bad H μ σ ρ) (c' : CRel E As' bad' H' μ') (x : Ext As bad H As' bad' H') (r : RepO E H As' bad' H' v (.lst ds) true) (hi : i < ρ.length) :
    StR E B As' bad' H' μ' (σ.set i (some v)) (ρ.set i (some (.lst ds, true))) := by
  obtain ⟨a, vs, es, rfl, h2, h3, h4, h5, h6, h7⟩ := id r
  cases h2
  obtain ⟨a2, _, _, e2, _, _, _, _, _, h0⟩ := r.back s.x x
  cases e2
  have s1 := s.ext c' x
  refine ⟨s.c0, c', s1.s.setO hi h3 h4 h5 h6 h0 fun j e hj hs => ?_, s1.x⟩
  obtain ⟨b, ws, fs, _, k1, k2, _⟩ := s.s.own j e hj
  rw [k1] at hs
  cases hs
  rw [h7] at k2
  cases k2
theorem u_setO {i : Nat} : rW E (kSetO i fe) D σ H → tAsg (rE E fe) (gName i) D σ H := by
  rintro ⟨B, As, bad, μ, ρ, r, s, e, k⟩
  unfold kSetO at e
  split at e
  · rename_i ds μ1 q
    split at e
    · rename_i hi
      cases e
      exact ⟨As, bad, μ, ρ, _, true, _, s.at_, q, fun v H1 As1 bad1 c1 x1 r1 => k.nx1 (s.setO (o := H) c1 x1 r1 hi) x1.sx⟩
    · cases e
  · rename_i d μ1 _ q
    split at e
    · rename_i hi
      cases e
      refine ⟨As, bad, μ, ρ, _, false, _, s.at_, q, fun v H1 As1 bad1 c1 x1 r1 => ?_⟩
      have s1 := s.ext c1 x1
      exact k.nx1 ⟨s1.c0, c1, s1.s.set r1 hi, s1.x⟩ x1.sx
    · cases e
  · cases e
/-- values with their marks: as are the new lists of one's own -/
inductive RepsO (E : En) (As' : List Addr) (bad' : Addr → Prop) (H' : Hp) (H : Hp) : List V → List (Z.D × Bool) → List Addr → Prop
  | nil : RepsO E As' bad' H' H [] [] []
  | val {v : V} {vs : List V} {d : Z.D} {ds : List (Z.D × Bool)} {as : List Addr} : Rep E As' H' bad' v d → RepsO E As' bad' H' H vs ds as → RepsO E As' bad' H' H (v :: vs) ((d, false) :: ds) as
  | own {a : Addr} {ws vs : List V} {es : List Z.D} {ds : List (Z.D × Bool)} {as : List Addr} : H' a = some (.lst ws) → Reps E As' H' bad' ws es → bad' a → a ∉ As' → H a = none → a ∉ as → RepsO E As' bad' H' H vs ds as →
    RepsO E As' bad' H' H (.ref a :: vs) ((.lst es, true) :: ds) (a :: as)
theorem RepsO.fresh : ∀ {vs : List V} {ds : List (Z.D × Bool)} {as : List Addr}, RepsO E As' bad' H' H vs ds as → ∀ a ∈ as, H a = none ∧ a ∉ As'
  | _, _, _, .nil, a, m => by cases m
  | _, _, _, .val _ r, a, m => RepsO.fresh r a m
  | _, _, _, .own _ _ _ n h _ r, a, m => by
    rcases List.mem_cons.mp m with rfl | m
    · exact ⟨h, n⟩
    · exact RepsO.fresh r a m
theorem RepsO.back {As1 : List Addr} {bad1 : Addr → Prop} {H1 : Hp} (x : Ext As bad H As1 bad1 H1) (y : Ext As1 bad1 H1 As' bad' H') : ∀ {vs : List V} {ds : List (Z.D × Bool)} {as : List Addr}, RepsO E As' bad' H' H1 vs ds as → RepsO E As' bad' H' H vs ds as
  | _, _, _, .nil => .nil
  | _, _, _, .val q r => .val q (RepsO.back x y r)
  | _, _, _, .own h1 h2 h3 h4 h5 h6 r => by
    refine .own h1 h2 h3 h4 (x.freshB h5 fun m => h4 ?_) h6 (RepsO.back x y r)
    obtain ⟨e1, rfl⟩ := x.pre
    obtain ⟨e2, rfl⟩ := y.pre
    simp [m]
def rAO (E : En) (f : Rho → Mu → Option (List (Z.D × Bool) × Mu)) : TA := fun σ H Q => ∃ As bad μ ρ ds μ', At E As bad H μ σ ρ ∧ f ρ μ = some (ds, μ') ∧
  ∀ vs H' As' bad' as, CRel E As' bad' H' μ' → Ext As bad H As' bad' H' → RepsO E As' bad' H' H vs ds as → Q vs H'
def fNilO : Rho → Mu → Option (List (Z.D × Bool) × Mu) := fun _ μ => some ([], μ)
def fConsO (f : Rho → Mu → RE) (g : Rho → Mu → Option (List (Z.D × Bool) × Mu)) : Rho → Mu → Option (List (Z.D × Bool) × Mu) := fun ρ μ => match f ρ μ with
  | some (d, o, μ1) => (match g ρ μ1 with
    | some (ds, μ2) => some ((d, o) :: ds, μ2)
    | none => none)
  | none => none
theorem w_nilO {Q : List V → Hp → Prop} : rAO E fNilO σ H Q → tNil σ H Q := by
  rintro ⟨As, bad, μ, ρ, ds, μ', a, e, k⟩
  cases e
  exact k [] H As bad [] a.c a.c.ext0 .nil
theorem w_consO {fg : Rho → Mu → Option (List (Z.D × Bool) × Mu)} {Q : List V → Hp → Prop} : rAO E (fConsO fe fg) σ H Q → tCons (rE E fe) (rAO E fg) σ H Q := by
  rintro ⟨As, bad, μ, ρ, ds, μ', a, e, k⟩
  unfold fConsO at e
  split at e
  · rename_i d o μ1 q
    split at e
    · rename_i ds μ2 q2
      cases e
      refine ⟨As, bad, μ, ρ, d, o, μ1, a, q, fun v H1 As1 bad1 c1 x1 r1 => ⟨As1, bad1, μ1, ρ, ds, _, a.ext c1 x1, q2, fun vs H2 As2 bad2 as c2 x2 r2 => ?_⟩⟩
      have rb := RepsO.back x1 x2 r2
      cases o with
      | false => exact k _ H2 As2 bad2 as c2 (x1.trans x2) (.val (Rep.ext x2 r1) rb)
      | true =>
        obtain ⟨p, ws, es, rfl, rfl, h3, h4, h5, h6, h7⟩ := r1
        refine k _ H2 As2 bad2 (p :: as) c2 (x1.trans x2) (.own (x2.all _ _ h3 h6) (h4.ext x2) (x2.bb _ h5) (x2.na h3 h6) h7 (fun m => ?_) rb)
        have := (RepsO.fresh r2 p m).1
        rw [h3] at this
        cases this
    · cases e
  · cases e
/-- slots set one behind the other -/
def setS (σ : L2.St) : List Nat → List V → L2.St
  | i :: is, v :: vs => setS (σ.set i (some v)) is vs
  | _, _ => σ
theorem set_ok {H0 : Hp} (h0 : ∀ b : Addr, H b = none → b ∉ As' → H0 b = none) : ∀ {is : List Nat} {vs : List V} {ds : List (Z.D × Bool)} {as : List Addr} {σ : L2.St} {ρ ρ' : Rho}, SRel E H0 As' bad' H' σ ρ → RepsO E As' bad' H' H vs ds as →
    (∀ a ∈ as, ∀ (j : Nat) (e : Z.D), ρ[j]? = some (some (e, true)) → σ[j]? ≠ some (some (.ref a))) → setR ρ is ds = some ρ' → SRel E H0 As' bad' H' (setS σ is vs) ρ'
  | [], _, _, _, _, _, _, s, .nil, _, e => by
    cases e
    exact s
  | [], _, _, _, _, _, _, s, .val _ _, _, e => by cases e
  | [], _, _, _, _, _, _, s, .own _ _ _ _ _ _ _, _, e => by cases e
  | _ :: _, _, _, _, _, _, _, s, .nil, _, e => by cases e
  | i :: is, v :: vs, _, _, σ, ρ, ρ', s, .val r rs, av, e => by
    unfold setR at e
    split at e
    · rename_i hi
      show SRel E H0 As' bad' H' (setS (σ.set i (some v)) is vs) ρ'
      refine set_ok h0 (s.set r hi) rs (fun a m j e hj => ?_) e
      by_cases q : i = j
      · subst q
        rw [List.getElem?_set_self hi] at hj
        cases hj
      · rw [List.getElem?_set_ne q] at hj ⊢
        exact av a m j e hj
    · cases e
  | i :: is, _ :: vs, _, _, σ, ρ, ρ', s, .own h1 h2 h3 h4 h5 h6 rs, av, e => by
    unfold setR at e
    split at e
    · rename_i hi
      show SRel E H0 As' bad' H' (setS (σ.set i (some (.ref _))) is vs) ρ'
      refine set_ok h0 (s.setO hi h1 h2 h3 h4 (h0 _ h5 h4) fun j e hj => av _ (List.mem_cons_self) j e hj) rs (fun a m j e hj => ?_) e
      by_cases q : i = j
      · subst q
        have hi' : i < σ.length := by rw [← s.len]; exact hi
        rw [List.getElem?_set_self hi']
        intro z
        cases z
        exact h6 m
      · rw [List.getElem?_set_ne q] at hj ⊢
        exact av a (List.mem_cons_of_mem _ m) j e hj
    · cases e
theorem setR_len : ∀ {is : List Nat} {ds : List (Z.D × Bool)} {ρ ρ' : Rho}, setR ρ is ds = some ρ' → is.length = ds.length
  | [], [], _, _, _ => rfl
  | [], _ :: _, _, _, e => by cases e
  | _ :: _, [], _, _, e => by cases e
  | i :: is, d :: ds, ρ, ρ', e => by
    unfold setR at e
    split at e
    · rw [List.length_cons, List.length_cons, setR_len e]
    · cases e
theorem RepsO.len : ∀ {vs : List V} {ds : List (Z.D × Bool)} {as : List Addr}, RepsO E As' bad' H' H vs ds as → vs.length = ds.length
  | _, _, _, .nil => rfl
  | _, _, _, .val _ r => by rw [List.length_cons, List.length_cons, RepsO.len r]
  | _, _, _, .own _ _ _ _ _ _ r => by rw [List.length_cons, List.length_cons, RepsO.len r]
theorem u_par {is : List Nat} {fa : Rho → Mu → Option (List (Z.D × Bool) × Mu)} : rW E (kPar is fa) D σ H → rAO E fa σ H fun vs H1 => vs.length = is.length ∧ D.nx (setS σ is vs) H1 := by
  rintro ⟨B, As, bad, μ, ρ, r, s, e, k⟩
  unfold kPar at e
  split at e
  · rename_i ds μ1 q
    split at e
    · rename_i ρ1 q2
      cases e
      refine ⟨As, bad, μ, ρ, ds, _, s.at_, q, fun vs H1 As1 bad1 as c1 x1 r1 => ⟨by rw [r1.len, setR_len q2], ?_⟩⟩
      have s1 := s.ext c1 x1
      refine k.nx1 ⟨s1.c0, c1, set_ok (H := H) (fun b hb nb => s.x.freshB hb fun m => nb ?_) s1.s r1 (fun a m j e hj z => ?_) q2, s1.x⟩ x1.sx
      · obtain ⟨e1, z1⟩ := s1.x.pre
        rw [z1]
        exact List.mem_append_left _ m
      · obtain ⟨b, us, fs, _, k1, k2, _⟩ := s.s.own j e hj
        rw [k1] at z
        cases z
        have := (r1.fresh a m).1
        rw [k2] at this
        cases this
    · cases e
  · cases e
theorem u_par2 {i j : Nat} {fa : Rho → Mu → Option (List (Z.D × Bool) × Mu)} (h : rW E (kPar [i, j] fa) D σ H) : tPar i j (rAO E fa) D σ H := by
  obtain ⟨As, bad, μ, ρ, ds, μ', a, e, k⟩ := u_par h
  refine ⟨As, bad, μ, ρ, ds, μ', a, e, fun vs H' As' bad' as c x r => ?_⟩
  obtain ⟨h1, h2⟩ := k vs H' As' bad' as c x r
  match vs, h1, h2 with
  | [v, w], _, h2 => exact ⟨v, w, rfl, h2⟩
theorem u_par3 {i j l : Nat} {fa : Rho → Mu → Option (List (Z.D × Bool) × Mu)} (h : rW E (kPar [i, j, l] fa) D σ H) : tPar3 i j l (rAO E fa) D σ H := by
  obtain ⟨As, bad, μ, ρ, ds, μ', a, e, k⟩ := u_par h
  refine ⟨As, bad, μ, ρ, ds, μ', a, e, fun vs H' As' bad' as c x r => ?_⟩
  obtain ⟨h1, h2⟩ := k vs H' As' bad' as c x r
  match vs, h1, h2 with
  | [v, w, u], _, h2 => exact ⟨v, w, u, rfl, h2⟩
theorem RepsO.ext {As1 : List Addr} {bad1 : Addr → Prop} {H1 : Hp} (y : Ext As1 bad1 H1 As' bad' H') : ∀ {vs : List V} {ds : List (Z.D × Bool)} {as : List Addr}, RepsO E As1 bad1 H1 H vs ds as → RepsO E As' bad' H' H vs ds as
  | _, _, _, .nil => .nil
  | _, _, _, .val q r => .val (Rep.ext y q) (RepsO.ext y r)
  | _, _, _, .own h1 h2 h3 h4 h5 h6 r => .own (y.all _ _ h1 h4) (h2.ext y) (y.bb _ h3) (y.na h1 h4) h5 h6 (RepsO.ext y r)
/-- names, one behind the other -/
def gNames : List Nat → TGs
  | [] => gNil
  | i :: is => gCons (gName i) (gNames is)
theorem gNames_ok : ∀ {is : List Nat} {vs : List V} {σ : L2.St} {H : Hp} {Q : L2.St → Hp → Prop}, vs.length = is.length → Q (setS σ is vs) H → gNames is vs σ H Q
  | [], [], _, _, _, _, q => ⟨rfl, q⟩
  | [], _ :: _, _, _, _, h, _ => by cases h
  | _ :: _, [], _, _, _, h, _ => by cases h
  | i :: is, v :: vs, σ, H, Q, h, q => ⟨v, vs, rfl, gNames_ok (is := is) (by simpa using h) q⟩
theorem u_parT {is : List Nat} {fa : Rho → Mu → Option (List (Z.D × Bool) × Mu)} (hz : is.length ≤ sizeLine) : rW E (kPar is fa) D σ H → tAsg (tTup (rAO E fa)) (gTup E.K is.length (gNames is)) D σ H := by
  rintro ⟨B, As, bad, μ, ρ, r, s, e, k⟩
  unfold kPar at e
  split at e
  · rename_i ds μ1 q
    split at e
    · rename_i ρ1 q2
      cases e
      refine ⟨As, bad, μ, ρ, ds, _, s.at_, q, fun vs H1 As1 bad1 as c1 x1 r1 => ?_⟩
      have hl : vs.length = is.length := by rw [r1.len, setR_len q2]
      refine ⟨by rw [hl]; exact hz, fun p hp => ⟨p, vs, rfl, .inl (.inl upd_same), hl, gNames_ok hl ?_⟩⟩
      have x2 := new_ext c1 hp (.tup vs)
      have c2 := new_rel c1 hp (.tup vs)
      have s2 := s.ext c2 (x1.trans x2)
      refine k.nx1 ⟨s2.c0, c2, set_ok (H := H) (fun b hb nb => s.x.freshB hb fun m => nb ?_) s2.s (RepsO.ext x2 r1) (fun a m j e hj z => ?_) q2, s2.x⟩ (x1.trans x2).sx
      · obtain ⟨e1, z1⟩ := s2.x.pre
        rw [z1]
        exact List.mem_append_left _ m
      · obtain ⟨b, us, fs, _, k1, k2, _⟩ := s.s.own j e hj
        rw [k1] at z
        cases z
        have := (r1.fresh a m).1
        rw [k2] at this
        cases this
    · cases e
  · cases e
end
end Z
end

section
set_option Elab.async false
set_option autoImplicit false
set_option linter.all false
set_option maxRecDepth 100000
set_option maxHeartbeats 1000000
/-! Lists of one's own, cells, loops, over trees. -/
namespace Z
open PySem PySem.Spec PyProof.Rows L2
section
variable {E : En} {B : Bs} {As As' As1 : List Addr} {bad bad' bad1 : Addr → Prop} {H H' H1 : Hp} {μ μ' μ1 : Mu} {σ : L2.St} {ρ : Rho} {v : V} {d : Z.D}
variable {D : Ends} {f g : Rho → Mu → Option SR} {fe fk fc : Rho → Mu → RE} {fi : Rho → Mu → Option (List Z.D × Mu)}
/-- a list of one's own is written -/
theorem StR.wrote {i : Nat} {ds es : List Z.D} {a : Addr} {vs ws : List V} (s : StR E B As bad H μ σ ρ) (hi : ρ[i]? = some (some (.lst ds, true))) (ha : σ[i]? = some (some (.ref a))) (hH : H a = some (.lst vs)) (hb : bad a) (na : a ∉ As) (h0 : B.H a = none)
    (r : Reps E As H bad ws es) : StR E B As bad (upd H a (.lst ws)) μ σ (ρ.set i (some (.lst es, true))) ∧ SExt As bad H As bad (upd H a (.lst ws)) := by
  have sx : SExt As bad H As bad (upd H a (.lst ws)) := own_sx hb
  have hl : i < ρ.length := (List.getElem?_eq_some_iff.mp hi).1
  have oth : ∀ {j : Nat} {e : Z.D}, j ≠ i → ρ[j]? = some (some (e, true)) → σ[j]? ≠ some (some (.ref a)) := fun {j e} hj q q2 => hj (s.s.dis j i e _ a q hi q2 ha)
  refine ⟨⟨s.c0, own_crel s.c hb na ws, ⟨by simpa using s.s.len, fun j e h => ?_, fun j e h => ?_, fun j k d1 d2 p h1 h2 h3 h4 => ?_⟩, s.x.own h0⟩, sx⟩
  · by_cases q : i = j
    · subst q
      rw [List.getElem?_set_self hl] at h
      cases h
    · rw [List.getElem?_set_ne q] at h
      obtain ⟨v, h1, h2⟩ := s.s.val j e h
      exact ⟨v, h1, h2.sx sx⟩
  · by_cases q : i = j
    · subst q
      rw [List.getElem?_set_self hl] at h
      cases h
      exact ⟨a, ws, es, rfl, ha, upd_same, r.sx sx, hb, na, h0⟩
    · rw [List.getElem?_set_ne q] at h
      obtain ⟨b, us, fs, k0, k1, k2, k3, k4, k5, k6⟩ := s.s.own j e h
      have hne : b ≠ a := fun z => oth (Ne.symm q) h (by rw [k1, z])
      exact ⟨b, us, fs, k0, k1, by rw [upd_ne hne]; exact k2, k3.sx sx, k4, k5, k6⟩
  · have back : ∀ {l : Nat} {y : Z.D}, (ρ.set i (some (.lst es, true)))[l]? = some (some (y, true)) → ∃ y', ρ[l]? = some (some (y', true)) := fun {l y} h => by
      by_cases q : i = l
      · subst q
        exact ⟨_, hi⟩
      · rw [List.getElem?_set_ne q] at h
        exact ⟨_, h⟩
    obtain ⟨y1, g1⟩ := back h1
    obtain ⟨y2, g2⟩ := back h2
    exact s.s.dis j k y1 y2 p g1 g2 h3 h4
/-- a cell is written -/
theorem StR.wroteC {n : Nat} {es : List Z.D} {a : Addr} {ws : List V} (s : StR E B As bad H μ σ ρ) (hn : As[n]? = some a) (r : Reps E As H bad ws es) :
    StR E B As bad (upd H a (.lst ws)) (μ.set n es) σ ρ ∧ SExt As bad H As bad (upd H a (.lst ws)) := by
  have ma : a ∈ As := List.mem_of_getElem? hn
  have hb : bad a := s.c.sub a ma
  have sx : SExt As bad H As bad (upd H a (.lst ws)) := own_sx hb
  have hnl : n < As.length := (List.getElem?_eq_some_iff.mp hn).1
  refine ⟨⟨s.c0, ⟨s.c.nd, s.c.sub, fun b h => ?_, by rw [List.length_set]; exact s.c.len, fun m b ds h1 h2 => ?_⟩, ⟨s.s.len, fun j e h => ?_, fun j e h => ?_, s.s.dis⟩, ?_⟩, sx⟩
  · by_cases q : b = a
    · subst q
      exact ⟨ws, upd_same⟩
    · rw [upd_ne q]
      exact s.c.lists b h
  · by_cases q : n = m
    · subst q
      rw [hn] at h1
      cases h1
      rw [List.getElem?_set_self (by rw [← s.c.len]; exact hnl)] at h2
      cases h2
      exact ⟨ws, upd_same, r.sx sx⟩
    · rw [List.getElem?_set_ne q] at h2
      obtain ⟨us, h3, h4⟩ := s.c.cel m b ds h1 h2
      have hne : b ≠ a := fun z => by
        subst z
        have hm : m < As.length := (List.getElem?_eq_some_iff.mp h1).1
        have e1 := (List.getElem?_eq_some_iff.mp h1).2
        have e2 := (List.getElem?_eq_some_iff.mp hn).2
        exact q ((List.getElem_inj s.c.nd).mp (e2.trans e1.symm))
      exact ⟨us, by rw [upd_ne hne]; exact h3, h4.sx sx⟩
  · obtain ⟨v, h1, h2⟩ := s.s.val j e h
    exact ⟨v, h1, h2.sx sx⟩
  · obtain ⟨b, us, fs, k0, k1, k2, k3, k4, k5, k6⟩ := s.s.own j e h
    have hne : b ≠ a := fun z => k5 (z ▸ ma)
    exact ⟨b, us, fs, k0, k1, by rw [upd_ne hne]; exact k2, k3.sx sx, k4, k5, k6⟩
  · refine ⟨s.x.sub, s.x.pre, s.x.fr, fun b u h nb => ?_, s.x.nb, s.x.bb⟩
    have hne : b ≠ a := fun z => by
      subst z
      have := s.x.fr b ma nb
      rw [h] at this
      cases this
    rw [upd_ne hne]
    exact s.x.all b u h nb
theorem u_app {K : PySem.W.Frag} {i : Nat} : rW E (kApp i fe) D σ H → tDrop (tBM K "list" rAppend (tVar i) (tCons (rR E fe) tNil)) D σ H := by
  rintro ⟨B, As, bad, μ, ρ, r, s, e, k⟩
  unfold kApp at e
  split at e
  · rename_i d o μ1 q
    split at e
    · rename_i ds q2
      split at e
      · rename_i hz
        cases e
        obtain ⟨a, vs, es, h0, h1, h2, h3, h4, h5, h6⟩ := s.s.own i _ q2
        cases h0
        refine ⟨.ref a, h1, .inl ⟨rfl, vs, .inl (.inl h2)⟩, ⟨As, bad, μ, ρ, d, o, _, s.at_, q, fun v H1 As1 bad1 c1 x1 r1 => ?_⟩⟩
        have s1 := s.ext c1 x1
        have h2' := x1.all _ _ h2 h5
        refine ⟨a, vs, v, rfl, rfl, h2', by rw [h3.length]; exact hz, ?_⟩
        obtain ⟨s2, y⟩ := s1.wrote q2 h1 h2' (x1.bb _ h4) (x1.na h2 h5) h6 ((h3.ext x1).append (.cons r1 .nil))
        exact k.nx1 s2 (x1.sx.trans y)
      · cases e
    · cases e
  · cases e
def rIns : V → List V → Hp → VK → Prop := fun x vs H Q => ∃ (l : Addr) (xs : List V) (i : Int) (y : V), x = .ref l ∧ vs = [.int i, y] ∧ H l = some (.lst xs) ∧ xs.length < sizeLine ∧ 0 ≤ i ∧ i < 2 ^ 63 ∧ Q .non (upd H l (.lst (xs.take i.toNat ++ [y] ++ xs.drop i.toNat)))
theorem u_ins {K : PySem.W.Frag} {i : Nat} : rW E (kIns i fk fe) D σ H → tDrop (tBM K "list" rIns (tVar i) (tCons (rR E fk) (tCons (rR E fe) tNil))) D σ H := by
  rintro ⟨B, As, bad, μ, ρ, r, s, e, k⟩
  unfold kIns at e
  split at e
  · rename_i z o μ1 q
    split at e
    · rename_i d o2 μ2 q1
      split at e
      · rename_i ds q2
        split at e
        · rename_i hz
          cases e
          obtain ⟨a, vs, es, h0, h1, h2, h3, h4, h5, h6⟩ := s.s.own i _ q2
          cases h0
          refine ⟨.ref a, h1, .inl ⟨rfl, vs, .inl (.inl h2)⟩, ⟨As, bad, μ, ρ, _, o, μ1, s.at_, q, fun v1 H1 As1 bad1 c1 x1 r1 => ⟨As1, bad1, μ1, ρ, d, o2, _, (s.ext c1 x1).at_, q1, fun v H2 As2 bad2 c2 x2 r2 => ?_⟩⟩⟩
          cases r1
          have x12 := x1.trans x2
          have s1 := s.ext c2 x12
          have h2' := x12.all _ _ h2 h5
          have r3 := h3.ext x12
          refine ⟨a, vs, z, v, rfl, rfl, h2', by rw [h3.length]; exact hz.2.2, hz.1, by have := hz.2.1; omega, ?_⟩
          obtain ⟨s2, y⟩ := s1.wrote q2 h1 h2' (x12.bb _ h4) (x12.na h2 h5) h6 (((r3.take z.toNat).append (.cons r2 .nil)).append (r3.drop z.toNat))
          exact k.nx1 s2 (x12.sx.trans y)
        · cases e
      · cases e
    · cases e
  · cases e
theorem cel_at {n : Nat} {ds : List Z.D} (c : CRel E As bad H μ) (r : Rep E As H bad v (.cell n)) (q : μ[n]? = some ds) : ∃ a vs, v = .ref a ∧ As[n]? = some a ∧ H a = some (.lst vs) ∧ Reps E As H bad vs ds := by
  cases r with
  | cell h =>
    obtain ⟨vs, h1, h2⟩ := c.cel n _ ds h q
    exact ⟨_, vs, rfl, h, h1, h2⟩
theorem cel_any {n : Nat} (c : CRel E As bad H μ) (r : Rep E As H bad v (.cell n)) : ∃ a vs, v = .ref a ∧ As[n]? = some a ∧ H a = some (.lst vs) := by
  cases r with
  | cell h =>
    obtain ⟨vs, h1⟩ := c.lists _ (c.sub _ (List.mem_of_getElem? h))
    exact ⟨_, vs, rfl, h, h1⟩
theorem u_appC {K : PySem.W.Frag} {i : Nat} : rW E (kAppC i fe) D σ H → tDrop (tBM K "list" rAppend (tVar i) (tCons (rR E fe) tNil)) D σ H := by
  rintro ⟨B, As, bad, μ, ρ, r, s, e, k⟩
  unfold kAppC at e
  split at e
  · rename_i d o μ1 q
    split at e
    · rename_i n q2
      split at e
      · rename_i ds q3
        split at e
        · rename_i hz
          cases e
          obtain ⟨v0, h1, h2⟩ := s.s.val i _ q2
          obtain ⟨a, vs0, rfl, ha, hv0⟩ := cel_any s.c h2
          refine ⟨_, h1, .inl ⟨rfl, vs0, .inl (.inl hv0)⟩, ⟨As, bad, μ, ρ, d, o, _, s.at_, q, fun v H1 As1 bad1 c1 x1 r1 => ?_⟩⟩
          have s1 := s.ext c1 x1
          obtain ⟨a', vs, ea, ha1, hv, rv⟩ := cel_at c1 (h2.ext x1) q3
          cases ea
          refine ⟨a, vs, v, rfl, rfl, hv, by rw [rv.length]; exact hz, ?_⟩
          obtain ⟨s2, y⟩ := s1.wroteC ha1 (rv.append (.cons r1 .nil))
          exact k.nx1 s2 (x1.sx.trans y)
        · cases e
      · cases e
    · cases e
  · cases e
theorem u_sub {i : Nat} : rW E (kSub i fk fe) D σ H → tAsg (rR E fe) (gSub (tVar i) (rE E fk) rSetL) D σ H := by
  rintro ⟨B, As, bad, μ, ρ, r, s, e, k⟩
  unfold kSub at e
  split at e
  · rename_i d o μ1 q
    split at e
    · rename_i z o2 μ2 q1
      split at e
      · rename_i ds q2
        split at e
        · rename_i j hj
          cases e
          refine ⟨As, bad, μ, ρ, d, o, _, s.at_, q, fun v H1 As1 bad1 c1 x1 r1 => ?_⟩
          have s1 := s.ext c1 x1
          obtain ⟨a, vs, es, h0, h1, h2, h3, h4, h5, h6⟩ := s1.s.own i _ q2
          cases h0
          refine ⟨.ref a, h1, As1, bad1, _, ρ, _, o2, _, s1.at_, q1, fun u H2 As2 bad2 c2 x2 r2 => ?_⟩
          have s2 := s1.ext c2 x2
          have h2' := x2.all _ _ h2 h5
          refine ⟨a, vs, z, j, rfl, repO_int r2, h2', by rw [h3.length]; exact hj, ?_⟩
          obtain ⟨s3, y⟩ := s2.wrote q2 h1 h2' (x2.bb _ h4) (x2.na h2 h5) h6 ((h3.ext x2).set j (r1.ext x2))
          exact k.nx1 s3 ((x1.trans x2).sx.trans y)
        · cases e
      · cases e
    · cases e
  · cases e
theorem u_subC {i : Nat} : rW E (kSubC i fk fe) D σ H → tAsg (rR E fe) (gSub (tVar i) (rE E fk) rSetL) D σ H := by
  rintro ⟨B, As, bad, μ, ρ, r, s, e, k⟩
  unfold kSubC at e
  split at e
  · rename_i d o μ1 q
    split at e
    · rename_i z o2 μ2 q1
      split at e
      · rename_i n q2
        split at e
        · rename_i ds q3
          split at e
          · rename_i j hj
            cases e
            refine ⟨As, bad, μ, ρ, d, o, _, s.at_, q, fun v H1 As1 bad1 c1 x1 r1 => ?_⟩
            have s1 := s.ext c1 x1
            obtain ⟨v0, h1, h2⟩ := s1.s.val i _ q2
            refine ⟨v0, h1, As1, bad1, _, ρ, _, o2, _, s1.at_, q1, fun u H2 As2 bad2 c2 x2 r2 => ?_⟩
            have s2 := s1.ext c2 x2
            obtain ⟨a, vs, rfl, ha1, hv, rv⟩ := cel_at c2 (h2.ext x2) q3
            refine ⟨a, vs, z, j, rfl, repO_int r2, hv, by rw [rv.length]; exact hj, ?_⟩
            obtain ⟨s3, y⟩ := s2.wroteC ha1 (rv.set j (r1.ext x2))
            exact k.nx1 s3 ((x1.trans x2).sx.trans y)
          · cases e
        · cases e
      · cases e
    · cases e
  · cases e
/-! ### loops -/
theorem u_for {t : X} : rW E (kFor t fi f) D σ H → tFor (rI E false fi) (rG E t) (rW E f) D σ H := by
  rintro ⟨B, As, bad, μ, ρ, r, s, e, k⟩
  unfold kFor at e
  split at e
  rotate_left
  · cases e
  rename_i ds μ1 q1
  refine ⟨As, bad, μ, ρ, ds, μ1, s.at_, q1, fun J H1 As1 bad1 c1 x1 w1 => ?_⟩
  obtain ⟨st, st0, _, stE, stW⟩ := w1
  have s1 := s.ext c1 x1
  have k1 := k.later x1.sx
  clear k
  generalize hF : (fun d ρ2 μ2 => match dT t d ρ2 with
    | some ρ3 => f ρ3 μ2
    | none => none) = F at e
  refine ⟨fun i m σ H => m = ds.length - i ∧ i ≤ ds.length ∧ ∃ As' bad' μ' ρ', StR E B As' bad' H μ' σ ρ' ∧ SExt As1 bad1 H1 As' bad' H ∧ foldS F (ds.drop i) ρ' μ' = some r,
    ⟨ds.length, by simp, Nat.zero_le _, As1, bad1, μ1, ρ, s1, .refl, by simpa using e⟩, ?_⟩
  rintro i m σ2 H2 ⟨rfl, hi, As', bad', μ', ρ', s2, x2, e2⟩
  have wk := stW _ _ _ (stE rfl _ _ _ _ _ _ st0 x2)
  have k2 := k1.later x2
  by_cases hlt : i < ds.length
  · have hd : ds[i]? = some ds[i] := List.getElem?_eq_getElem hlt
    rw [List.drop_eq_getElem_cons hlt] at e2
    obtain ⟨go, yl⟩ := wk.go i ds[i] μ' s2.c hd
    refine .inr ⟨go, _, fun σ' H' n => ⟨ds.length - (i + 1), by omega, n⟩, fun v H' y => ?_⟩
    obtain ⟨c3, x3, r3⟩ := yl v H' y
    have s3 := s2.ext c3 x3
    unfold foldS at e2
    rw [← hF] at e2
    dsimp only at e2
    cases g1 : dT t ds[i] ρ' with
    | none =>
      rw [g1] at e2
      cases e2
    | some ρ3 =>
      rw [g1] at e2
      dsimp only at e2
      refine ⟨As', bad', ρ', ds[i], ρ3, B.H, s3.s, r3, g1, fun σ' s' _ _ => ?_⟩
      have s4 : StR E B As' bad' H' μ' σ' ρ3 := ⟨s3.c0, c3, s', s3.x⟩
      cases g2 : f ρ3 μ' with
      | none =>
        rw [g2] at e2
        cases e2
      | some r4 =>
        rw [g2] at e2
        refine ⟨B, As', bad', μ', ρ3, r4, s4, g2, ?_⟩
        have nxt : ∀ {ρ5 : Rho} {μ5 : Mu}, foldS F (ds.drop (i + 1)) ρ5 μ5 = some r → ∀ (σ5 : L2.St) (H5 : Hp) (As5 : List Addr) (bad5 : Addr → Prop), StR E B As5 bad5 H5 μ5 σ5 ρ5 → SExt As' bad' H' As5 bad5 H5 →
            ds.length - (i + 1) = ds.length - (i + 1) ∧ i + 1 ≤ ds.length ∧ ∃ As' bad' μ' ρ', StR E B As' bad' H5 μ' σ5 ρ' ∧ SExt As1 bad1 H1 As' bad' H5 ∧ foldS F (ds.drop (i + 1)) ρ' μ' = some r := fun h σ5 H5 As5 bad5 s5 x5 =>
          ⟨rfl, hlt, As5, bad5, _, _, s5, (x2.trans x3.sx).trans x5, h⟩
        rw [hF] at e2
        cases r4 with
        | nx ρ5 μ5 => exact nxt e2
        | ct ρ5 μ5 => exact nxt e2
        | bk ρ5 μ5 =>
          cases e2
          exact k2.later x3.sx
        | rt d o μ5 =>
          cases e2
          exact k2.later x3.sx
  · have ei : i = ds.length := by omega
    subst ei
    rw [List.drop_length] at e2
    cases e2
    exact .inl ⟨wk.stop _ (Nat.le_refl _), k2.nx1 s2 .refl⟩
theorem u_while {n : Nat} : rW E (kWh n fc f) D σ H → tWhile (rTt E fc) (rW E f) D σ H := by
  rintro ⟨B, As, bad, μ, ρ, r, s, e, k⟩
  unfold kWh at e
  refine ⟨fun m σ2 H2 => ∃ As' bad' μ' ρ', StR E B As' bad' H2 μ' σ2 ρ' ∧ SExt As bad H As' bad' H2 ∧ whileS (fun ρ1 μ1 => match fc ρ1 μ1 with
    | some (.bl k, _, μ2) => some (k, μ2)
    | _ => none) (fun ρ1 μ1 => f ρ1 μ1) m ρ' μ' = some r, ⟨n, As, bad, μ, ρ, s, .refl, e⟩, ?_⟩
  rintro m σ2 H2 ⟨As', bad', μ', ρ', s2, x2, e2⟩
  have k2 := k.later x2
  cases m with
  | zero => cases e2
  | succ m =>
    unfold whileS at e2
    cases q : fc ρ' μ' with
    | none =>
      rw [q] at e2
      cases e2
    | some z =>
      obtain ⟨d, o, μ3⟩ := z
      rw [q] at e2
      cases d with
      | bl b =>
        refine ⟨As', bad', μ', ρ', b, o, μ3, s2.at_, q, fun H3 As3 bad3 c3 x3 => ?_⟩
        have s3 := s2.ext c3 x3
        cases b with
        | false =>
          cases e2
          exact ite_f (k2.nx1 s3 x3.sx)
        | true =>
          dsimp only at e2
          refine ite_t ⟨_, fun σ' H' w => ⟨m, Nat.lt_succ_self m, w⟩, ?_⟩
          cases g2 : f ρ' μ3 with
          | none =>
            rw [g2] at e2
            cases e2
          | some r4 =>
            rw [g2] at e2
            refine ⟨B, As3, bad3, μ3, ρ', r4, s3, g2, ?_⟩
            cases r4 with
            | nx ρ5 μ5 => exact fun σ5 H5 As5 bad5 s5 x5 => ⟨As5, bad5, μ5, ρ5, s5, (x2.trans x3.sx).trans x5, e2⟩
            | ct ρ5 μ5 => exact fun σ5 H5 As5 bad5 s5 x5 => ⟨As5, bad5, μ5, ρ5, s5, (x2.trans x3.sx).trans x5, e2⟩
            | bk ρ5 μ5 =>
              cases e2
              exact k2.later x3.sx
            | rt d o μ5 =>
              cases e2
              exact k2.later x3.sx
      | _ => cases e2
end
end Z
end

section
set_option Elab.async false
set_option autoImplicit false
set_option linter.all false
set_option maxRecDepth 100000
set_option maxHeartbeats 1000000
/-! Lists of one's own given away, lent; new cells. -/
namespace Z
open PySem PySem.Spec PyProof.Rows L2
section
variable {E : En} {B : Bs} {As As' As1 : List Addr} {bad bad' bad1 : Addr → Prop} {H H' H1 : Hp} {μ μ' μ1 : Mu} {σ : L2.St} {ρ : Rho} {v : V} {d : Z.D}
variable {D : Ends} {f : Rho → Mu → Option SR} {fe : Rho → Mu → RE}
/-- fewer may be changed -/
structure Less (As : List Addr) (bad bad' : Addr → Prop) (H : Hp) (H0 : Hp) : Prop where
  sub : ∀ a, bad' a → bad a
  gone : ∀ a, bad a → ¬ bad' a → a ∉ As ∧ (∃ vs, H a = some (.lst vs)) ∧ H0 a = none
theorem CRel.less {H0 : Hp} (c : CRel E As bad H μ) (l : Less As bad bad' H H0) : CRel E As bad' H μ := by
  refine ⟨c.nd, fun a m => ?_, fun a b => c.lists a (l.sub a b), c.len, fun n a ds h1 h2 => ?_⟩
  · apply Classical.byContradiction
    intro n
    exact (l.gone a (c.sub a m) n).1 m
  · obtain ⟨vs, h3, h4⟩ := c.cel n a ds h1 h2
    exact ⟨vs, h3, h4.sx (SExt.less l.sub)⟩
theorem disown_get {i j : Nat} {x : Option (Z.D × Bool)} (h : (disown ρ i)[j]? = some x) : (j ≠ i ∧ ρ[j]? = some x) ∨ (j = i ∧ ∃ d o, ρ[i]? = some (some (d, o)) ∧ x = some (d, false)) ∨ (ρ[j]? = some x ∧ x = none) := by
  unfold disown at h
  split at h
  · rename_i d o q
    by_cases e : i = j
    · subst e
      rw [List.getElem?_set_self (List.getElem?_eq_some_iff.mp q).1] at h
      cases h
      exact .inr (.inl ⟨rfl, d, o, q, rfl⟩)
    · rw [List.getElem?_set_ne e] at h
      exact .inl ⟨Ne.symm e, h⟩
  · rename_i q
    by_cases e : j = i
    · subst e
      cases x with
      | none => exact .inr (.inr ⟨h, rfl⟩)
      | some z =>
        obtain ⟨d, o⟩ := z
        exact absurd h (q d o)
    · exact .inl ⟨e, h⟩
theorem disown_len (ρ : Rho) (i : Nat) : (disown ρ i).length = ρ.length := by
  unfold disown
  split
  · rw [List.length_set]
  · rfl
theorem SRel.disown {H0 : Hp} (s : SRel E H0 As bad H σ ρ) (c : CRel E As bad H μ) (i : Nat) : ∃ bad', Less As bad bad' H H0 ∧ SRel E H0 As bad' H σ (disown ρ i) := by
  by_cases q : ∃ d, ρ[i]? = some (some (d, true))
  · obtain ⟨d, q⟩ := q
    obtain ⟨a, vs, ds, k0, k1, k2, k3, k4, k5, k6⟩ := s.own i d q
    have l : Less As bad (fun b => bad b ∧ b ≠ a) H H0 := ⟨fun b z => z.1, fun b z n => by
      have e : b = a := by
        apply Classical.byContradiction
        intro ne
        exact n ⟨z, ne⟩
      subst e
      exact ⟨k5, ⟨vs, k2⟩, k6⟩⟩
    refine ⟨_, l, by rw [disown_len]; exact s.len, fun j e h => ?_, fun j e h => ?_, fun j k d1 d2 p h1 h2 h3 h4 => ?_⟩
    · rcases disown_get h with ⟨_, h⟩ | ⟨rfl, d', o, h1, h2⟩ | ⟨_, h⟩
      · obtain ⟨v, h1, h2⟩ := s.val j e h
        exact ⟨v, h1, h2.sx (SExt.less l.sub)⟩
      · rw [q] at h1
        cases h1
        cases h2
        exact ⟨_, k1, by rw [k0]; exact .lst (.inl k2) (fun z => z.2 rfl) (k3.sx (SExt.less l.sub))⟩
      · cases h
    · rcases disown_get h with ⟨ne, h⟩ | ⟨rfl, d', o, h1, h2⟩ | ⟨_, h⟩
      · obtain ⟨b, us, fs, m0, m1, m2, m3, m4, m5, m6⟩ := s.own j e h
        refine ⟨b, us, fs, m0, m1, m2, m3.sx (SExt.less l.sub), ⟨m4, fun z => ne ?_⟩, m5, m6⟩
        subst z
        exact s.dis j i _ _ b h q m1 k1
      · cases h2
      · cases h
    · rcases disown_get h1 with ⟨n1, h1⟩ | ⟨_, _, _, _, z⟩ | ⟨_, z⟩
      · rcases disown_get h2 with ⟨n2, h2⟩ | ⟨_, _, _, _, z⟩ | ⟨_, z⟩
        · exact s.dis j k d1 d2 p h1 h2 h3 h4
        · cases z
        · cases z
      · cases z
      · cases z
  · refine ⟨bad, ⟨fun _ z => z, fun _ z n => absurd z n⟩, ?_⟩
    have e : Z.disown ρ i = ρ := by
      unfold Z.disown
      split
      · rename_i d o h
        cases o with
        | true => exact absurd ⟨d, h⟩ q
        | false =>
          apply List.ext_getElem?
          intro j
          by_cases z : i = j
          · subst z
            rw [List.getElem?_set_self (List.getElem?_eq_some_iff.mp h).1, h]
          · rw [List.getElem?_set_ne z]
      · rfl
    rw [e]
    exact s
theorem StR.disown (s : StR E B As bad H μ σ ρ) (i : Nat) : ∃ bad', StR E B As bad' H μ σ (disown ρ i) ∧ SExt As bad H As bad' H := by
  obtain ⟨bad', l, s2⟩ := s.s.disown s.c i
  refine ⟨bad', ⟨s.c0, s.c.less l, s2, ⟨s.x.sub, s.x.pre, s.x.fr, s.x.all, fun a o h n z => s.x.nb a o h n (l.sub a z), fun a b => ?_⟩⟩, SExt.less l.sub⟩
  apply Classical.byContradiction
  intro n
  obtain ⟨_, _, h0⟩ := l.gone a (s.x.bb a b) n
  obtain ⟨vs, h1⟩ := s.c0.lists a b
  rw [h0] at h1
  cases h1
theorem u_dis {i : Nat} : rW E (fun ρ μ => f (disown ρ i) μ) D σ H → rW E f D σ H := by
  rintro ⟨B, As, bad, μ, ρ, r, s, e, k⟩
  obtain ⟨bad', s2, x⟩ := s.disown i
  exact ⟨B, As, bad', μ, _, r, s2, e, k.later x⟩
/-- a new cell -/
def fMk (f : Rho → Mu → RE) : Rho → Mu → RE := fun ρ μ => match f ρ μ with
  | some (.lst ds, true, μ1) => some (.cell μ1.length, false, μ1 ++ [ds])
  | _ => none
theorem w_mk {Q : VK} : rE E (fMk fe) σ H Q → rE E fe σ H Q := by
  rintro ⟨As, bad, μ, ρ, d, o, μ', a, e, k⟩
  unfold fMk at e
  split at e
  · rename_i ds μ1 q
    cases e
    refine ⟨As, bad, μ, ρ, _, true, μ1, a, q, fun v H' As' bad' c x r => ?_⟩
    obtain ⟨p, vs, es, rfl, h2, h3, h4, h5, h6, h7⟩ := r
    cases h2
    have sx : SExt As' bad' H' (As' ++ [p]) bad' H' := ⟨⟨[p], rfl⟩, fun _ _ h n => ⟨h, n⟩⟩
    refine k (.ref p) H' (As' ++ [p]) bad' ⟨?_, fun b m => ?_, c.lists, by rw [List.length_append, List.length_append, c.len]; rfl, fun n b fs h1 h2 => ?_⟩ ⟨x.sub, ?_, fun b m n => ?_, x.all, x.nb, x.bb⟩ (.cell ?_)
    · rw [List.nodup_append]
      exact ⟨c.nd, by simp, fun b m b' m' => by simp at m'; subst m'; exact fun z => h6 (z ▸ m)⟩
    · rcases List.mem_append.mp m with m | m
      · exact c.sub b m
      · simp at m
        subst m
        exact h5
    · by_cases hn : n < As'.length
      · rw [List.getElem?_append_left hn] at h1
        rw [List.getElem?_append_left (by rw [← c.len]; exact hn)] at h2
        obtain ⟨us, k1, k2⟩ := c.cel n b fs h1 h2
        exact ⟨us, k1, k2.sx sx⟩
      · rw [List.getElem?_append_right (by omega)] at h1
        rw [List.getElem?_append_right (by rw [← c.len]; omega)] at h2
        rw [← c.len] at h2
        cases hz : n - As'.length with
        | zero =>
          rw [hz] at h1 h2
          cases h1
          cases h2
          exact ⟨vs, h3, h4.sx sx⟩
        | succ m =>
          rw [hz] at h1
          cases h1
    · obtain ⟨ee, z⟩ := x.pre
      exact ⟨ee ++ [p], by rw [z, List.append_assoc]⟩
    · rcases List.mem_append.mp m with m | m
      · exact x.fr b m n
      · simp at m
        subst m
        exact h7
    · rw [← c.len, List.getElem?_append_right (Nat.le_refl _), Nat.sub_self]
      rfl
  · cases e
/-- lists of one's own lent for a while -/
def fLend (is : List Nat) (f : Rho → Mu → RE) : Rho → Mu → RE := fun ρ μ => match f (disowns ρ is) μ with
  | some (d, _, μ1) => if scalar d && μ1.all scalL then some (d, false, μ1) else none
  | none => none
theorem SRel.disowns {H0 : Hp} : ∀ (is : List Nat) {bad : Addr → Prop} {ρ : Rho}, SRel E H0 As bad H σ ρ → CRel E As bad H μ → ∃ bad', Less As bad bad' H H0 ∧ SRel E H0 As bad' H σ (disowns ρ is)
  | [], bad, _, s, _ => ⟨bad, ⟨fun _ z => z, fun _ z n => absurd z n⟩, s⟩
  | i :: is, bad, ρ, s, c => by
    obtain ⟨b1, l1, s1⟩ := s.disown c i
    obtain ⟨b2, l2, s2⟩ := SRel.disowns (ρ := Z.disown ρ i) is s1 (c.less l1)
    refine ⟨b2, ⟨fun a z => l1.sub a (l2.sub a z), fun a z n => ?_⟩, s2⟩
    by_cases q : b1 a
    · exact l2.gone a q n
    · exact l1.gone a z q
theorem scal_any {v : V} {d : Z.D} {As2 : List Addr} {H2 : Hp} {bad2 : Addr → Prop} (r : Rep E As H bad v d) (h : scalar d = true) : Rep E As2 H2 bad2 v d := by
  cases r with
  | non => exact .non
  | bl b => exact .bl b
  | int i => exact .int i
  | str x => exact .str x
  | _ => cases h
theorem scal_all {As2 : List Addr} {H2 : Hp} {bad2 : Addr → Prop} : ∀ {vs : List V} {ds : List Z.D}, Reps E As H bad vs ds → scalL ds = true → Reps E As2 H2 bad2 vs ds
  | _, _, .nil, _ => .nil
  | _, _, .cons r q, h => by
    obtain ⟨h1, h2⟩ := Bool.and_eq_true_iff.mp (show (scalar _ && scalL _) = true from h)
    exact .cons (scal_any r h1) (scal_all q h2)
theorem lend_core {is : List Nat} (a : At E As bad H μ σ ρ) (hz2 : μ'.all scalL = true) : ∃ bad2, At E As bad2 H μ σ (disowns ρ is) ∧
    ∀ H' As' bad', CRel E As' bad' H' μ' → Ext As bad2 H As' bad' H' → ∃ bad3, CRel E As' bad3 H' μ' ∧ Ext As bad H As' bad3 H' := by
  obtain ⟨H0, s⟩ := a.s
  obtain ⟨bad2, l, s2⟩ := s.disowns is a.c
  refine ⟨bad2, ⟨a.c.less l, H0, s2⟩, fun H' As' bad' c x => ⟨fun b => bad' b ∨ bad b, ⟨c.nd, fun b m => .inl (c.sub b m), fun b z => ?_, c.len, fun n b ds h1 h2 => ?_⟩, ⟨a.c.sub, x.pre, x.fr, x.all, fun b u h n z => ?_, fun b z => .inr z⟩⟩⟩
  · rcases z with z | z
    · exact c.lists b z
    · by_cases g : bad2 b
      · exact c.lists b (x.bb b g)
      · obtain ⟨g1, ⟨vs, g2⟩, _⟩ := l.gone b z g
        exact ⟨vs, x.all _ _ g2 g1⟩
  · obtain ⟨vs, h3, h4⟩ := c.cel n b ds h1 h2
    exact ⟨vs, h3, scal_all h4 (List.all_eq_true.mp hz2 ds (List.mem_of_getElem? h2))⟩
  · rcases z with z | z
    · exact x.nb b u h (fun g => n (l.sub b g)) z
    · exact n z
theorem w_lend {is : List Nat} {Q : VK} : rE E (fLend is fe) σ H Q → rR E fe σ H Q := by
  rintro ⟨As, bad, μ, ρ, d, o, μ', a, e, k⟩
  unfold fLend at e
  split at e
  · rename_i d1 o1 μ1 q
    split at e
    · rename_i hz
      cases e
      obtain ⟨hz1, hz2⟩ := Bool.and_eq_true_iff.mp hz
      obtain ⟨bad2, a2, f⟩ := lend_core (is := is) a hz2
      refine ⟨As, bad2, μ, _, _, o1, _, a2, q, fun v H' As' bad' c x r => ?_⟩
      obtain ⟨bad3, c3, x3⟩ := f H' As' bad' c x
      exact k v H' As' bad3 c3 x3 (scal_any r hz1)
    · cases e
  · cases e
theorem w_lendT {is : List Nat} {Q : Bool → Hp → Prop} : rTt E (fLend is fe) σ H Q → rTt E fe σ H Q := by
  rintro ⟨As, bad, μ, ρ, b, o, μ', a, e, k⟩
  unfold fLend at e
  split at e
  · rename_i d1 o1 μ1 q
    split at e
    · rename_i hz
      cases e
      obtain ⟨hz1, hz2⟩ := Bool.and_eq_true_iff.mp hz
      obtain ⟨bad2, a2, f⟩ := lend_core (is := is) a hz2
      refine ⟨As, bad2, μ, _, _, o1, _, a2, q, fun H' As' bad' c x => ?_⟩
      obtain ⟨bad3, c3, x3⟩ := f H' As' bad' c x
      exact k H' As' bad3 c3 x3
    · cases e
  · cases e
/-- a list of one's own given up -/
def fGiv (f : Rho → Mu → RE) : Rho → Mu → RE := fun ρ μ => match f ρ μ with
  | some (d, _, μ1) => some (d, false, μ1)
  | none => none
theorem w_giv {Q : VK} : rE E (fGiv fe) σ H Q → rR E fe σ H Q := by
  rintro ⟨As, bad, μ, ρ, d, o, μ', a, e, k⟩
  unfold fGiv at e
  split at e
  · rename_i d1 o1 μ1 q
    cases e
    exact ⟨As, bad, μ, ρ, _, o1, _, a, q, fun v H' As' bad' c x r => k v H' As' bad' c x r⟩
  · cases e
theorem w_givT {Q : Bool → Hp → Prop} : rTt E (fGiv fe) σ H Q → rTt E fe σ H Q := by
  rintro ⟨As, bad, μ, ρ, b, o, μ', a, e, k⟩
  unfold fGiv at e
  split at e
  · rename_i d1 o1 μ1 q
    cases e
    exact ⟨As, bad, μ, ρ, _, o1, _, a, q, k⟩
  · cases e
end
end Z
end

section
set_option Elab.async false
set_option autoImplicit false
set_option linter.all false
set_option maxRecDepth 100000
set_option maxHeartbeats 2000000
/-! Whether a term is what a piece of the program's text says. -/
namespace Z
open PySem PySem.Spec PyProof.Rows L2

/-- a def's names; the names of the defs, of the constants, of all that the module binds -/
structure Sta where
  N : List Str
  fs : List Str
  cn : List Str
  gl : List Str
  kn : List (List Str)
/-- where: the block's scope; a comprehension's own -/
structure Wh where
  sc : Scope
  own : Option Scope
def visB (w : Wh) (x : Str) : Bool := match w.sc.names.lookup x with
  | some .local => true
  | some .cell => true
  | some .free => true
  | _ => false
def gloB (w : Wh) (x : Str) : Bool := match w.sc.names.lookup x with
  | some .globalImplicit => true
  | _ => false
def fnB (w : Wh) (x : Str) : Bool := match w.own with
  | none => true
  | some s => s.names.lookup x == some .cell
def locB (w : Wh) (x : Str) : Bool := match w.sc.names.lookup x with
  | some .local => true
  | some .cell => fnB w x
  | _ => false
def lonB (w : Wh) (x : Str) : Bool := match w.sc.names.lookup x with
  | some .local => true
  | _ => false
def plainN (x : Str) : Bool := !(x == ("__debug__" : Str)) && !(x == ("__classdict__" : Str))
def nameB (S : Sta) (w : Wh) (i : Nat) (e : Expr) : Bool := match e with
  | .Name n _ => decide (S.N[i]? = some n) && visB w n && plainN n
  | _ => false
def star0 (e : Expr) : Bool := match e with
  | .Starred _ _ => false
  | _ => true
def noBase (e : Expr) : Bool := match e with
  | .Call _ _ _ _ => false
  | _ => true
def noSlice (e : Expr) : Bool := match e with
  | .Slice _ _ _ _ => false
  | _ => true
def noSet (e : Expr) : Bool := match e with
  | .Set _ _ _ => false
  | _ => true
def opOf : Op → Operator
  | .add => .Add
  | .sub => .Sub
  | .mul => .Mult
  | .fdiv => .FloorDiv
  | .mod => .Mod
  | .pow => .Pow
def opB (o : Op) (p : Operator) : Bool := match o, p with
  | .add, .Add => true
  | .sub, .Sub => true
  | .mul, .Mult => true
  | .fdiv, .FloorDiv => true
  | .mod, .Mod => true
  | .pow, .Pow => true
  | _, _ => false
def cpB (o : Cp) (p : CmpOp) : Bool := match o, p with
  | .eq, .Eq => true
  | .ne, .NotEq => true
  | .lt, .Lt => true
  | .le, .LtE => true
  | .gt, .Gt => true
  | .ge, .GtE => true
  | .is_, .Is => true
  | .isNot, .IsNot => true
  | .in_, .In => true
  | .notIn, .NotIn => true
  | _, _ => false
def biN : Bi → Str
  | .len => "len"
  | .sum => "sum"
  | .max => "max"
  | .min => "min"
  | .abs => "abs"
  | .int => "int"
  | .tuple => "tuple"
  | .list => "list"
  | .repr => "repr"
  | .str => "str"
  | .bool => "bool"
  | .sorted => "sorted"
def bltB (S : Sta) (w : Wh) (x y : Str) : Bool := decide (x = y) && gloB w y && decide (y ∈ S.gl)
def cstB (d : D) (c : Const) : Bool := match d, c with
  | .non, .none => true
  | .bl a, .bool b => a == b
  | .int i, .int j => decide (i = j)
  | .str x, .str y => decide (x = y)
  | _, _ => false
/-- an operand -/
def mO (S : Sta) (w : Wh) (x : X) (e : Expr) (r : Bool) : Bool := match x with
  | .pv i => nameB S w i e
  | _ => r
def isNo (a : X) : Bool := match a with
  | .noX => true
  | _ => false
def isTup (e : Expr) : Bool := match e with
  | .Tuple _ _ _ => true
  | _ => false
/-- keywords: the positional ones are n, the keywords' names ks, pm tells which of them each later parameter has -/
def kwB (ps : List Str) (n : Nat) (ks : List Str) (pm : List Nat) : Bool := decide ks.Nodup && decide (n ≤ ps.length) && decide (ps.drop n = pmL pm ks) && pm.all (fun i => decide (i < ks.length)) && ks.all (fun k => (ps.drop n).contains k)
def subW (w : Wh) (scope : Scope) : Wh := ⟨relS scope w.sc, some scope⟩
mutual
/-- a target -/
def mT (S : Sta) : X → Wh → Expr → Bool
  | .tName i, w, e => (match e with
    | .Name n _ => decide (S.N[i]? = some n) && locB w n
    | _ => false)
  | .tTup ts, w, e => (match e with
    | .Tuple es _ _ => mTs S ts w es
    | _ => false)
  | _, _, _ => false
def mTs (S : Sta) : X → Wh → List Expr → Bool
  | .nil, _, es => (match es with
    | [] => true
    | _ => false)
  | .cons t r, w, es => (match es with
    | e :: es => star0 e && mT S t w e && mTs S r w es
    | _ => false)
  | _, _, _ => false
end
mutual
/-- an expression -/
def mE (S : Sta) : X → Wh → Expr → Bool
  | .var i, w, e => nameB S w i e
  | .cst d, _, e => (match e with
    | .Constant c _ _ => cstB d c
    | _ => false)
  | .con j, w, e => (match e with
    | .Name n _ => decide (S.cn[j]? = some n) && gloB w n && plainN n
    | _ => false)
  | .tup es, w, e => (match e with
    | .Tuple es' _ _ => mEs S es w es'
    | _ => false)
  | .lst es, w, e => (match e with
    | .List es' _ => mEs S es w es'
    | _ => false)
  | .bin o a b, w, e => (match e with
    | .BinOp ea op eb _ => opB o op && mO S w a ea (mE S a w ea) && mO S w b eb (mE S b w eb)
    | _ => false)
  | .neg a, w, e => (match e with
    | .UnaryOp op ea _ => (match op with
      | .USub => mE S a w ea
      | _ => false)
    | _ => false)
  | .not a, w, e => (match e with
    | .UnaryOp op ea _ => (match op with
      | .Not => mE S a w ea
      | _ => false)
    | _ => false)
  | .and a r, w, e => (match e with
    | .BoolOp op (e1 :: e2 :: rest) pos => (match op with
      | .And => mE S a w e1 && mE S r w (.BoolOp .And (e2 :: rest) pos)
      | _ => false)
    | _ => false)
  | .or a r, w, e => (match e with
    | .BoolOp op (e1 :: e2 :: rest) pos => (match op with
      | .Or => mE S a w e1 && mE S r w (.BoolOp .Or (e2 :: rest) pos)
      | _ => false)
    | _ => false)
  | .one a, w, e => (match e with
    | .BoolOp _ (e1 :: rest) _ => (match rest with
      | [] => mE S a w e1
      | _ => false)
    | _ => false)
  | .cmp c a b, w, e => (match e with
    | .Compare ea (op :: ops) (eb :: es) _ => (match ops, es with
      | [], [] => cpB c op && !behindInMarks op eb && mO S w a ea (mE S a w ea) && mO S w b eb (mE S b w eb)
      | _, _ => false)
    | _ => false)
  | .chn c c' a b d, w, e => (match e with
    | .Compare ea (op :: op' :: ops) (eb :: ed :: es) _ => (match ops, es with
      | [], [] => cpB c op && cpB c' op' && !behindInMarks op' ed && mO S w a ea (mE S a w ea) && mO S w b eb (mE S b w eb) && mO S w d ed (mE S d w ed)
      | _, _ => false)
    | _ => false)
  | .ite c a b, w, e => (match e with
    | .IfExp ec ea eb _ => mE S c w ec && mE S a w ea && mE S b w eb
    | _ => false)
  | .call f es, w, e => (match e with
    | .Call fn args kws _ => (match fn, kws with
      | .Name n _, [] => decide (S.fs[f]? = some n) && gloB w n && plainN n && mEs S es w args
      | _, _ => false)
    | _ => false)
  | .callk f pm es ks, w, e => (match e with
    | .Call fn args kws _ => (match fn with
      | .Name n _ => decide (S.fs[f]? = some n) && gloB w n && plainN n && mEs S es w args && mEs S ks w (kws.map (·.value)) && kws.all (·.arg.isSome) && (match S.kn[f]? with
        | some ps => kwB ps args.length (kws.filterMap (·.arg)) pm
        | none => false)
      | _ => false)
    | _ => false)
  | .bi b es, w, e => (match e with
    | .Call fn args kws _ => (match fn, kws with
      | .Name n _, [] => bltB S w n (biN b) && !args.isEmpty && mPs S es w args
      | _, _ => false)
    | _ => false)
  | .md m o es, w, e => (match e with
    | .Call fn args kws cpos => (match fn, kws with
      | .Attribute eo name apos, [] => (apos.endLine == cpos.line) && noBase eo && (match m with
        | .indexL => decide (name = ("index" : Str)) && (args.length == 1) && mO S w o eo (mE S o w eo) && mPs S es w args
        | .indexT => decide (name = ("index" : Str)) && (args.length == 1) && (match o with
          | .con j => true
          | _ => false) && mE S o w eo && mPs S es w args
        | .bits => decide (name = ("bit_length" : Str)) && args.isEmpty && mO S w o eo (mE S o w eo) && (match es with
          | .nil => true
          | _ => false))
      | _, _ => false)
    | _ => false)
  | .isi a t, w, e => (match e with
    | .Call fn args kws _ => (match fn, args, kws with
      | .Name n _, [ea, ec], [] => (match ec with
        | .Name c _ => bltB S w n "isinstance" && bltB S w c (Str.ofString t) && tyOk t && star0 ea && mO S w a ea (mE S a w ea)
        | _ => false)
      | _, _, _ => false)
    | _ => false)
  | .sub a i, w, e => (match e with
    | .Subscript ea ei _ => noSlice ei && mO S w a ea (mE S a w ea) && mO S w i ei (mE S i w ei)
    | _ => false)
  | .slc a lo hi, w, e => (match e with
    | .Subscript ea ei _ => (match ei with
      | .Slice el eh es _ => mO S w a ea (mE S a w ea) && (match el with
          | none => isNo lo
          | some el => mE S lo w el) && (match eh with
          | none => isNo hi
          | some eh => mE S hi w eh) && (match es with
          | none => true
          | _ => false)
      | _ => false)
    | _ => false)
  | .rev a, w, e => (match e with
    | .Subscript ea ei _ => (match ei with
      | .Slice none none (some (.UnaryOp .USub (.Constant (.int i) _ _) _)) _ => decide (i = 1) && mO S w a ea (mE S a w ea)
      | _ => false)
    | _ => false)
  | .comp x t it c own, w, e => (match e with
    | .ListComp elt gens scope _ => (match gens with
      | [⟨tg, iter, ifs, 0⟩] => noSet iter && mI S true it w tg iter && blkC S.N w.sc scope (own.map fun i => (S.N[i]?.getD "", i)) && (tIx t).all (fun i => own.contains i) && mT S t (subW w scope) tg && mE S x (subW w scope) elt && (match ifs with
        | [] => (match c with
          | .cst (.bl true) => true
          | _ => false)
        | [ec] => mE S c (subW w scope) ec
        | _ => false)
      | _ => false)
    | _ => false)
  | .mk a, w, e => mE S a w e
  | .giv a, w, e => mE S a w e
  | .lend _ a, w, e => mE S a w e
  | _, _, _ => false
def mEs (S : Sta) : X → Wh → List Expr → Bool
  | .nil, _, es => (match es with
    | [] => true
    | _ => false)
  | .cons a r, w, es => (match es with
    | e :: es => star0 e && mE S a w e && mEs S r w es
    | _ => false)
  | _, _, _ => false
def mPs (S : Sta) : X → Wh → List Expr → Bool
  | .nil, _, es => (match es with
    | [] => true
    | _ => false)
  | .cons a r, w, es => (match es with
    | e :: es => star0 e && mO S w a e (mE S a w e) && mPs S r w es
    | _ => false)
  | _, _, _ => false
/-- what a loop walks -/
def mI (S : Sta) : Bool → X → Wh → Expr → Expr → Bool
  | pk, .iEx a, w, _, e => (match pk with
    | true => mO S w a e (mE S a w e)
    | false => mE S a w e)
  | _, .iRng es, w, _, e => (match e with
    | .Call fn args kws _ => (match fn, kws with
      | .Name n _, [] => bltB S w n "range" && (args.length == 1 || args.length == 2) && mPs S es w args
      | _, _ => false)
    | _ => false)
  | pk, .iEnum a, w, tg, e => (match e with
    | .Call fn args kws _ => (match fn, args, kws with
      | .Name n _, [ea], [] => bltB S w n "enumerate" && isTup tg && star0 ea && (match pk with
        | true => mO S w a ea (mE S a w ea)
        | false => mE S a w ea)
      | _, _, _ => false)
    | _ => false)
  | pk, .iZip a b, w, tg, e => (match e with
    | .Call fn args kws _ => (match fn, args, kws with
      | .Name n _, [ea, eb], [] => bltB S w n "zip" && isTup tg && star0 ea && star0 eb && (match pk with
        | true => mO S w a ea (mE S a w ea) && mO S w b eb (mE S b w eb)
        | false => mE S a w ea && mE S b w eb)
      | _, _, _ => false)
    | _ => false)
  | _, _, _, _, _ => false
end
/-- statements: a plain store (no swap of what a comprehension or a display makes) -/
def noSwap (w : Wh) (tg e : Expr) : Bool := match tg, e with
  | .Name t p, .ListComp _ _ s q => !((match w.sc.names.lookup t with
    | some .local => true
    | _ => false) && p.line == q.line && !(s.names.any fun (n, k) => n == t && (k == .local || k == .cell)))
  | .Tuple _ _ _, .Tuple _ _ _ => false
  | _, .ListComp _ _ _ _ => true
  | _, .SetComp _ _ _ _ => false
  | _, .DictComp _ _ _ _ _ => false
  | .List _ _, .Tuple _ _ _ => false
  | _, _ => true
def namesOf : List Expr → Option (List Str)
  | [] => some []
  | e :: es => match e with
    | .Name n _ => (match namesOf es with
      | some r => some (n :: r)
      | none => none)
    | _ => none
end Z
end

section
set_option Elab.async false
set_option autoImplicit false
set_option linter.all false
set_option maxRecDepth 100000
set_option maxHeartbeats 2000000
/-! The check is right: expressions. -/
namespace Z
open PySem PySem.Spec PyProof.Rows L2

/-- the context is as the check takes it -/
structure Gd (X : Cx) (E : En) (T : Tab) (S : Sta) (w : Wh) (call : CallT) : Prop where
  K : X.K = E.K
  sc : X.env.scope = w.sc
  N : X.N = S.N
  nd : X.N.Nodup
  calm : X.calm = true
  gd : X.A.guards = some []
  un : X.A.units + 100 < cLine
  fn : ∀ x : Str, fnB w x = true → X.fn x = true
  mg0 : ∀ x : Str, x ∈ S.gl → X.mg x = none
  con : ∀ (j : Nat) (x : Str), S.cn[j]? = some x → ∃ u v d, X.mg x = some u ∧ RelV v u ∧ T.cons[j]? = some d ∧ ∀ As H bad, Rep E As H bad v d
  def_ : ∀ (f : Nat) (x : Str), S.fs[f]? = some x → ∃ a fd ps k, FnG X.prog X.w X.K X.mg X.base CX0 k a fd ps (spC E (call f)) ∧ Room k X.A ∧ X.mg x = some (.ref a) ∧ PySem.W.keepIn X.K (.ref a) = true ∧ Binds X.K fd ps [] ∧ S.kn[f]? = some ps ∧
    ∀ (n : Nat) (ks : List Str) (pm : List Nat), kwB ps n ks pm = true → ∀ (s : Shared) (us ws : List Value), us.length = n → ws.length = ks.length → BindsTo s fd ⟨us, ks.zip ws⟩ (ps.zip (us ++ pmL pm ws))
section
variable {X : Cx} {E : En} {T : Tab} {S : Sta} {w : Wh} {call : CallT} {e e1 e2 : Expr} {es : List Expr} {x y : Str} {pos p : Pos}
theorem vis_of (G : Gd X E T S w call) (h : visB w x = true) : Vis X.env.scope x := by
  unfold visB at h
  unfold Vis
  rw [G.sc]
  split at h <;> first
    | exact .inl (by assumption)
    | exact .inr (.inl (by assumption))
    | exact .inr (.inr (by assumption))
    | cases h
theorem glo_of (G : Gd X E T S w call) (h : gloB w x = true) : Gl X x := by
  unfold gloB at h
  show X.env.scope.names.lookup x = some .globalImplicit
  rw [G.sc]
  split at h
  · assumption
  · cases h
theorem loc_of (G : Gd X E T S w call) (h : locB w x = true) : L2.Loc X.env.scope x ∧ (X.fn x = true ∨ X.env.scope.names.lookup x = some .local) := by
  unfold locB at h
  unfold L2.Loc
  rw [G.sc]
  split at h
  · exact ⟨.inl (by assumption), .inr (by assumption)⟩
  · exact ⟨.inr (by assumption), .inl (G.fn _ h)⟩
  · cases h
theorem plain_of (h : plainN x = true) : (x == ("__debug__" : Str)) = false ∧ (x == ("__classdict__" : Str)) = false := by
  unfold plainN at h
  simpa using h
theorem name_of (G : Gd X E T S w call) {i : Nat} (h : nameB S w i e = true) : ∃ n q, e = .Name n q ∧ X.N[i]? = some n ∧ Vis X.env.scope n ∧ (n == ("__debug__" : Str)) = false ∧ (n == ("__classdict__" : Str)) = false := by
  unfold nameB at h
  split at h
  · rename_i n q
    obtain ⟨h1, h2⟩ := Bool.and_eq_true_iff.mp h
    obtain ⟨h3, h4⟩ := Bool.and_eq_true_iff.mp h1
    obtain ⟨h5, h6⟩ := plain_of h2
    exact ⟨n, q, rfl, by rw [G.N]; exact of_decide_eq_true h3, vis_of G h4, h5, h6⟩
  · cases h
theorem star_of (h : star0 e = true) : starEach (e :: es) X.env = (false, eval e X.env) :: starEach es X.env := by
  cases e <;> first | rfl | cases h
theorem blt_of (G : Gd X E T S w call) (h : bltB S w x y = true) : x = y ∧ Gl X y ∧ X.mg y = none := by
  unfold bltB at h
  obtain ⟨h1, h2⟩ := Bool.and_eq_true_iff.mp h
  obtain ⟨h3, h4⟩ := Bool.and_eq_true_iff.mp h1
  exact ⟨of_decide_eq_true h3, glo_of G h4, G.mg0 _ (of_decide_eq_true h2)⟩
theorem base_of {o : Expr} {a : Str} (h : noBase o = true) : attributeBase o a X.env (eval o X.env) = eval o X.env := by
  cases o <;> first | rfl | cases h
theorem slice_of (h : noSlice e = true) : PlainIx e := by
  intro o i
  cases e <;> first | rfl | cases h
theorem set_of (h : noSet e = true) : ∀ x, foldedSetIterable e X.env x = pure x := by
  intro x
  cases e <;> first | rfl | cases h
theorem op_of {o : Op} {q : Operator} (h : opB o q = true) : q = opOf o := by
  cases o <;> cases q <;> first | rfl | cases h
theorem cp_of {o : Cp} {q : CmpOp} (h : cpB o q = true) : q = cpOf o := by
  cases o <;> cases q <;> first | rfl | cases h
theorem and4 {a b : Bool} (h : (a && b) = true) : a = true ∧ b = true := Bool.and_eq_true_iff.mp h

/-- what is shown of a term and its expression -/
structure Eok (X : Cx) (E : En) (f : Rho → Mu → RE) (e : Expr) : Prop where
  pe : PE X e (rE E f)
  pt : PT X e (rTt E f)
  pw : ∀ op es pos, e = .BoolOp op es pos → PW X e (rTt E f)
theorem Eok.mk' {f : Rho → Mu → RE} (he : PE X e (rE E f)) (hp : ∀ whole, isTrue e X.env whole = (do let v ← whole; standAt e.pos; holding [v] (truthy v))) (hb : ∀ op es pos, e ≠ .BoolOp op es pos) : Eok X E f e := ⟨he, pt_of he hp, fun op es pos q => absurd q (hb op es pos)⟩
/-- an operand -/
theorem opd (G : Gd X E T S w call) {a : Z.X} {r : Bool} (h : mO S w a e r = true) (hr : r = true → PE X e (rE E (dE T call a))) : PE X e (rP E fun ρ μ => pkR a ρ μ (dE T call a ρ μ)) := by
  cases a with
  | pv i =>
    obtain ⟨n, q, rfl, h1, h2, h3, h4⟩ := name_of G (show nameB S w i e = true from h)
    exact pe_pv h1 h2 h3 h4
  | _ => exact pe_p (hr h)
/-- .. that is walked -/
theorem opdV (G : Gd X E T S w call) {a : Z.X} {pk : Bool} {r : Bool} (h : (match pk with
    | true => mO S w a e r
    | false => r) = true) (hr : r = true → PE X e (rE E (dE T call a))) : PE X e (rV E pk fun ρ μ => pkB pk a ρ μ (dE T call a ρ μ)) := by
  cases pk with
  | true => exact (opd G h hr).weak fun _ _ _ => w_v1
  | false => exact (pe_r (hr h)).weak fun _ _ _ => w_v0
theorem any_stars : ∀ {es : List Expr}, es.all star0 = true → (backTo pos (starEach es X.env)).any (·.1) = false
  | [], _ => rfl
  | e :: es, h => by
    obtain ⟨h1, h2⟩ := and4 (show (star0 e && es.all star0) = true from h)
    rw [star_of h1]
    exact any_stars (es := es) h2
theorem all_stars : ∀ {es : List Expr}, es.all star0 = true → (backTo pos (starEach es X.env)).all (fun x => !x.1) = true
  | [], _ => rfl
  | e :: es, h => by
    obtain ⟨h1, h2⟩ := and4 (show (star0 e && es.all star0) = true from h)
    rw [star_of h1]
    exact all_stars (es := es) h2
theorem cmp_eq (c : Cp) (a b : Z.X) : dE T call (.cmp c a b) = fOp (cpF c) (fun ρ μ => pkR a ρ μ (dE T call a ρ μ)) (fun ρ μ => pkR b ρ μ (dE T call b ρ μ)) := by
  funext ρ μ
  show (match pkR a ρ μ (dE T call a ρ μ) with
    | some (x, μ1) => (match pkR b ρ μ1 (dE T call b ρ μ1) with
      | some (y, μ2) => (match cpD c x y with
        | some k => some (.bl k, false, μ2)
        | none => none)
      | none => none)
    | none => none) = fOp _ _ _ ρ μ
  unfold fOp cpF
  dsimp only
  cases pkR a ρ μ (dE T call a ρ μ) with
  | none => rfl
  | some z =>
    obtain ⟨x, μ1⟩ := z
    dsimp only
    cases pkR b ρ μ1 (dE T call b ρ μ1) with
    | none => rfl
    | some z2 =>
      obtain ⟨y, μ2⟩ := z2
      dsimp only
      cases cpD c x y <;> rfl
/-! ### each kind -/
theorem ok_var (G : Gd X E T S w call) {i : Nat} (h : mE S (.var i) w e = true) : Eok X E (dE T call (.var i)) e := by
  obtain ⟨n, q, rfl, h1, h2, h3, h4⟩ := name_of G (show nameB S w i e = true from h)
  exact .mk' (pe_v h1 h2 h3 h4) (fun _ => rfl) fun _ _ _ => nofun
theorem ok_cst {d : D} (h : mE S (.cst d) w e = true) : Eok X E (dE T call (.cst d)) e := by
  have h' := h
  unfold mE at h'
  split at h'
  · rename_i c k q
    refine .mk' (pe_cst ?_) (fun _ => rfl) fun _ _ _ => nofun
    unfold cstB at h'
    split at h'
    · exact pe_non
    · rw [show _ = _ from eq_of_beq h']
      exact pe_bl
    · rw [of_decide_eq_true h']
      exact pe_int
    · rw [of_decide_eq_true h']
      exact pe_str
    · cases h'
  · cases h'
theorem con_of (G : Gd X E T S w call) {j : Nat} (h : mE S (.con j) w e = true) : ∃ n q u v d, e = .Name n q ∧ Gl X n ∧ (n == ("__debug__" : Str)) = false ∧ X.mg n = some u ∧ RelV v u ∧ T.cons[j]? = some d ∧ ∀ As H bad, Rep E As H bad v d := by
  have h' := h
  unfold mE at h'
  split at h'
  · rename_i n q
    obtain ⟨h1, h2⟩ := and4 h'
    obtain ⟨h3, h4⟩ := and4 h1
    obtain ⟨u, v, d, k1, k2, k3, k4⟩ := G.con j n (of_decide_eq_true h3)
    exact ⟨n, q, u, v, d, rfl, glo_of G h4, (plain_of h2).1, k1, k2, k3, k4⟩
  · cases h'
theorem con_eq {j : Nat} {d : D} (h : T.cons[j]? = some d) : dE T call (.con j) = fun _ μ => some (d, false, μ) := by
  funext ρ μ
  show (match T.cons[j]? with
    | some d => some (d, false, μ)
    | none => none) = _
  rw [h]
theorem ok_con (G : Gd X E T S w call) {j : Nat} (h : mE S (.con j) w e = true) : Eok X E (dE T call (.con j)) e := by
  obtain ⟨n, q, u, v, d, rfl, h1, h2, h3, h4, h5, h6⟩ := con_of G h
  rw [con_eq h5]
  exact .mk' (pe_con (pe_glob h1 h3 h4 h2) h6) (fun _ => rfl) fun _ _ _ => nofun
end
end Z
end

section
set_option Elab.async false
set_option autoImplicit false
set_option linter.all false
set_option maxRecDepth 100000
set_option maxHeartbeats 2000000
/-! The check is right: each kind of expression. -/
namespace Z
open PySem PySem.Spec PyProof.Rows L2
section
variable (E : En) (T : Tab) (S : Sta) (call : CallT)
def SE (a : Z.X) : Prop := ∀ (X : Cx) (w : Wh) (e : Expr), Gd X E T S w call → mE S a w e = true → Eok X E (dE T call a) e
def SA (a : Z.X) : Prop := ∀ (X : Cx) (w : Wh) (es : List Expr), Gd X E T S w call → mEs S a w es = true → PA X es (rA E (dEs T call a)) ∧ es.all star0 = true ∧ ∀ kws : List Keyword, kws.map (·.value) = es → PK X kws (rA E (dEs T call a))
def SP (a : Z.X) : Prop := ∀ (X : Cx) (w : Wh) (es : List Expr), Gd X E T S w call → mPs S a w es = true → PA X es (rQ E (dPs T call a)) ∧ es.all star0 = true
def SI (a : Z.X) : Prop := ∀ (X : Cx) (pk : Bool) (w : Wh) (tg e : Expr), Gd X E T S w call → mI S pk a w tg e = true → PI X tg e (rI E pk (dI T call pk a))
end
section
variable {X : Cx} {E : En} {T : Tab} {S : Sta} {w : Wh} {call : CallT} {e e1 e2 : Expr} {a b c r o es : Z.X}
theorem Gd.u65 (G : Gd X E T S w call) : X.A.units + 65 < cLine := Nat.lt_of_le_of_lt (by omega) G.un
theorem ok_tup (h : SA E T S call es) : SE E T S call (.tup es) := fun X w e G m => by
  unfold mE at m
  split at m
  · exact .mk' ((pe_tup (h X w _ G m).1).weak fun _ _ _ => w_tup) (fun _ => rfl) fun _ _ _ => nofun
  · cases m
theorem ok_lst (h : SA E T S call es) : SE E T S call (.lst es) := fun X w e G m => by
  unfold mE at m
  split at m
  · exact .mk' ((pe_lst (h X w _ G m).1).weak fun _ _ _ => w_lst) (fun _ => rfl) fun _ _ _ => nofun
  · cases m
theorem opX (o : Op) (G : Gd X E T S w call) : OpR X (binaryOp (opOf o)) (rZ E (opD o)) := by
  have h := op_ok G.K o
  cases o <;> exact h
theorem ok_bin {o : Op} (ha : SE E T S call a) (hb : SE E T S call b) : SE E T S call (.bin o a b) := fun X w e G m => by
  unfold mE at m
  split at m
  · obtain ⟨m1, m3⟩ := and4 m
    obtain ⟨m1, m2⟩ := and4 m1
    rw [op_of m1]
    exact .mk' ((pe_op (opX o G) (opd G m2 fun q => (ha X w _ G q).pe) (opd G m3 fun q => (hb X w _ G q).pe)).weak fun _ _ _ => w_op) (fun _ => rfl) fun _ _ _ => nofun
  · cases m
theorem ok_neg (ha : SE E T S call a) : SE E T S call (.neg a) := fun X w e G m => by
  unfold mE at m
  split at m
  · split at m
    · exact .mk' ((pe_un un_neg (ha X w _ G m).pe).weak fun _ _ _ => w_neg) (fun _ => rfl) fun _ _ _ => nofun
    · cases m
  · cases m
theorem ok_not (ha : SE E T S call a) : SE E T S call (.not a) := fun X w e G m => by
  unfold mE at m
  split at m
  · split at m
    · exact ⟨(pe_not (ha X w _ G m).pe).weak fun _ _ _ => w_not, (pt_not (ha X w _ G m).pt).weak fun _ _ _ => w_tNot, fun _ _ _ => nofun⟩
    · cases m
  · cases m
theorem PW.weak {t t' : TT} (h : PW X e t) (w : ∀ σ H Q, t' σ H Q → t σ H Q) : PW X e t' := ⟨fun wh pins s σ H Q I q => h.run wh pins s σ H Q I (w σ H Q q)⟩
theorem ok_and (ha : SE E T S call a) (hb : SE E T S call b) : SE E T S call (.and a b) := fun X w e G m => by
  unfold mE at m
  split at m
  · split at m
    · obtain ⟨m1, m2⟩ := and4 m
      have k1 := ha X w _ G m1
      have k2 := hb X w _ G m2
      have kw : PW X _ (rTt E (dE T call (.and a b))) := PW.weak (pw_and k1.pt (k2.pw _ _ _ rfl)) fun _ _ _ => w_tAnd
      refine ⟨(pe_and k1.pe k2.pe).weak fun _ _ _ => w_and, kw.pt, fun op es pos q => ?_⟩
      exact kw
    · cases m
  · cases m
theorem ok_or (ha : SE E T S call a) (hb : SE E T S call b) : SE E T S call (.or a b) := fun X w e G m => by
  unfold mE at m
  split at m
  · split at m
    · obtain ⟨m1, m2⟩ := and4 m
      have k1 := ha X w _ G m1
      have k2 := hb X w _ G m2
      have kw : PW X _ (rTt E (dE T call (.or a b))) := PW.weak (pw_or k1.pt (k2.pw _ _ _ rfl)) fun _ _ _ => w_tOr
      refine ⟨(pe_or k1.pe k2.pe).weak fun _ _ _ => w_or, kw.pt, fun op es pos q => ?_⟩
      exact kw
    · cases m
  · cases m
theorem ok_one (ha : SE E T S call a) : SE E T S call (.one a) := fun X w e G m => by
  unfold mE at m
  split at m
  · rename_i bop e1 rest pos
    split at m
    · have k1 := ha X w _ G m
      have kw : PW X (.BoolOp bop [e1] pos) (rTt E (dE T call (.one a))) := by
        cases bop with
        | And => exact pw_and1 k1.pt
        | Or => exact pw_or1 k1.pt
      exact ⟨pe_one k1.pe, kw.pt, fun _ _ _ _ => kw⟩
    · cases m
  · cases m
theorem ok_cmp {c : Cp} (ha : SE E T S call a) (hb : SE E T S call b) : SE E T S call (.cmp c a b) := fun X w e G m => by
  unfold mE at m
  split at m
  · split at m
    · obtain ⟨m1, m4⟩ := and4 m
      obtain ⟨m1, m3⟩ := and4 m1
      obtain ⟨m1, m2⟩ := and4 m1
      have hm := m2
      rw [cp_of m1] at hm ⊢
      have hm' := (Bool.not_eq_true' _).mp hm
      have pa := opd G m3 fun q => (ha X w _ G q).pe
      have pb := opd G m4 fun q => (hb X w _ G q).pe
      have pc : PC X (cpOf c) _ _ (tOp (rZ E (cpF c)) (rP E fun ρ μ => pkR a ρ μ (dE T call a ρ μ)) (rP E fun ρ μ => pkR b ρ μ (dE T call b ρ μ))) := ⟨fun pins s σ H Q I h => bin (R := fun x y H2 => rZ E (cpF c) x y H2 Q) pa pb I h fun v u s2 x y H2 I2 rx ry q => cp_ok G.K G.u65 c pins s2 σ H2 x y v u Q I2 rx ry q⟩
      rw [cmp_eq]
      refine ⟨(pe_cmp pc hm').weak fun _ _ _ => w_op, (pt_cmp pc hm').weak fun σ H Q q => ?_, fun _ _ _ => nofun⟩
      have q2 := w_test q
      exact w_op q2
    · cases m
  · cases m
theorem ok_chn {c c' : Cp} (ha : SE E T S call a) (hb : SE E T S call b) (hd : SE E T S call o) : SE E T S call (.chn c c' a b o) := fun X w e G m => by
  unfold mE at m
  split at m
  · split at m
    · obtain ⟨m1, m6⟩ := and4 m
      obtain ⟨m1, m5⟩ := and4 m1
      obtain ⟨m1, m4⟩ := and4 m1
      obtain ⟨m1, m3⟩ := and4 m1
      obtain ⟨m1, m2⟩ := and4 m1
      rw [cp_of m2] at m3 ⊢
      rw [cp_of m1]
      have hm' := (Bool.not_eq_true' _).mp m3
      have k1 := cp_ok (X := X) G.K G.u65 c
      have k2 := cp_ok (X := X) G.K G.u65 c'
      have pa := opd G m4 fun q => (ha X w _ G q).pe
      have pb := opd G m5 fun q => (hb X w _ G q).pe
      have pd := opd G m6 fun q => (hd X w _ G q).pe
      refine ⟨(pe_chain k1 k2 pa pb pd hm').weak fun _ _ _ => w_chn, (pt_chain k1 k2 pa pb pd hm').weak fun σ H Q q => ?_, fun _ _ _ => nofun⟩
      exact w_chn (w_test q)
    · cases m
  · cases m
theorem w_tIteT {f g h : Rho → Mu → RE} {σ : L2.St} {H : Hp} {Q : Bool → Hp → Prop} : rTt E (fIte f g h) σ H Q → rTt E f σ H fun c H1 => (match c with
    | true => rTt E g σ H1 Q
    | false => rTt E h σ H1 Q) := by
  rintro ⟨As, bad, μ, ρ, b, o, μ', a, e, k⟩
  unfold fIte at e
  split at e
  · rename_i o1 μ1 q
    exact ⟨As, bad, μ, ρ, true, o1, μ1, a, q, fun H1 As1 bad1 c1 x1 => ⟨As1, bad1, μ1, ρ, b, o, μ', a.ext c1 x1, e, fun H' As' bad' c x => k H' As' bad' c (x1.trans x)⟩⟩
  · rename_i o1 μ1 q
    exact ⟨As, bad, μ, ρ, false, o1, μ1, a, q, fun H1 As1 bad1 c1 x1 => ⟨As1, bad1, μ1, ρ, b, o, μ', a.ext c1 x1, e, fun H' As' bad' c x => k H' As' bad' c (x1.trans x)⟩⟩
  · cases e
theorem ok_ite (hc : SE E T S call c) (ha : SE E T S call a) (hb : SE E T S call b) : SE E T S call (.ite c a b) := fun X w e G m => by
  unfold mE at m
  split at m
  · obtain ⟨m1, m3⟩ := and4 m
    obtain ⟨m1, m2⟩ := and4 m1
    refine ⟨(pe_ifExp (hc X w _ G m1).pt (ha X w _ G m2).pe (hb X w _ G m3).pe).weak fun _ _ _ => w_tIte, ⟨fun pins s σ H Q I q => ?_⟩, fun _ _ _ => nofun⟩
    refine isTrue_IfExp (thn ((hc X w _ G m1).pt.run pins s σ H _ I (w_tIteT q)) fun c s1 ⟨H1, I1, q1⟩ => ?_)
    cases c with
    | true => exact (ha X w _ G m2).pt.run pins s1 σ H1 Q I1 q1
    | false => exact (hb X w _ G m3).pt.run pins s1 σ H1 Q I1 q1
  · cases m
end
end Z
end

section
set_option Elab.async false
set_option autoImplicit false
set_option linter.all false
set_option maxRecDepth 100000
set_option maxHeartbeats 2000000
/-! The check is right: calls, subscripts, comprehensions. -/
namespace Z
open PySem PySem.Spec PyProof.Rows L2
section
variable {X : Cx} {E : En} {T : Tab} {S : Sta} {w : Wh} {call : CallT} {e e1 e2 : Expr} {a b c r o es : Z.X}
theorem len_star : ∀ {es : List Expr}, es.all star0 = true → ∀ (env : Env), (starEach es env).length = es.length
  | [], _, _ => rfl
  | e :: es, h, env => by
    obtain ⟨h1, h2⟩ := and4 (show (star0 e && es.all star0) = true from h)
    have q : starEach (e :: es) env = (false, eval e env) :: starEach es env := by
      cases e <;> first | rfl | cases h1
    rw [q, List.length_cons, List.length_cons, len_star h2 env]
theorem PK.weak {kws : List Keyword} {t t' : TA} (h : PK X kws t) (w : ∀ σ H Q, t' σ H Q → t σ H Q) : PK X kws t' := ⟨fun pos pins s σ H Q I q => h.run pos pins s σ H Q I (w σ H Q q)⟩
theorem as_nil : SA E T S call .nil := fun X w es G m => by
  unfold mEs at m
  split at m
  · refine ⟨pa_nil.weak fun _ _ _ => w_nil, rfl, fun kws e => ?_⟩
    cases kws with
    | nil => exact PK.weak pk_nil fun _ _ _ => w_nil
    | cons _ _ => cases e
  · cases m
theorem ps_nil : SP E T S call .nil := fun X w es G m => by
  unfold mPs at m
  split at m
  · exact ⟨pa_nil.weak fun _ _ _ => w_nilQ, rfl⟩
  · cases m
theorem as_cons (ha : SE E T S call a) (hr : SA E T S call r) : SA E T S call (.cons a r) := fun X w es G m => by
  unfold mEs at m
  split at m
  · obtain ⟨m1, m3⟩ := and4 m
    obtain ⟨m1, m2⟩ := and4 m1
    obtain ⟨k1, k2, k3⟩ := hr X w _ G m3
    refine ⟨(pa_cons (pe_r (ha X w _ G m2).pe) k1 (star_of m1)).weak fun _ _ _ => w_cons, by rw [List.all_cons, m1, k2]; rfl, fun kws e => ?_⟩
    cases kws with
    | nil => cases e
    | cons kw kws =>
      obtain ⟨nm, ev, kp⟩ := kw
      rw [List.map_cons] at e
      obtain ⟨rfl, e2⟩ := List.cons.inj e
      exact PK.weak (pk_cons (pe_r (ha X w _ G m2).pe) (k3 kws e2)) fun _ _ _ => w_cons
  · cases m
theorem ps_cons (ha : SE E T S call a) (hr : SP E T S call r) : SP E T S call (.cons a r) := fun X w es G m => by
  unfold mPs at m
  split at m
  · obtain ⟨m1, m3⟩ := and4 m
    obtain ⟨m1, m2⟩ := and4 m1
    obtain ⟨k1, k2⟩ := hr X w _ G m3
    exact ⟨(pa_cons (opd G m2 fun q => (ha X w _ G q).pe) k1 (star_of m1)).weak fun _ _ _ => w_consP, by rw [List.all_cons, m1, k2]; rfl⟩
  · cases m
theorem hd_star {e : Expr} {es : List Expr} (h : (e :: es).all star0 = true) : starEach (e :: es) X.env = (false, eval e X.env) :: starEach es X.env := star_of (and4 (show (star0 e && es.all star0) = true from h)).1
theorem tl_star {e : Expr} {es : List Expr} {pos : Pos} (h : (e :: es).all star0 = true) : (backTo pos (starEach es X.env)).any (·.1) = false := any_stars (and4 (show (star0 e && es.all star0) = true from h)).2
theorem ok_call {f : Nat} (h : SA E T S call es) : SE E T S call (.call f es) := fun X w e G m => by
  unfold mE at m
  split at m
  · rename_i fn args kws pos
    split at m
    · rename_i n np
      obtain ⟨m1, m4⟩ := and4 m
      obtain ⟨m1, m3⟩ := and4 m1
      obtain ⟨m1, m2⟩ := and4 m1
      obtain ⟨p, fd, ps, k, F, hr, hm, hk, hb, _, _⟩ := G.def_ f n (of_decide_eq_true m1)
      obtain ⟨k1, k2, _⟩ := h X w _ G m4
      have hd := (plain_of m3).1
      refine .mk' ?_ (fun _ => rfl) fun _ _ _ => nofun
      have e0 : dE T call (.call f es) = fCall (call f) (dEs T call es) := rfl
      rw [e0]
      cases args with
      | nil =>
        refine (pe_G0 F hr G.gd (glo_of G m2) hm hk hb hd).weak fun σ H Q q => ?_
        obtain ⟨As, bad, μ, ρ, ds, μ', at_, e1, kf⟩ := w_call q
        have hes : es = .nil := by
          cases es <;> first | rfl | (unfold mEs at m4; cases m4)
        subst hes
        cases e1
        exact kf [] H As bad at_.c at_.c.ext0 .nil
      | cons e1 rest => exact (pe_G F hr G.gd (glo_of G m2) hm hk hb k1 hd (hd_star k2) (tl_star k2)).weak fun σ H Q q => w_call q
    · cases m
  · cases m
theorem dEs_len : ∀ (es : Z.X) (ρ : Rho) (μ : Mu) (ds : List D) (μ1 : Mu), dEs T call es ρ μ = some (ds, μ1) → ds.length = tLen es := by
  intro es
  induction es with
  | nil =>
    intro ρ μ ds μ1 h
    cases h
    rfl
  | cons a r _ ih =>
    intro ρ μ ds μ1 h
    have h' : fCons (dE T call a) (dEs T call r) ρ μ = some (ds, μ1) := h
    unfold fCons at h'
    split at h'
    · split at h'
      · rename_i q
        cases h'
        rw [List.length_cons, ih _ _ _ _ q]
        rfl
      · cases h'
    · cases h'
  | _ => exact fun ρ μ ds μ1 h => nomatch h
theorem mEs_len : ∀ (es : Z.X) (w : Wh) (args : List Expr), mEs S es w args = true → args.length = tLen es := by
  intro es
  induction es with
  | nil =>
    intro w args h
    unfold mEs at h
    split at h
    · rfl
    · cases h
  | cons a r _ ih =>
    intro w args h
    unfold mEs at h
    split at h
    · obtain ⟨h1, h2⟩ := and4 h
      rw [List.length_cons, ih _ _ h2]
      rfl
    · cases h
  | _ => exact fun w args h => (by unfold mEs at h; cases h)
theorem kws_len : ∀ {kws : List Keyword}, kws.all (·.arg.isSome) = true → (kws.filterMap (·.arg)).length = kws.length
  | [], _ => rfl
  | q :: r, h => by
    obtain ⟨b1, b2⟩ := and4 (show (q.arg.isSome && r.all (·.arg.isSome)) = true from h)
    cases qa : q.arg with
    | none =>
      rw [qa] at b1
      cases b1
    | some a => rw [List.filterMap_cons_some qa, List.length_cons, List.length_cons, kws_len b2]
theorem ok_callk {f : Nat} {pm : List Nat} {ks : Z.X} (h : SA E T S call es) (h2 : SA E T S call ks) : SE E T S call (.callk f pm es ks) := fun X w e G m => by
  unfold mE at m
  split at m
  · rename_i fn args kws pos
    split at m
    · rename_i n np
      obtain ⟨m, m7⟩ := and4 m
      obtain ⟨m, m6⟩ := and4 m
      obtain ⟨m, m5⟩ := and4 m
      obtain ⟨m, m4⟩ := and4 m
      obtain ⟨m, m3⟩ := and4 m
      obtain ⟨m1, m2⟩ := and4 m
      obtain ⟨p, fd, ps, k, F, hr, hm, hk, hb, hkn, hkb⟩ := G.def_ f n (of_decide_eq_true m1)
      rw [hkn] at m7
      have hkb' := hkb _ _ _ m7
      obtain ⟨k1, k2, _⟩ := h X w _ G m4
      obtain ⟨_, _, k3⟩ := h2 X w _ G m5
      have k4 := k3 kws rfl
      have hd := (plain_of m3).1
      have l1 := mEs_len es w args m4
      have l2 := mEs_len ks w _ m5
      have l3 : (kws.filterMap (·.arg)).length = kws.length := kws_len m6
      rw [List.length_map] at l2
      refine .mk' ?_ (fun _ => rfl) fun _ _ _ => nofun
      have e0 : dE T call (.callk f pm es ks) = fCallk (call f) pm (dEs T call es) (dEs T call ks) := rfl
      rw [e0]
      cases args with
      | nil =>
        have hes : es = .nil := by
          cases es <;> first | rfl | (unfold mEs at m4; cases m4)
        subst hes
        refine (pe_GK0 F hr G.gd (glo_of G m2) hm hk hkb' k4 m6 rfl hd).weak fun σ H Q q => ?_
        exact w_callk0 (fun ρ μ ds μ1 q => by rw [l3, dEs_len _ _ _ _ _ q, l2]) q
      | cons e1 rest => exact (pe_GK F hr G.gd (glo_of G m2) hm hk hkb' k1 k4 m6 rfl hd (hd_star k2) (tl_star k2)).weak fun σ H Q q => w_callk (fun ρ μ ds μ1 q => by rw [dEs_len _ _ _ _ _ q, l1]) (fun ρ μ ds μ1 q => by rw [l3, dEs_len _ _ _ _ _ q, l2]) q
    · cases m
  · cases m
theorem bootB (b : Bi) : (∃ id, biV b = .builtin id ∧ bootBuiltins (biN b) = some (.builtin id)) ∨ ∃ t, biV b = .type t ∧ bootBuiltins (biN b) = some (.type t) := by
  cases b
  · exact .inl ⟨_, rfl, by decide +kernel⟩
  · exact .inl ⟨_, rfl, by decide +kernel⟩
  · exact .inl ⟨_, rfl, by decide +kernel⟩
  · exact .inl ⟨_, rfl, by decide +kernel⟩
  · exact .inl ⟨_, rfl, by decide +kernel⟩
  · exact .inr ⟨_, rfl, by decide +kernel⟩
  · exact .inr ⟨_, rfl, by decide +kernel⟩
  · exact .inr ⟨_, rfl, by decide +kernel⟩
  · exact .inl ⟨_, rfl, by decide +kernel⟩
  · exact .inr ⟨_, rfl, by decide +kernel⟩
  · exact .inr ⟨_, rfl, by decide +kernel⟩
  · exact .inl ⟨_, rfl, by decide +kernel⟩
theorem biN_ok (b : Bi) : biN b ≠ ("__name__" : Str) ∧ (biN b == ("__debug__" : Str)) = false := by
  cases b <;> exact ⟨by decide, by decide⟩
theorem ok_bi {k : Bi} (h : SP E T S call es) : SE E T S call (.bi k es) := fun X w e G m => by
  unfold mE at m
  split at m
  · rename_i fn args kws pos
    split at m
    · obtain ⟨m1, m3⟩ := and4 m
      obtain ⟨m1, m2⟩ := and4 m1
      obtain ⟨rfl, hg, hm⟩ := blt_of G m1
      obtain ⟨k1, k2⟩ := h X w _ G m3
      cases args with
      | nil => cases m2
      | cons e1 rest =>
        obtain ⟨n1, n2⟩ := biN_ok k
        have cr := bi_ok (X := X) G.K G.calm G.un G.gd k
        refine .mk' ?_ (fun _ => rfl) fun _ _ _ => nofun
        rcases bootB k with ⟨id, q1, q2⟩ | ⟨id, q1, q2⟩
        · rw [q1] at cr
          exact (pe_callB cr hg hm q2 k1 n1 n2 (hd_star k2) (tl_star k2)).weak fun _ _ _ => w_bi
        · rw [q1] at cr
          exact (pe_callTy cr hg hm q2 k1 n1 n2 (hd_star k2) (tl_star k2)).weak fun _ _ _ => w_bi
    · cases m
  · cases m
theorem ok_isi {t : String} (ha : SE E T S call a) : SE E T S call (.isi a t) := fun X w e G m => by
  unfold mE at m
  split at m
  · split at m
    · split at m
      · obtain ⟨m1, m5⟩ := and4 m
        obtain ⟨m1, m4⟩ := and4 m1
        obtain ⟨m1, m3⟩ := and4 m1
        obtain ⟨m1, m2⟩ := and4 m1
        obtain ⟨rfl, hg, hm⟩ := blt_of G m1
        obtain ⟨rfl, hg2, hm2⟩ := blt_of G m2
        have hb : bootBuiltins (Str.ofString t) = some (.type t) ∧ Str.ofString t ≠ ("__name__" : Str) ∧ (Str.ofString t == ("__debug__" : Str)) = false := by
          have h' : t = "int" ∨ t = "bool" ∨ t = "str" ∨ t = "tuple" ∨ t = "list" ∨ t = "dict" := by
            simpa [tyOk, or_assoc] using m3
          rcases h' with rfl | rfl | rfl | rfl | rfl | rfl <;> exact ⟨by decide +kernel, by decide, by decide⟩
        obtain ⟨b1, b2, b3⟩ := hb
        refine .mk' ((pe_callB (isi_ok (X := X) G.K m3) hg hm boot_isinstance (pa_cons (opd G m5 fun q => (ha X w _ G q).pe) (pa_cons (pe_bltn hg2 hm2 b1 (v := .ty t) rfl b2 b3) pa_nil rfl) (star_of m4)) (by decide) (by decide) (star_of m4) rfl).weak fun _ _ _ => w_isi) (fun _ => rfl) fun _ _ _ => nofun
      · cases m
    · cases m
  · cases m
theorem ok_sub (ha : SE E T S call a) (hb : SE E T S call b) : SE E T S call (.sub a b) := fun X w e G m => by
  unfold mE at m
  split at m
  · obtain ⟨m1, m3⟩ := and4 m
    obtain ⟨m1, m2⟩ := and4 m1
    exact .mk' ((pe_ix (sub_ok G.K) (opd G m2 fun q => (ha X w _ G q).pe) (opd G m3 fun q => (hb X w _ G q).pe) (slice_of m1)).weak fun _ _ _ => w_sub) (fun _ => rfl) fun _ _ _ => nofun
  · cases m
theorem part_of {lo : Z.X} (G : Gd X E T S w call) {el : Option Expr} (m : (match el with
    | none => isNo lo
    | some el => mE S lo w el) = true) (hl : SE E T S call lo) : PO X el (rO E fun ρ μ => opO lo μ (dE T call lo ρ μ)) := by
  cases el with
  | none =>
    cases lo <;> first
      | exact ⟨fun pins s σ H Q I q => po_none.run pins s σ H Q I (w_noPart q)⟩
      | cases m
  | some el =>
    have k := (hl X w _ G m).pe
    cases lo <;> first
      | exact ⟨fun pins s σ H Q I q => (po_some k).run pins s σ H Q I (w_part q)⟩
      | (cases m; done)
theorem ok_slc {lo hi : Z.X} (ha : SE E T S call a) (hl : SE E T S call lo) (hh : SE E T S call hi) : SE E T S call (.slc a lo hi) := fun X w e G m => by
  unfold mE at m
  split at m
  · split at m
    · rename_i ea ei pos el eh es p2
      obtain ⟨m1, m4⟩ := and4 m
      obtain ⟨m1, m3⟩ := and4 m1
      obtain ⟨m1, m2⟩ := and4 m1
      cases es with
      | some _ => cases m4
      | none =>
        exact .mk' ((pe_slice (slc_ok G.K) (opd G m1 fun q => (ha X w _ G q).pe) (part_of G m2 hl) (part_of G m3 hh)).weak fun _ _ _ => w_slc) (fun _ => rfl) fun _ _ _ => nofun
    · cases m
  · cases m
theorem ok_rev (ha : SE E T S call a) : SE E T S call (.rev a) := fun X w e G m => by
  unfold mE at m
  split at m
  · split at m
    · obtain ⟨m1, m2⟩ := and4 m
      have hi := of_decide_eq_true m1
      subst hi
      exact .mk' ((rev_ok G.K (opd G m2 fun q => (ha X w _ G q).pe)).weak fun _ _ _ => w_rev) (fun _ => rfl) fun _ _ _ => nofun
    · cases m
  · cases m
theorem ok_mk (ha : SE E T S call a) : SE E T S call (.mk a) := fun X w e G m => by
  have k := ha X w e G m
  refine ⟨k.pe.weak fun _ _ _ => w_mk, ⟨fun pins s σ H Q I q => ?_⟩, fun op es pos z => ⟨fun wh pins s σ H Q I q => ?_⟩⟩
  · obtain ⟨As, bad, μ, ρ, b, o, μ', at_, e1, _⟩ := q
    have e2 : fMk (dE T call a) ρ μ = some (.bl b, o, μ') := e1
    unfold fMk at e2
    split at e2 <;> cases e2
  · obtain ⟨As, bad, μ, ρ, b, o, μ', at_, e1, _⟩ := q
    have e2 : fMk (dE T call a) ρ μ = some (.bl b, o, μ') := e1
    unfold fMk at e2
    split at e2 <;> cases e2
theorem ok_lend {is : List Nat} (ha : SE E T S call a) : SE E T S call (.lend is a) := fun X w e G m => by
  have k := ha X w e G m
  exact ⟨(pe_r k.pe).weak fun _ _ _ => w_lend, k.pt.weak fun _ _ _ => w_lendT, fun op es pos z => PW.weak (k.pw op es pos z) fun _ _ _ => w_lendT⟩
theorem ok_giv (ha : SE E T S call a) : SE E T S call (.giv a) := fun X w e G m => by
  have k := ha X w e G m
  exact ⟨(pe_r k.pe).weak fun _ _ _ => w_giv, k.pt.weak fun _ _ _ => w_givT, fun op es pos z => PW.weak (k.pw op es pos z) fun _ _ _ => w_givT⟩
end
end Z
end

section
set_option Elab.async false
set_option autoImplicit false
set_option linter.all false
set_option maxRecDepth 100000
set_option maxHeartbeats 2000000
/-! The check is right: methods, comprehensions, what is walked; all. -/
namespace Z
open PySem PySem.Spec PyProof.Rows L2
section
variable {X : Cx} {E : En} {T : Tab} {S : Sta} {w : Wh} {call : CallT} {e e1 e2 : Expr} {a b c r o es t it : Z.X}
theorem few_of {e : Expr} {pos : Pos} (h : [e].all star0 = true) : ((backTo pos (starEach [e] X.env)).all (fun x => !x.1) && (backToKw pos (keywordEach [] X.env)).all (fun x => x.1.isSome)
      && decide ([e].length + ([] : List Keyword).length + (if ([] : List Keyword).isEmpty then 0 else 1) < 30)) = true := by
  rw [all_stars h]
  rfl
theorem one_len {es : List Expr} (h : (es.length == 1) = true) : ∃ e, es = [e] := by
  match es, h with
  | [e], _ => exact ⟨e, rfl⟩
theorem nil_of {es : List Expr} (h : es.isEmpty = true) : es = [] := by
  cases es with
  | nil => rfl
  | cons _ _ => cases h
/-- a written tuple -/
theorem kt_of {v : V} {xs : List D} (h : ∀ As H bad, Rep E As H bad v (.tup xs)) : ∃ p ws, v = .ref p ∧ KTs E.K p ws ∧ ∀ As H bad, Reps E As H bad ws xs := by
  have q := h [] (fun _ => none) (fun _ => False)
  cases q with
  | tup r n q =>
    rcases r with r | ⟨o, r⟩
    · cases r
    · cases r
  | tupK r q =>
    rename_i p ws
    refine ⟨p, ws, rfl, r, fun As H bad => ?_⟩
    have x : SExt [] (fun _ => False) (fun _ => none) As bad H := ⟨⟨As, rfl⟩, fun _ _ h _ => nomatch h⟩
    exact q.sx x
theorem ok_md {m : Md} (ho : SE E T S call o) (hs : SP E T S call es) : SE E T S call (.md m o es) := fun X w e G h => by
  unfold mE at h
  split at h
  · rename_i fn args kws cpos
    split at h
    · rename_i eo name apos
      obtain ⟨ha, h3⟩ := and4 h
      obtain ⟨h1, h2⟩ := and4 ha
      clear h ha
      cases m with
      | indexL =>
        dsimp only at h3
        obtain ⟨h3, h7⟩ := and4 h3
        obtain ⟨h3, h6⟩ := and4 h3
        obtain ⟨h3, h5⟩ := and4 h3
        have hn := of_decide_eq_true h3
        subst hn
        obtain ⟨e1, rfl⟩ := one_len h5
        obtain ⟨k1, k2⟩ := hs X w _ G h7
        have g := pe_bm PySem.F.plainAttrs_list PySem.F.slot_list_index PySem.F.type_list_index (mt_indexL G.K G.u65) (opd G h6 fun q => (ho X w _ G q).pe) k1 (base_of h2) (few_of k2) h1 (hd_star k2) (tl_star k2)
        rw [G.K] at g
        exact .mk' (g.weak fun _ _ _ => w_mdL) (fun _ => rfl) fun _ _ _ => nofun
      | indexT =>
        dsimp only at h3
        obtain ⟨h3, h8⟩ := and4 h3
        obtain ⟨h3, h7⟩ := and4 h3
        obtain ⟨h3, h6⟩ := and4 h3
        obtain ⟨h3, h5⟩ := and4 h3
        have hn := of_decide_eq_true h3
        subst hn
        obtain ⟨e1, rfl⟩ := one_len h5
        obtain ⟨k1, k2⟩ := hs X w _ G h8
        cases o with
        | con j =>
          obtain ⟨n, q, u, v, d, rfl, g1, g2, g3, g4, g5, g6⟩ := con_of G h7
          cases d with
          | tup xs =>
            obtain ⟨p, ws, rfl, kt, rp⟩ := kt_of g6
            have g := pe_bm PySem.F.plainAttrs_tuple PySem.F.slot_tuple_index PySem.F.type_tuple_index (mt_indexT G.K G.u65 xs) (pe_glob g1 g3 g4 g2) k1 (base_of h2) (few_of k2) h1 (hd_star k2) (tl_star k2)
            rw [G.K] at g
            have ee : dE T call (.md .indexT (.con j) es) = fMd (mdD .indexT) (fun _ μ => some (.tup xs, μ)) (dPs T call es) := by
              funext ρ μ
              show (match (match dE T call (.con j) ρ μ with
                  | some (d, _, μ1) => some (d, μ1)
                  | none => none) with
                | some (x, μ1) => _
                | none => none) = _
              rw [con_eq g5]
              rfl
            rw [ee]
            exact .mk' (g.weak fun _ _ _ => w_mdT kt rp) (fun _ => rfl) fun _ _ _ => nofun
          | _ =>
            have ee : ∀ ρ μ, dE T call (.md .indexT (.con j) es) ρ μ = none := fun ρ μ => by
              show (match (match dE T call (.con j) ρ μ with
                  | some (d, _, μ1) => some (d, μ1)
                  | none => none) with
                | some (x, μ1) => (match dPs T call es ρ μ1 with
                  | some (ds, μ2) => (match mdD .indexT x ds with
                    | some (z, w) => some (z, w, μ2)
                    | none => none)
                  | none => none)
                | none => none) = none
              rw [con_eq g5]
              dsimp only
              split
              · rename_i ds μ2 _
                cases ds <;> rfl
              · rfl
            refine .mk' ⟨fun pins s σ H Q I q => ?_⟩ (fun _ => rfl) fun _ _ _ => nofun
            obtain ⟨As, bad, μ, ρ, d, o, μ', at_, e1, _⟩ := q
            rw [ee] at e1
            cases e1
        | _ => cases h6
      | bits =>
        dsimp only at h3
        obtain ⟨h3, h7⟩ := and4 h3
        obtain ⟨h3, h6⟩ := and4 h3
        obtain ⟨h3, h5⟩ := and4 h3
        have hn := of_decide_eq_true h3
        subst hn
        have ha := nil_of h5
        subst ha
        cases es with
        | nil => exact .mk' ((pe_bits (opd G h6 fun q => (ho X w _ G q).pe) (base_of h2) h1).weak fun _ _ _ => w_bits) (fun _ => rfl) fun _ _ _ => nofun
        | _ => cases h7
    · cases h
  · cases h
/-! ### targets -/
theorem asg_of {e : Expr} {es : List Expr} {env : Env} (h : star0 e = true) : assignEach (e :: es) env = (false, assign e env) :: assignEach es env := by
  cases e <;> first | rfl | cases h
theorem each_len : ∀ {es : List Expr}, es.all star0 = true → ∀ (env : Env), (assignEach es env).length = es.length ∧ (assignEach es env).findIdx? (·.1) = none
  | [], _, _ => ⟨rfl, rfl⟩
  | e :: es, h, env => by
    obtain ⟨h1, h2⟩ := and4 (show (star0 e && es.all star0) = true from h)
    have q : assignEach (e :: es) env = (false, assign e env) :: assignEach es env := by
      cases e <;> first | rfl | cases h1
    obtain ⟨k1, k2⟩ := each_len h2 env
    rw [q]
    refine ⟨by rw [List.length_cons, List.length_cons, k1], ?_⟩
    rw [List.findIdx?_cons]
    simp [k2]
def ST (E : En) (T : Tab) (S : Sta) (call : CallT) (t : Z.X) : Prop := (∀ (X : Cx) (w : Wh) (e : Expr), Gd X E T S w call → mT S t w e = true → PG X e (rG E t)) ∧
  ∀ (X : Cx) (w : Wh) (es : List Expr), Gd X E T S w call → mTs S t w es = true → PGs X es (rGs E t) ∧ es.all star0 = true ∧ es.length = tLen t
theorem PG.weak' {t t' : TG} (h : PG X e t) (w : ∀ v σ H Q, t' v σ H Q → t v σ H Q) : PG X e t' := ⟨fun pins s σ H v u Q I r q => h.run pins s σ H v u Q I r (w v σ H Q q)⟩
theorem PG.or' {t t' : TG} (h : PG X e t) (h' : PG X e t') : PG X e (fun v σ H Q => t v σ H Q ∨ t' v σ H Q) := ⟨fun pins s σ H v u Q I r q => q.elim (h.run pins s σ H v u Q I r) (h'.run pins s σ H v u Q I r)⟩
theorem PGs.weak' {es : List Expr} {t t' : TGs} (h : PGs X es t) (w : ∀ v σ H Q, t' v σ H Q → t v σ H Q) : PGs X es t' := ⟨fun pins s σ H v u Q I r q => h.run pins s σ H v u Q I r (w v σ H Q q)⟩
theorem st_all : ∀ t : Z.X, ST E T S call t := by
  intro t
  induction t with
  | tName i =>
    refine ⟨fun X w e G m => ?_, fun X w es G m => by unfold mTs at m; cases m⟩
    unfold mT at m
    split at m
    · obtain ⟨m1, m2⟩ := and4 m
      obtain ⟨k1, k2⟩ := loc_of G m2
      exact PG.weak' (pg_name G.nd (by rw [G.N]; exact of_decide_eq_true m1) k1 k2) fun _ _ _ _ => w_gName
    · cases m
  | tTup ts ih =>
    refine ⟨fun X w e G m => ?_, fun X w es G m => by unfold mTs at m; cases m⟩
    unfold mT at m
    split at m
    · obtain ⟨k1, k2, k3⟩ := ih.2 X w _ G m
      obtain ⟨k4, k5⟩ := each_len k2 X.env
      rw [k3] at k4
      rename_i es k pos
      have g : PG X (.Tuple es k pos) _ := PG.or' (pg_tup G.calm k1 k4 k5) (pg_lst G.calm k1 k4 k5)
      rw [G.K] at g
      exact PG.weak' g fun _ _ _ _ => w_gTup
    · cases m
  | nil =>
    refine ⟨fun X w e G m => (by unfold mT at m; cases m), fun X w es G m => ?_⟩
    unfold mTs at m
    split at m
    · exact ⟨PGs.weak' pgs_nil fun _ _ _ _ => w_gNil, rfl, rfl⟩
    · cases m
  | cons t r ih1 ih2 =>
    refine ⟨fun X w e G m => (by unfold mT at m; cases m), fun X w es G m => ?_⟩
    unfold mTs at m
    split at m
    · obtain ⟨m1, m3⟩ := and4 m
      obtain ⟨m1, m2⟩ := and4 m1
      obtain ⟨k1, k2, k3⟩ := ih2.2 X w _ G m3
      refine ⟨PGs.weak' (pgs_cons (ih1.1 X w _ G m2) k1 ?_) fun _ _ _ _ => w_gCons, ?_, ?_⟩
      · rw [asg_of m1]
        rfl
      · rw [List.all_cons, m1, k2]
        rfl
      · rw [List.length_cons, k3]
        rfl
    · cases m
  | _ => exact ⟨fun X w e G m => (by unfold mT at m; cases m), fun X w es G m => (by unfold mTs at m; cases m)⟩
end
end Z
end

section
set_option Elab.async false
set_option autoImplicit false
set_option linter.all false
set_option maxRecDepth 100000
set_option maxHeartbeats 2000000
/-! The check is right: what is walked, comprehensions; all expressions. -/
namespace Z
open PySem PySem.Spec PyProof.Rows L2
section
variable {X : Cx} {E : En} {T : Tab} {S : Sta} {w : Wh} {call : CallT} {e e1 e2 : Expr} {a b c r o es t it x : Z.X} {pk : Bool} {fa : Rho → Mu → Option (List D × Mu)}
theorem PI.or' {tg : Expr} {t t' : TI} (h : PI X tg e t) (h' : PI X tg e t') : PI X tg e (fun σ H R => t σ H R ∨ t' σ H R) := ⟨fun pins s σ H R I q => q.elim (h.run pins s σ H R I) (h'.run pins s σ H R I)⟩
theorem isTup_of (h : isTup e = true) : ∃ es k p, e = .Tuple es k p := by
  cases e <;> first | exact ⟨_, _, _, rfl⟩ | cases h
theorem si_ex (ha : SE E T S call a) : SI E T S call (.iEx a) := fun X pk w tg e G m => by
  have g := opdV G (pk := pk) (e := e) (r := mE S a w e) (by
    unfold mI at m
    cases pk <;> exact m) fun q => (ha X w _ G q).pe
  have h := PI.or' (tg := tg) (pi_list g) (pi_tup g)
  rw [G.K] at h
  refine h.weak fun σ H R q => ?_
  have e0 : dI T call pk (.iEx a) = fEx (fun ρ μ => pkB pk a ρ μ (dE T call a ρ μ)) := by
    cases pk <;> rfl
  rw [e0] at q
  exact w_iEx q
theorem w_rng1 (hl : ∀ ρ μ ds μ1, fa ρ μ = some (ds, μ1) → ds.length = 1) {σ : L2.St} {H : Hp} {R : It → Hp → Prop} : rI E pk (fRng fa) σ H R → iRng1 (rQ E fa) σ H R := by
  rintro ⟨As, bad, μ, ρ, ds, μ', a, e, k⟩
  unfold fRng at e
  split at e
  · rename_i n μ1 q
    split at e
    · rename_i hz
      cases e
      refine ⟨As, bad, μ, ρ, _, _, a, q, fun vs H' As' bad' c x r => ?_⟩
      obtain ⟨v, rfl, rv⟩ := repsP1 r
      exact ⟨n, by rw [rv.int], hz.1, sz62 (n := 0) hz.2, k _ H' As' bad' c x walk_rng⟩
    · cases e
  · rename_i q
    exact absurd (hl _ _ _ _ q) (by simp)
  · cases e
theorem w_rng2 (hl : ∀ ρ μ ds μ1, fa ρ μ = some (ds, μ1) → ds.length = 2) {σ : L2.St} {H : Hp} {R : It → Hp → Prop} : rI E pk (fRng fa) σ H R → iRng2 (rQ E fa) σ H R := by
  rintro ⟨As, bad, μ, ρ, ds, μ', a, e, k⟩
  unfold fRng at e
  split at e
  · rename_i q
    exact absurd (hl _ _ _ _ q) (by simp)
  · rename_i n m μ1 q
    split at e
    · rename_i hz
      cases e
      refine ⟨As, bad, μ, ρ, _, _, a, q, fun vs H' As' bad' c x r => ?_⟩
      obtain ⟨v, u, rfl, rv, ru⟩ := repsP2 r
      exact ⟨n, m, by rw [rv.int, ru.int], ⟨hz.1, hz.2.1, hz.2.2.1, hz.2.2.2.1⟩, k _ H' As' bad' c x walk_rng⟩
    · cases e
  · cases e
theorem dPs_len : ∀ (es : Z.X) (ρ : Rho) (μ : Mu) (ds : List D) (μ1 : Mu), dPs T call es ρ μ = some (ds, μ1) → ds.length = tLen es := by
  intro es
  induction es with
  | nil =>
    intro ρ μ ds μ1 h
    cases h
    rfl
  | cons a r _ ih =>
    intro ρ μ ds μ1 h
    have h' : fConsP (fun ρ μ => pkR a ρ μ (dE T call a ρ μ)) (dPs T call r) ρ μ = some (ds, μ1) := h
    unfold fConsP at h'
    split at h'
    · split at h'
      · rename_i q
        cases h'
        rw [List.length_cons, ih _ _ _ _ q]
        rfl
      · cases h'
    · cases h'
  | _ => exact fun ρ μ ds μ1 h => nomatch h
theorem mPs_len : ∀ (es : Z.X) (w : Wh) (args : List Expr), mPs S es w args = true → args.length = tLen es := by
  intro es
  induction es with
  | nil =>
    intro w args h
    unfold mPs at h
    split at h
    · rfl
    · cases h
  | cons a r _ ih =>
    intro w args h
    unfold mPs at h
    split at h
    · obtain ⟨h1, h2⟩ := and4 h
      rw [List.length_cons, ih _ _ h2]
      rfl
    · cases h
  | _ => exact fun w args h => (by unfold mPs at h; cases h)
theorem iRng_eq (pk : Bool) : dI T call pk (.iRng es) = fRng (dPs T call es) := by
  funext ρ μ
  cases pk <;> rfl
theorem rng_go (hs : SP E T S call es) {tg : Expr} (G : Gd X E T S w call) {n : Str} {args : List Expr} {np pos : Pos} (m : (bltB S w n "range" && (args.length == 1 || args.length == 2) && mPs S es w args) = true) :
    PI X tg (.Call (.Name n np) args [] pos) (rI E pk (fRng (dPs T call es))) := by
  obtain ⟨m1, m3⟩ := and4 m
  obtain ⟨m1, m2⟩ := and4 m1
  obtain ⟨rfl, hg, hm⟩ := blt_of G m1
  have hl := mPs_len es w args m3
  obtain ⟨k1, k2⟩ := hs X w _ G m3
  match args, m2, hl, k1, k2 with
  | [a1], _, hl, k1, k2 => exact (pi_range1 hg hm k1 (hd_star k2)).weak fun σ H R => w_rng1 fun ρ μ ds μ1 q => (dPs_len es ρ μ ds μ1 q).trans hl.symm
  | [a1, a2], _, hl, k1, k2 =>
    have k3 := (and4 (show (star0 a1 && [a2].all star0) = true from k2)).2
    exact (pi_range2 hg hm k1 (by rw [hd_star k2, hd_star k3] <;> rfl) (hd_star k3)).weak fun σ H R => w_rng2 fun ρ μ ds μ1 q => (dPs_len es ρ μ ds μ1 q).trans hl.symm
theorem si_rng (hs : SP E T S call es) : SI E T S call (.iRng es) := fun X pk w tg e G m => by
  rw [iRng_eq]
  cases pk <;>
  · unfold mI at m
    split at m
    · split at m
      · exact rng_go hs G m
      · cases m
    · cases m
theorem si_enum (ha : SE E T S call a) : SI E T S call (.iEnum a) := fun X pk w tg e G m => by
  have e0 : dI T call pk (.iEnum a) = fEnum (fun ρ μ => pkB pk a ρ μ (dE T call a ρ μ)) := by
    cases pk <;> rfl
  rw [e0]
  unfold mI at m
  split at m
  · split at m
    · obtain ⟨m1, m4⟩ := and4 m
      obtain ⟨m1, m3⟩ := and4 m1
      obtain ⟨m1, m2⟩ := and4 m1
      obtain ⟨rfl, hg, hm⟩ := blt_of G m1
      obtain ⟨es, kk, p, rfl⟩ := isTup_of m2
      have g := opdV G (pk := pk) (by cases pk <;> exact m4) fun q => (ha X w _ G q).pe
      refine L2.PI.weak (t := Et.iEnumA E.K (tCons (rV E pk fun ρ μ => pkB pk a ρ μ (dE T call a ρ μ)) tNil)) ?_ fun _ _ _ => w_iEnum
      rw [← G.K]
      exact Et.pi_enumA hg hm (pa_cons g pa_nil (star_of m3)) (star_of m3)
    · cases m
  · cases m
theorem si_zip (ha : SE E T S call a) (hb : SE E T S call b) : SI E T S call (.iZip a b) := fun X pk w tg e G m => by
  have e0 : dI T call pk (.iZip a b) = fZip (fun ρ μ => pkB pk a ρ μ (dE T call a ρ μ)) (fun ρ μ => pkB pk b ρ μ (dE T call b ρ μ)) := by
    cases pk <;> rfl
  rw [e0]
  unfold mI at m
  split at m
  · split at m
    · obtain ⟨m1, m4⟩ := and4 m
      obtain ⟨m1, m5⟩ := and4 m1
      obtain ⟨m1, m3⟩ := and4 m1
      obtain ⟨m1, m2⟩ := and4 m1
      obtain ⟨rfl, hg, hm⟩ := blt_of G m1
      obtain ⟨es, kk, p, rfl⟩ := isTup_of m2
      have g1 := opdV G (pk := pk) (by cases pk <;> exact (and4 m4).1) fun q => (ha X w _ G q).pe
      have g2 := opdV G (pk := pk) (by cases pk <;> exact (and4 m4).2) fun q => (hb X w _ G q).pe
      refine L2.PI.weak (t := RZ.iZipA E.K (tCons (rV E pk fun ρ μ => pkB pk a ρ μ (dE T call a ρ μ)) (tCons (rV E pk fun ρ μ => pkB pk b ρ μ (dE T call b ρ μ)) tNil))) ?_ fun _ _ _ => w_iZip
      rw [← G.K]
      exact RZ.pi_zipA hg hm (pa_cons g1 (pa_cons g2 pa_nil (star_of m5)) (star_of m3)) (star_of m3) (by rw [star_of m5] <;> rfl)
    · cases m
  · cases m
/-! ### comprehensions -/
theorem Gd.blk (G : Gd X E T S w call) (s : Shared) (H : Hp) (scope : Scope) (C : Addr) (cl : List (Str × Addr)) (fp : List Addr) : Gd (X.blk s H scope (compEnvC scope cl C X.env) fp) E T S (subW w scope) call where
  K := G.K
  sc := by
    show relS scope X.env.scope = relS scope w.sc
    rw [G.sc]
  N := G.N
  nd := G.nd
  calm := G.calm
  gd := G.gd
  un := G.un
  fn := fun x h => h
  mg0 := G.mg0
  con := G.con
  def_ := G.def_
theorem pts_yes : PTs X [] (rTt E fun _ μ => some (.bl true, false, μ)) := ⟨fun pins s σ H Q I q => pts_nil.run pins s σ H Q I (w_yes q)⟩
theorem ok_comp {own : List Nat} (hx : SE E T S call x) (hi : SI E T S call it) (hc : SE E T S call c) : SE E T S call (.comp x t it c own) := fun X w e G m => by
  unfold mE at m
  split at m
  · rename_i elt gens scope pos
    split at m
    · rename_i tg iter ifs
      obtain ⟨m1, m7⟩ := and4 m
      obtain ⟨m1, m6⟩ := and4 m1
      obtain ⟨m1, m5⟩ := and4 m1
      obtain ⟨m1, m4⟩ := and4 m1
      obtain ⟨m1, m3⟩ := and4 m1
      obtain ⟨m1, m2⟩ := and4 m1
      have bo := blkOk_by m3
      rw [← G.N, ← G.sc] at bo
      have ho : (own.map fun i => (X.N[i]?.getD ("" : Str), i)).map (·.2) = own := by
        rw [List.map_map]
        exact List.map_id own
      have ht : ∀ i ∈ tIx t, i ∈ own := fun i hi => by
        have := List.all_eq_true.mp m4 i hi
        simpa using this
      have pi := hi X true w tg iter G m2
      have pg := fun (s : Shared) (H : Hp) (C : Addr) (cl : List (Str × Addr)) (fp : List Addr) => (st_all t).1 _ _ tg (G.blk s H scope C cl fp) m5
      have pe := fun (s : Shared) (H : Hp) (C : Addr) (cl : List (Str × Addr)) (fp : List Addr) => pe_r (hx _ _ elt (G.blk s H scope C cl fp) m6).pe
      refine .mk' ?_ (fun _ => rfl) fun _ _ _ => nofun
      have e0 : dE T call (.comp x t it c own) = fComp t own (dI T call true it) (dE T call c) (dE T call x) := rfl
      rw [e0]
      split at m7
      · cases c with
        | cst d =>
          cases d with
          | bl b =>
            cases b with
            | true =>
              have pt := fun (s : Shared) (H : Hp) (C : Addr) (cl : List (Str × Addr)) (fp : List Addr) => pts_yes (X := X.blk s H scope (compEnvC scope cl C X.env) fp) (E := E)
              have g := pe_lc (pos := pos) G.calm G.nd pi bo pg pt pe (set_of m1)
              rw [ho] at g
              exact g.weak fun σ H Q q => w_comp ht q
            | false => cases m7
          | _ => cases m7
        | _ => cases m7
      · have pt := fun (s : Shared) (H : Hp) (C : Addr) (cl : List (Str × Addr)) (fp : List Addr) => pts_one (hc _ _ _ (G.blk s H scope C cl fp) m7).pt
        have g := pe_lc (pos := pos) G.calm G.nd pi bo pg pt pe (set_of m1)
        rw [ho] at g
        exact g.weak fun σ H Q q => w_comp ht q
      · cases m7
    · cases m
  · cases m
end
end Z
end

section
set_option Elab.async false
set_option autoImplicit false
set_option linter.all false
set_option maxRecDepth 100000
set_option maxHeartbeats 2000000
/-! The check of statements. -/
namespace Z
open PySem PySem.Spec PyProof.Rows L2
section
variable {E : En} {T : Tab} {S : Sta} {call : CallT}
theorem sa_no {x : Z.X} (h : ∀ w es, mEs S x w es = false) : SA E T S call x := fun X w es G m => by
  rw [h] at m
  cases m
theorem sp_no {x : Z.X} (h : ∀ w es, mPs S x w es = false) : SP E T S call x := fun X w es G m => by
  rw [h] at m
  cases m
theorem se_no {x : Z.X} (h : ∀ w e, mE S x w e = false) : SE E T S call x := fun X w es G m => by
  rw [h] at m
  cases m
theorem si_no {x : Z.X} (h : ∀ pk w tg e, mI S pk x w tg e = false) : SI E T S call x := fun X pk w tg e G m => by
  rw [h] at m
  cases m
theorem x_all : ∀ x : Z.X, SE E T S call x ∧ SA E T S call x ∧ SP E T S call x ∧ SI E T S call x := by
  intro x
  induction x with
  | var i => exact ⟨fun X w e G h => ok_var G h, sa_no fun _ _ => by unfold mEs <;> rfl, sp_no fun _ _ => by unfold mPs <;> rfl, si_no fun _ _ _ _ => by unfold mI <;> rfl⟩
  | cst d => exact ⟨fun X w e G h => ok_cst h, sa_no fun _ _ => by unfold mEs <;> rfl, sp_no fun _ _ => by unfold mPs <;> rfl, si_no fun _ _ _ _ => by unfold mI <;> rfl⟩
  | con j => exact ⟨fun X w e G h => ok_con G h, sa_no fun _ _ => by unfold mEs <;> rfl, sp_no fun _ _ => by unfold mPs <;> rfl, si_no fun _ _ _ _ => by unfold mI <;> rfl⟩
  | tup es h => exact ⟨ok_tup h.2.1, sa_no fun _ _ => by unfold mEs <;> rfl, sp_no fun _ _ => by unfold mPs <;> rfl, si_no fun _ _ _ _ => by unfold mI <;> rfl⟩
  | lst es h => exact ⟨ok_lst h.2.1, sa_no fun _ _ => by unfold mEs <;> rfl, sp_no fun _ _ => by unfold mPs <;> rfl, si_no fun _ _ _ _ => by unfold mI <;> rfl⟩
  | bin o a b ha hb => exact ⟨ok_bin ha.1 hb.1, sa_no fun _ _ => by unfold mEs <;> rfl, sp_no fun _ _ => by unfold mPs <;> rfl, si_no fun _ _ _ _ => by unfold mI <;> rfl⟩
  | neg a ha => exact ⟨ok_neg ha.1, sa_no fun _ _ => by unfold mEs <;> rfl, sp_no fun _ _ => by unfold mPs <;> rfl, si_no fun _ _ _ _ => by unfold mI <;> rfl⟩
  | not a ha => exact ⟨ok_not ha.1, sa_no fun _ _ => by unfold mEs <;> rfl, sp_no fun _ _ => by unfold mPs <;> rfl, si_no fun _ _ _ _ => by unfold mI <;> rfl⟩
  | and a b ha hb => exact ⟨ok_and ha.1 hb.1, sa_no fun _ _ => by unfold mEs <;> rfl, sp_no fun _ _ => by unfold mPs <;> rfl, si_no fun _ _ _ _ => by unfold mI <;> rfl⟩
  | or a b ha hb => exact ⟨ok_or ha.1 hb.1, sa_no fun _ _ => by unfold mEs <;> rfl, sp_no fun _ _ => by unfold mPs <;> rfl, si_no fun _ _ _ _ => by unfold mI <;> rfl⟩
  | one a ha => exact ⟨ok_one ha.1, sa_no fun _ _ => by unfold mEs <;> rfl, sp_no fun _ _ => by unfold mPs <;> rfl, si_no fun _ _ _ _ => by unfold mI <;> rfl⟩
  | cmp c a b ha hb => exact ⟨ok_cmp ha.1 hb.1, sa_no fun _ _ => by unfold mEs <;> rfl, sp_no fun _ _ => by unfold mPs <;> rfl, si_no fun _ _ _ _ => by unfold mI <;> rfl⟩
  | chn c c' a b d ha hb hd => exact ⟨ok_chn ha.1 hb.1 hd.1, sa_no fun _ _ => by unfold mEs <;> rfl, sp_no fun _ _ => by unfold mPs <;> rfl, si_no fun _ _ _ _ => by unfold mI <;> rfl⟩
  | ite c a b hc ha hb => exact ⟨ok_ite hc.1 ha.1 hb.1, sa_no fun _ _ => by unfold mEs <;> rfl, sp_no fun _ _ => by unfold mPs <;> rfl, si_no fun _ _ _ _ => by unfold mI <;> rfl⟩
  | call f es h => exact ⟨ok_call h.2.1, sa_no fun _ _ => by unfold mEs <;> rfl, sp_no fun _ _ => by unfold mPs <;> rfl, si_no fun _ _ _ _ => by unfold mI <;> rfl⟩
  | callk f pm es ks h h2 => exact ⟨ok_callk h.2.1 h2.2.1, sa_no fun _ _ => by unfold mEs <;> rfl, sp_no fun _ _ => by unfold mPs <;> rfl, si_no fun _ _ _ _ => by unfold mI <;> rfl⟩
  | bi b es h => exact ⟨ok_bi h.2.2.1, sa_no fun _ _ => by unfold mEs <;> rfl, sp_no fun _ _ => by unfold mPs <;> rfl, si_no fun _ _ _ _ => by unfold mI <;> rfl⟩
  | md m o es ho h => exact ⟨ok_md ho.1 h.2.2.1, sa_no fun _ _ => by unfold mEs <;> rfl, sp_no fun _ _ => by unfold mPs <;> rfl, si_no fun _ _ _ _ => by unfold mI <;> rfl⟩
  | isi a t ha => exact ⟨ok_isi ha.1, sa_no fun _ _ => by unfold mEs <;> rfl, sp_no fun _ _ => by unfold mPs <;> rfl, si_no fun _ _ _ _ => by unfold mI <;> rfl⟩
  | sub a i ha hi => exact ⟨ok_sub ha.1 hi.1, sa_no fun _ _ => by unfold mEs <;> rfl, sp_no fun _ _ => by unfold mPs <;> rfl, si_no fun _ _ _ _ => by unfold mI <;> rfl⟩
  | slc a lo hi ha hl hh => exact ⟨ok_slc ha.1 hl.1 hh.1, sa_no fun _ _ => by unfold mEs <;> rfl, sp_no fun _ _ => by unfold mPs <;> rfl, si_no fun _ _ _ _ => by unfold mI <;> rfl⟩
  | rev a ha => exact ⟨ok_rev ha.1, sa_no fun _ _ => by unfold mEs <;> rfl, sp_no fun _ _ => by unfold mPs <;> rfl, si_no fun _ _ _ _ => by unfold mI <;> rfl⟩
  | comp e t it c own he _ hi hc => exact ⟨ok_comp he.1 hi.2.2.2 hc.1, sa_no fun _ _ => by unfold mEs <;> rfl, sp_no fun _ _ => by unfold mPs <;> rfl, si_no fun _ _ _ _ => by unfold mI <;> rfl⟩
  | mk a ha => exact ⟨ok_mk ha.1, sa_no fun _ _ => by unfold mEs <;> rfl, sp_no fun _ _ => by unfold mPs <;> rfl, si_no fun _ _ _ _ => by unfold mI <;> rfl⟩
  | giv a ha => exact ⟨ok_giv ha.1, sa_no fun _ _ => by unfold mEs <;> rfl, sp_no fun _ _ => by unfold mPs <;> rfl, si_no fun _ _ _ _ => by unfold mI <;> rfl⟩
  | lend is a ha => exact ⟨ok_lend ha.1, sa_no fun _ _ => by unfold mEs <;> rfl, sp_no fun _ _ => by unfold mPs <;> rfl, si_no fun _ _ _ _ => by unfold mI <;> rfl⟩
  | nil => exact ⟨se_no fun _ _ => by unfold mE <;> rfl, as_nil, ps_nil, si_no fun _ _ _ _ => by unfold mI <;> rfl⟩
  | cons a r ha hr => exact ⟨se_no fun _ _ => by unfold mE <;> rfl, as_cons ha.1 hr.2.1, ps_cons ha.1 hr.2.2.1, si_no fun _ _ _ _ => by unfold mI <;> rfl⟩
  | iEx a ha => exact ⟨se_no fun _ _ => by unfold mE <;> rfl, sa_no fun _ _ => by unfold mEs <;> rfl, sp_no fun _ _ => by unfold mPs <;> rfl, si_ex ha.1⟩
  | iRng es h => exact ⟨se_no fun _ _ => by unfold mE <;> rfl, sa_no fun _ _ => by unfold mEs <;> rfl, sp_no fun _ _ => by unfold mPs <;> rfl, si_rng h.2.2.1⟩
  | iEnum a ha => exact ⟨se_no fun _ _ => by unfold mE <;> rfl, sa_no fun _ _ => by unfold mEs <;> rfl, sp_no fun _ _ => by unfold mPs <;> rfl, si_enum ha.1⟩
  | iZip a b ha hb => exact ⟨se_no fun _ _ => by unfold mE <;> rfl, sa_no fun _ _ => by unfold mEs <;> rfl, sp_no fun _ _ => by unfold mPs <;> rfl, si_zip ha.1 hb.1⟩
  | _ => exact ⟨se_no fun _ _ => by unfold mE <;> rfl, sa_no fun _ _ => by unfold mEs <;> rfl, sp_no fun _ _ => by unfold mPs <;> rfl, si_no fun _ _ _ _ => by unfold mI <;> rfl⟩
end
end Z
end

section
set_option Elab.async false
set_option autoImplicit false
set_option linter.all false
set_option maxRecDepth 100000
set_option maxHeartbeats 2000000
/-! The check of statements, and that it is right. -/
namespace Z
open PySem PySem.Spec PyProof.Rows L2

/-- a comprehension whose list a name takes over -/
def swB (w : Wh) (t : Str) (p : Pos) (ev : Expr) : Bool := match ev with
  | .ListComp _ _ s q => (w.sc.names.lookup t == some .local) && p.line == q.line && !(s.names.any fun (n, k) => n == t && (k == .local || k == .cell))
  | _ => false
def noComp (e : Expr) : Bool := match e with
  | .ListComp _ _ _ _ => false
  | .SetComp _ _ _ _ => false
  | .DictComp _ _ _ _ _ => false
  | _ => true
def noTup (e : Expr) : Bool := match e with
  | .Tuple _ _ _ => false
  | _ => true
def isStar (e : Expr) : Bool := match e with
  | .Starred _ _ => true
  | _ => false
/-- the local names among the targets -/
def swNm (w : Wh) (ts : List Expr) : List Str := ts.filterMap fun t => match t with
  | .Name id pos => if (w.sc.names.lookup id == some .local && pos.line == (ts.head?.map (·.pos.line)).getD 0) = true then some id else none
  | _ => none
/-- whether the stores of a display's items are swapped -/
def swN (w : Wh) (ts vs : List Expr) : Option (Option (List Str)) :=
  if (!(ts.length == 2 || ts.length == 3) || vs.length != ts.length) = true then some none else
  if (vs.any isStar) = true then some none else
  if ((swNm w ts).length != ts.length || (swNm w ts).eraseDups.length != (swNm w ts).length) = true then some none else
  if (vs.all (foldedForSure 8)) = true then some none else
  if (vs.all (constantsAlone 8)) = true then none else some (some (swNm w ts))
section
variable {X : Cx} {E : En} {T : Tab} {S : Sta} {w : Wh} {call : CallT} {e ev : Expr}
theorem blk_fn {env : Env} (hk : env.scope.kind = .function) : env.blockKind = .function := by
  unfold Env.blockKind
  rw [hk]
  rfl
theorem sw_none {ts vs : List Expr} {k k2 : Nat} {p p2 : Pos} {r : Option (List Str)} {env : Env} (hs : env.scope = w.sc) (hk : env.scope.kind = .function) (h : swN w ts vs = some r) : swappedStores [.Tuple ts k p] (.Tuple vs k2 p2) env = pure r := by
  have ky : ∀ x, env.kindOf x = w.sc.names.lookup x := fun x => by
    rw [← hs]
    rfl
  unfold swappedStores
  simp only [ky, blk_fn hk]
  show (if ((!(ts.length == 2 || ts.length == 3) || vs.length != ts.length) || (ScopeKind.function != ScopeKind.function)) = true then pure none else
    if (vs.any isStar) = true then pure none else
    if ((swNm w ts).length != ts.length || (swNm w ts).eraseDups.length != (swNm w ts).length) = true then pure none else
    if (vs.all (foldedForSure 8)) = true then pure none else
    if (vs.all (constantsAlone 8)) = true then (do
      unsupported "assign.tuple-of-constant-expressions:order-of-the-stores"
      pure (some (swNm w ts))) else pure (some (swNm w ts)) : Sem (Option (List Str))) = pure r
  rw [show (ScopeKind.function != ScopeKind.function) = false from rfl, Bool.or_false]
  unfold swN at h
  by_cases h1 : (!(ts.length == 2 || ts.length == 3) || vs.length != ts.length) = true
  · rw [if_pos h1] at h ⊢
    cases h
    rfl
  rw [if_neg h1] at h ⊢
  by_cases h2 : (vs.any isStar) = true
  · rw [if_pos h2] at h ⊢
    cases h
    rfl
  rw [if_neg h2] at h ⊢
  by_cases h3 : ((swNm w ts).length != ts.length || (swNm w ts).eraseDups.length != (swNm w ts).length) = true
  · rw [if_pos h3] at h ⊢
    cases h
    rfl
  rw [if_neg h3] at h ⊢
  by_cases h4 : (vs.all (foldedForSure 8)) = true
  · rw [if_pos h4] at h ⊢
    cases h
    rfl
  rw [if_neg h4] at h ⊢
  by_cases h5 : (vs.all (constantsAlone 8)) = true
  · rw [if_pos h5] at h
    cases h
  rw [if_neg h5] at h ⊢
  cases h
  rfl
theorem sw_false {t : Option Expr} {l : Nat} {env : Env} (h : noComp ev = true) : swapsWith ev t l env = pure false := by
  cases ev <;> first | rfl | cases h
theorem sw_listF {elt : Expr} {gs : List Comprehension} {s : Scope} {q p : Pos} {t : Str} {l : Nat} {env : Env} (hs : env.scope = w.sc) (hk : env.scope.kind = .function) (h : swB w t p (.ListComp elt gs s q) = false) : swapsWith (.ListComp elt gs s q) (some (.Name t p)) l env = pure false := by
  have ky : env.kindOf t = w.sc.names.lookup t := by
    rw [← hs]
    rfl
  unfold swapsWith
  simp only [ky, blk_fn hk]
  unfold swB at h
  dsimp only at h
  have e1 : (ScopeKind.function == ScopeKind.function) = true := rfl
  rw [e1, Bool.true_and]
  exact congrArg pure h
theorem sw_sole {t : Expr} {l : Nat} {env : Env} : swapsWithSole [t] ev l env = swapsWith ev (some t) l env := rfl
def isLC (e : Expr) : Bool := match e with
  | .ListComp _ _ _ _ => true
  | _ => false
def isComp (x : Z.X) : Bool := match x with
  | .comp _ _ _ _ _ => true
  | _ => false
/-- name = value -/
def asgB (S : Sta) (w : Wh) (i : Nat) (x : Z.X) (n : Str) (p : Pos) (ev : Expr) : Bool := decide (S.N[i]? = some n) && locB w n && mE S x w ev && (match swB w n p ev with
  | true => isComp x
  | false => noComp ev || isLC ev)
theorem asg_ok {i : Nat} {x : Z.X} {n : Str} {p pos : Pos} (G : Gd X E T S w call) (hk : X.env.scope.kind = .function) (m : asgB S w i x n p ev = true) : PS X (.Assign [.Name n p] ev pos) (tAsg (rE E (dE T call x)) (gName i)) := by
  unfold asgB at m
  obtain ⟨m1, m4⟩ := and4 m
  obtain ⟨m1, m3⟩ := and4 m1
  obtain ⟨m1, m2⟩ := and4 m1
  obtain ⟨k1, k2⟩ := loc_of G m2
  have hi : X.N[i]? = some n := by
    rw [G.N]
    exact of_decide_eq_true m1
  cases hb : swB w n p ev with
  | false =>
    rw [hb] at m4
    have hsw : swapsWith ev (some (.Name n p)) pos.line X.env = pure false := by
      cases h2 : noComp ev with
      | true => exact sw_false h2
      | false =>
        rw [h2] at m4
        have m5 : isLC ev = true := m4
        cases ev <;> first | exact sw_listF G.sc hk hb | cases m5
    exact ps_set G.nd hi k1 ((x_all x).1 X w ev G m3).pe hsw k2
  | true =>
    rw [hb] at m4
    have m4' : isComp x = true := m4
    cases x <;> try (cases m4'; done)
    rename_i x t it c own
    have m := m3
    unfold mE at m
    split at m
    · rename_i elt gens scope q _
      split at m
      · rename_i tg iter ifs _
        clear m1 m2 m3 m4 m4'
        obtain ⟨m1, m7⟩ := and4 m
        obtain ⟨m1, m6⟩ := and4 m1
        obtain ⟨m1, m5⟩ := and4 m1
        obtain ⟨m1, m4⟩ := and4 m1
        obtain ⟨m1, m3⟩ := and4 m1
        obtain ⟨m1, m2⟩ := and4 m1
        have bo := blkOk_by m3
        rw [← G.N, ← G.sc] at bo
        have ho : (own.map fun i => (X.N[i]?.getD ("" : Str), i)).map (·.2) = own := by
          rw [List.map_map]
          exact List.map_id own
        have ht : ∀ i ∈ tIx t, i ∈ own := fun i hi => by
          have := List.all_eq_true.mp m4 i hi
          simpa using this
        have pi := (x_all it).2.2.2 X true w tg iter G m2
        have pg := fun (s : Shared) (H : Hp) (C : Addr) (cl : List (Str × Addr)) (fp : List Addr) => (st_all t).1 _ _ tg (G.blk s H scope C cl fp) m5
        have pe := fun (s : Shared) (H : Hp) (C : Addr) (cl : List (Str × Addr)) (fp : List Addr) => pe_r ((x_all x).1 _ _ elt (G.blk s H scope C cl fp) m6).pe
        have e0 : dE T call (.comp x t it c own) = fComp t own (dI T call true it) (dE T call c) (dE T call x) := rfl
        rw [e0]
        unfold swB at hb
        obtain ⟨h1, h3⟩ := and4 hb
        obtain ⟨h1, h2⟩ := and4 h1
        have hl : X.env.scope.names.lookup n = some .local := by
          rw [G.sc]
          generalize hz : w.sc.names.lookup n = z at h1
          cases z with
          | none => cases h1
          | some kd => cases kd <;> first | rfl | cases h1
        have hsw : swapsWith (.ListComp elt [⟨tg, iter, ifs, 0⟩] scope q) (some (.Name n p)) pos.line X.env = pure true := sw_true hk hl h2 ((Bool.not_eq_true' _).mp h3)
        split at m7
        · cases c with
          | cst d =>
            cases d with
            | bl b =>
              cases b with
              | true =>
                have pt := fun (s : Shared) (H : Hp) (C : Addr) (cl : List (Str × Addr)) (fp : List Addr) => pts_yes (X := X.blk s H scope (compEnvC scope cl C X.env) fp) (E := E)
                have g := ps_setLc (spos := pos) G.calm G.nd hi hl hsw pi bo pg pt pe (set_of m1)
                rw [ho] at g
                exact g.weak fun D σ H q => w_comp ht q
              | false => cases m7
            | _ => cases m7
          | _ => cases m7
        · have pt := fun (s : Shared) (H : Hp) (C : Addr) (cl : List (Str × Addr)) (fp : List Addr) => pts_one ((x_all c).1 _ _ _ (G.blk s H scope C cl fp) m7).pt
          have g := ps_setLc (spos := pos) G.calm G.nd hi hl hsw pi bo pg pt pe (set_of m1)
          rw [ho] at g
          exact g.weak fun D σ H q => w_comp ht q
        · cases m7
      · cases m
    · cases m
end
end Z
end

section
set_option Elab.async false
set_option autoImplicit false
set_option linter.all false
set_option maxRecDepth 100000
set_option maxHeartbeats 2000000
/-! All statements. -/
namespace Z
open PySem PySem.Spec PyProof.Rows L2

def parB (S : Sta) (w : Wh) (is : List Nat) (ts vs : List Expr) : Bool := match is, ts with
  | [i, j], [t1, t2] => (match t1, t2 with
    | .Name a _, .Name b _ => (vs.length == 2) && decide (swN w ts vs = some (some [a, b])) && decide (S.N[i]? = some a) && decide (S.N[j]? = some b) && decide (i ≠ j) && lonB w a && lonB w b
    | _, _ => false)
  | [i, j, l], [t1, t2, t3] => (match t1, t2, t3 with
    | .Name a _, .Name b _, .Name c _ => (vs.length == 3) && decide (swN w ts vs = some (some [a, b, c])) && decide (S.N[i]? = some a) && decide (S.N[j]? = some b) && decide (S.N[l]? = some c) && decide (i ≠ j) && decide (i ≠ l) && decide (j ≠ l) && lonB w a && lonB w b && lonB w c
    | _, _, _ => false)
  | _, _ => false
def namesB (S : Sta) (w : Wh) : List Nat → List Expr → Bool
  | [], [] => true
  | i :: is, t :: ts => (match t with
    | .Name n _ => decide (S.N[i]? = some n) && locB w n
    | _ => false) && namesB S w is ts
  | _, _ => false
def parT (S : Sta) (w : Wh) (is : List Nat) (ts vs : List Expr) : Bool := decide (swN w ts vs = some none) && namesB S w is ts && decide (is.length ≤ sizeLine)
def appB (S : Sta) (w : Wh) (i : Nat) (e : Z.X) (ev : Expr) : Bool := match ev with
  | .Call fn args kws cpos => (match fn, args, kws with
    | .Attribute eo name apos, [ea], [] => (apos.endLine == cpos.line) && noBase eo && decide (name = ("append" : Str)) && nameB S w i eo && star0 ea && mE S e w ea
    | _, _, _ => false)
  | _ => false
def insB (S : Sta) (w : Wh) (i : Nat) (k e : Z.X) (ev : Expr) : Bool := match ev with
  | .Call fn args kws cpos => (match fn, args, kws with
    | .Attribute eo name apos, [ek, ea], [] => (apos.endLine == cpos.line) && noBase eo && decide (name = ("insert" : Str)) && nameB S w i eo && star0 ek && mE S k w ek && star0 ea && mE S e w ea
    | _, _, _ => false)
  | _ => false
def substB (S : Sta) (w : Wh) (i : Nat) (k e : Z.X) (tg ev : Expr) : Bool := match tg with
  | .Subscript eo ek _ => nameB S w i eo && noSlice ek && mE S k w ek && mE S e w ev
  | _ => false
def retB (S : Sta) (w : Wh) (e : Z.X) (ev : Expr) : Bool := match e with
  | .pv i => nameB S w i ev
  | _ => mE S e w ev
mutual
def mS (S : Sta) : Z.X → Wh → Stmt → Bool
  | .sSet t e, w, st => (match st with
    | .Assign tgs ev _ => (match tgs with
      | [tg] => (match tg with
        | .Name n p => (match t with
          | .tName i => asgB S w i e n p ev
          | _ => false)
        | .Tuple ts _ _ => mT S t w tg && mE S e w ev && (match ev with
          | .Tuple vs _ _ => decide (swN w ts vs = some none)
          | _ => true)
        | _ => false)
      | _ => false)
    | _ => false)
  | .sSetO i e, w, st => (match st with
    | .Assign tgs ev _ => (match tgs with
      | [tg] => (match tg with
        | .Name n p => asgB S w i e n p ev
        | _ => false)
      | _ => false)
    | _ => false)
  | .sPar is es, w, st => (match st with
    | .Assign tgs ev _ => (match tgs with
      | [tg] => (match tg, ev with
        | .Tuple ts _ _, .Tuple vs _ _ => (parB S w is ts vs || parT S w is ts vs) && mEs S es w vs
        | _, _ => false)
      | _ => false)
    | _ => false)
  | .sRet e, w, st => (match st with
    | .Return (some ev) _ => retB S w e ev
    | _ => false)
  | .sRetN, _, st => (match st with
    | .Return none _ => true
    | _ => false)
  | .sIf c a b, w, st => (match st with
    | .If ec ea eb _ => mE S c w ec && mSs S a w ea && mSs S b w eb
    | _ => false)
  | .sFor t it b, w, st => (match st with
    | .For tg iter body els _ => (match els with
      | [] => noSet iter && mI S false it w tg iter && mT S t w tg && mSs S b w body
      | _ => false)
    | _ => false)
  | .sWh _ c b, w, st => (match st with
    | .While ec body els _ => (match els with
      | [] => mE S c w ec && mSs S b w body
      | _ => false)
    | _ => false)
  | .sEx e, w, st => (match st with
    | .Expr ev _ => noComp ev && mE S e w ev
    | _ => false)
  | .sApp i e, w, st => (match st with
    | .Expr ev _ => appB S w i e ev
    | _ => false)
  | .sIns i k e, w, st => (match st with
    | .Expr ev _ => insB S w i k e ev
    | _ => false)
  | .sAppC i e, w, st => (match st with
    | .Expr ev _ => appB S w i e ev
    | _ => false)
  | .sSub i k e, w, st => (match st with
    | .Assign tgs ev _ => (match tgs with
      | [tg] => substB S w i k e tg ev
      | _ => false)
    | _ => false)
  | .sSubC i k e, w, st => (match st with
    | .Assign tgs ev _ => (match tgs with
      | [tg] => substB S w i k e tg ev
      | _ => false)
    | _ => false)
  | .sDis _ s, w, st => mS S s w st
  | .sPass, _, st => (match st with
    | .Pass _ => true
    | _ => false)
  | .sBk, _, st => (match st with
    | .Break _ => true
    | _ => false)
  | .sCt, _, st => (match st with
    | .Continue _ => true
    | _ => false)
  | .sNo, _, _ => true
  | _, _, _ => false
def mSs (S : Sta) : Z.X → Wh → List Stmt → Bool
  | .nil, _, sts => (match sts with
    | [] => true
    | _ => false)
  | .cons s r, w, sts => (match sts with
    | st :: sts => mS S s w st && mSs S r w sts
    | _ => false)
  | _, _, _ => false
end
section
variable {E : En} {T : Tab} {S : Sta} {call : CallT}
def SS (E : En) (T : Tab) (S : Sta) (call : CallT) (x : Z.X) : Prop := ∀ (X : Cx) (w : Wh) (st : Stmt), Gd X E T S w call → X.env.scope.kind = .function → PassesOwn (model X.prog X.w) X.A X.env X.xe → mS S x w st = true → PS X st (rW E (dS T call x))
def SL (E : En) (T : Tab) (S : Sta) (call : CallT) (x : Z.X) : Prop := ∀ (X : Cx) (w : Wh) (sts : List Stmt), Gd X E T S w call → X.env.scope.kind = .function → PassesOwn (model X.prog X.w) X.A X.env X.xe → mSs S x w sts = true → PSs X sts (rW E (dS T call x))
variable {X : Cx} {w : Wh} {ev tg : Expr} {pos : Pos} {t it c a b e k es s r : Z.X}
theorem lon_of (G : Gd X E T S w call) {n : Str} (h : lonB w n = true) : X.env.scope.names.lookup n = some .local := by
  unfold lonB at h
  rw [G.sc]
  split at h
  · assumption
  · cases h
theorem sao_all : ∀ (es : Z.X) (X : Cx) (w : Wh) (vs : List Expr), Gd X E T S w call → mEs S es w vs = true → PA X vs (rAO E (dOs T call es)) := by
  intro es
  induction es with
  | nil =>
    intro X w vs G m
    unfold mEs at m
    split at m
    · exact pa_nil.weak fun _ _ _ => w_nilO
    · cases m
  | cons a r _ ih =>
    intro X w vs G m
    unfold mEs at m
    split at m
    · obtain ⟨m, m3⟩ := and4 m
      obtain ⟨m1, m2⟩ := and4 m
      exact (pa_cons ((x_all a).1 X w _ G m2).pe (ih X w _ G m3) (star_of m1)).weak fun _ _ _ => w_consO
    · cases m
  | _ => exact fun X w vs G m => (by unfold mEs at m; cases m)
theorem par_ok (G : Gd X E T S w call) (hk : X.env.scope.kind = .function) {is : List Nat} {ts vs : List Expr} {kk k2 : Nat} {p p2 : Pos} (m : (parB S w is ts vs && mEs S es w vs) = true) :
    PS X (.Assign [.Tuple ts kk p] (.Tuple vs k2 p2) pos) (rW E (kPar is (dOs T call es))) := by
  obtain ⟨m, m9⟩ := and4 m
  have pa := sao_all (E := E) (T := T) (call := call) es X w vs G m9
  unfold parB at m
  split at m
  · split at m
    · rename_i i j a _ b _ 
      obtain ⟨m, m7⟩ := and4 m
      obtain ⟨m, m6⟩ := and4 m
      obtain ⟨m, m5⟩ := and4 m
      obtain ⟨m, m4⟩ := and4 m
      obtain ⟨m, m3⟩ := and4 m
      obtain ⟨m1, m2⟩ := and4 m
      have hv : ∃ u v, vs = [u, v] := by
        match vs, m1 with
        | [u, v], _ => exact ⟨u, v, rfl⟩
      obtain ⟨u, v, rfl⟩ := hv
      exact (ps_par G.calm G.nd (by rw [G.N]; exact of_decide_eq_true m3) (by rw [G.N]; exact of_decide_eq_true m4) (of_decide_eq_true m5) (lon_of G m6) (lon_of G m7) pa (sw_none G.sc hk (of_decide_eq_true m2)) rfl).weak fun D σ H q => u_par2 q
    · cases m
  · split at m
    · obtain ⟨m, m11⟩ := and4 m
      obtain ⟨m, m10⟩ := and4 m
      obtain ⟨m, m12⟩ := and4 m
      obtain ⟨m, m8⟩ := and4 m
      obtain ⟨m, m7⟩ := and4 m
      obtain ⟨m, m6⟩ := and4 m
      obtain ⟨m, m5⟩ := and4 m
      obtain ⟨m, m4⟩ := and4 m
      obtain ⟨m, m3⟩ := and4 m
      obtain ⟨m1, m2⟩ := and4 m
      have hv : ∃ u v x, vs = [u, v, x] := by
        match vs, m1 with
        | [u, v, x], _ => exact ⟨u, v, x, rfl⟩
      obtain ⟨u, v, x, rfl⟩ := hv
      exact (ps_par3 G.calm G.nd (by rw [G.N]; exact of_decide_eq_true m3) (by rw [G.N]; exact of_decide_eq_true m4) (by rw [G.N]; exact of_decide_eq_true m5) (of_decide_eq_true m6) (of_decide_eq_true m7) (of_decide_eq_true m8) (lon_of G m12) (lon_of G m10) (lon_of G m11) pa (sw_none G.sc hk (of_decide_eq_true m2)) rfl).weak fun D σ H q => u_par3 q
    · cases m
  · cases m
theorem names_ok (G : Gd X E T S w call) : ∀ {is : List Nat} {ts : List Expr}, namesB S w is ts = true → PGs X ts (gNames is) ∧ ts.all star0 = true ∧ ts.length = is.length
  | [], [], _ => ⟨pgs_nil, rfl, rfl⟩
  | i :: is, t :: ts, h => by
    obtain ⟨h1, h2⟩ := and4 h
    obtain ⟨k1, k2, k3⟩ := names_ok G h2
    split at h1
    · rename_i n p
      obtain ⟨h3, h4⟩ := and4 h1
      obtain ⟨k4, k5⟩ := loc_of G h4
      exact ⟨pgs_cons (pg_name G.nd (by rw [G.N]; exact of_decide_eq_true h3) k4 k5) k1 rfl, by rw [List.all_cons, k2]; rfl, by rw [List.length_cons, List.length_cons, k3]⟩
    · cases h1
  | [], _ :: _, h => by cases h
  | _ :: _, [], h => by cases h
theorem par_okT (G : Gd X E T S w call) (hk : X.env.scope.kind = .function) {is : List Nat} {ts vs : List Expr} {kk k2 : Nat} {p p2 : Pos} (m : (parT S w is ts vs && mEs S es w vs) = true) :
    PS X (.Assign [.Tuple ts kk p] (.Tuple vs k2 p2) pos) (rW E (kPar is (dOs T call es))) := by
  obtain ⟨m, m9⟩ := and4 m
  have pa := sao_all (E := E) (T := T) (call := call) es X w vs G m9
  unfold parT at m
  obtain ⟨m, m3⟩ := and4 m
  obtain ⟨m1, m2⟩ := and4 m
  obtain ⟨k1, k2, k3⟩ := names_ok G m2
  obtain ⟨k4, k5⟩ := each_len k2 X.env
  rw [k3] at k4
  have g : PG X (.Tuple ts kk p) (gTup X.K is.length (gNames is)) := pg_tup G.calm k1 k4 k5
  rw [G.K] at g
  exact (ps_asg (pe_tup pa) g rfl (sw_none G.sc hk (of_decide_eq_true m1)) rfl).weak fun D σ H q => u_parT (of_decide_eq_true m3) q
theorem app_any (G : Gd X E T S w call) {i : Nat} (m : appB S w i e ev = true) : PS X (.Expr ev pos) (tDrop (tBM X.K "list" rAppend (tVar i) (tCons (rR E (dE T call e)) tNil))) := by
  unfold appB at m
  split at m
  · split at m
    · obtain ⟨m, m6⟩ := and4 m
      obtain ⟨m, m5⟩ := and4 m
      obtain ⟨m, m4⟩ := and4 m
      obtain ⟨m, m3⟩ := and4 m
      obtain ⟨m1, m2⟩ := and4 m
      have hn := of_decide_eq_true m3
      subst hn
      obtain ⟨n, q, rfl, h1, h2, h3, h4⟩ := name_of G m4
      have one : ∀ {z : Expr}, star0 z = true → [z].all star0 = true := fun {z} hz => by
        rw [List.all_cons, hz]
        rfl
      have k2 := one m5
      exact ps_expr (pe_bm PySem.F.plainAttrs_list PySem.F.slot_list_append PySem.F.type_list_append mt_append (pe_var h1 h2 h3 h4) (pa_cons (pe_r ((x_all e).1 X w _ G m6).pe) pa_nil (star_of m5)) (base_of m2) (few_of k2) m1 (star_of m5) rfl) rfl
    · cases m
  · cases m
theorem few_of2 {e d : Expr} {pos : Pos} (h : [e, d].all star0 = true) : ((backTo pos (starEach [e, d] X.env)).all (fun x => !x.1) && (backToKw pos (keywordEach [] X.env)).all (fun x => x.1.isSome)
      && decide ([e, d].length + ([] : List Keyword).length + (if ([] : List Keyword).isEmpty then 0 else 1) < 30)) = true := by
  rw [all_stars h]
  rfl
theorem ins_any (G : Gd X E T S w call) {i : Nat} (m : insB S w i k e ev = true) : PS X (.Expr ev pos) (tDrop (tBM X.K "list" rIns (tVar i) (tCons (rR E (dE T call k)) (tCons (rR E (dE T call e)) tNil)))) := by
  unfold insB at m
  split at m
  · split at m
    · obtain ⟨m, m8⟩ := and4 m
      obtain ⟨m, m7⟩ := and4 m
      obtain ⟨m, m6⟩ := and4 m
      obtain ⟨m, m5⟩ := and4 m
      obtain ⟨m, m4⟩ := and4 m
      obtain ⟨m, m3⟩ := and4 m
      obtain ⟨m1, m2⟩ := and4 m
      have hn := of_decide_eq_true m3
      subst hn
      obtain ⟨n, q, rfl, h1, h2, h3, h4⟩ := name_of G m4
      have two : ∀ {z y : Expr}, star0 z = true → star0 y = true → [z, y].all star0 = true := fun {z y} hz hy => by
        rw [List.all_cons, List.all_cons, hz, hy]
        rfl
      have k2 := two m5 m7
      exact ps_expr (pe_bm PySem.F.plainAttrs_list PySem.F.slot_list_insert PySem.F.type_list_insert mt_insert (pe_var h1 h2 h3 h4) (pa_cons (pe_r ((x_all k).1 X w _ G m6).pe) (pa_cons (pe_r ((x_all e).1 X w _ G m8).pe) pa_nil (star_of m7)) (star_of m5)) (base_of m2) (few_of2 k2) m1 (star_of m5) (tl_star k2)) rfl
    · cases m
  · cases m
theorem ix_asg {o i : Expr} {sp : Pos} {v : Value} (h : noSlice i = true) : assign (.Subscript o i sp) X.env v = (do
      let ov ← holding [v] (eval o X.env)
      let iv ← holding [v, ov] (eval i X.env)
      standAt sp
      holding [v, ov, iv] (setItem ov iv v)
      release [v, ov, iv] []) := by
  cases i <;> first | rfl | cases h
theorem sub_any (G : Gd X E T S w call) {i : Nat} (m : substB S w i k e tg ev = true) : PS X (.Assign [tg] ev pos) (tAsg (rR E (dE T call e)) (gSub (tVar i) (rE E (dE T call k)) rSetL)) := by
  unfold substB at m
  split at m
  · obtain ⟨m, m4⟩ := and4 m
    obtain ⟨m, m3⟩ := and4 m
    obtain ⟨m1, m2⟩ := and4 m
    obtain ⟨n, q, rfl, h1, h2, h3, h4⟩ := name_of G m1
    refine ps_asg (pe_r ((x_all e).1 X w _ G m4).pe) (pg_sub (pe_var h1 h2 h3 h4) ((x_all k).1 X w _ G m3).pe set_list (fun v => ix_asg m2)) ?_ ?_ rfl
    · cases ev <;> rfl
    · cases ev <;> rfl
  · cases m
theorem set_any (G : Gd X E T S w call) (hk : X.env.scope.kind = .function) {ts : List Expr} {kk : Nat} {p : Pos} (m : (mT S t w (.Tuple ts kk p) && mE S e w ev && (match ev with
      | .Tuple vs _ _ => decide (swN w ts vs = some none)
      | _ => true)) = true) : PS X (.Assign [.Tuple ts kk p] ev pos) (rW E (kSet t (dE T call e))) := by
  obtain ⟨m, m3⟩ := and4 m
  obtain ⟨m1, m2⟩ := and4 m
  refine (ps_asg (pe_r ((x_all e).1 X w _ G m2).pe) ((st_all t).1 X w _ G m1) ?_ ?_ rfl).weak fun D σ H q => u_set q
  · cases ev <;> rfl
  · cases ev <;> first
      | rfl
      | exact sw_none G.sc hk (of_decide_eq_true m3)
theorem ret_any (G : Gd X E T S w call) (m : retB S w e ev = true) : PS X (.Return (some ev) pos) (rW E (dS T call (.sRet e))) := by
  cases e with
  | pv i =>
    obtain ⟨n, q, rfl, h1, h2, h3, h4⟩ := name_of G (show nameB S w i ev = true from m)
    exact (ps_ret (pe_var h1 h2 h3 h4)).weak fun D σ H q => u_retV q
  | _ => exact (ps_ret ((x_all _).1 X w _ G m).pe).weak fun D σ H q => u_ret q
theorem ss_no (h : ∀ w st, mS S s w st = false) : SS E T S call s := fun X w st G _ _ m => by
  rw [h] at m
  cases m
theorem sl_no (h : ∀ w st, mSs S s w st = false) : SL E T S call s := fun X w st G _ _ m => by
  rw [h] at m
  cases m
theorem s_all : ∀ x : Z.X, SS E T S call x ∧ SL E T S call x := by
  intro x
  induction x with
  | sSet t e _ _ =>
    refine ⟨fun X w st G hk hp m => ?_, sl_no fun _ _ => by unfold mSs <;> rfl⟩
    unfold mS at m
    split at m
    · split at m
      · split at m
        · split at m
          · exact (asg_ok G hk m).weak fun D σ H q => by
              obtain ⟨As, bad, μ, ρ, d, o, μ', a, e1, kf⟩ := u_set q
              exact w_r ⟨As, bad, μ, ρ, d, o, μ', a, e1, fun v H' As' bad' c x r => w_gName (kf v H' As' bad' c x r)⟩
          · cases m
        · exact set_any G hk m
        · cases m
      · cases m
    · cases m
  | sSetO i e _ =>
    refine ⟨fun X w st G hk hp m => ?_, sl_no fun _ _ => by unfold mSs <;> rfl⟩
    unfold mS at m
    split at m
    · split at m
      · split at m
        · exact (asg_ok G hk m).weak fun D σ H q => u_setO q
        · cases m
      · cases m
    · cases m
  | sPar is es _ =>
    refine ⟨fun X w st G hk hp m => ?_, sl_no fun _ _ => by unfold mSs <;> rfl⟩
    unfold mS at m
    split at m
    · split at m
      · split at m
        · obtain ⟨m1, m2⟩ := and4 m
          rcases Bool.or_eq_true_iff.mp m1 with m1 | m1
          · exact par_ok G hk (by rw [m1, m2]; rfl)
          · exact par_okT G hk (by rw [m1, m2]; rfl)
        · cases m
      · cases m
    · cases m
  | sRet e _ =>
    refine ⟨fun X w st G hk hp m => ?_, sl_no fun _ _ => by unfold mSs <;> rfl⟩
    unfold mS at m
    split at m
    · exact ret_any G m
    · cases m
  | sRetN =>
    refine ⟨fun X w st G hk hp m => ?_, sl_no fun _ _ => by unfold mSs <;> rfl⟩
    unfold mS at m
    split at m
    · exact ps_retN.weak fun D σ H q => u_retN q
    · cases m
  | sIf c a b _ ha hb =>
    refine ⟨fun X w st G hk hp m => ?_, sl_no fun _ _ => by unfold mSs <;> rfl⟩
    unfold mS at m
    split at m
    · obtain ⟨m, m3⟩ := and4 m
      obtain ⟨m1, m2⟩ := and4 m
      exact (ps_if ((x_all c).1 X w _ G m1).pt (ha.2 X w _ G hk hp m2) (hb.2 X w _ G hk hp m3)).weak fun D σ H q => u_if q
    · cases m
  | sFor t it b _ _ hb =>
    refine ⟨fun X w st G hk hp m => ?_, sl_no fun _ _ => by unfold mSs <;> rfl⟩
    unfold mS at m
    split at m
    · split at m
      · obtain ⟨m, m4⟩ := and4 m
        obtain ⟨m, m3⟩ := and4 m
        obtain ⟨m1, m2⟩ := and4 m
        exact (ps_for hp G.calm ((x_all it).2.2.2 X false w _ _ G m2) ((st_all t).1 X w _ G m3) (hb.2 X w _ G hk hp m4) (set_of m1)).weak fun D σ H q => u_for q
      · cases m
    · cases m
  | sWh n c b _ hb =>
    refine ⟨fun X w st G hk hp m => ?_, sl_no fun _ _ => by unfold mSs <;> rfl⟩
    unfold mS at m
    split at m
    · split at m
      · obtain ⟨m1, m2⟩ := and4 m
        exact (ps_while hp ((x_all c).1 X w _ G m1).pt (hb.2 X w _ G hk hp m2)).weak fun D σ H q => u_while q
      · cases m
    · cases m
  | sEx e _ =>
    refine ⟨fun X w st G hk hp m => ?_, sl_no fun _ _ => by unfold mSs <;> rfl⟩
    unfold mS at m
    split at m
    · obtain ⟨m1, m2⟩ := and4 m
      exact (ps_expr ((x_all e).1 X w _ G m2).pe (sw_false m1)).weak fun D σ H q => u_ex q
    · cases m
  | sApp i e _ =>
    refine ⟨fun X w st G hk hp m => ?_, sl_no fun _ _ => by unfold mSs <;> rfl⟩
    unfold mS at m
    split at m
    · exact (app_any G m).weak fun D σ H q => u_app q
    · cases m
  | sIns i k e _ _ =>
    refine ⟨fun X w st G hk hp m => ?_, sl_no fun _ _ => by unfold mSs <;> rfl⟩
    unfold mS at m
    split at m
    · exact (ins_any G m).weak fun D σ H q => u_ins q
    · cases m
  | sAppC i e _ =>
    refine ⟨fun X w st G hk hp m => ?_, sl_no fun _ _ => by unfold mSs <;> rfl⟩
    unfold mS at m
    split at m
    · exact (app_any G m).weak fun D σ H q => u_appC q
    · cases m
  | sSub i k e _ _ =>
    refine ⟨fun X w st G hk hp m => ?_, sl_no fun _ _ => by unfold mSs <;> rfl⟩
    unfold mS at m
    split at m
    · split at m
      · exact (sub_any G m).weak fun D σ H q => u_sub q
      · cases m
    · cases m
  | sSubC i k e _ _ =>
    refine ⟨fun X w st G hk hp m => ?_, sl_no fun _ _ => by unfold mSs <;> rfl⟩
    unfold mS at m
    split at m
    · split at m
      · exact (sub_any G m).weak fun D σ H q => u_subC q
      · cases m
    · cases m
  | sDis i s hs =>
    refine ⟨fun X w st G hk hp m => ?_, sl_no fun _ _ => by unfold mSs <;> rfl⟩
    have m' : mS S s w st = true := by
      unfold mS at m
      exact m
    exact (hs.1 X w st G hk hp m').weak fun D σ H q => u_dis q
  | sPass =>
    refine ⟨fun X w st G hk hp m => ?_, sl_no fun _ _ => by unfold mSs <;> rfl⟩
    unfold mS at m
    split at m
    · exact ps_pass.weak fun D σ H q => u_nx q
    · cases m
  | sBk =>
    refine ⟨fun X w st G hk hp m => ?_, sl_no fun _ _ => by unfold mSs <;> rfl⟩
    unfold mS at m
    split at m
    · exact ps_break.weak fun D σ H q => u_bk q
    · cases m
  | sCt =>
    refine ⟨fun X w st G hk hp m => ?_, sl_no fun _ _ => by unfold mSs <;> rfl⟩
    unfold mS at m
    split at m
    · exact ps_continue.weak fun D σ H q => u_ct q
    · cases m
  | sNo =>
    refine ⟨fun X w st G hk hp m => ⟨fun pins s σ H D I q => ?_⟩, sl_no fun _ _ => by unfold mSs <;> rfl⟩
    obtain ⟨B, As, bad, μ, ρ, r, st, e, _⟩ := q
    cases e
  | nil =>
    refine ⟨ss_no fun _ _ => by unfold mS <;> rfl, fun X w st G hk hp m => ?_⟩
    unfold mSs at m
    split at m
    · exact pss_nil.weak fun D σ H q => u_nx q
    · cases m
  | cons s r hs hr =>
    refine ⟨ss_no fun _ _ => by unfold mS <;> rfl, fun X w st G hk hp m => ?_⟩
    unfold mSs at m
    split at m
    · obtain ⟨m1, m2⟩ := and4 m
      exact (pss_cons (hs.1 X w _ G hk hp m1) (hr.2 X w _ G hk hp m2)).weak fun D σ H q => u_seq q
    · cases m
  | _ => exact ⟨ss_no fun _ _ => by unfold mS <;> rfl, sl_no fun _ _ => by unfold mSs <;> rfl⟩
end
end Z
end

section
set_option Elab.async false
set_option autoImplicit false
set_option linter.all false
set_option maxRecDepth 100000
set_option maxHeartbeats 2000000
/-! The defs keep what the terms say. -/
namespace Z
open PySem PySem.Spec PyProof.Rows L2

/-- the program: its defs' terms, their parameters, bodies and scopes -/
structure Pg where
  fs : List Def
  cn : List Str
  gl : List Str
  kn : List (List Str)
def Pg.sta (G : Pg) (F : Def) : Sta := ⟨F.ns, G.fs.map (·.name), G.cn, G.gl, G.fs.map (·.ps)⟩
/-- what is known of the def's place -/
structure DefOk (K : PySem.W.Frag) (mg : Str → Option Value) (G : Pg) (F : Def) (a : Addr) (fd : FuncData) : Prop where
  at_ : ∃ (x qual : Str) (params : Arguments) (body : List Stmt) (scope : Scope), FunD K x qual params body scope [] [] a fd ∧ FnScope F.ns F.ps scope ∧ mSs (G.sta F) F.body ⟨scope, none⟩ body = true
  mg : mg F.name = some (.ref a)
  bind : ∀ (s : Shared) (us : List Value), us.length = F.ps.length → BindsTo s fd ⟨us, []⟩ (F.ps.zip us)
  bindk : ∀ (n : Nat) (ks : List Str) (pm : List Nat), kwB F.ps n ks pm = true → ∀ (s : Shared) (us ws : List Value), us.length = n → ws.length = ks.length → BindsTo s fd ⟨us, ks.zip ws⟩ (F.ps.zip (us ++ pmL pm ws))
/-- what is known of the module -/
structure ModOk (K : PySem.W.Frag) (E : En) (mg : Str → Option Value) (G : Pg) (T : Tab) : Prop where
  hK : K = E.K
  mg0 : ∀ x : Str, x ∈ G.gl → mg x = none
  con : ∀ (j : Nat) (x : Str), G.cn[j]? = some x → ∃ u v d, mg x = some u ∧ RelV v u ∧ T.cons[j]? = some d ∧ ∀ As H bad, Rep E As H bad v d
  fs : ∀ (i : Nat) (F : Def), G.fs[i]? = some F → ∃ a fd, DefOk K mg G F a fd
section
variable {P : Program} {w : World} {K : PySem.W.Frag} {mg : Str → Option Value} {base : Heap} {E : En} {G : Pg} {T : Tab}
theorem start_srel {As : List Addr} {bad : Addr → Prop} {H : Hp} {N : List Str} {vs : List V} {ds : List D} (r : Reps E As H bad vs ds) : SRel E H As bad H (start N vs) (ds.map (fun d => some (d, false)) ++ List.replicate (N.length - ds.length) none) := by
  have hl := r.length
  have no : ∀ {i : Nat} {d : D}, (ds.map (fun d => some (d, false)) ++ List.replicate (N.length - ds.length) none)[i]? ≠ some (some (d, true)) := fun {i d} h => by
    by_cases hi : i < ds.length
    · rw [List.getElem?_append_left (by simpa using hi), List.getElem?_map] at h
      cases q : ds[i]? with
      | none =>
        rw [q] at h
        cases h
      | some z =>
        rw [q] at h
        cases h
    · rw [List.getElem?_append_right (by simpa using hi), List.getElem?_replicate] at h
      split at h <;> cases h
  refine ⟨?_, fun i d h => ?_, fun i d h => absurd h no, fun i j d e a h => absurd h no⟩
  · unfold L2.start
    rw [List.length_append, List.length_append, List.length_map, List.length_map, List.length_replicate, List.length_replicate, hl]
  · by_cases hi : i < ds.length
    · rw [List.getElem?_append_left (by simpa using hi), List.getElem?_map] at h
      cases q : ds[i]? with
      | none =>
        rw [q] at h
        cases h
      | some z =>
        rw [q] at h
        cases h
        obtain ⟨v, h1, h2⟩ := r.get q
        refine ⟨v, ?_, h2⟩
        unfold L2.start
        rw [List.getElem?_append_left (by simpa [hl] using hi), List.getElem?_map, h1]
        rfl
    · rw [List.getElem?_append_right (by simpa using hi), List.getElem?_replicate] at h
      split at h <;> cases h
theorem DefOk.binds {F : Def} {a : Addr} {fd : FuncData} (d : DefOk K mg G F a fd) : Binds K fd F.ps [] := fun s us _ hl => by
  rw [List.append_nil] at hl ⊢
  exact d.bind s us hl
theorem DefOk.kp {F : Def} {a : Addr} {fd : FuncData} (d : DefOk K mg G F a fd) : PySem.W.keepIn K (.ref a) = true := let ⟨_, _, _, _, _, FD, _⟩ := d.at_; FD.kp
/-- THE LEVELS: the defs, k calls deep -/
theorem lvl (M : ModOk K E mg G T) : ∀ (k i : Nat) (F : Def) (a : Addr) (fd : FuncData), G.fs[i]? = some F → DefOk K mg G F a fd → FnG P w K mg base CX0 k a fd F.ps (spC E (dCall T G.fs k i))
  | 0, i, F, a, fd, hF, _ => by
    refine ⟨fun vs H Q E' h => ?_, fun A out s H ar us vs Q E' _ _ _ _ _ h => ?_⟩
    · obtain ⟨_, _, _, _, _, _, _, _, _, e, _⟩ := h
      cases e
    · obtain ⟨_, _, _, _, _, _, _, _, _, e, _⟩ := h
      cases e
  | k + 1, i, F, a, fd, hF, dk => by
    obtain ⟨x, qual, params, body, scope, FD, sc, ck⟩ := dk.at_
    refine Z.FunD.okG FD sc (fun vs H Q E' h => ?_) (fun cdv A out s H vs Q E' hr hg h => ?_)
    · obtain ⟨As, bad, μ, ds, d, o, μ', c, r, e, _⟩ := h
      unfold dCall at e
      rw [hF] at e
      dsimp only at e
      split at e
      · rename_i hl
        rw [r.length, hl]
      · cases e
    · have gd : Gd (cxOf CX0 P w K mg base F.ns qual scope a cdv A out s H E') E T (G.sta F) ⟨scope, none⟩ (dCall T G.fs k) := by
        refine ⟨M.hK, rfl, rfl, sc.nd, rfl, ?_, ?_, fun _ _ => rfl, M.mg0, M.con, fun f y hy => ?_⟩
        · exact hg
        · have := hr.un
          show (A.deeper _).units + 100 < cLine
          omega
        · have hy' : (G.fs.map (·.name))[f]? = some y := hy
          rw [List.getElem?_map] at hy'
          cases q : G.fs[f]? with
          | none =>
            rw [q] at hy'
            cases hy'
          | some F' =>
            rw [q] at hy'
            cases hy'
            obtain ⟨a', fd', dk'⟩ := M.fs f F' q
            exact ⟨a', fd', F'.ps, k, lvl M k f F' a' fd' q dk', hr, dk'.mg, dk'.kp, dk'.binds, by show (G.fs.map (·.ps))[f]? = some F'.ps; rw [List.getElem?_map, q]; rfl, dk'.bindk⟩
      refine ⟨_, (s_all F.body).2 _ _ body gd sc.kind (passes_of rfl) ck, ?_⟩
      obtain ⟨As, bad, μ, ds, d, o, μ', c, r, e, kf⟩ := h
      unfold dCall at e
      rw [hF] at e
      dsimp only at e
      split at e
      · rename_i hl
        split at e
        · rename_i d1 o1 μ1 q
          cases e
          have sr := start_srel (N := F.ns) r
          rw [hl] at sr
          refine ⟨⟨As, bad, H, μ⟩, As, bad, μ, _, _, ⟨c, c, sr, c.ext0⟩, q, fun v H' As' bad' c' x' r' => kf v H' As' bad' c' x' r'⟩
        · rename_i ρ1 μ1 q
          cases e
          have sr := start_srel (N := F.ns) r
          rw [hl] at sr
          refine ⟨⟨As, bad, H, μ⟩, As, bad, μ, _, _, ⟨c, c, sr, c.ext0⟩, q, fun σ' H' As' bad' s' x' => kf .non H' As' bad' s'.c s'.x .non⟩
        · cases e
      · cases e
end
end Z
end

section
set_option Elab.async false
set_option autoImplicit false
set_option linter.all false
set_option maxRecDepth 100000
set_option maxHeartbeats 2000000
/-! The head: constants of the module, the law's call. -/
namespace Z
open PySem PySem.Spec PyProof.Rows L2

mutual
/-- u is the tree d, all in the written part -/
def repB (K : PySem.W.Frag) : D → Value → Bool
  | .non, u => (match u with
    | .none => true
    | _ => false)
  | .bl b, u => (match u with
    | .bool c => b == c
    | _ => false)
  | .int i, u => (match u with
    | .int j _ => decide (i = j)
    | _ => false)
  | .str x, u => (match u with
    | .str y _ => decide (x = y)
    | _ => false)
  | .tup ds, u => (match u with
    | .ref a => (match K.lookup a with
      | some ⟨.type c, none, .seq its _, sl⟩ => decide (c = "tuple") && decide (sl = #[]) && decide (its.size ≤ sizeLine) && repBs K ds its.toList
      | _ => false)
    | _ => false)
  | .lst ds, u => (match u with
    | .ref a => (match K.lookup a with
      | some ⟨.type c, none, .seq its _, sl⟩ => decide (c = "list") && decide (sl = #[]) && decide (its.size ≤ sizeLine) && repBs K ds its.toList
      | _ => false)
    | _ => false)
  | _, _ => false
def repBs (K : PySem.W.Frag) : List D → List Value → Bool
  | [], us => (match us with
    | [] => true
    | _ => false)
  | d :: ds, us => (match us with
    | u :: us => repB K d u && repBs K ds us
    | _ => false)
end
section
variable {E : En}
mutual
theorem repB_ok : ∀ {d : D} {u : Value}, repB E.K d u = true → ∃ v, RelV v u ∧ ∀ As H bad, Rep E As H bad v d
  | .non, u, h => by
    cases u <;> first
      | exact ⟨.non, rfl, fun _ _ _ => .non⟩
      | (unfold repB at h; cases h)
  | .bl b, u, h => by
    cases u <;> first
      | (unfold repB at h
         have e := eq_of_beq h
         subst e
         exact ⟨.bl _, rfl, fun _ _ _ => .bl _⟩)
      | (unfold repB at h; cases h)
  | .int i, u, h => by
    cases u <;> first
      | (unfold repB at h
         have e := of_decide_eq_true h
         subst e
         exact ⟨.int _, ⟨_, rfl⟩, fun _ _ _ => .int _⟩)
      | (unfold repB at h; cases h)
  | .str x, u, h => by
    cases u <;> first
      | (unfold repB at h
         have e := of_decide_eq_true h
         subst e
         exact ⟨.str _, ⟨_, rfl⟩, fun _ _ _ => .str _⟩)
      | (unfold repB at h; cases h)
  | .tup ds, u, h => by
    unfold repB at h
    split at h
    · rename_i a
      split at h
      · rename_i c its n sl q
        obtain ⟨h, h4⟩ := and4 h
        obtain ⟨h, h3⟩ := and4 h
        obtain ⟨h1, h2⟩ := and4 h
        obtain ⟨vs, r1, r2⟩ := repBs_ok h4
        have e1 := of_decide_eq_true h1
        have e2 := of_decide_eq_true h2
        subst e1 e2
        exact ⟨.ref a, rfl, fun As H bad => .tupK ⟨its.toList, n, by rw [q], by simpa using of_decide_eq_true h3, r1⟩ (r2 As H bad)⟩
      · cases h
    · cases h
  | .lst ds, u, h => by
    unfold repB at h
    split at h
    · rename_i a
      split at h
      · rename_i c its n sl q
        obtain ⟨h, h4⟩ := and4 h
        obtain ⟨h, h3⟩ := and4 h
        obtain ⟨h1, h2⟩ := and4 h
        obtain ⟨vs, r1, r2⟩ := repBs_ok h4
        have e1 := of_decide_eq_true h1
        have e2 := of_decide_eq_true h2
        subst e1 e2
        exact ⟨.ref a, rfl, fun As H bad => .lstK ⟨its.toList, n, by rw [q], by simpa using of_decide_eq_true h3, r1⟩ (r2 As H bad)⟩
      · cases h
    · cases h
  | .dct _, u, h => by
    unfold repB at h
    cases h
  | .cell _, u, h => by
    unfold repB at h
    cases h
  | .fn _, u, h => by
    unfold repB at h
    cases h
theorem repBs_ok : ∀ {ds : List D} {us : List Value}, repBs E.K ds us = true → ∃ vs, Vals vs us ∧ ∀ As H bad, Reps E As H bad vs ds
  | [], us, h => by
    unfold repBs at h
    split at h
    · exact ⟨[], .nil, fun _ _ _ => .nil⟩
    · cases h
  | d :: ds, us, h => by
    unfold repBs at h
    split at h
    · obtain ⟨h1, h2⟩ := and4 h
      obtain ⟨v, r1, q1⟩ := repB_ok h1
      obtain ⟨vs, r2, q2⟩ := repBs_ok h2
      exact ⟨v :: vs, .cons r1 r2, fun As H bad => .cons (q1 As H bad) (q2 As H bad)⟩
    · cases h
end
end
/-- a constant of the module -/
def conB (K : PySem.W.Frag) (p : Str × D) : Bool := match PySem.W.nsIn K mainGlobals p.1 with
  | some (some u) => repB K p.2 u
  | _ => false
/-- the head's look: the defs, the facts, the constants, the names that are free -/
def obsZ (n : Nat) (fa : List He.Fa) (fn : List He.DefD) (cs : List (Str × D)) (g : Addr → Option Obj) : He.AlD × Bool :=
  (He.obsDG n fa fn g, cs.all (conB (He.frG g (He.asD g n))))
def hookZ (n : Nat) (fa : List He.Fa) (fn : List He.DefD) (cs : List (Str × D)) : PySem.W.Hook where
  α := He.AlD × Bool
  obs := fun s => obsZ n fa fn cs s.heap.get?
  val := fun _ => (He.valD fn, true)
  says := fun _ h => ∃ K : PySem.W.Frag, K.In h ∧ He.SaysD fa fn K ∧ cs.all (conB K) = true
  of := fun _ s e => ⟨_, He.frG_in, congrArg (fun z : He.AlD × Bool => z.1) e, congrArg (fun z : He.AlD × Bool => z.2) e⟩
  keeps := fun _ _ _ ⟨K, hK, c⟩ k => ⟨K, PySem.W.Frag.In.keeps hK k, c⟩
theorem obsZ_eq {n : Nat} {fa : List He.Fa} {fn : List He.DefD} {cs : List (Str × D)} {g : Addr → Option Obj} {s : Shared} (h : ∀ a, g a = s.heap.get? a) : obsZ n fa fn cs g = (hookZ n fa fn cs).obs s := by
  have e : g = s.heap.get? := funext h
  rw [e] <;> rfl
end Z
end

section
set_option Elab.async false
set_option autoImplicit false
set_option linter.all false
set_option maxRecDepth 100000
set_option maxHeartbeats 2000000
/-! The law's own call. -/
namespace Z
open PySem PySem.Spec PyProof.Rows L2

/-- a caller outside, the script alone known -/
theorem enterG {P : Program} {w : World} {E : En} {mg mb : Str → Option Value} {k : Nat} {fa a : Addr} {fd : FuncData} {x : Str} {c : List D → Mu → RE} {t : Shared} {H : Hp} {so : Obj} {ns : List Int} {o : Bool} {μ' : Mu}
    (inK : E.K.In t.heap) (nm : t.heap.Ns mainGlobals mg) (nb : t.heap.Ns builtinsNs mb) (bb : ∀ y : Str, y ≠ "__name__" → mb y = bootBuiltins y) (lim : t.heap.NoLimit) (gen : t.gens = #[]) (room : Room k callerA)
    (F : ∀ base : Heap, E.K.In base → base.Ns mainGlobals mg → FnG P w E.K mg base CX0 k fa fd [x] (spC E c)) (bind : ∀ (s : Shared) (u : Value), BindsTo s fd ⟨[u], []⟩ [(x, u)])
    (at_ : t.heap.get? a = some so) (nd : ∀ es ep, so.data ≠ .dict es ep) (ok : HOk P w H t.heap) (only : ∀ b u, H b = some u → b = a ∧ E.K.lookup a = none ∧ ∃ xs, u = .frz so (.lst xs))
    (rp : Rep E [] H (fun _ => False) (.ref a) (.lst (ns.map .int))) (ans : c [.lst (ns.map .int)] [] = some (.bl true, o, μ')) :
    codeAny (model P w) callerA (.call (.ref fa) ⟨[.ref a], []⟩) (fun r s' => r = .ok (.ret (.bool true)) ∧ OldK t.heap s'.heap ∧ s'.os = t.os ∧ AllBare s'.gens) t := by
  have free : ∀ {b : Addr} {ob : Obj}, t.heap.get? b = some ob → (b = a → E.K.lookup a ≠ none ∨ ∃ es ep, ob.data = .dict es ep) → H b = none := fun {b ob} g z => by
    cases hb : H b with
    | none => rfl
    | some u =>
      obtain ⟨rfl, h2, _⟩ := only b u hb
      rcases z rfl with z | ⟨es, ep, z⟩
      · exact absurd h2 z
      · rw [at_] at g
        cases g
        exact absurd z (nd es ep)
  have ns1 : ∀ {b : Addr} {m : Str → Option Value}, t.heap.Ns b m → (hidT t.heap H).Ns b m := fun {b m} z => by
    obtain ⟨ob, es, ep, g, gd, rest⟩ := z
    exact ⟨ob, es, ep, hidT_get g (free g fun _ => .inr ⟨es, ep, gd⟩), gd, rest⟩
  have inB : E.K.In (hidT t.heap H) := fun b ob g => hidT_get (inK b ob g) (free (inK b ob g) fun z => .inl (by rw [← z, g]; simp))
  obtain ⟨mc, l1, l2⟩ := lim
  have en : Env0 P w E.K mg (hidT t.heap H) callerA [] t H := by
    refine ⟨rfl, ⟨inB, ns1 nm, ⟨mb, ns1 nb, bb⟩, ⟨mc, ns1 l1, l2⟩⟩, fun b ob g => of_hidT g, ?_, True.intro, fun b m => ?_, ok, AllBare.of_eq gen⟩
    · rw [hidT_size]
      exact Nat.le_refl _
    · cases m
  have c0 : CRel E [] (fun _ => False) H [] := by
    refine ⟨List.nodup_nil, fun b m => ?_, fun b z => z.elim, rfl, fun n b ds h => ?_⟩
    · cases m
    · cases h
  have pr : spC E c [.ref a] H (fun v _ => v = .bl true) E0 := by
    refine ⟨[], _, [], _, _, o, μ', c0, .cons rp .nil, ans, fun v H' As' bad' cc xx r => repO_bl r⟩
  have go := (F _ inB (ns1 nm)).run callerA [] t H ⟨[.ref a], []⟩ [.ref a] [.ref a] _ _ room rfl en (bind t (.ref a)) (.cons rfl .nil) pr
  refine codeAny_mono go fun r s' q => ?_
  cases r with
  | error e => exact False.elim q
  | ok fl => cases fl with
    | ret u =>
      obtain ⟨v, H', h1, h2, h3, h4, h5, h6⟩ := q
      have h6' : v = .bl true := h6
      subst h6'
      have h5' : u = .bool true := h5
      subst h5'
      refine ⟨rfl, OldK.of_keep fun b ob g => ?_, h1, h2⟩
      cases hb : H b with
      | none => exact h3.keep b ob g hb (fun m => nomatch m) (fun m => nomatch m)
      | some u =>
        obtain ⟨rfl, _, xs, rfl⟩ := only b u hb
        obtain ⟨g1, _⟩ := ok b _ hb
        obtain ⟨g2, _⟩ := h4 b _ (h3.frzs b so _ hb)
        rw [g] at g1
        cases g1
        exact g2
    | next => exact False.elim q
    | brk => exact False.elim q
    | cont => exact False.elim q
theorem ints_reps {E : En} {As : List Addr} {H : Hp} {bad : Addr → Prop} : ∀ ns : List Int, Reps E As H bad (ns.map V.int) (ns.map D.int)
  | [] => .nil
  | i :: ns => .cons (.int i) (ints_reps ns)
/-- one thing alone -/
def oneH (a : Addr) (o : Obj) (vs : List V) : Hp := fun b => if b = a then some (.frz o (.lst vs)) else none
theorem oneH_at {a : Addr} {o : Obj} {vs : List V} : oneH a o vs a = some (.frz o (.lst vs)) := if_pos rfl
theorem oneH_of {a b : Addr} {o : Obj} {vs : List V} {u : HO} (h : oneH a o vs b = some u) : b = a ∧ u = .frz o (.lst vs) := by
  unfold oneH at h
  split at h
  · cases h
    exact ⟨by assumption, rfl⟩
  · cases h
/-- the walk of a law whose def is a term -/
theorem walkG {l : PySem.W.OpenLaw} {n k : Nat} {q : Program} {loose : List Str} {XP : (Str → Option Value) → Heap → Prop} {YP : World → Heap → Prop} {d : DefRec} {x : Str}
    (hn : l.most = some n) (hn2 : n ≤ sizeLine) (hdf : d.params.defaults = []) (room : Room k callerA)
    (F : ∀ (w : World) (mg : Str → Option Value) (fa : Addr) (h : Heap), YP w h → h.Ns mainGlobals mg → mg d.name = some (.ref fa) →
      ∃ (E : En) (fd : FuncData) (c : List D → Mu → RE), E.K.In h ∧ (∀ (s : Shared) (u : Value), BindsTo s fd ⟨[u], []⟩ [(x, u)]) ∧
        (∀ ns : List Int, ns.length ≤ n → (∀ z ∈ ns, Builtin.Int.intBits z ≤ 1048576) → ∃ o μ', c [.lst (ns.map .int)] [] = some (.bl true, o, μ')) ∧
        ∀ base : Heap, E.K.In base → base.Ns mainGlobals mg → FnG l.prog w E.K mg base CX0 k fa fd [x] (spC E c)) :
    PySem.W.WalkO q loose XP YP l.row.toRowW d [] (fun f vs => PySem.call f vs) := by
  refine Att.attach_callB hn hdf fun w s0 t mg mb fa fo pm cd doc a us ns G Y _ _ _ hm at_ iis hl bits gen => ?_
  obtain ⟨E, fd, c, inK, bind, ans, FF⟩ := F w mg fa _ Y G.T.g hm
  obtain ⟨o, μ', an⟩ := ans ns hl bits
  have rv := vals_ints iis
  have len := iis.length
  have hz : ns.length ≤ sizeLine := Nat.le_trans hl hn2
  have nod : ∀ es ep, ({ cls := .type "list", data := .seq us.toArray } : Obj).data ≠ .dict es ep := fun es ep z => by cases z
  cases hk : E.K.lookup a with
  | some so =>
    have e := inK a so hk
    rw [at_] at e
    cases e
    refine enterG (H := fun _ => none) inK G.T.g G.T.b G.T.builtins G.T.nolimit gen room FF bind at_ nod (fun b u z => nomatch z) (fun b u z => nomatch z) (.lstK (vs := ns.map V.int) ⟨us, _, hk, ?_, rv⟩ (ints_reps ns)) an
    rw [len]
    exact hz
  | none =>
    refine enterG (H := oneH a { cls := .type "list", data := .seq us.toArray } (ns.map V.int)) inK G.T.g G.T.b G.T.builtins G.T.nolimit gen room FF bind at_ nod (fun b u z => ?_) (fun b u z => ?_) (.lst (vs := ns.map V.int) (.inr ⟨_, oneH_at⟩) (fun z => z) (ints_reps ns)) an
    · obtain ⟨rfl, rfl⟩ := oneH_of z
      exact ⟨at_, by rw [List.length_map]; exact hz, us, _, rv, at_⟩
    · obtain ⟨rfl, rfl⟩ := oneH_of z
      exact ⟨rfl, hk, _, rfl⟩
end Z
end

section
set_option Elab.async false
set_option autoImplicit false
set_option linter.all false
set_option maxRecDepth 100000
set_option maxHeartbeats 2000000
/-! Plain parameters; all that a law's row is asked. -/
namespace Z
open PySem PySem.Spec PyProof.Rows L2

/-- parameters without more -/
def argB (p : Arguments) (ps : List Str) : Bool := p.posonlyargs.isEmpty && p.vararg.isNone && p.kwonlyargs.isEmpty && p.kwarg.isNone && p.defaults.isEmpty && decide (p.args.map (·.arg) = ps) && decide ps.Nodup
theorem fm_congr {α β : Type} {f g : α → Option β} : ∀ {l : List α}, (∀ x ∈ l, f x = g x) → l.filterMap f = l.filterMap g
  | [], _ => rfl
  | x :: l, h => by
    rw [List.filterMap_cons, List.filterMap_cons, h x (List.mem_cons_self), fm_congr fun y hy => h y (List.mem_cons_of_mem _ hy)]
theorem look_zip {ps : List Str} (nd : ps.Nodup) : ∀ {us : List Value}, us.length = ps.length → ps.filterMap (fun n => ((ps.zip us).lookup n).map (n, ·)) = ps.zip us := by
  induction ps with
  | nil =>
    intro us h
    rfl
  | cons p ps ih =>
    intro us h
    cases us with
    | nil => cases h
    | cons u us =>
      obtain ⟨h1, h2⟩ := List.nodup_cons.mp nd
      have hl : us.length = ps.length := by simpa using h
      rw [List.filterMap_cons]
      have e1 : ((p :: ps).zip (u :: us)).lookup p = some u := by
        rw [List.zip_cons_cons, List.lookup_cons]
        simp
      rw [e1]
      show (p, u) :: ps.filterMap _ = (p, u) :: ps.zip us
      congr 1
      rw [← ih h2 hl]
      apply fm_congr
      intro n hn
      have hne : (n == p) = false := by
        apply beq_eq_false_iff_ne.mpr
        intro e
        exact h1 (e ▸ hn)
      rw [List.zip_cons_cons, List.lookup_cons, hne]
theorem look_some {ps : List Str} : ∀ {us : List Value}, us.length = ps.length → ∀ n ∈ ps, ((ps.zip us).lookup n).isNone = false := by
  induction ps with
  | nil =>
    intro us h n hn
    cases hn
  | cons p ps ih =>
    intro us h n hn
    cases us with
    | nil => cases h
    | cons u us =>
      rw [List.zip_cons_cons, List.lookup_cons]
      cases q : n == p with
      | true => rfl
      | false =>
        rcases List.mem_cons.mp hn with rfl | hn
        · simp at q
        · exact ih (by simpa using h) n hn
theorem bind_plain {x qual : Str} {p : Arguments} {body : List Stmt} {scope : Scope} {ps : List Str} {kV doc pm : Value} {an : Option Addr} {cdv ct : Value} {us : List Value} (h : argB p ps = true) (hl : us.length = ps.length) :
    bindArgs (PySem.W.fnOf x qual p body scope .none kV doc pm an cdv ct) ⟨us, []⟩ = pure (ps.zip us) := by
  unfold argB at h
  obtain ⟨h, h7⟩ := and4 h
  obtain ⟨h, h6⟩ := and4 h
  obtain ⟨h, h5⟩ := and4 h
  obtain ⟨h, h4⟩ := and4 h
  obtain ⟨h, h3⟩ := and4 h
  obtain ⟨h1, h2⟩ := and4 h
  obtain ⟨po, ar, va, ko, kd, ka, df⟩ := p
  cases po with
  | cons _ _ => cases h1
  | nil =>
  cases va with
  | some _ => cases h2
  | none =>
  cases ko with
  | cons _ _ => cases h3
  | nil =>
  cases ka with
  | some _ => cases h4
  | none =>
  have e6 : ar.map (·.arg) = ps := of_decide_eq_true h6
  have nd : ps.Nodup := of_decide_eq_true h7
  have hm : (ps.take ps.length).filter (fun n => ((ps.zip us).lookup n).isNone) = [] := by
    rw [List.filter_eq_nil_iff]
    intro n hn
    rw [look_some hl n (List.mem_of_mem_take hn)]
    decide
  have hz := look_zip nd hl
  have hs : seqItems? Value.none = pure none := rfl
  have hgt : ¬ us.length > ps.length := by omega
  unfold bindArgs
  simp only [PySem.W.fnOf, List.map_nil, List.nil_append, e6, hs, List.forIn_nil, pure_bind, Option.getD_none, List.append_nil, List.length_nil, Nat.zero_sub, List.drop_zero, Nat.sub_zero, List.drop_length, List.zip_nil_left, List.zip_nil_right, hm, List.isEmpty_nil, Bool.not_true, hgt, decide_false, Bool.false_and, Bool.false_eq_true, if_false, hz]
theorem lk_nth {α : Type} {xs : List Str} {ys : List α} (nd : xs.Nodup) : ∀ {i : Nat} {x : Str} {y : α}, xs[i]? = some x → ys[i]? = some y → (xs.zip ys).lookup x = some y := by
  induction xs generalizing ys with
  | nil => intro i x y h; cases h
  | cons a xs ih =>
    intro i x y h1 h2
    obtain ⟨n1, n2⟩ := List.nodup_cons.mp nd
    cases ys with
    | nil => cases h2
    | cons b ys =>
      rw [List.zip_cons_cons, List.lookup_cons]
      cases i with
      | zero =>
        cases h1
        cases h2
        simp
      | succ i =>
        have h1' : xs[i]? = some x := by simpa using h1
        have hne : (x == a) = false := by
          apply beq_eq_false_iff_ne.mpr
          intro e
          exact n1 (e ▸ List.mem_of_getElem? h1')
        rw [hne]
        exact ih n2 h1' (by simpa using h2)
theorem lk_none {α : Type} {x : Str} : ∀ {xs : List Str} {ys : List α}, x ∉ xs → (xs.zip ys).lookup x = none
  | [], _, _ => rfl
  | _ :: _, [], _ => rfl
  | a :: xs, b :: ys, h => by
    rw [List.zip_cons_cons, List.lookup_cons]
    have hne : (x == a) = false := by
      apply beq_eq_false_iff_ne.mpr
      intro e
      exact h (e ▸ List.mem_cons_self)
    rw [hne]
    exact lk_none fun m => h (List.mem_cons_of_mem _ m)
theorem pm_get {α : Type} {ws : List α} : ∀ {pm : List Nat}, (∀ i ∈ pm, i < ws.length) → ∀ j : Nat, (pmL pm ws)[j]? = pm[j]?.bind (ws[·]?)
  | [], _, j => rfl
  | i :: pm, h, j => by
    have hi := h i List.mem_cons_self
    have e : pmL (i :: pm) ws = ws[i] :: pmL pm ws := by
      unfold pmL
      rw [List.filterMap_cons, List.getElem?_eq_getElem hi]
    rw [e]
    cases j with
    | zero => show some _ = _; rw [List.getElem?_cons_zero]; show some _ = ws[i]?; rw [List.getElem?_eq_getElem hi]
    | succ j => rw [List.getElem?_cons_succ, List.getElem?_cons_succ]; exact pm_get (fun i hi => h i (List.mem_cons_of_mem _ hi)) j
theorem lk_first {α : Type} {ps : List Str} {n i : Nat} {x : Str} {us : List α} (nd : ps.Nodup) (l1 : us.length = n) (hin : n ≤ i) (hi : ps[i]? = some x) : (ps.zip us).lookup x = none := by
  cases q : (ps.zip us).lookup x with
  | none => rfl
  | some u =>
    exfalso
    have hm : (x, u) ∈ ps.zip us := by
      clear hi nd l1 hin
      induction ps generalizing us with
      | nil => cases q
      | cons p ps ih =>
        cases us with
        | nil => cases q
        | cons v us =>
          rw [List.zip_cons_cons, List.lookup_cons] at q
          rw [List.zip_cons_cons]
          cases e : x == p with
          | true =>
            rw [e] at q
            cases q
            rw [eq_of_beq e]
            exact List.mem_cons_self
          | false =>
            rw [e] at q
            exact List.mem_cons_of_mem _ (ih q)
    obtain ⟨j, hj⟩ := List.mem_iff_getElem?.mp hm
    obtain ⟨a1, a2⟩ := List.getElem?_zip_eq_some.mp hj
    obtain ⟨b1, b2⟩ := List.getElem?_eq_some_iff.mp a1
    obtain ⟨c1, c2⟩ := List.getElem?_eq_some_iff.mp hi
    have := (List.getElem_inj nd).mp (b2.trans c2.symm)
    have := (List.getElem?_eq_some_iff.mp a2).1
    omega
theorem pm_len {α : Type} {ws : List α} : ∀ {pm : List Nat}, (∀ i ∈ pm, i < ws.length) → (pmL pm ws).length = pm.length
  | [], _ => rfl
  | i :: pm, h => by
    unfold pmL
    rw [List.filterMap_cons, List.getElem?_eq_getElem (h i List.mem_cons_self)]
    show (pmL pm ws).length + 1 = pm.length + 1
    rw [pm_len fun i hi => h i (List.mem_cons_of_mem _ hi)]
theorem kw_look {ps ks : List Str} {n : Nat} {pm : List Nat} {us ws : List Value} (nd : ps.Nodup) (h : kwB ps n ks pm = true) (l1 : us.length = n) (l2 : ws.length = ks.length) : ∀ x ∈ ps, (ps.zip us ++ ks.zip ws).lookup x = (ps.zip (us ++ pmL pm ws)).lookup x := by
  unfold kwB at h
  obtain ⟨h, h5⟩ := and4 h
  obtain ⟨h, h4⟩ := and4 h
  obtain ⟨h, h3⟩ := and4 h
  obtain ⟨h1, h2⟩ := and4 h
  have h1' : ks.Nodup := of_decide_eq_true h1
  have h2' : n ≤ ps.length := of_decide_eq_true h2
  have h3' : ps.drop n = pmL pm ks := of_decide_eq_true h3
  have h4' : ∀ i ∈ pm, i < ks.length := fun i hi => of_decide_eq_true (List.all_eq_true.mp h4 i hi)
  intro x hx
  obtain ⟨i, hi⟩ := List.mem_iff_getElem?.mp hx
  rw [List.lookup_append]
  by_cases hin : i < n
  · have hu : us[i]? = some us[i] := List.getElem?_eq_getElem (by omega)
    rw [lk_nth nd hi hu, lk_nth nd hi (y := us[i]) (by rw [List.getElem?_append_left (by omega)]; exact hu)]
    rfl
  · have hd : (ps.drop n)[i - n]? = some x := by
      rw [List.getElem?_drop]
      rw [show n + (i - n) = i by omega]
      exact hi
    have hno : (ps.zip us).lookup x = none := lk_first nd l1 (by omega) hi
    rw [hno, Option.none_or]
    rw [h3', pm_get h4'] at hd
    cases hp : pm[i - n]? with
    | none =>
      rw [hp] at hd
      cases hd
    | some j =>
      rw [hp] at hd
      have hd' : ks[j]? = some x := hd
      have hj : j < ws.length := by
        have := (List.getElem?_eq_some_iff.mp hd').1
        omega
      have hw : ws[j]? = some ws[j] := List.getElem?_eq_getElem hj
      rw [lk_nth h1' hd' hw, lk_nth nd hi (y := ws[j])]
      rw [List.getElem?_append_right (by omega), l1, pm_get (by rw [l2]; exact h4'), hp]
      exact hw
theorem forIn_inv {α β : Type} {F : α → β → Sem (ForInStep β)} (g : β → α → β) (P : List α → β → Prop) (step : ∀ a l b, P (a :: l) b → F a b = pure (.yield (g b a)) ∧ P l (g b a)) : ∀ l b, P l b → forIn l b F = pure (l.foldl g b)
  | [], b, _ => rfl
  | a :: l, b, h => by
    obtain ⟨h1, h2⟩ := step a l b h
    rw [List.forIn_cons, h1, pure_bind]
    exact forIn_inv g P step l _ h2
theorem bindsK {K : PySem.W.Frag} {x qual : Str} {params : Arguments} {body : List Stmt} {scope : Scope} {kws : List (Str × V)} {f : Addr} {fd : FuncData} {us : List Value} {kw binds : List (Str × Value)} (F : FunD K x qual params body scope [] kws f fd)
    (h : ∀ (kV doc pm : Value) (an : Option Addr) (cdv ct : Value), bindArgs (PySem.W.fnOf x qual params body scope .none kV doc pm an cdv ct) ⟨us, kw⟩ = pure binds) (s : Shared) : BindsTo s fd ⟨us, kw⟩ binds := by
  obtain ⟨oc, od, dV, kV, doc, pm, an, cdv, ct, osl, rfl, lk, hcd, hD, hK⟩ := F.ex
  rcases hD with ⟨_, rfl⟩ | ⟨e, _⟩
  · exact .of_eq (h kV doc pm an cdv ct)
  · exact absurd rfl e
theorem bind_kw {x qual : Str} {p : Arguments} {body : List Stmt} {scope : Scope} {ps ks : List Str} {kV doc pm' : Value} {an : Option Addr} {cdv ct : Value} {us ws : List Value} {n : Nat} {pm : List Nat} (h : argB p ps = true) (hk : kwB ps n ks pm = true) (l1 : us.length = n) (l2 : ws.length = ks.length) :
    bindArgs (PySem.W.fnOf x qual p body scope .none kV doc pm' an cdv ct) ⟨us, ks.zip ws⟩ = pure (ps.zip (us ++ pmL pm ws)) := by
  unfold argB at h
  obtain ⟨h, h7⟩ := and4 h
  obtain ⟨h, h6⟩ := and4 h
  obtain ⟨h, h5⟩ := and4 h
  obtain ⟨h, h4⟩ := and4 h
  obtain ⟨h, h3⟩ := and4 h
  obtain ⟨h1, h2⟩ := and4 h
  obtain ⟨po, ar, va, ko, kd, ka, df⟩ := p
  cases po with
  | cons _ _ => cases h1
  | nil =>
  cases va with
  | some _ => cases h2
  | none =>
  cases ko with
  | cons _ _ => cases h3
  | nil =>
  cases ka with
  | some _ => cases h4
  | none =>
  have e6 : ar.map (·.arg) = ps := of_decide_eq_true h6
  have nd : ps.Nodup := of_decide_eq_true h7
  have lk := kw_look nd hk l1 l2
  unfold kwB at hk
  obtain ⟨hk, k5⟩ := and4 hk
  obtain ⟨hk, k4⟩ := and4 hk
  obtain ⟨hk, k3⟩ := and4 hk
  obtain ⟨k1, k2⟩ := and4 hk
  have k2' : n ≤ ps.length := of_decide_eq_true k2
  have k3' : ps.drop n = pmL pm ks := of_decide_eq_true k3
  have hlp : (pmL pm ws).length = ps.length - n := by
    have e : ∀ {α : Type} {zs : List α}, zs.length = ks.length → (pmL pm zs).length = pm.length := fun {α zs} hz => pm_len fun i hi => by rw [hz]; exact of_decide_eq_true (List.all_eq_true.mp k4 i hi)
    rw [e l2, ← e rfl, ← k3', List.length_drop]
  have hl : (us ++ pmL pm ws).length = ps.length := by
    rw [List.length_append, hlp, l1]
    omega
  have hm : (ps.take ps.length).filter (fun n => ((ps.zip us ++ ks.zip ws).lookup n).isNone) = [] := by
    rw [List.filter_eq_nil_iff]
    intro x hx
    have hx' := List.mem_of_mem_take hx
    rw [lk x hx', look_some hl x hx']
    decide
  have hz : ps.filterMap (fun n => ((ps.zip us ++ ks.zip ws).lookup n).map (n, ·)) = ps.zip (us ++ pmL pm ws) := by
    rw [← look_zip nd hl]
    apply fm_congr
    intro x hx
    rw [lk x hx]
  have hs : seqItems? Value.none = pure none := rfl
  have hgt : ¬ us.length > ps.length := by omega
  unfold bindArgs
  simp only [PySem.W.fnOf, List.map_nil, List.nil_append, e6, hs, List.forIn_nil, pure_bind, Option.getD_none, List.append_nil, List.length_nil, Nat.zero_sub, List.drop_zero, Nat.sub_zero, List.drop_length, List.zip_nil_left, List.zip_nil_right, hgt, decide_false, Bool.false_and, Bool.false_eq_true, if_false]
  have hP : (fun (l : List (Str × Value)) (b : List (Str × Value) × List (Str × Value)) => (l.map (·.1)).Nodup ∧ ∀ kv ∈ l, ps.contains kv.1 = true ∧ b.1.lookup kv.1 = none) (ks.zip ws) (ps.zip us, []) := by
    have hkeys : (ks.zip ws).map (·.1) = ks := by
      have : (ks.zip ws).map Prod.fst = ks := List.map_fst_zip (by omega)
      exact this
    refine ⟨by rw [hkeys]; exact of_decide_eq_true k1, fun kv hkv => ?_⟩
    have hmem : kv.1 ∈ ks := by
      rw [← hkeys]
      exact List.mem_map_of_mem hkv
    have hd : kv.1 ∈ ps.drop n := by
      have := List.all_eq_true.mp k5 _ hmem
      simpa using this
    refine ⟨by simpa using List.mem_of_mem_drop hd, ?_⟩
    obtain ⟨j, hj⟩ := List.mem_iff_getElem?.mp hd
    rw [List.getElem?_drop] at hj
    exact lk_first nd l1 (by omega : n ≤ n + j) hj
  rw [forIn_inv (g := fun b kv => (b.1 ++ [kv], b.2)) (P := fun l b => (l.map (·.1)).Nodup ∧ ∀ kv ∈ l, ps.contains kv.1 = true ∧ b.1.lookup kv.1 = none) (fun a l b h => ?_) _ _ hP]
  · have fl : ∀ (l : List (Str × Value)) (b : List (Str × Value) × List (Str × Value)), l.foldl (fun b kv => (b.1 ++ [kv], b.2)) b = (b.1 ++ l, b.2) := by
      intro l
      induction l with
      | nil => intro b; rw [List.append_nil]; rfl
      | cons a l ih => intro b; rw [List.foldl_cons, ih, List.append_assoc]; rfl
    rw [fl, pure_bind]
    simp only [hm, List.isEmpty_nil, Bool.not_true, Bool.false_eq_true, if_false, hz]
  · obtain ⟨h8, h9⟩ := h
    obtain ⟨g1, g2⟩ := h9 a List.mem_cons_self
    rw [List.map_cons] at h8
    obtain ⟨n1, n2⟩ := List.nodup_cons.mp h8
    refine ⟨?_, n2, fun kv hkv => ⟨(h9 kv (List.mem_cons_of_mem _ hkv)).1, ?_⟩⟩
    · rw [g1, g2]
      rfl
    · show (b.1 ++ [a]).lookup kv.1 = none
      rw [List.lookup_append, (h9 kv (List.mem_cons_of_mem _ hkv)).2, Option.none_or]
      obtain ⟨a1, a2⟩ := a
      have hne : (kv.1 == a1) = false := by
        apply beq_eq_false_iff_ne.mpr
        intro e
        have hm : kv.1 ∈ l.map (·.1) := List.mem_map_of_mem hkv
        rw [e] at hm
        exact n1 hm
      rw [List.lookup_cons, hne]
      rfl
def scB (N P : List Str) (sc : Scope) : Bool := (match sc.kind with
  | .function => true
  | _ => false) && !sc.isCoroutine && !sc.isGenerator && decide N.Nodup && decide (N.take P.length = P) && (P.all fun x => match sc.names.lookup x with
  | some .local => true
  | some .cell => true
  | _ => false) && (sc.names.all fun y => match y.2 with
  | .free => false
  | _ => true)
theorem scB_ok {N P : List Str} {sc : Scope} (h : scB N P sc = true) : FnScope N P sc := by
  unfold scB at h
  obtain ⟨h, h7⟩ := and4 h
  obtain ⟨h, h6⟩ := and4 h
  obtain ⟨h, h5⟩ := and4 h
  obtain ⟨h, h4⟩ := and4 h
  obtain ⟨h, h3⟩ := and4 h
  obtain ⟨h1, h2⟩ := and4 h
  refine ⟨?_, by simpa using h2, by simpa using h3, of_decide_eq_true h4, of_decide_eq_true h5, fun x hx => ?_, fun y hy e => ?_⟩
  · split at h1
    · assumption
    · cases h1
  · have q := List.all_eq_true.mp h6 x hx
    split at q
    · exact .inl (by assumption)
    · exact .inr (by assumption)
    · cases q
  · have q := List.all_eq_true.mp h7 y hy
    rw [e] at q
    cases q
/-- a def's place in the text -/
def defOk (G : Pg) (F : Def) (d : He.DefD) : Bool := decide (d.at_ = (F.name, none)) && d.dfl.isEmpty && d.kwd.isEmpty && scB F.ns F.ps d.scope && argB d.params F.ps && mSs (G.sta F) F.body ⟨d.scope, none⟩ d.body
def allOk (G : Pg) : List Def → List He.DefD → Bool
  | [], [] => true
  | F :: fs, d :: ds => defOk G F d && allOk G fs ds
  | _, _ => false
theorem allOk_at {G : Pg} : ∀ {fs : List Def} {ds : List He.DefD} {i : Nat} {F : Def}, allOk G fs ds = true → fs[i]? = some F → ∃ d, ds[i]? = some d ∧ defOk G F d = true
  | [], _, i, F, _, h => by cases h
  | _ :: _, [], _, _, h, _ => by cases h
  | F :: fs, d :: ds, 0, _, h, e => by
    cases e
    exact ⟨d, rfl, (and4 h).1⟩
  | F :: fs, d :: ds, i + 1, F', h, e => by
    obtain ⟨d', h1, h2⟩ := allOk_at (i := i) (and4 h).2 (by simpa using e)
    exact ⟨d', by simpa using h1, h2⟩
/-- the facts that the head is asked: each def a global, each name that is asked for free -/
def facts (G : Pg) (bl : List Str) : List He.Fa := G.fs.map (fun F => He.Fa.glo F.name) ++ bl.map He.Fa.free
section
variable {P : Program} {w : World} {G : Pg} {T : Tab} {bl : List Str} {fn : List He.DefD} {cs : List (Str × D)} {K : PySem.W.Frag} {h : Heap} {mg : Str → Option Value}
theorem cs_get {i : Nat} {x : Str} (hx : (cs.map (·.1))[i]? = some x) : ∃ d, cs[i]? = some (x, d) := by
  rw [List.getElem?_map] at hx
  cases q : cs[i]? with
  | none =>
    rw [q] at hx
    cases hx
  | some p =>
    rw [q] at hx
    cases hx
    exact ⟨p.2, rfl⟩
/-- the module, from the head's look -/
theorem mod_of (X : K.In h) (N : h.Ns mainGlobals mg) (c : He.SaysD (facts G bl) fn K) (cc : cs.all (conB K) = true) (hG : G.cn = cs.map (·.1)) (hT : T.cons = cs.map (·.2)) (ok : allOk G G.fs fn = true) (hl : G.gl = bl) : ModOk K ⟨K, fun _ => none⟩ mg G T := by
  refine ⟨rfl, fun x hx => ?_, fun j x hx => ?_, fun i F hF => ?_⟩
  · rw [hl] at hx
    obtain ⟨i, hi⟩ := List.mem_iff_getElem?.mp hx
    refine He.free_ok X N (x := x) (He.SaysD.fact c (G.fs.length + i) ?_)
    unfold facts
    rw [List.getElem?_append_right (by rw [List.length_map]; omega), List.length_map, Nat.add_sub_cancel_left, List.getElem?_map, hi]
    rfl
  · rw [hG] at hx
    obtain ⟨d, hd⟩ := cs_get hx
    have q := List.all_eq_true.mp cc _ (List.mem_of_getElem? hd)
    unfold conB at q
    dsimp only at q
    split at q
    · rename_i u hu
      obtain ⟨v, r1, r2⟩ := repB_ok (E := ⟨K, fun _ => none⟩) q
      refine ⟨u, v, d, PySem.W.mg_of X N hu, r1, ?_, r2⟩
      rw [hT, List.getElem?_map, hd]
      rfl
    · cases q
  · obtain ⟨d, h1, h2⟩ := allOk_at ok hF
    unfold defOk at h2
    obtain ⟨h2, k6⟩ := and4 h2
    obtain ⟨h2, k5⟩ := and4 h2
    obtain ⟨h2, k4⟩ := and4 h2
    obtain ⟨h2, k3⟩ := and4 h2
    obtain ⟨k1, k2⟩ := and4 h2
    obtain ⟨fd, FD⟩ := He.SaysD.def_ c i h1
    have e1 : d.dvs K = [] := by
      unfold He.DefD.dvs
      rw [List.isEmpty_iff.mp k2]
      rfl
    have e2 : d.kws K = [] := by
      unfold He.DefD.kws
      rw [List.isEmpty_iff.mp k3]
      rfl
    rw [e1, e2] at FD
    have e3 : He.fAd K d.at_ = He.ga K F.name := by
      rw [of_decide_eq_true k1]
      rfl
    rw [e3] at FD
    have g := He.glo_ok X N (x := F.name) (He.SaysD.fact c i (by
      unfold facts
      rw [List.getElem?_append_left (by rw [List.length_map]; exact (List.getElem?_eq_some_iff.mp hF).1), List.getElem?_map, hF]
      rfl))
    exact ⟨He.ga K F.name, fd, ⟨d.name, d.qual, d.params, d.body, d.scope, FD, scB_ok k4, k6⟩, g, fun s us hl => FD.bindsA (fun _ _ _ _ _ _ us hl => bind_plain k5 hl) s us hl, fun n ks pm hk s us ws l1 l2 => bindsK FD (fun _ _ _ _ _ _ => bind_kw k5 hk l1 l2) s⟩
/-- the law's def, for walkG -/
theorem law_of {i k n : Nat} {F : Def} {x : Str} {fa : Addr} (X : K.In h) (N : h.Ns mainGlobals mg) (c : He.SaysD (facts G bl) fn K) (cc : cs.all (conB K) = true) (hG : G.cn = cs.map (·.1)) (hT : T.cons = cs.map (·.2)) (ok : allOk G G.fs fn = true) (hl : G.gl = bl)
    (hF : G.fs[i]? = some F) (hp : F.ps = [x]) (hm : mg F.name = some (.ref fa)) (ans : ∀ ns : List Int, ns.length ≤ n → (∀ z ∈ ns, Builtin.Int.intBits z ≤ 1048576) → ∃ o μ', dCall T G.fs k i [.lst (ns.map .int)] [] = some (.bl true, o, μ')) :
    ∃ (E : En) (fd : FuncData) (c : List D → Mu → RE), E.K.In h ∧ (∀ (s : Shared) (u : Value), BindsTo s fd ⟨[u], []⟩ [(x, u)]) ∧
        (∀ ns : List Int, ns.length ≤ n → (∀ z ∈ ns, Builtin.Int.intBits z ≤ 1048576) → ∃ o μ', c [.lst (ns.map .int)] [] = some (.bl true, o, μ')) ∧
        ∀ base : Heap, E.K.In base → base.Ns mainGlobals mg → FnG P w E.K mg base CX0 k fa fd [x] (spC E c) := by
  have M := mod_of (T := T) (G := G) X N c cc hG hT ok hl
  obtain ⟨a, fd, dk⟩ := M.fs i F hF
  have e := dk.mg.symm.trans hm
  cases e
  refine ⟨⟨K, fun _ => none⟩, fd, dCall T G.fs k i, X, fun s u => ?_, ans, fun base _ _ => ?_⟩
  · have b := dk.bind s [u] (by rw [hp]; rfl)
    rw [hp] at b
    exact b
  · rw [← hp]
    exact lvl M k i F fa fd hF dk
end
end Z
end

section
set_option Elab.async false
set_option autoImplicit false
set_option linter.all false
set_option maxRecDepth 100000
set_option maxHeartbeats 1000000
/-! Terms worked out step by step: what follows a step is a named thing, and waits for the step. -/
namespace Z
open PySem
section
variable {α : Type}
def bR (r : RE) (k : D → Bool → Mu → Option α) : Option α := match r with
  | some (d, o, μ) => k d o μ
  | none => none
def bP (r : Option (D × Mu)) (k : D → Mu → Option α) : Option α := match r with
  | some (d, μ) => k d μ
  | none => none
def bL (r : Option (List D × Mu)) (k : List D → Mu → Option α) : Option α := match r with
  | some (d, μ) => k d μ
  | none => none
def bM (r : Option (List (D × Bool) × Mu)) (k : List (D × Bool) → Mu → Option α) : Option α := match r with
  | some (d, μ) => k d μ
  | none => none
def bZ (r : Option (D × Bool)) (k : D → Bool → Option α) : Option α := match r with
  | some (d, o) => k d o
  | none => none
def bB (r : RE) (k : Bool → Mu → Option α) : Option α := match r with
  | some (.bl b, _, μ) => k b μ
  | _ => none
def bI (r : RE) (k : Int → Mu → Option α) : Option α := match r with
  | some (.int i, _, μ) => k i μ
  | _ => none
def bO (r : Option (Option Int × Mu)) (k : Option Int → Mu → Option α) : Option α := match r with
  | some (d, μ) => k d μ
  | none => none
def bG {β : Type} (r : Option β) (k : β → Option α) : Option α := match r with
  | some b => k b
  | none => none
def bS (r : Option SR) (k : Rho → Mu → Option SR) : Option SR := match r with
  | some (.nx ρ μ) => k ρ μ
  | o => o
theorem bR_s {d : D} {o : Bool} {μ : Mu} {k : D → Bool → Mu → Option α} : bR (some (d, o, μ)) k = k d o μ := rfl
theorem bP_s {d : D} {μ : Mu} {k : D → Mu → Option α} : bP (some (d, μ)) k = k d μ := rfl
theorem bL_s {d : List D} {μ : Mu} {k : List D → Mu → Option α} : bL (some (d, μ)) k = k d μ := rfl
theorem bM_s {d : List (D × Bool)} {μ : Mu} {k : List (D × Bool) → Mu → Option α} : bM (some (d, μ)) k = k d μ := rfl
theorem bZ_s {d : D} {o : Bool} {k : D → Bool → Option α} : bZ (some (d, o)) k = k d o := rfl
theorem bB_s {b o : Bool} {μ : Mu} {k : Bool → Mu → Option α} : bB (some (.bl b, o, μ)) k = k b μ := rfl
theorem bI_s {i : Int} {o : Bool} {μ : Mu} {k : Int → Mu → Option α} : bI (some (.int i, o, μ)) k = k i μ := rfl
theorem bO_s {d : Option Int} {μ : Mu} {k : Option Int → Mu → Option α} : bO (some (d, μ)) k = k d μ := rfl
theorem bG_s {β : Type} {b : β} {k : β → Option α} : bG (some b) k = k b := rfl
theorem bS_n {ρ : Rho} {μ : Mu} {k : Rho → Mu → Option SR} : bS (some (.nx ρ μ)) k = k ρ μ := rfl
theorem bS_r {d : D} {o : Bool} {μ : Mu} {k : Rho → Mu → Option SR} : bS (some (.rt d o μ)) k = some (.rt d o μ) := rfl
theorem bS_b {ρ : Rho} {μ : Mu} {k : Rho → Mu → Option SR} : bS (some (.bk ρ μ)) k = some (.bk ρ μ) := rfl
theorem bS_t {ρ : Rho} {μ : Mu} {k : Rho → Mu → Option SR} : bS (some (.ct ρ μ)) k = some (.ct ρ μ) := rfl
end
/-! what follows -/
def gR (o : Option (Option (D × Bool))) (μ : Mu) : RE := match o with
  | some (some (d, false)) => some (d, false, μ)
  | _ => none
theorem gR_s (d : D) (μ : Mu) : gR (some (some (d, false))) μ = some (d, false, μ) := rfl
def gT (o : Option (Option (D × Bool))) (μ : Mu) : Option SR := match o with
  | some (some (d, w)) => some (.rt d w μ)
  | _ => none
theorem gT_s (d : D) (w : Bool) (μ : Mu) : gT (some (some (d, w))) μ = some (.rt d w μ) := rfl
def sz1 (n : Nat) (x : RE) : RE := if n ≤ sizeLine then x else none
theorem sz1_s {n : Nat} {x : RE} (h : n ≤ 100000) : sz1 n x = x := if_pos (Nat.le_trans h (by decide))
def kVl (μ : Mu) (d : D) : RE := some (d, false, μ)
def kT (ds : List D) (μ : Mu) : RE := sz1 ds.length (some (.tup ds, false, μ))
def kLs (ds : List D) (μ : Mu) : RE := sz1 ds.length (some (.lst ds, true, μ))
def kW (μ : Mu) (d : D) (w : Bool) : RE := some (d, w, μ)
def kBl (μ : Mu) (b : Bool) : RE := some (.bl b, false, μ)
def kNt (b : Bool) (μ : Mu) : RE := some (.bl (!b), false, μ)
def kNg (i : Int) (μ : Mu) : RE := some (.int (-i), false, μ)
def kOp2 (q : Op) (x : D) (y : D) (μ : Mu) : RE := bZ (opD q x y) (kW μ)
def kCp2 (q : Cp) (x : D) (y : D) (μ : Mu) : RE := bG (cpD q x y) (kBl μ)
def kSb2 (x : D) (y : D) (μ : Mu) : RE := bG (subC μ x y) (kVl μ)
def kIs (q : String) (x : D) (μ : Mu) : RE := if plain1 x then some (.bl (isT q x), false, μ) else none
def kBi (q : Bi) (ds : List D) (μ : Mu) : RE := bZ (biD q ds) (kW μ)
def kMd2 (q : Md) (x : D) (ds : List D) (μ : Mu) : RE := bZ (mdD q x ds) (kW μ)
def kRv (x : D) (μ : Mu) : RE := bZ (revD x) (kW μ)
def kSl3 (x : D) (l : Option Int) (h : Option Int) (μ : Mu) : RE := bZ (slcD x l h) (kW μ)
def kMk (d : D) (o : Bool) (μ : Mu) : RE := match d, o with
  | .lst ds, true => some (.cell μ.length, false, μ ++ [ds])
  | _, _ => none
def kGv (d : D) (o : Bool) (μ : Mu) : RE := some (d, false, μ)
def kLc (ys : List D) (μ : Mu) : RE := some (.lst ys, true, μ)
def kPr (d : D) (ds : List D) (μ : Mu) : Option (List D × Mu) := some (d :: ds, μ)
def kPo (d : D) (w : Bool) (ds : List (D × Bool)) (μ : Mu) : Option (List (D × Bool) × Mu) := some ((d, w) :: ds, μ)
def kRt (d : D) (o : Bool) (μ : Mu) : Option SR := some (.rt d o μ)
def kNxt (μ : Mu) (ρ : Rho) : Option SR := some (.nx ρ μ)
def kExS (ρ : Rho) (d : D) (o : Bool) (μ : Mu) : Option SR := some (.nx ρ μ)
def kStO (i : Nat) (ρ : Rho) (d : D) (o : Bool) (μ : Mu) : Option SR := match d, o with
  | .lst ds, true => if i < ρ.length then some (.nx (ρ.set i (some (.lst ds, true))) μ) else none
  | d, false => if i < ρ.length then some (.nx (ρ.set i (some (d, false))) μ) else none
  | _, _ => none
def gA (i : Nat) (ρ : Rho) (d : D) (μ : Mu) (o : Option (Option (D × Bool))) : Option SR := match o with
  | some (some (.lst ds, true)) => if ds.length < sizeLine then some (.nx (ρ.set i (some (.lst (ds ++ [d]), true))) μ) else none
  | _ => none
theorem gA_s {i : Nat} {ρ : Rho} {d : D} {μ : Mu} {ds : List D} (h : ds.length < 100000) : gA i ρ d μ (some (some (.lst ds, true))) = some (.nx (ρ.set i (some (.lst (ds ++ [d]), true))) μ) := if_pos (Nat.lt_of_lt_of_le h (by decide))
def kAp (i : Nat) (ρ : Rho) (d : D) (o : Bool) (μ : Mu) : Option SR := gA i ρ d μ ρ[i]?
def gI (i : Nat) (ρ : Rho) (z : Int) (d : D) (μ : Mu) (o : Option (Option (D × Bool))) : Option SR := match o with
  | some (some (.lst ds, true)) => if 0 ≤ z ∧ z < 2 ^ 62 ∧ ds.length < sizeLine then some (.nx (ρ.set i (some (.lst (ds.take z.toNat ++ [d] ++ ds.drop z.toNat), true))) μ) else none
  | _ => none
theorem gI_s {i : Nat} {ρ : Rho} {z : Int} {d : D} {μ : Mu} {ds : List D} (h0 : 0 ≤ z) (h1 : z < 2 ^ 62) (h : ds.length < 100000) : gI i ρ z d μ (some (some (.lst ds, true))) = some (.nx (ρ.set i (some (.lst (ds.take z.toNat ++ [d] ++ ds.drop z.toNat), true))) μ) := if_pos ⟨h0, h1, Nat.lt_of_lt_of_le h (by decide)⟩
def kIn3 (i : Nat) (ρ : Rho) (z : Int) (d : D) (o : Bool) (μ : Mu) : Option SR := gI i ρ z d μ ρ[i]?
def kSb3 (i : Nat) (ρ : Rho) (d : D) (z : Int) (μ : Mu) : Option SR := match ρ[i]? with
  | some (some (.lst ds, true)) => bG (L2.ixN ds.length z) fun j => some (.nx (ρ.set i (some (.lst (ds.set j d), true))) μ)
  | _ => none
def gC (ρ : Rho) (d : D) (z : Int) (μ : Mu) (o : Option (Option (D × Bool))) : Option SR := match o with
  | some (some (.cell n, false)) => bG μ[n]? fun ds => bG (L2.ixN ds.length z) fun j => some (.nx ρ (μ.set n (ds.set j d)))
  | _ => none
def kSc3 (i : Nat) (ρ : Rho) (d : D) (z : Int) (μ : Mu) : Option SR := gC ρ d z μ ρ[i]?
def kSq (o : Option (List D)) (μ : Mu) : Option (List D × Mu) := bG o fun ds => some (ds, μ)
def kEx1 (x : D) (μ : Mu) : Option (List D × Mu) := bG (seqD x) fun ds => some (ds, μ)
def rngD (ds : List D) (μ1 : Mu) : Option (List D × Mu) := match ds with
  | [.int n] => if -(2 ^ 62) ≤ n ∧ n ≤ sizeLine then some (rngL n.toNat 0, μ1) else none
  | [.int a, .int b] => if -(2 ^ 62) ≤ a ∧ a < 2 ^ 62 ∧ -(2 ^ 62) ≤ b ∧ b < 2 ^ 62 ∧ b - a ≤ sizeLine then some (rngL (b - a).toNat a, μ1) else none
  | _ => none
section
variable (T : Tab) (call : CallT)
def kOp (q : Op) (b : X) (ρ : Rho) (x : D) (μ : Mu) : RE := bP (pkR b ρ μ (dE T call b ρ μ)) (kOp2 q x)
def kCp (q : Cp) (b : X) (ρ : Rho) (x : D) (μ : Mu) : RE := bP (pkR b ρ μ (dE T call b ρ μ)) (kCp2 q x)
def kCh2 (c' : Cp) (e : X) (ρ : Rho) (y : D) (μ : Mu) (t : Bool) : RE := match t with
  | true => bP (pkR e ρ μ (dE T call e ρ μ)) (kCp2 c' y)
  | false => some (.bl false, false, μ)
def kCh1 (c c' : Cp) (e : X) (ρ : Rho) (x y : D) (μ : Mu) : RE := bG (cpD c x y) (kCh2 T call c' e ρ y μ)
def kCh (c c' : Cp) (b e : X) (ρ : Rho) (x : D) (μ : Mu) : RE := bP (pkR b ρ μ (dE T call b ρ μ)) (kCh1 T call c c' e ρ x)
def kSb (b : X) (ρ : Rho) (x : D) (μ : Mu) : RE := bP (pkR b ρ μ (dE T call b ρ μ)) (kSb2 x)
def kMd (q : Md) (es : X) (ρ : Rho) (x : D) (μ : Mu) : RE := bL (dPs T call es ρ μ) (kMd2 q x)
def kSl2 (hi : X) (ρ : Rho) (x : D) (l : Option Int) (μ : Mu) : RE := bO (opO hi μ (dE T call hi ρ μ)) (kSl3 x l)
def kSl (lo hi : X) (ρ : Rho) (x : D) (μ : Mu) : RE := bO (opO lo μ (dE T call lo ρ μ)) (kSl2 T call hi ρ x)
def kAnd (r : X) (ρ : Rho) (b : Bool) (μ : Mu) : RE := match b with
  | true => dE T call r ρ μ
  | false => some (.bl false, false, μ)
def kOr (r : X) (ρ : Rho) (b : Bool) (μ : Mu) : RE := match b with
  | true => some (.bl true, false, μ)
  | false => dE T call r ρ μ
def kIte (x y : X) (ρ : Rho) (b : Bool) (μ : Mu) : RE := match b with
  | true => dE T call x ρ μ
  | false => dE T call y ρ μ
def kCl (f : Nat) (ds : List D) (μ : Mu) : RE := call f ds μ
def kTe2 (y : D) (o : Bool) (μ : Mu) : Option (Option D × Mu) := some (some y, μ)
def kTe (e : X) (ρ2 : Rho) (k : Bool) (μ : Mu) : Option (Option D × Mu) := match k with
  | true => bR (dE T call e ρ2 μ) kTe2
  | false => some (none, μ)
def kTn (c e : X) (μ : Mu) (ρ2 : Rho) : Option (Option D × Mu) := bB (dE T call c ρ2 μ) (kTe T call e ρ2)
/-- one turn of a comprehension -/
def turnC (t c e : X) (own : List Nat) (ρ : Rho) (d : D) (μ : Mu) : Option (Option D × Mu) := bG (dT t d (wipeR ρ own)) (kTn T call c e μ)
def kCm (t c e : X) (own : List Nat) (ρ : Rho) (ds : List D) (μ : Mu) : RE := sz1 ds.length (bL (foldC (turnC T call t c e own ρ) ds μ) kLc)
def kCns (r : X) (ρ : Rho) (d : D) (o : Bool) (μ : Mu) : Option (List D × Mu) := bL (dEs T call r ρ μ) (kPr d)
def kCnp (r : X) (ρ : Rho) (d : D) (μ : Mu) : Option (List D × Mu) := bL (dPs T call r ρ μ) (kPr d)
def kCno (r : X) (ρ : Rho) (d : D) (o : Bool) (μ : Mu) : Option (List (D × Bool) × Mu) := bM (dOs T call r ρ μ) (kPo d o)
def kSeqS (r : X) (ρ : Rho) (μ : Mu) : Option SR := dS T call r ρ μ
def kStT (t : X) (ρ : Rho) (d : D) (o : Bool) (μ : Mu) : Option SR := bG (dT t d ρ) (kNxt μ)
def kPrS (is : List Nat) (ρ : Rho) (ds : List (D × Bool)) (μ : Mu) : Option SR := bG (setR ρ is ds) (kNxt μ)
def kIfS (a b : X) (ρ : Rho) (k : Bool) (μ : Mu) : Option SR := match k with
  | true => dS T call a ρ μ
  | false => dS T call b ρ μ
def kTb (b : X) (μ : Mu) (ρ : Rho) : Option SR := dS T call b ρ μ
/-- one turn of a loop -/
def turnS (t b : X) (d : D) (ρ : Rho) (μ : Mu) : Option SR := bG (dT t d ρ) (kTb T call b μ)
def kFo (t b : X) (ρ : Rho) (ds : List D) (μ : Mu) : Option SR := foldS (turnS T call t b) ds ρ μ
def kCk2 (f : Nat) (pm : List Nat) (ds ds2 : List D) (μ : Mu) : RE := call f (ds ++ pmL pm ds2) μ
def kCk (f : Nat) (pm : List Nat) (ks : X) (ρ : Rho) (ds : List D) (μ : Mu) : RE := bL (dEs T call ks ρ μ) (kCk2 call f pm ds)
def kIn2 (i : Nat) (e : X) (ρ : Rho) (z : Int) (μ : Mu) : Option SR := bR (dE T call e ρ μ) (kIn3 i ρ z)
def kS2 (i : Nat) (k : X) (ρ : Rho) (d : D) (o : Bool) (μ : Mu) : Option SR := bI (dE T call k ρ μ) (kSb3 i ρ d)
def kC2 (i : Nat) (k : X) (ρ : Rho) (d : D) (o : Bool) (μ : Mu) : Option SR := bI (dE T call k ρ μ) (kSc3 i ρ d)
def kEn (x : D) (μ : Mu) : Option (List D × Mu) := match x with
  | .lst ds => some (enumL ds 0, μ)
  | .tup ds => some (enumL ds 0, μ)
  | _ => none
def kZp2 (x y : D) (μ : Mu) : Option (List D × Mu) := bG (zipD x y) fun ds => some (ds, μ)
def kZp (pk : Bool) (b : X) (ρ : Rho) (x : D) (μ : Mu) : Option (List D × Mu) := bP (pkB pk b ρ μ (dE T call b ρ μ)) (kZp2 x)
end
section
variable (T : Tab) (call : CallT) (a b c r e t it o es lo hi : X) (ρ : Rho) (μ : Mu)
theorem kAnd_t : kAnd T call r ρ true μ = dE T call r ρ μ := rfl
theorem kAnd_f : kAnd T call r ρ false μ = some (.bl false, false, μ) := rfl
theorem kOr_t : kOr T call r ρ true μ = some (.bl true, false, μ) := rfl
theorem kOr_f : kOr T call r ρ false μ = dE T call r ρ μ := rfl
theorem kIte_t : kIte T call a b ρ true μ = dE T call a ρ μ := rfl
theorem kIte_f : kIte T call a b ρ false μ = dE T call b ρ μ := rfl
theorem kTe_t : kTe T call e ρ true μ = bR (dE T call e ρ μ) kTe2 := rfl
theorem kTe_f : kTe T call e ρ false μ = some (none, μ) := rfl
theorem kIfS_t : kIfS T call a b ρ true μ = dS T call a ρ μ := rfl
theorem kIfS_f : kIfS T call a b ρ false μ = dS T call b ρ μ := rfl
theorem kCh2_t (q : Cp) (y : D) : kCh2 T call q e ρ y μ true = bP (pkR e ρ μ (dE T call e ρ μ)) (kCp2 q y) := rfl
theorem kCh2_f (q : Cp) (y : D) : kCh2 T call q e ρ y μ false = some (.bl false, false, μ) := rfl
theorem e_var (i : Nat) : dE T call (.var i) ρ μ = gR ρ[i]? μ := rfl
theorem e_cst (d : D) : dE T call (.cst d) ρ μ = if scalar d then some (d, false, μ) else none := rfl
theorem e_con (j : Nat) : dE T call (.con j) ρ μ = bG T.cons[j]? (kVl μ) := by
  have q0 : dE T call (.con j) ρ μ = (match T.cons[j]? with
    | some d => some (d, false, μ)
    | none => none) := rfl
  rw [q0]
  cases T.cons[j]? <;> rfl
theorem e_tup : dE T call (.tup es) ρ μ = bL (dEs T call es ρ μ) kT := by
  have q0 : dE T call (.tup es) ρ μ = (match dEs T call es ρ μ with
    | some (ds, μ1) => if ds.length ≤ sizeLine then some (.tup ds, false, μ1) else none
    | none => none) := rfl
  rw [q0]
  cases dEs T call es ρ μ <;> rfl
theorem e_lst : dE T call (.lst es) ρ μ = bL (dEs T call es ρ μ) kLs := by
  have q0 : dE T call (.lst es) ρ μ = (match dEs T call es ρ μ with
    | some (ds, μ1) => if ds.length ≤ sizeLine then some (.lst ds, true, μ1) else none
    | none => none) := rfl
  rw [q0]
  cases dEs T call es ρ μ <;> rfl
theorem e_bin (q : Op) : dE T call (.bin q a b) ρ μ = bP (pkR a ρ μ (dE T call a ρ μ)) (kOp T call q b ρ) := by
  have q0 : dE T call (.bin q a b) ρ μ = (match pkR a ρ μ (dE T call a ρ μ) with
    | some (x, μ1) => (match pkR b ρ μ1 (dE T call b ρ μ1) with
      | some (y, μ2) => (match opD q x y with
        | some (z, w) => some (z, w, μ2)
        | none => none)
      | none => none)
    | none => none) := rfl
  rw [q0]
  rcases pkR a ρ μ (dE T call a ρ μ) with _ | ⟨x, μ1⟩
  · rfl
  · unfold bP kOp
    dsimp only
    rcases pkR b ρ μ1 (dE T call b ρ μ1) with _ | ⟨y, μ2⟩
    · rfl
    · unfold bP kOp2
      dsimp only
      cases opD q x y <;> rfl
theorem e_neg : dE T call (.neg a) ρ μ = bI (dE T call a ρ μ) kNg := by
  have q0 : dE T call (.neg a) ρ μ = (match dE T call a ρ μ with
    | some (.int i, _, μ1) => some (.int (-i), false, μ1)
    | _ => none) := rfl
  rw [q0]
  rcases dE T call a ρ μ with _ | ⟨d, w, μ1⟩
  · rfl
  · cases d <;> rfl
theorem e_not : dE T call (.not a) ρ μ = bB (dE T call a ρ μ) kNt := by
  have q0 : dE T call (.not a) ρ μ = (match dE T call a ρ μ with
    | some (.bl b, _, μ1) => some (.bl (!b), false, μ1)
    | _ => none) := rfl
  rw [q0]
  rcases dE T call a ρ μ with _ | ⟨d, w, μ1⟩
  · rfl
  · cases d <;> rfl
theorem e_and : dE T call (.and a r) ρ μ = bB (dE T call a ρ μ) (kAnd T call r ρ) := by
  have q0 : dE T call (.and a r) ρ μ = (match dE T call a ρ μ with
    | some (.bl true, _, μ1) => dE T call r ρ μ1
    | some (.bl false, _, μ1) => some (.bl false, false, μ1)
    | _ => none) := rfl
  rw [q0]
  rcases dE T call a ρ μ with _ | ⟨d, w, μ1⟩
  · rfl
  · cases d with
    | bl b => cases b <;> rfl
    | _ => rfl
theorem e_or : dE T call (.or a r) ρ μ = bB (dE T call a ρ μ) (kOr T call r ρ) := by
  have q0 : dE T call (.or a r) ρ μ = (match dE T call a ρ μ with
    | some (.bl true, _, μ1) => some (.bl true, false, μ1)
    | some (.bl false, _, μ1) => dE T call r ρ μ1
    | _ => none) := rfl
  rw [q0]
  rcases dE T call a ρ μ with _ | ⟨d, w, μ1⟩
  · rfl
  · cases d with
    | bl b => cases b <;> rfl
    | _ => rfl
theorem e_one : dE T call (.one a) ρ μ = dE T call a ρ μ := rfl
theorem e_ite : dE T call (.ite c a b) ρ μ = bB (dE T call c ρ μ) (kIte T call a b ρ) := by
  have q0 : dE T call (.ite c a b) ρ μ = (match dE T call c ρ μ with
    | some (.bl true, _, μ1) => dE T call a ρ μ1
    | some (.bl false, _, μ1) => dE T call b ρ μ1
    | _ => none) := rfl
  rw [q0]
  rcases dE T call c ρ μ with _ | ⟨d, w, μ1⟩
  · rfl
  · cases d with
    | bl b => cases b <;> rfl
    | _ => rfl
theorem e_cmp (q : Cp) : dE T call (.cmp q a b) ρ μ = bP (pkR a ρ μ (dE T call a ρ μ)) (kCp T call q b ρ) := by
  have q0 : dE T call (.cmp q a b) ρ μ = (match pkR a ρ μ (dE T call a ρ μ) with
    | some (x, μ1) => (match pkR b ρ μ1 (dE T call b ρ μ1) with
      | some (y, μ2) => (match cpD q x y with
        | some k => some (.bl k, false, μ2)
        | none => none)
      | none => none)
    | none => none) := rfl
  rw [q0]
  rcases pkR a ρ μ (dE T call a ρ μ) with _ | ⟨x, μ1⟩
  · rfl
  · unfold bP kCp
    dsimp only
    rcases pkR b ρ μ1 (dE T call b ρ μ1) with _ | ⟨y, μ2⟩
    · rfl
    · unfold bP kCp2
      dsimp only
      cases cpD q x y <;> rfl
theorem e_chn (q q' : Cp) : dE T call (.chn q q' a b e) ρ μ = bP (pkR a ρ μ (dE T call a ρ μ)) (kCh T call q q' b e ρ) := by
  have q0 : dE T call (.chn q q' a b e) ρ μ = (match pkR a ρ μ (dE T call a ρ μ) with
    | some (x, μ1) => (match pkR b ρ μ1 (dE T call b ρ μ1) with
      | some (y, μ2) => (match cpD q x y with
        | some true => (match pkR e ρ μ2 (dE T call e ρ μ2) with
          | some (z, μ3) => (match cpD q' y z with
            | some k => some (.bl k, false, μ3)
            | none => none)
          | none => none)
        | some false => some (.bl false, false, μ2)
        | none => none)
      | none => none)
    | none => none) := rfl
  rw [q0]
  rcases pkR a ρ μ (dE T call a ρ μ) with _ | ⟨x, μ1⟩
  · rfl
  · unfold bP kCh
    dsimp only
    rcases pkR b ρ μ1 (dE T call b ρ μ1) with _ | ⟨y, μ2⟩
    · rfl
    · unfold bP kCh1
      dsimp only
      rcases cpD q x y with _ | _ | _
      · rfl
      · rfl
      · unfold bG kCh2
        dsimp only
        rcases pkR e ρ μ2 (dE T call e ρ μ2) with _ | ⟨z, μ3⟩
        · rfl
        · unfold bP kCp2
          dsimp only
          cases cpD q' y z <;> rfl
theorem e_call (f : Nat) : dE T call (.call f es) ρ μ = bL (dEs T call es ρ μ) (kCl call f) := by
  have q0 : dE T call (.call f es) ρ μ = (match dEs T call es ρ μ with
    | some (ds, μ1) => call f ds μ1
    | none => none) := rfl
  rw [q0]
  cases dEs T call es ρ μ <;> rfl
theorem e_callk (f : Nat) (pm : List Nat) (ks : X) : dE T call (.callk f pm es ks) ρ μ = bL (dEs T call es ρ μ) (kCk T call f pm ks ρ) := by
  have q0 : dE T call (.callk f pm es ks) ρ μ = (match dEs T call es ρ μ with
    | some (ds, μ1) => (match dEs T call ks ρ μ1 with
      | some (ds2, μ2) => call f (ds ++ pmL pm ds2) μ2
      | none => none)
    | none => none) := rfl
  rw [q0]
  rcases dEs T call es ρ μ with _ | ⟨x, μ1⟩
  · rfl
  · unfold bL kCk
    dsimp only
    rcases dEs T call ks ρ μ1 with _ | ⟨y, μ2⟩ <;> rfl
theorem e_bi (q : Bi) : dE T call (.bi q es) ρ μ = bL (dPs T call es ρ μ) (kBi q) := by
  have q0 : dE T call (.bi q es) ρ μ = (match dPs T call es ρ μ with
    | some (ds, μ1) => (match biD q ds with
      | some (z, w) => some (z, w, μ1)
      | none => none)
    | none => none) := rfl
  rw [q0]
  rcases dPs T call es ρ μ with _ | ⟨x, μ1⟩
  · rfl
  · unfold bL kBi
    dsimp only
    cases biD q x <;> rfl
theorem e_md (q : Md) : dE T call (.md q o es) ρ μ = bP (pkR o ρ μ (dE T call o ρ μ)) (kMd T call q es ρ) := by
  have q0 : dE T call (.md q o es) ρ μ = (match pkR o ρ μ (dE T call o ρ μ) with
    | some (x, μ1) => (match dPs T call es ρ μ1 with
      | some (ds, μ2) => (match mdD q x ds with
        | some (z, w) => some (z, w, μ2)
        | none => none)
      | none => none)
    | none => none) := rfl
  rw [q0]
  rcases pkR o ρ μ (dE T call o ρ μ) with _ | ⟨x, μ1⟩
  · rfl
  · unfold bP kMd
    dsimp only
    rcases dPs T call es ρ μ1 with _ | ⟨y, μ2⟩
    · rfl
    · unfold bL kMd2
      dsimp only
      cases mdD q x y <;> rfl
theorem e_isi (q : String) : dE T call (.isi a q) ρ μ = bP (pkR a ρ μ (dE T call a ρ μ)) (kIs q) := by
  have q0 : dE T call (.isi a q) ρ μ = (match pkR a ρ μ (dE T call a ρ μ) with
    | some (x, μ1) => if plain1 x then some (.bl (isT q x), false, μ1) else none
    | none => none) := rfl
  rw [q0]
  cases pkR a ρ μ (dE T call a ρ μ) <;> rfl
theorem e_sub : dE T call (.sub a b) ρ μ = bP (pkR a ρ μ (dE T call a ρ μ)) (kSb T call b ρ) := by
  have q0 : dE T call (.sub a b) ρ μ = (match pkR a ρ μ (dE T call a ρ μ) with
    | some (x, μ1) => (match pkR b ρ μ1 (dE T call b ρ μ1) with
      | some (y, μ2) => (match subC μ2 x y with
        | some d => some (d, false, μ2)
        | none => none)
      | none => none)
    | none => none) := rfl
  rw [q0]
  rcases pkR a ρ μ (dE T call a ρ μ) with _ | ⟨x, μ1⟩
  · rfl
  · unfold bP kSb
    dsimp only
    rcases pkR b ρ μ1 (dE T call b ρ μ1) with _ | ⟨y, μ2⟩
    · rfl
    · unfold bP kSb2
      dsimp only
      cases subC μ2 x y <;> rfl
theorem e_slc : dE T call (.slc a lo hi) ρ μ = bP (pkR a ρ μ (dE T call a ρ μ)) (kSl T call lo hi ρ) := by
  have q0 : dE T call (.slc a lo hi) ρ μ = (match pkR a ρ μ (dE T call a ρ μ) with
    | some (x, μ1) => (match opO lo μ1 (dE T call lo ρ μ1) with
      | some (l, μ2) => (match opO hi μ2 (dE T call hi ρ μ2) with
        | some (h, μ3) => (match slcD x l h with
          | some (z, w) => some (z, w, μ3)
          | none => none)
        | none => none)
      | none => none)
    | none => none) := rfl
  rw [q0]
  rcases pkR a ρ μ (dE T call a ρ μ) with _ | ⟨x, μ1⟩
  · rfl
  · unfold bP kSl
    dsimp only
    rcases opO lo μ1 (dE T call lo ρ μ1) with _ | ⟨y, μ2⟩
    · rfl
    · unfold bO kSl2
      dsimp only
      rcases opO hi μ2 (dE T call hi ρ μ2) with _ | ⟨z, μ3⟩
      · rfl
      · unfold bO kSl3
        dsimp only
        cases slcD x y z <;> rfl
theorem e_rev : dE T call (.rev a) ρ μ = bP (pkR a ρ μ (dE T call a ρ μ)) kRv := by
  have q0 : dE T call (.rev a) ρ μ = (match pkR a ρ μ (dE T call a ρ μ) with
    | some (x, μ1) => (match revD x with
      | some (z, w) => some (z, w, μ1)
      | none => none)
    | none => none) := rfl
  rw [q0]
  rcases pkR a ρ μ (dE T call a ρ μ) with _ | ⟨x, μ1⟩
  · rfl
  · unfold bP kRv
    dsimp only
    cases revD x <;> rfl
theorem e_comp (own : List Nat) : dE T call (.comp e t it c own) ρ μ = bL (dI T call true it ρ μ) (kCm T call t c e own ρ) := by
  have ht : (fun d μ2 => match dT t d (wipeR ρ own) with
        | none => none
        | some ρ2 => (match dE T call c ρ2 μ2 with
          | some (.bl true, _, μ3) => (match dE T call e ρ2 μ3 with
            | some (y, _, μ4) => some (some y, μ4)
            | none => none)
          | some (.bl false, _, μ3) => some (none, μ3)
          | _ => none)) = turnC T call t c e own ρ := by
    funext d μ2
    unfold turnC
    cases dT t d (wipeR ρ own) with
    | none => rfl
    | some ρ2 =>
      unfold bG kTn
      dsimp only
      rcases dE T call c ρ2 μ2 with _ | ⟨z, w, μ3⟩
      · rfl
      · cases z with
        | bl k => cases k with
          | true =>
            unfold bB kTe
            dsimp only
            rcases dE T call e ρ2 μ3 with _ | ⟨y, w2, μ4⟩ <;> rfl
          | false => rfl
        | _ => rfl
  have q0 : dE T call (.comp e t it c own) ρ μ = (match dI T call true it ρ μ with
    | some (ds, μ1) => if ds.length ≤ sizeLine then (match foldC (turnC T call t c e own ρ) ds μ1 with
      | some (ys, μ5) => some (.lst ys, true, μ5)
      | none => none) else none
    | none => none) := by rw [← ht]; rfl
  rw [q0]
  rcases dI T call true it ρ μ with _ | ⟨ds, μ1⟩
  · rfl
  · unfold bL kCm sz1
    dsimp only
    split
    · rcases foldC (turnC T call t c e own ρ) ds μ1 with _ | ⟨ys, μ5⟩ <;> rfl
    · rfl
theorem e_mk : dE T call (.mk a) ρ μ = bR (dE T call a ρ μ) kMk := by
  have q0 : dE T call (.mk a) ρ μ = (match dE T call a ρ μ with
    | some (.lst ds, true, μ1) => some (.cell μ1.length, false, μ1 ++ [ds])
    | _ => none) := rfl
  rw [q0]
  rcases dE T call a ρ μ with _ | ⟨d, w, μ1⟩
  · rfl
  · cases d with
    | lst ds => cases w <;> rfl
    | _ => rfl
theorem e_giv : dE T call (.giv a) ρ μ = bR (dE T call a ρ μ) kGv := by
  have q0 : dE T call (.giv a) ρ μ = (match dE T call a ρ μ with
    | some (d, _, μ1) => some (d, false, μ1)
    | none => none) := rfl
  rw [q0]
  rcases dE T call a ρ μ with _ | ⟨d, w, μ1⟩ <;> rfl
theorem l_nil : dEs T call .nil ρ μ = some ([], μ) := rfl
theorem l_cons : dEs T call (.cons a r) ρ μ = bR (dE T call a ρ μ) (kCns T call r ρ) := by
  have q0 : dEs T call (.cons a r) ρ μ = (match dE T call a ρ μ with
    | some (d, _, μ1) => (match dEs T call r ρ μ1 with
      | some (ds, μ2) => some (d :: ds, μ2)
      | none => none)
    | none => none) := rfl
  rw [q0]
  rcases dE T call a ρ μ with _ | ⟨d, w, μ1⟩
  · rfl
  · unfold bR kCns
    dsimp only
    cases dEs T call r ρ μ1 <;> rfl
theorem p_nil : dPs T call .nil ρ μ = some ([], μ) := rfl
theorem p_cons : dPs T call (.cons a r) ρ μ = bP (pkR a ρ μ (dE T call a ρ μ)) (kCnp T call r ρ) := by
  have q0 : dPs T call (.cons a r) ρ μ = (match pkR a ρ μ (dE T call a ρ μ) with
    | some (d, μ1) => (match dPs T call r ρ μ1 with
      | some (ds, μ2) => some (d :: ds, μ2)
      | none => none)
    | none => none) := rfl
  rw [q0]
  rcases pkR a ρ μ (dE T call a ρ μ) with _ | ⟨d, μ1⟩
  · rfl
  · unfold bP kCnp
    dsimp only
    cases dPs T call r ρ μ1 <;> rfl
theorem o_nil : dOs T call .nil ρ μ = some ([], μ) := rfl
theorem o_cons : dOs T call (.cons a r) ρ μ = bR (dE T call a ρ μ) (kCno T call r ρ) := by
  have q0 : dOs T call (.cons a r) ρ μ = (match dE T call a ρ μ with
    | some (d, w, μ1) => (match dOs T call r ρ μ1 with
      | some (ds, μ2) => some ((d, w) :: ds, μ2)
      | none => none)
    | none => none) := rfl
  rw [q0]
  rcases dE T call a ρ μ with _ | ⟨d, w, μ1⟩
  · rfl
  · unfold bR kCno
    dsimp only
    cases dOs T call r ρ μ1 <;> rfl
/-! statements -/
theorem s_nil : dS T call .nil ρ μ = some (.nx ρ μ) := rfl
theorem s_cons : dS T call (.cons a r) ρ μ = bS (dS T call a ρ μ) (kSeqS T call r) := by
  have q0 : dS T call (.cons a r) ρ μ = (match dS T call a ρ μ with
    | some (.nx ρ1 μ1) => dS T call r ρ1 μ1
    | o => o) := rfl
  rw [q0]
  rcases dS T call a ρ μ with _ | (_ | _ | _ | _) <;> rfl
theorem s_set : dS T call (.sSet t e) ρ μ = bR (dE T call e ρ μ) (kStT t ρ) := by
  have q0 : dS T call (.sSet t e) ρ μ = (match dE T call e ρ μ with
    | some (d, _, μ1) => (match dT t d ρ with
      | some ρ1 => some (.nx ρ1 μ1)
      | none => none)
    | none => none) := rfl
  rw [q0]
  rcases dE T call e ρ μ with _ | ⟨d, w, μ1⟩
  · rfl
  · unfold bR kStT
    dsimp only
    cases dT t d ρ <;> rfl
theorem s_setO (i : Nat) : dS T call (.sSetO i e) ρ μ = bR (dE T call e ρ μ) (kStO i ρ) := by
  have q0 : dS T call (.sSetO i e) ρ μ = (match dE T call e ρ μ with
    | some (.lst ds, true, μ1) => if i < ρ.length then some (.nx (ρ.set i (some (.lst ds, true))) μ1) else none
    | some (d, false, μ1) => if i < ρ.length then some (.nx (ρ.set i (some (d, false))) μ1) else none
    | _ => none) := rfl
  rw [q0]
  rcases dE T call e ρ μ with _ | ⟨d, w, μ1⟩
  · rfl
  · cases d <;> cases w <;> rfl
theorem s_par (is : List Nat) : dS T call (.sPar is es) ρ μ = bM (dOs T call es ρ μ) (kPrS is ρ) := by
  have q0 : dS T call (.sPar is es) ρ μ = (match dOs T call es ρ μ with
    | some (ds, μ1) => (match setR ρ is ds with
      | some ρ1 => some (.nx ρ1 μ1)
      | none => none)
    | none => none) := rfl
  rw [q0]
  rcases dOs T call es ρ μ with _ | ⟨d, μ1⟩
  · rfl
  · unfold bM kPrS
    dsimp only
    cases setR ρ is d <;> rfl
theorem s_retN : dS T call .sRetN ρ μ = some (.rt .non false μ) := rfl
def retX (e : X) (ρ : Rho) (μ : Mu) (x : RE) : Option SR := match e with
  | .pv i => gT ρ[i]? μ
  | _ => bR x kRt
theorem s_ret : dS T call (.sRet e) ρ μ = retX e ρ μ (dE T call e ρ μ) := by
  have q : ∀ x : RE, (match x with
      | some (d, o, μ1) => some (SR.rt d o μ1)
      | none => none) = bR x kRt := by
    intro x
    rcases x with _ | ⟨d, w, μ1⟩ <;> rfl
  cases e with
  | pv i => rfl
  | _ => first
    | exact q (dE T call _ ρ μ)
    | rfl
theorem s_if : dS T call (.sIf c a b) ρ μ = bB (dE T call c ρ μ) (kIfS T call a b ρ) := by
  have q0 : dS T call (.sIf c a b) ρ μ = (match dE T call c ρ μ with
    | some (.bl true, _, μ1) => dS T call a ρ μ1
    | some (.bl false, _, μ1) => dS T call b ρ μ1
    | _ => none) := rfl
  rw [q0]
  rcases dE T call c ρ μ with _ | ⟨d, w, μ1⟩
  · rfl
  · cases d with
    | bl k => cases k <;> rfl
    | _ => rfl
theorem s_for : dS T call (.sFor t it b) ρ μ = bL (dI T call false it ρ μ) (kFo T call t b ρ) := by
  have ht : (fun d ρ2 μ2 => match dT t d ρ2 with
      | some ρ3 => dS T call b ρ3 μ2
      | none => none) = turnS T call t b := by
    funext d ρ2 μ2
    unfold turnS
    cases dT t d ρ2 <;> rfl
  have q0 : dS T call (.sFor t it b) ρ μ = (match dI T call false it ρ μ with
    | some (ds, μ1) => foldS (turnS T call t b) ds ρ μ1
    | none => none) := by rw [← ht]; rfl
  rw [q0]
  rcases dI T call false it ρ μ with _ | ⟨d, μ1⟩ <;> rfl
theorem s_ex : dS T call (.sEx e) ρ μ = bR (dE T call e ρ μ) (kExS ρ) := by
  have q0 : dS T call (.sEx e) ρ μ = (match dE T call e ρ μ with
    | some (_, _, μ1) => some (.nx ρ μ1)
    | none => none) := rfl
  rw [q0]
  rcases dE T call e ρ μ with _ | ⟨d, w, μ1⟩ <;> rfl
theorem s_app (i : Nat) : dS T call (.sApp i e) ρ μ = bR (dE T call e ρ μ) (kAp i ρ) := by
  have q0 : dS T call (.sApp i e) ρ μ = (match dE T call e ρ μ with
    | some (d, _, μ1) => (match ρ[i]? with
      | some (some (.lst ds, true)) => if ds.length < sizeLine then some (.nx (ρ.set i (some (.lst (ds ++ [d]), true))) μ1) else none
      | _ => none)
    | none => none) := rfl
  rw [q0]
  rcases dE T call e ρ μ with _ | ⟨d, w, μ1⟩ <;> rfl
theorem s_ins (i : Nat) (k : X) : dS T call (.sIns i k e) ρ μ = bI (dE T call k ρ μ) (kIn2 T call i e ρ) := by
  have q0 : dS T call (.sIns i k e) ρ μ = (match dE T call k ρ μ with
    | some (.int z, _, μ1) => (match dE T call e ρ μ1 with
      | some (d, _, μ2) => (match ρ[i]? with
        | some (some (.lst ds, true)) => if 0 ≤ z ∧ z < 2 ^ 62 ∧ ds.length < sizeLine then some (.nx (ρ.set i (some (.lst (ds.take z.toNat ++ [d] ++ ds.drop z.toNat), true))) μ2) else none
        | _ => none)
      | none => none)
    | _ => none) := rfl
  rw [q0]
  rcases dE T call k ρ μ with _ | ⟨d, w, μ1⟩
  · rfl
  · cases d with
    | int z =>
      unfold bI kIn2
      dsimp only
      rcases dE T call e ρ μ1 with _ | ⟨d, w, μ2⟩ <;> rfl
    | _ => rfl
theorem s_sub (i : Nat) (k : X) : dS T call (.sSub i k e) ρ μ = bR (dE T call e ρ μ) (kS2 T call i k ρ) := by
  have q0 : dS T call (.sSub i k e) ρ μ = (match dE T call e ρ μ with
    | some (d, _, μ1) => (match dE T call k ρ μ1 with
      | some (.int z, _, μ2) => (match ρ[i]? with
        | some (some (.lst ds, true)) => (match L2.ixN ds.length z with
          | some j => some (.nx (ρ.set i (some (.lst (ds.set j d), true))) μ2)
          | none => none)
        | _ => none)
      | _ => none)
    | none => none) := rfl
  rw [q0]
  rcases dE T call e ρ μ with _ | ⟨d, w, μ1⟩
  · rfl
  · unfold bR kS2
    dsimp only
    rcases dE T call k ρ μ1 with _ | ⟨z, w2, μ2⟩
    · rfl
    · cases z with
      | int z =>
        unfold bI kSb3
        dsimp only
        rcases ρ[i]? with _ | _ | ⟨d, _ | _⟩
        · rfl
        · rfl
        · cases d <;> rfl
        · cases d with
          | lst ds =>
            dsimp only
            cases L2.ixN ds.length z <;> rfl
          | _ => rfl
      | _ => rfl
theorem s_subC (i : Nat) (k : X) : dS T call (.sSubC i k e) ρ μ = bR (dE T call e ρ μ) (kC2 T call i k ρ) := by
  have q0 : dS T call (.sSubC i k e) ρ μ = (match dE T call e ρ μ with
    | some (d, _, μ1) => (match dE T call k ρ μ1 with
      | some (.int z, _, μ2) => (match ρ[i]? with
        | some (some (.cell n, false)) => (match μ2[n]? with
          | some ds => (match L2.ixN ds.length z with
            | some j => some (.nx ρ (μ2.set n (ds.set j d)))
            | none => none)
          | none => none)
        | _ => none)
      | _ => none)
    | none => none) := rfl
  rw [q0]
  rcases dE T call e ρ μ with _ | ⟨d, w, μ1⟩
  · rfl
  · unfold bR kC2
    dsimp only
    rcases dE T call k ρ μ1 with _ | ⟨z, w2, μ2⟩
    · rfl
    · cases z with
      | int z =>
        unfold bI kSc3 gC
        dsimp only
        rcases ρ[i]? with _ | _ | ⟨d, _ | _⟩
        · rfl
        · rfl
        · cases d with
          | cell n =>
            dsimp only
            cases μ2[n]? with
            | none => rfl
            | some ds =>
              unfold bG
              dsimp only
              cases L2.ixN ds.length z <;> rfl
          | _ => rfl
        · cases d <;> rfl
      | _ => rfl
theorem s_dis (i : Nat) : dS T call (.sDis i a) ρ μ = dS T call a (disown ρ i) μ := rfl
theorem s_pass : dS T call .sPass ρ μ = some (.nx ρ μ) := rfl
theorem i_ex (pk : Bool) : dI T call pk (.iEx a) ρ μ = bP (pkB pk a ρ μ (dE T call a ρ μ)) kEx1 := by
  have q : dI T call pk (.iEx a) ρ μ = (match pkB pk a ρ μ (dE T call a ρ μ) with
    | some (x, μ1) => (match seqD x with
      | some ds => some (ds, μ1)
      | none => none)
    | none => none) := by cases pk <;> rfl
  rw [q]
  rcases pkB pk a ρ μ (dE T call a ρ μ) with _ | ⟨d, μ1⟩
  · rfl
  · unfold bP kEx1
    dsimp only
    cases seqD d <;> rfl
theorem i_rng (pk : Bool) : dI T call pk (.iRng es) ρ μ = bL (dPs T call es ρ μ) rngD := by
  have q : dI T call pk (.iRng es) ρ μ = (match dPs T call es ρ μ with
    | some ([.int n], μ1) => if -(2 ^ 62) ≤ n ∧ n ≤ sizeLine then some (rngL n.toNat 0, μ1) else none
    | some ([.int a, .int b], μ1) => if -(2 ^ 62) ≤ a ∧ a < 2 ^ 62 ∧ -(2 ^ 62) ≤ b ∧ b < 2 ^ 62 ∧ b - a ≤ sizeLine then some (rngL (b - a).toNat a, μ1) else none
    | _ => none) := by cases pk <;> rfl
  rw [q]
  rcases dPs T call es ρ μ with _ | ⟨ds, μ1⟩
  · rfl
  · unfold bL rngD
    dsimp only
    rcases ds with _ | ⟨x, _ | ⟨y, _ | ⟨z, r⟩⟩⟩
    · rfl
    · cases x <;> rfl
    · cases x <;> cases y <;> rfl
    · cases x <;> first | rfl | (cases y <;> rfl)
theorem i_enum (pk : Bool) : dI T call pk (.iEnum a) ρ μ = bP (pkB pk a ρ μ (dE T call a ρ μ)) kEn := by
  have q : dI T call pk (.iEnum a) ρ μ = (match pkB pk a ρ μ (dE T call a ρ μ) with
    | some (x, μ1) => (match x with
      | .lst ds => some (enumL ds 0, μ1)
      | .tup ds => some (enumL ds 0, μ1)
      | _ => none)
    | none => none) := by cases pk <;> rfl
  rw [q]
  rcases pkB pk a ρ μ (dE T call a ρ μ) with _ | ⟨d, μ1⟩
  · rfl
  · cases d <;> rfl
theorem i_zip (pk : Bool) : dI T call pk (.iZip a b) ρ μ = bP (pkB pk a ρ μ (dE T call a ρ μ)) (kZp T call pk b ρ) := by
  have q : dI T call pk (.iZip a b) ρ μ = (match pkB pk a ρ μ (dE T call a ρ μ) with
    | some (x, μ1) => (match pkB pk b ρ μ1 (dE T call b ρ μ1) with
      | some (y, μ2) => (match zipD x y with
        | some ds => some (ds, μ2)
        | none => none)
      | none => none)
    | none => none) := by cases pk <;> rfl
  rw [q]
  rcases pkB pk a ρ μ (dE T call a ρ μ) with _ | ⟨d, μ1⟩
  · rfl
  · unfold bP kZp
    dsimp only
    rcases pkB pk b ρ μ1 (dE T call b ρ μ1) with _ | ⟨y, μ2⟩
    · rfl
    · unfold bP kZp2
      dsimp only
      cases zipD d y <;> rfl
/-! operands -/
def cut1 (x : RE) : Option (D × Mu) := match x with
  | some (d, _, μ1) => some (d, μ1)
  | none => none
theorem cut1_s (d : D) (w : Bool) : cut1 (some (d, w, μ)) = some (d, μ) := rfl
def gP (o : Option (Option (D × Bool))) (μ : Mu) : Option (D × Mu) := match o with
  | some (some (d, _)) => some (d, μ)
  | _ => none
theorem gP_s (d : D) (w : Bool) : gP (some (some (d, w))) μ = some (d, μ) := rfl
theorem pk_pv (i : Nat) (x : RE) : pkR (.pv i) ρ μ x = gP ρ[i]? μ := by
  unfold pkR peekD gP
  dsimp only
  rcases ρ[i]? with _ | _ | ⟨d, w⟩ <;> rfl
theorem pkB_t (x : RE) : pkB true a ρ μ x = pkR a ρ μ x := rfl
theorem pkB_f (x : RE) : pkB false a ρ μ x = cut1 x := rfl
def cutO (x : RE) : Option (Option Int × Mu) := match x with
  | some (.int i, _, μ1) => some (some i, μ1)
  | _ => none
theorem cutO_s (i : Int) (w : Bool) : cutO (some (.int i, w, μ)) = some (some i, μ) := rfl
theorem op_noX (x : RE) : opO .noX μ x = some (none, μ) := rfl
end
section
end
section
variable (ρ : Rho) (μ : Mu)
end
section
variable (ρ : Rho) (μ : Mu)
theorem rx_pv (i : Nat) (x : RE) : retX (.pv i) ρ μ x = gT ρ[i]? μ := rfl
theorem rx_var (i : Nat) (x : RE) : retX (.var i) ρ μ x = bR x kRt := rfl
theorem px_var (i : Nat) (x : RE) : pkR (.var i) ρ μ x = cut1 x := rfl
theorem ox_var (i : Nat) (x : RE) : opO (.var i) μ x = cutO x := rfl
theorem rx_cst (d : D) (x : RE) : retX (.cst d) ρ μ x = bR x kRt := rfl
theorem px_cst (d : D) (x : RE) : pkR (.cst d) ρ μ x = cut1 x := rfl
theorem ox_cst (d : D) (x : RE) : opO (.cst d) μ x = cutO x := rfl
theorem rx_con (i : Nat) (x : RE) : retX (.con i) ρ μ x = bR x kRt := rfl
theorem px_con (i : Nat) (x : RE) : pkR (.con i) ρ μ x = cut1 x := rfl
theorem ox_con (i : Nat) (x : RE) : opO (.con i) μ x = cutO x := rfl
theorem rx_tup (a : X) (x : RE) : retX (.tup a) ρ μ x = bR x kRt := rfl
theorem px_tup (a : X) (x : RE) : pkR (.tup a) ρ μ x = cut1 x := rfl
theorem ox_tup (a : X) (x : RE) : opO (.tup a) μ x = cutO x := rfl
theorem rx_lst (a : X) (x : RE) : retX (.lst a) ρ μ x = bR x kRt := rfl
theorem px_lst (a : X) (x : RE) : pkR (.lst a) ρ μ x = cut1 x := rfl
theorem ox_lst (a : X) (x : RE) : opO (.lst a) μ x = cutO x := rfl
theorem rx_bin (q : Op) (a b : X) (x : RE) : retX (.bin q a b) ρ μ x = bR x kRt := rfl
theorem px_bin (q : Op) (a b : X) (x : RE) : pkR (.bin q a b) ρ μ x = cut1 x := rfl
theorem ox_bin (q : Op) (a b : X) (x : RE) : opO (.bin q a b) μ x = cutO x := rfl
theorem rx_neg (a : X) (x : RE) : retX (.neg a) ρ μ x = bR x kRt := rfl
theorem px_neg (a : X) (x : RE) : pkR (.neg a) ρ μ x = cut1 x := rfl
theorem ox_neg (a : X) (x : RE) : opO (.neg a) μ x = cutO x := rfl
theorem rx_not (a : X) (x : RE) : retX (.not a) ρ μ x = bR x kRt := rfl
theorem px_not (a : X) (x : RE) : pkR (.not a) ρ μ x = cut1 x := rfl
theorem ox_not (a : X) (x : RE) : opO (.not a) μ x = cutO x := rfl
theorem rx_and (a b : X) (x : RE) : retX (.and a b) ρ μ x = bR x kRt := rfl
theorem px_and (a b : X) (x : RE) : pkR (.and a b) ρ μ x = cut1 x := rfl
theorem ox_and (a b : X) (x : RE) : opO (.and a b) μ x = cutO x := rfl
theorem rx_or (a b : X) (x : RE) : retX (.or a b) ρ μ x = bR x kRt := rfl
theorem px_or (a b : X) (x : RE) : pkR (.or a b) ρ μ x = cut1 x := rfl
theorem ox_or (a b : X) (x : RE) : opO (.or a b) μ x = cutO x := rfl
theorem rx_one (a : X) (x : RE) : retX (.one a) ρ μ x = bR x kRt := rfl
theorem px_one (a : X) (x : RE) : pkR (.one a) ρ μ x = cut1 x := rfl
theorem ox_one (a : X) (x : RE) : opO (.one a) μ x = cutO x := rfl
theorem rx_cmp (q : Cp) (a b : X) (x : RE) : retX (.cmp q a b) ρ μ x = bR x kRt := rfl
theorem px_cmp (q : Cp) (a b : X) (x : RE) : pkR (.cmp q a b) ρ μ x = cut1 x := rfl
theorem ox_cmp (q : Cp) (a b : X) (x : RE) : opO (.cmp q a b) μ x = cutO x := rfl
theorem rx_chn (q r : Cp) (a b c : X) (x : RE) : retX (.chn q r a b c) ρ μ x = bR x kRt := rfl
theorem px_chn (q r : Cp) (a b c : X) (x : RE) : pkR (.chn q r a b c) ρ μ x = cut1 x := rfl
theorem ox_chn (q r : Cp) (a b c : X) (x : RE) : opO (.chn q r a b c) μ x = cutO x := rfl
theorem rx_ite (a b c : X) (x : RE) : retX (.ite a b c) ρ μ x = bR x kRt := rfl
theorem px_ite (a b c : X) (x : RE) : pkR (.ite a b c) ρ μ x = cut1 x := rfl
theorem ox_ite (a b c : X) (x : RE) : opO (.ite a b c) μ x = cutO x := rfl
theorem rx_call (i : Nat) (a : X) (x : RE) : retX (.call i a) ρ μ x = bR x kRt := rfl
theorem px_call (i : Nat) (a : X) (x : RE) : pkR (.call i a) ρ μ x = cut1 x := rfl
theorem ox_call (i : Nat) (a : X) (x : RE) : opO (.call i a) μ x = cutO x := rfl
theorem rx_callk (i : Nat) (pm : List Nat) (a b : X) (x : RE) : retX (.callk i pm a b) ρ μ x = bR x kRt := rfl
theorem px_callk (i : Nat) (pm : List Nat) (a b : X) (x : RE) : pkR (.callk i pm a b) ρ μ x = cut1 x := rfl
theorem ox_callk (i : Nat) (pm : List Nat) (a b : X) (x : RE) : opO (.callk i pm a b) μ x = cutO x := rfl
theorem rx_bi (q : Bi) (a : X) (x : RE) : retX (.bi q a) ρ μ x = bR x kRt := rfl
theorem px_bi (q : Bi) (a : X) (x : RE) : pkR (.bi q a) ρ μ x = cut1 x := rfl
theorem ox_bi (q : Bi) (a : X) (x : RE) : opO (.bi q a) μ x = cutO x := rfl
theorem rx_md (q : Md) (a b : X) (x : RE) : retX (.md q a b) ρ μ x = bR x kRt := rfl
theorem px_md (q : Md) (a b : X) (x : RE) : pkR (.md q a b) ρ μ x = cut1 x := rfl
theorem ox_md (q : Md) (a b : X) (x : RE) : opO (.md q a b) μ x = cutO x := rfl
theorem rx_isi (a : X) (q : String) (x : RE) : retX (.isi a q) ρ μ x = bR x kRt := rfl
theorem px_isi (a : X) (q : String) (x : RE) : pkR (.isi a q) ρ μ x = cut1 x := rfl
theorem ox_isi (a : X) (q : String) (x : RE) : opO (.isi a q) μ x = cutO x := rfl
theorem rx_sub (a b : X) (x : RE) : retX (.sub a b) ρ μ x = bR x kRt := rfl
theorem px_sub (a b : X) (x : RE) : pkR (.sub a b) ρ μ x = cut1 x := rfl
theorem ox_sub (a b : X) (x : RE) : opO (.sub a b) μ x = cutO x := rfl
theorem rx_slc (a b c : X) (x : RE) : retX (.slc a b c) ρ μ x = bR x kRt := rfl
theorem px_slc (a b c : X) (x : RE) : pkR (.slc a b c) ρ μ x = cut1 x := rfl
theorem ox_slc (a b c : X) (x : RE) : opO (.slc a b c) μ x = cutO x := rfl
theorem rx_rev (a : X) (x : RE) : retX (.rev a) ρ μ x = bR x kRt := rfl
theorem px_rev (a : X) (x : RE) : pkR (.rev a) ρ μ x = cut1 x := rfl
theorem ox_rev (a : X) (x : RE) : opO (.rev a) μ x = cutO x := rfl
theorem rx_comp (a b c d : X) (l : List Nat) (x : RE) : retX (.comp a b c d l) ρ μ x = bR x kRt := rfl
theorem px_comp (a b c d : X) (l : List Nat) (x : RE) : pkR (.comp a b c d l) ρ μ x = cut1 x := rfl
theorem ox_comp (a b c d : X) (l : List Nat) (x : RE) : opO (.comp a b c d l) μ x = cutO x := rfl
theorem rx_mk (a : X) (x : RE) : retX (.mk a) ρ μ x = bR x kRt := rfl
theorem px_mk (a : X) (x : RE) : pkR (.mk a) ρ μ x = cut1 x := rfl
theorem ox_mk (a : X) (x : RE) : opO (.mk a) μ x = cutO x := rfl
theorem rx_lend (l : List Nat) (a : X) (x : RE) : retX (.lend l a) ρ μ x = bR x kRt := rfl
theorem px_lend (l : List Nat) (a : X) (x : RE) : pkR (.lend l a) ρ μ x = cut1 x := rfl
theorem ox_lend (l : List Nat) (a : X) (x : RE) : opO (.lend l a) μ x = cutO x := rfl
end
section
variable (ρ : Rho) (μ : Mu)
/-- the end of a call -/
def retD (x : Option SR) : RE := match x with
  | some (.rt d o μ1) => some (d, o, μ1)
  | some (.nx _ μ1) => some (.non, false, μ1)
  | _ => none
theorem retD_r (d : D) (w : Bool) : retD (some (.rt d w μ)) = some (d, w, μ) := rfl
theorem retD_n : retD (some (.nx ρ μ)) = some (.non, false, μ) := rfl
theorem dCall_eq {T : Tab} {Δ : List Def} {k f : Nat} {F : Def} {ds : List D} {μ : Mu} (h : Δ[f]? = some F) (hl : ds.length = F.ps.length) :
    dCall T Δ (k + 1) f ds μ = retD (dS T (dCall T Δ k) F.body (ds.map (fun d => some (d, false)) ++ List.replicate (F.ns.length - F.ps.length) none) μ) := by
  unfold dCall
  rw [h]
  dsimp only
  rw [if_pos hl]
  rcases dS T (dCall T Δ k) F.body _ μ with _ | (_ | _ | _ | _) <;> rfl
/-! targets -/
theorem t_name (i : Nat) (d : D) : dT (.tName i) d ρ = if i < ρ.length then some (ρ.set i (some (d, false))) else none := rfl
end
/-! tables -/
section
theorem it_int_non  : isT "int" .non = false := rfl
theorem it_int_bl (x : Bool) : isT "int" (.bl x) = true := rfl
theorem it_int_int (x : Int) : isT "int" (.int x) = true := rfl
theorem it_int_str (x : Str) : isT "int" (.str x) = false := rfl
theorem it_int_tup (x : List D) : isT "int" (.tup x) = false := rfl
theorem it_int_lst (x : List D) : isT "int" (.lst x) = false := rfl
theorem it_bool_non  : isT "bool" .non = false := rfl
theorem it_bool_bl (x : Bool) : isT "bool" (.bl x) = true := rfl
theorem it_bool_int (x : Int) : isT "bool" (.int x) = false := rfl
theorem it_bool_str (x : Str) : isT "bool" (.str x) = false := rfl
theorem it_bool_tup (x : List D) : isT "bool" (.tup x) = false := rfl
theorem it_bool_lst (x : List D) : isT "bool" (.lst x) = false := rfl
theorem it_str_non  : isT "str" .non = false := rfl
theorem it_str_bl (x : Bool) : isT "str" (.bl x) = false := rfl
theorem it_str_int (x : Int) : isT "str" (.int x) = false := rfl
theorem it_str_str (x : Str) : isT "str" (.str x) = true := rfl
theorem it_str_tup (x : List D) : isT "str" (.tup x) = false := rfl
theorem it_str_lst (x : List D) : isT "str" (.lst x) = false := rfl
theorem it_tuple_non  : isT "tuple" .non = false := rfl
theorem it_tuple_bl (x : Bool) : isT "tuple" (.bl x) = false := rfl
theorem it_tuple_int (x : Int) : isT "tuple" (.int x) = false := rfl
theorem it_tuple_str (x : Str) : isT "tuple" (.str x) = false := rfl
theorem it_tuple_tup (x : List D) : isT "tuple" (.tup x) = true := rfl
theorem it_tuple_lst (x : List D) : isT "tuple" (.lst x) = false := rfl
theorem it_list_non  : isT "list" .non = false := rfl
theorem it_list_bl (x : Bool) : isT "list" (.bl x) = false := rfl
theorem it_list_int (x : Int) : isT "list" (.int x) = false := rfl
theorem it_list_str (x : Str) : isT "list" (.str x) = false := rfl
theorem it_list_tup (x : List D) : isT "list" (.tup x) = false := rfl
theorem it_list_lst (x : List D) : isT "list" (.lst x) = true := rfl
theorem it_dict_non  : isT "dict" .non = false := rfl
theorem it_dict_bl (x : Bool) : isT "dict" (.bl x) = false := rfl
theorem it_dict_int (x : Int) : isT "dict" (.int x) = false := rfl
theorem it_dict_str (x : Str) : isT "dict" (.str x) = false := rfl
theorem it_dict_tup (x : List D) : isT "dict" (.tup x) = false := rfl
theorem it_dict_lst (x : List D) : isT "dict" (.lst x) = false := rfl
theorem p1_non  : plain1 .non = true := rfl
theorem p1_bl (x : Bool) : plain1 (.bl x) = true := rfl
theorem p1_int (x : Int) : plain1 (.int x) = true := rfl
theorem p1_str (x : Str) : plain1 (.str x) = true := rfl
theorem p1_tup (x : List D) : plain1 (.tup x) = true := rfl
theorem p1_lst (x : List D) : plain1 (.lst x) = true := rfl
end
/-! operators -/
theorem mul_r {i j : Int} (h1 : -18446744073709551616 < j) (h2 : j < 18446744073709551616) : opD .mul (.int i) (.int j) = some (.int (i * j), false) := by
  have h : mulOk i j = true := by
    unfold mulOk
    rw [decide_eq_true (p := -(2 ^ 64) < j ∧ j < 2 ^ 64) ⟨by omega, by omega⟩, Bool.or_true, Bool.true_or]
  show (if mulOk i j then some (D.int (i * j), false) else none) = _
  rw [if_pos h]
theorem mul_l {i j : Int} (h1 : -18446744073709551616 < i) (h2 : i < 18446744073709551616) : opD .mul (.int i) (.int j) = some (.int (i * j), false) := by
  have h : mulOk i j = true := by
    unfold mulOk
    rw [decide_eq_true (p := -(2 ^ 64) < i ∧ i < 2 ^ 64) ⟨by omega, by omega⟩, Bool.true_or, Bool.true_or]
  show (if mulOk i j then some (D.int (i * j), false) else none) = _
  rw [if_pos h]
theorem add_i {i j : Int} : opD .add (.int i) (.int j) = some (.int (i + j), false) := rfl
theorem sub_i {i j : Int} : opD .sub (.int i) (.int j) = some (.int (i - j), false) := rfl
theorem mod_i {i j : Int} (h : 0 < j) : opD .mod (.int i) (.int j) = some (.int (i % j), false) := if_pos h
theorem div_i {i j : Int} (h : 0 < j) (h2 : j < 2 ^ 1000) : opD .fdiv (.int i) (.int j) = some (.int (i / j), false) := by
  have h9 : divOk j = true := by
    unfold divOk
    refine decide_eq_true ⟨h, ?_⟩
    have e : (2 : Int) ^ 1000 = ((2 ^ 1000 : Nat) : Int) := by norm_cast
    have h3 : j.natAbs < 2 ^ 1000 := by omega
    exact Nat.lt_trans h3 (Nat.pow_lt_pow_right (by decide) (by decide))
  show (if divOk j then some (D.int (i / j), false) else none) = _
  rw [if_pos h9]
theorem add_l {x y : List D} (h : x.length + y.length ≤ 100000) : opD .add (.lst x) (.lst y) = some (.lst (x ++ y), true) := if_pos (Nat.le_trans h (by decide))
theorem add_t {x y : List D} (h : x.length + y.length ≤ 100000) : opD .add (.tup x) (.tup y) = some (.tup (x ++ y), false) := if_pos (Nat.le_trans h (by decide))
theorem div_s {i j : Int} (h : 0 < j) (h2 : j < 18446744073709551616) : opD .fdiv (.int i) (.int j) = some (.int (i / j), false) := div_i h (Int.lt_trans h2 (by decide))
theorem subC_l {μ : Mu} {xs : List D} {i : Int} : subC μ (.lst xs) (.int i) = L2.atI xs i := rfl
theorem subC_t {μ : Mu} {xs : List D} {i : Int} : subC μ (.tup xs) (.int i) = L2.atI xs i := rfl
theorem subC_c {μ : Mu} {n : Nat} {xs : List D} {i : Int} (h : μ[n]? = some xs) : subC μ (.cell n) (.int i) = L2.atI xs i := by
  unfold subC
  dsimp only
  rw [h]
theorem gt_i {i j : Int} : cpD .gt (.int i) (.int j) = some (decide (j < i)) := rfl
theorem ge_i {i j : Int} : cpD .ge (.int i) (.int j) = some (decide (j ≤ i)) := rfl
theorem lt_i {i j : Int} : cpD .lt (.int i) (.int j) = some (decide (i < j)) := rfl
theorem le_i {i j : Int} : cpD .le (.int i) (.int j) = some (decide (i ≤ j)) := rfl
theorem at_n {xs : List D} {i : Nat} {d : D} (h : xs[i]? = some d) : L2.atI xs (i : Int) = some d := by
  unfold L2.atI L2.ixN
  have hl : i < xs.length := (List.getElem?_eq_some_iff.mp h).1
  rw [if_pos (by omega), if_pos (by omega)]
  show xs[(i : Int).toNat]? = some d
  rw [Int.toNat_natCast]
  exact h
theorem isn_non  : cpD .is_ .non .non = some true := rfl
theorem nin_non  : cpD .isNot .non .non = some false := rfl
theorem isn_bl (x : Bool) : cpD .is_ (.bl x) .non = some false := rfl
theorem nin_bl (x : Bool) : cpD .isNot (.bl x) .non = some true := rfl
theorem isn_int (x : Int) : cpD .is_ (.int x) .non = some false := rfl
theorem nin_int (x : Int) : cpD .isNot (.int x) .non = some true := rfl
theorem isn_str (x : Str) : cpD .is_ (.str x) .non = some false := rfl
theorem nin_str (x : Str) : cpD .isNot (.str x) .non = some true := rfl
theorem isn_tup (x : List D) : cpD .is_ (.tup x) .non = some false := rfl
theorem nin_tup (x : List D) : cpD .isNot (.tup x) .non = some true := rfl
theorem isn_lst (x : List D) : cpD .is_ (.lst x) .non = some false := rfl
theorem nin_lst (x : List D) : cpD .isNot (.lst x) .non = some true := rfl
theorem isb {a b : Bool} : cpD .is_ (.bl a) (.bl b) = some (a == b) := rfl
theorem inb {a b : Bool} : cpD .isNot (.bl a) (.bl b) = some (!(a == b)) := rfl
theorem rng_1 {n : Int} {μ : Mu} (h1 : -4611686018427387904 ≤ n) (h2 : n ≤ 100000) : rngD [.int n] μ = some (rngL n.toNat 0, μ) := if_pos ⟨by omega, Int.le_trans h2 (by decide)⟩
/-! == -/
mutual
def nd : D → Nat
  | .tup ds => ndL ds + 1
  | .lst ds => ndL ds + 1
  | _ => 0
def ndL : List D → Nat
  | [] => 0
  | d :: ds => max (nd d) (ndL ds)
end
mutual
/-- no dict, no cell, no def, good texts -/
def okS : D → Bool
  | .non => true
  | .bl _ => true
  | .int _ => true
  | .str x => PyData.strOk x
  | .tup xs => okSL xs
  | .lst xs => okSL xs
  | .dct _ => false
  | .cell _ => false
  | .fn _ => false
def okSL : List D → Bool
  | [] => true
  | d :: ds => okS d && okSL ds
end
mutual
theorem okS_pl : ∀ d : D, okS d = true → pl d = true ∧ (py d).canLay0 = true ∧ (py d).depth = nd d
  | .non, _ => ⟨rfl, rfl, rfl⟩
  | .bl _, _ => ⟨rfl, rfl, rfl⟩
  | .int _, _ => ⟨rfl, rfl, rfl⟩
  | .str x, h => ⟨rfl, h, rfl⟩
  | .tup xs, h => by
    obtain ⟨h1, h2, h3⟩ := okSL_pl xs h
    exact ⟨h1, h2, by show PyData.depthAll (pyL xs) + 1 = ndL xs + 1; rw [h3]⟩
  | .lst xs, h => by
    obtain ⟨h1, h2, h3⟩ := okSL_pl xs h
    exact ⟨h1, h2, by show PyData.depthAll (pyL xs) + 1 = ndL xs + 1; rw [h3]⟩
  | .dct _, h => by cases h
  | .cell _, h => by cases h
  | .fn _, h => by cases h
theorem okSL_pl : ∀ ds : List D, okSL ds = true → plL ds = true ∧ PyData.canLayAll0 (pyL ds) = true ∧ PyData.depthAll (pyL ds) = ndL ds
  | [], _ => ⟨rfl, rfl, rfl⟩
  | d :: ds, h => by
    obtain ⟨h1, h2⟩ := Bool.and_eq_true_iff.mp (show (okS d && okSL ds) = true from h)
    obtain ⟨a1, a2, a3⟩ := okS_pl d h1
    obtain ⟨b1, b2, b3⟩ := okSL_pl ds h2
    exact ⟨Bool.and_eq_true_iff.mpr ⟨a1, b1⟩, Bool.and_eq_true_iff.mpr ⟨a2, b2⟩, by show max (py d).depth (PyData.depthAll (pyL ds)) = max (nd d) (ndL ds); rw [a3, b3]⟩
end
theorem eqOk_s {d : D} (h1 : okS d = true) (h2 : nd d ≤ 64) : eqOk d = true := by
  obtain ⟨a1, a2, a3⟩ := okS_pl d h1
  unfold eqOk SeqAt.shaped
  rw [a1, a2, decide_eq_true (by rw [a3]; exact h2)]
  rfl
theorem eq_s {x y : Str} : cpD .eq (.str x) (.str y) = some (decide (x = y)) := rfl
theorem ne_s {x y : Str} : cpD .ne (.str x) (.str y) = some (!decide (x = y)) := rfl
theorem eq_d {d e : D} (h : strEq d e = none) (h1 : okS d = true) (h2 : nd d ≤ 64) (h3 : okS e = true) (h4 : nd e ≤ 64) : cpD .eq d e = some (eqD d e) := by
  show (match strEq d e with
    | some b => some b
    | none => if eqOk d && eqOk e then some (eqD d e) else none) = _
  rw [h, eqOk_s h1 h2, eqOk_s h3 h4]
  rfl
theorem ne_d {d e : D} (h : strEq d e = none) (h1 : okS d = true) (h2 : nd d ≤ 64) (h3 : okS e = true) (h4 : nd e ≤ 64) : cpD .ne d e = some (!eqD d e) := by
  show (match strEq d e with
    | some b => some (!b)
    | none => if eqOk d && eqOk e then some (!eqD d e) else none) = _
  rw [h, eqOk_s h1 h2, eqOk_s h3 h4]
  rfl
theorem in_l {d : D} {es : List D} (h1 : okS d = true) (h2 : nd d ≤ 64) (h3 : okS (.lst es) = true) (h4 : nd (.lst es) ≤ 64) : cpD .in_ d (.lst es) = some (memD d es) := by
  show (if eqOk d && eqOk (.lst es) then some (memD d es) else none) = _
  rw [eqOk_s h1 h2, eqOk_s h3 h4]
  rfl
theorem nin_l {d : D} {es : List D} (h1 : okS d = true) (h2 : nd d ≤ 64) (h3 : okS (.lst es) = true) (h4 : nd (.lst es) ≤ 64) : cpD .notIn d (.lst es) = some (!memD d es) := by
  show (if eqOk d && eqOk (.lst es) then some (!memD d es) else none) = _
  rw [eqOk_s h1 h2, eqOk_s h3 h4]
  rfl
theorem eq_ii {i j : Int} : cpD .eq (.int i) (.int j) = some (decide (i = j)) := by
  have q : eqD (.int i) (.int j) = decide (i = j) := by
    rw [Bool.eq_iff_iff]
    show (i == j) = true ↔ _
    simp
  rw [eq_d rfl rfl (Nat.zero_le _) rfl (Nat.zero_le _), q]
theorem ne_ii {i j : Int} : cpD .ne (.int i) (.int j) = some (!decide (i = j)) := by
  rw [ne_d rfl rfl (Nat.zero_le _) rfl (Nat.zero_le _)]
  have q : eqD (.int i) (.int j) = decide (i = j) := by
    rw [Bool.eq_iff_iff]
    show (i == j) = true ↔ _
    simp
  rw [q]
/-! folds, turn by turn -/
section
variable {α : Type}
def bX (r : Option (Option D × Mu)) (k : Option D → Mu → Option α) : Option α := match r with
  | some (d, μ) => k d μ
  | none => none
theorem bX_s {d : Option D} {μ : Mu} {k : Option D → Mu → Option α} : bX (some (d, μ)) k = k d μ := rfl
end
def bT (r : Option SR) (k : Rho → Mu → Option SR) : Option SR := match r with
  | some (.nx ρ μ) => k ρ μ
  | some (.ct ρ μ) => k ρ μ
  | some (.bk ρ μ) => some (.nx ρ μ)
  | o => o
theorem bT_n {ρ : Rho} {μ : Mu} {k : Rho → Mu → Option SR} : bT (some (.nx ρ μ)) k = k ρ μ := rfl
theorem bT_c {ρ : Rho} {μ : Mu} {k : Rho → Mu → Option SR} : bT (some (.ct ρ μ)) k = k ρ μ := rfl
theorem bT_b {ρ : Rho} {μ : Mu} {k : Rho → Mu → Option SR} : bT (some (.bk ρ μ)) k = some (.nx ρ μ) := rfl
theorem bT_r {d : D} {o : Bool} {μ : Mu} {k : Rho → Mu → Option SR} : bT (some (.rt d o μ)) k = some (.rt d o μ) := rfl
def consO (r : Option D) (ys : List D) : List D := match r with
  | some y => y :: ys
  | none => ys
theorem consO_s {y : D} {ys : List D} : consO (some y) ys = y :: ys := rfl
theorem consO_n {ys : List D} : consO none ys = ys := rfl
def kFc2 (r : Option D) (ys : List D) (μ : Mu) : Option (List D × Mu) := some (consO r ys, μ)
def kFc (f : D → Mu → Option (Option D × Mu)) (ds : List D) (r : Option D) (μ : Mu) : Option (List D × Mu) := bL (foldC f ds μ) (kFc2 r)
theorem fc_nil {f : D → Mu → Option (Option D × Mu)} {μ : Mu} : foldC f [] μ = some ([], μ) := rfl
theorem fc_cons {f : D → Mu → Option (Option D × Mu)} {d : D} {ds : List D} {μ : Mu} : foldC f (d :: ds) μ = bX (f d μ) (kFc f ds) := by
  have q0 : foldC f (d :: ds) μ = (match f d μ with
    | none => none
    | some (r, μ1) => match foldC f ds μ1 with
      | none => none
      | some (ys, μ2) => some (consO r ys, μ2)) := rfl
  rw [q0]
  rcases f d μ with _ | ⟨r, μ1⟩
  · rfl
  · unfold bX kFc
    dsimp only
    rcases foldC f ds μ1 with _ | ⟨ys, μ2⟩ <;> rfl
def kFs (f : D → Rho → Mu → Option SR) (ds : List D) (ρ : Rho) (μ : Mu) : Option SR := foldS f ds ρ μ
theorem fs_nil {f : D → Rho → Mu → Option SR} {ρ : Rho} {μ : Mu} : foldS f [] ρ μ = some (.nx ρ μ) := rfl
theorem fs_cons {f : D → Rho → Mu → Option SR} {d : D} {ds : List D} {ρ : Rho} {μ : Mu} : foldS f (d :: ds) ρ μ = bT (f d ρ μ) (kFs f ds) := by
  rw [foldS]
  rcases f d ρ μ with _ | (_ | _ | _ | _) <;> rfl
def consP {α : Type} (r : Option α) (ys : List α) : List α := match r with
  | some y => y :: ys
  | none => ys
theorem consP_s {α : Type} {y : α} {ys : List α} : consP (some y) ys = y :: ys := rfl
theorem pm_n {α : Type} {ws : List α} : pmL [] ws = [] := rfl
theorem pm_c {α : Type} {i : Nat} {pm : List Nat} {ws : List α} : pmL (i :: pm) ws = consP ws[i]? (pmL pm ws) := by
  unfold pmL
  rw [List.filterMap_cons]
  cases ws[i]? <;> rfl
theorem rev_t {xs : List D} : revD (.tup xs) = some (.tup xs.reverse, false) := rfl
theorem eq_nl : cpD .eq (.lst []) (.lst []) = some true := by rfl
theorem ne_nl : cpD .ne (.lst []) (.lst []) = some false := by rfl
theorem len_t {xs : List D} : biD .len [.tup xs] = some (.int xs.length, false) := rfl
theorem len_l {xs : List D} : biD .len [.lst xs] = some (.int xs.length, false) := rfl
theorem int_i {i : Int} : biD .int [.int i] = some (.int i, false) := rfl
theorem int_b {b : Bool} : biD .int [.bl b] = some (.int (if b then 1 else 0), false) := rfl
theorem tup_l {xs : List D} : biD .tuple [.lst xs] = some (.tup xs, false) := rfl
theorem tup_t {xs : List D} : biD .tuple [.tup xs] = some (.tup xs, false) := rfl
theorem lst_l {xs : List D} : biD .list [.lst xs] = some (.lst xs, true) := rfl
theorem lst_t {xs : List D} : biD .list [.tup xs] = some (.lst xs, true) := rfl
theorem rev_l {xs : List D} : revD (.lst xs) = some (.lst xs.reverse, true) := rfl
theorem sum_2 {a b : Int} : biD .sum [.tup [.int a, .int b]] = some (.int (a + (b + 0)), false) := rfl
theorem sum_3 {a b c : Int} : biD .sum [.tup [.int a, .int b, .int c]] = some (.int (a + (b + (c + 0))), false) := rfl
theorem len_tup0 : biD .len [.tup []] = some (.int 0, false) := rfl
theorem len_lst0 : biD .len [.lst []] = some (.int 0, false) := rfl
theorem len_tup1 {a : D} : biD .len [.tup [a]] = some (.int 1, false) := rfl
theorem len_lst1 {a : D} : biD .len [.lst [a]] = some (.int 1, false) := rfl
theorem at_1_0 {a : D} : L2.atI [a] 0 = some a := rfl
theorem len_tup2 {a b : D} : biD .len [.tup [a, b]] = some (.int 2, false) := rfl
theorem len_lst2 {a b : D} : biD .len [.lst [a, b]] = some (.int 2, false) := rfl
theorem at_2_0 {a b : D} : L2.atI [a, b] 0 = some a := rfl
theorem at_2_1 {a b : D} : L2.atI [a, b] 1 = some b := rfl
theorem len_tup3 {a b c : D} : biD .len [.tup [a, b, c]] = some (.int 3, false) := rfl
theorem len_lst3 {a b c : D} : biD .len [.lst [a, b, c]] = some (.int 3, false) := rfl
theorem at_3_0 {a b c : D} : L2.atI [a, b, c] 0 = some a := rfl
theorem at_3_1 {a b c : D} : L2.atI [a, b, c] 1 = some b := rfl
theorem at_3_2 {a b c : D} : L2.atI [a, b, c] 2 = some c := rfl
theorem len_tup4 {a b c d : D} : biD .len [.tup [a, b, c, d]] = some (.int 4, false) := rfl
theorem len_lst4 {a b c d : D} : biD .len [.lst [a, b, c, d]] = some (.int 4, false) := rfl
theorem at_4_0 {a b c d : D} : L2.atI [a, b, c, d] 0 = some a := rfl
theorem at_4_1 {a b c d : D} : L2.atI [a, b, c, d] 1 = some b := rfl
theorem at_4_2 {a b c d : D} : L2.atI [a, b, c, d] 2 = some c := rfl
theorem at_4_3 {a b c d : D} : L2.atI [a, b, c, d] 3 = some d := rfl
theorem len_tup5 {a b c d e : D} : biD .len [.tup [a, b, c, d, e]] = some (.int 5, false) := rfl
theorem len_lst5 {a b c d e : D} : biD .len [.lst [a, b, c, d, e]] = some (.int 5, false) := rfl
theorem at_5_0 {a b c d e : D} : L2.atI [a, b, c, d, e] 0 = some a := rfl
theorem at_5_1 {a b c d e : D} : L2.atI [a, b, c, d, e] 1 = some b := rfl
theorem at_5_2 {a b c d e : D} : L2.atI [a, b, c, d, e] 2 = some c := rfl
theorem at_5_3 {a b c d e : D} : L2.atI [a, b, c, d, e] 3 = some d := rfl
theorem at_5_4 {a b c d e : D} : L2.atI [a, b, c, d, e] 4 = some e := rfl
end Z
end

section
set_option Elab.async false
set_option linter.all false
set_option maxRecDepth 100000
set_option maxHeartbeats 1000000
/-! All that works out terms, put together. -/
namespace Z
open PySem
def kLd (d : D) (o : Bool) (μ : Mu) : RE := if scalar d && μ.all scalL then some (d, false, μ) else none
theorem e_lend {T : Tab} {call : CallT} {a : X} {ρ : Rho} {μ : Mu} (is : List Nat) : dE T call (.lend is a) ρ μ = bR (dE T call a (disowns ρ is) μ) kLd := by
  have q0 : dE T call (.lend is a) ρ μ = (match dE T call a (disowns ρ is) μ with
    | some (d, _, μ1) => if scalar d && μ1.all scalL then some (d, false, μ1) else none
    | none => none) := rfl
  rw [q0]
  rcases dE T call a (disowns ρ is) μ with _ | ⟨d, w, μ1⟩ <;> rfl
theorem kLd_b {b o : Bool} {μ : Mu} (h : μ.all scalL = true) : kLd (.bl b) o μ = some (.bl b, false, μ) := by
  unfold kLd
  rw [h]
  rfl
theorem dn0 : type_of% (And.intro (And.intro (And.intro (And.intro (And.intro @bR_s @bP_s) (And.intro @bL_s (And.intro @bM_s @bZ_s))) (And.intro (And.intro @bB_s @bI_s) (And.intro @bO_s (And.intro @bG_s @bS_n)))) (And.intro (And.intro (And.intro @bS_r @bS_b) (And.intro @bS_t (And.intro @gR_s @gT_s))) (And.intro (And.intro @gP_s @cut1_s) (And.intro @cutO_s (And.intro @kAnd_t @kAnd_f))))) (And.intro (And.intro (And.intro (And.intro @kOr_t @kOr_f) (And.intro @kIte_t (And.intro @kIte_f @kTe_t))) (And.intro (And.intro @kTe_f @kIfS_t) (And.intro @kIfS_f (And.intro @kCh2_t @kCh2_f)))) (And.intro (And.intro (And.intro @e_var @e_cst) (And.intro @e_con (And.intro @e_tup @e_lst))) (And.intro (And.intro @e_bin @e_neg) (And.intro @e_not (And.intro @e_and @e_or)))))) := (And.intro (And.intro (And.intro (And.intro (And.intro @bR_s @bP_s) (And.intro @bL_s (And.intro @bM_s @bZ_s))) (And.intro (And.intro @bB_s @bI_s) (And.intro @bO_s (And.intro @bG_s @bS_n)))) (And.intro (And.intro (And.intro @bS_r @bS_b) (And.intro @bS_t (And.intro @gR_s @gT_s))) (And.intro (And.intro @gP_s @cut1_s) (And.intro @cutO_s (And.intro @kAnd_t @kAnd_f))))) (And.intro (And.intro (And.intro (And.intro @kOr_t @kOr_f) (And.intro @kIte_t (And.intro @kIte_f @kTe_t))) (And.intro (And.intro @kTe_f @kIfS_t) (And.intro @kIfS_f (And.intro @kCh2_t @kCh2_f)))) (And.intro (And.intro (And.intro @e_var @e_cst) (And.intro @e_con (And.intro @e_tup @e_lst))) (And.intro (And.intro @e_bin @e_neg) (And.intro @e_not (And.intro @e_and @e_or))))))
theorem dn1 : type_of% (And.intro (And.intro (And.intro (And.intro (And.intro @e_one @e_ite) (And.intro @e_cmp (And.intro @e_chn @e_call))) (And.intro (And.intro @e_bi @e_md) (And.intro @e_isi (And.intro @e_sub @e_slc)))) (And.intro (And.intro (And.intro @e_rev @e_comp) (And.intro @e_mk (And.intro @e_giv @l_nil))) (And.intro (And.intro @l_cons @p_nil) (And.intro @p_cons (And.intro @o_nil @o_cons))))) (And.intro (And.intro (And.intro (And.intro @s_nil @s_cons) (And.intro @s_set (And.intro @s_setO @s_par))) (And.intro (And.intro @s_retN @s_ret) (And.intro @s_if (And.intro @s_for @s_ex)))) (And.intro (And.intro (And.intro @s_app @s_sub) (And.intro @s_subC (And.intro @s_dis @s_pass))) (And.intro (And.intro @i_ex @i_rng) (And.intro @i_enum (And.intro @i_zip @rx_pv)))))) := (And.intro (And.intro (And.intro (And.intro (And.intro @e_one @e_ite) (And.intro @e_cmp (And.intro @e_chn @e_call))) (And.intro (And.intro @e_bi @e_md) (And.intro @e_isi (And.intro @e_sub @e_slc)))) (And.intro (And.intro (And.intro @e_rev @e_comp) (And.intro @e_mk (And.intro @e_giv @l_nil))) (And.intro (And.intro @l_cons @p_nil) (And.intro @p_cons (And.intro @o_nil @o_cons))))) (And.intro (And.intro (And.intro (And.intro @s_nil @s_cons) (And.intro @s_set (And.intro @s_setO @s_par))) (And.intro (And.intro @s_retN @s_ret) (And.intro @s_if (And.intro @s_for @s_ex)))) (And.intro (And.intro (And.intro @s_app @s_sub) (And.intro @s_subC (And.intro @s_dis @s_pass))) (And.intro (And.intro @i_ex @i_rng) (And.intro @i_enum (And.intro @i_zip @rx_pv))))))
theorem dn2 : type_of% (And.intro (And.intro (And.intro (And.intro (And.intro @rx_var @px_var) (And.intro @ox_var (And.intro @rx_cst @px_cst))) (And.intro (And.intro @ox_cst @rx_con) (And.intro @px_con (And.intro @ox_con @rx_tup)))) (And.intro (And.intro (And.intro @px_tup @ox_tup) (And.intro @rx_lst (And.intro @px_lst @ox_lst))) (And.intro (And.intro @rx_bin @px_bin) (And.intro @ox_bin (And.intro @rx_neg @px_neg))))) (And.intro (And.intro (And.intro (And.intro @ox_neg @rx_not) (And.intro @px_not (And.intro @ox_not @rx_and))) (And.intro (And.intro @px_and @ox_and) (And.intro @rx_or (And.intro @px_or @ox_or)))) (And.intro (And.intro (And.intro @rx_one @px_one) (And.intro @ox_one (And.intro @rx_cmp @px_cmp))) (And.intro (And.intro @ox_cmp @rx_chn) (And.intro @px_chn (And.intro @ox_chn @rx_ite)))))) := (And.intro (And.intro (And.intro (And.intro (And.intro @rx_var @px_var) (And.intro @ox_var (And.intro @rx_cst @px_cst))) (And.intro (And.intro @ox_cst @rx_con) (And.intro @px_con (And.intro @ox_con @rx_tup)))) (And.intro (And.intro (And.intro @px_tup @ox_tup) (And.intro @rx_lst (And.intro @px_lst @ox_lst))) (And.intro (And.intro @rx_bin @px_bin) (And.intro @ox_bin (And.intro @rx_neg @px_neg))))) (And.intro (And.intro (And.intro (And.intro @ox_neg @rx_not) (And.intro @px_not (And.intro @ox_not @rx_and))) (And.intro (And.intro @px_and @ox_and) (And.intro @rx_or (And.intro @px_or @ox_or)))) (And.intro (And.intro (And.intro @rx_one @px_one) (And.intro @ox_one (And.intro @rx_cmp @px_cmp))) (And.intro (And.intro @ox_cmp @rx_chn) (And.intro @px_chn (And.intro @ox_chn @rx_ite))))))
theorem dn3 : type_of% (And.intro (And.intro (And.intro (And.intro (And.intro @px_ite @ox_ite) (And.intro @rx_call (And.intro @px_call @ox_call))) (And.intro (And.intro @rx_callk @px_callk) (And.intro @ox_callk (And.intro @rx_bi @px_bi)))) (And.intro (And.intro (And.intro @ox_bi @rx_md) (And.intro @px_md (And.intro @ox_md @rx_isi))) (And.intro (And.intro @px_isi @ox_isi) (And.intro @rx_sub (And.intro @px_sub @ox_sub))))) (And.intro (And.intro (And.intro (And.intro @rx_slc @px_slc) (And.intro @ox_slc (And.intro @rx_rev @px_rev))) (And.intro (And.intro @ox_rev @rx_comp) (And.intro @px_comp (And.intro @ox_comp @rx_mk)))) (And.intro (And.intro (And.intro @px_mk @ox_mk) (And.intro @rx_lend (And.intro @px_lend @ox_lend))) (And.intro (And.intro @pk_pv @pkB_t) (And.intro @pkB_f (And.intro @op_noX @retD_r)))))) := (And.intro (And.intro (And.intro (And.intro (And.intro @px_ite @ox_ite) (And.intro @rx_call (And.intro @px_call @ox_call))) (And.intro (And.intro @rx_callk @px_callk) (And.intro @ox_callk (And.intro @rx_bi @px_bi)))) (And.intro (And.intro (And.intro @ox_bi @rx_md) (And.intro @px_md (And.intro @ox_md @rx_isi))) (And.intro (And.intro @px_isi @ox_isi) (And.intro @rx_sub (And.intro @px_sub @ox_sub))))) (And.intro (And.intro (And.intro (And.intro @rx_slc @px_slc) (And.intro @ox_slc (And.intro @rx_rev @px_rev))) (And.intro (And.intro @ox_rev @rx_comp) (And.intro @px_comp (And.intro @ox_comp @rx_mk)))) (And.intro (And.intro (And.intro @px_mk @ox_mk) (And.intro @rx_lend (And.intro @px_lend @ox_lend))) (And.intro (And.intro @pk_pv @pkB_t) (And.intro @pkB_f (And.intro @op_noX @retD_r))))))
theorem dn4 : type_of% (And.intro (And.intro (And.intro (And.intro (And.intro @retD_n @it_int_non) (And.intro @it_int_bl (And.intro @it_int_int @it_int_str))) (And.intro (And.intro @it_int_tup @it_int_lst) (And.intro @it_bool_non (And.intro @it_bool_bl @it_bool_int)))) (And.intro (And.intro (And.intro @it_bool_str @it_bool_tup) (And.intro @it_bool_lst (And.intro @it_str_non @it_str_bl))) (And.intro (And.intro @it_str_int @it_str_str) (And.intro @it_str_tup (And.intro @it_str_lst @it_tuple_non))))) (And.intro (And.intro (And.intro (And.intro @it_tuple_bl @it_tuple_int) (And.intro @it_tuple_str (And.intro @it_tuple_tup @it_tuple_lst))) (And.intro (And.intro @it_list_non @it_list_bl) (And.intro @it_list_int (And.intro @it_list_str @it_list_tup)))) (And.intro (And.intro (And.intro @it_list_lst @it_dict_non) (And.intro @it_dict_bl (And.intro @it_dict_int @it_dict_str))) (And.intro (And.intro @it_dict_tup @it_dict_lst) (And.intro @p1_non (And.intro @p1_bl @p1_int)))))) := (And.intro (And.intro (And.intro (And.intro (And.intro @retD_n @it_int_non) (And.intro @it_int_bl (And.intro @it_int_int @it_int_str))) (And.intro (And.intro @it_int_tup @it_int_lst) (And.intro @it_bool_non (And.intro @it_bool_bl @it_bool_int)))) (And.intro (And.intro (And.intro @it_bool_str @it_bool_tup) (And.intro @it_bool_lst (And.intro @it_str_non @it_str_bl))) (And.intro (And.intro @it_str_int @it_str_str) (And.intro @it_str_tup (And.intro @it_str_lst @it_tuple_non))))) (And.intro (And.intro (And.intro (And.intro @it_tuple_bl @it_tuple_int) (And.intro @it_tuple_str (And.intro @it_tuple_tup @it_tuple_lst))) (And.intro (And.intro @it_list_non @it_list_bl) (And.intro @it_list_int (And.intro @it_list_str @it_list_tup)))) (And.intro (And.intro (And.intro @it_list_lst @it_dict_non) (And.intro @it_dict_bl (And.intro @it_dict_int @it_dict_str))) (And.intro (And.intro @it_dict_tup @it_dict_lst) (And.intro @p1_non (And.intro @p1_bl @p1_int))))))
theorem dn5 : type_of% (And.intro (And.intro (And.intro (And.intro (And.intro @p1_str @p1_tup) (And.intro @p1_lst (And.intro @add_i @sub_i))) (And.intro (And.intro @eq_ii @ne_ii) (And.intro @eq_s (And.intro @ne_s @isb)))) (And.intro (And.intro (And.intro @inb @rng_1) (And.intro @isn_non (And.intro @nin_non @isn_bl))) (And.intro (And.intro @nin_bl @isn_int) (And.intro @nin_int (And.intro @isn_str @nin_str))))) (And.intro (And.intro (And.intro (And.intro @isn_tup @nin_tup) (And.intro @isn_lst (And.intro @nin_lst @gt_i))) (And.intro (And.intro @ge_i @lt_i) (And.intro @le_i (And.intro @int_i @int_b)))) (And.intro (And.intro (And.intro @tup_l @tup_t) (And.intro @lst_l (And.intro @lst_t @len_tup0))) (And.intro (And.intro @len_lst0 @len_tup1) (And.intro @len_lst1 (And.intro @at_1_0 @len_tup2)))))) := (And.intro (And.intro (And.intro (And.intro (And.intro @p1_str @p1_tup) (And.intro @p1_lst (And.intro @add_i @sub_i))) (And.intro (And.intro @eq_ii @ne_ii) (And.intro @eq_s (And.intro @ne_s @isb)))) (And.intro (And.intro (And.intro @inb @rng_1) (And.intro @isn_non (And.intro @nin_non @isn_bl))) (And.intro (And.intro @nin_bl @isn_int) (And.intro @nin_int (And.intro @isn_str @nin_str))))) (And.intro (And.intro (And.intro (And.intro @isn_tup @nin_tup) (And.intro @isn_lst (And.intro @nin_lst @gt_i))) (And.intro (And.intro @ge_i @lt_i) (And.intro @le_i (And.intro @int_i @int_b)))) (And.intro (And.intro (And.intro @tup_l @tup_t) (And.intro @lst_l (And.intro @lst_t @len_tup0))) (And.intro (And.intro @len_lst0 @len_tup1) (And.intro @len_lst1 (And.intro @at_1_0 @len_tup2))))))
theorem dn6 : type_of% (And.intro (And.intro (And.intro (And.intro (And.intro @len_lst2 @at_2_0) (And.intro @at_2_1 (And.intro @len_tup3 @len_lst3))) (And.intro (And.intro @at_3_0 @at_3_1) (And.intro @at_3_2 (And.intro @len_tup4 @len_lst4)))) (And.intro (And.intro (And.intro @at_4_0 @at_4_1) (And.intro @at_4_2 (And.intro @at_4_3 @len_tup5))) (And.intro (And.intro @len_lst5 @at_5_0) (And.intro @at_5_1 (And.intro @at_5_2 @at_5_3))))) (And.intro (And.intro (And.intro (And.intro @at_5_4 @rev_l) (And.intro @sum_2 (And.intro @sum_3 @eq_nl))) (And.intro (And.intro @ne_nl @bX_s) (And.intro @bT_n (And.intro @bT_c @bT_b)))) (And.intro (And.intro (And.intro @bT_r @consO_s) (And.intro @consO_n (And.intro @fc_nil @fc_cons))) (And.intro (And.intro @fs_nil @fs_cons) (And.intro @subC_l (And.intro @subC_t @Bool.false_eq_true)))))) := (And.intro (And.intro (And.intro (And.intro (And.intro @len_lst2 @at_2_0) (And.intro @at_2_1 (And.intro @len_tup3 @len_lst3))) (And.intro (And.intro @at_3_0 @at_3_1) (And.intro @at_3_2 (And.intro @len_tup4 @len_lst4)))) (And.intro (And.intro (And.intro @at_4_0 @at_4_1) (And.intro @at_4_2 (And.intro @at_4_3 @len_tup5))) (And.intro (And.intro @len_lst5 @at_5_0) (And.intro @at_5_1 (And.intro @at_5_2 @at_5_3))))) (And.intro (And.intro (And.intro (And.intro @at_5_4 @rev_l) (And.intro @sum_2 (And.intro @sum_3 @eq_nl))) (And.intro (And.intro @ne_nl @bX_s) (And.intro @bT_n (And.intro @bT_c @bT_b)))) (And.intro (And.intro (And.intro @bT_r @consO_s) (And.intro @consO_n (And.intro @fc_nil @fc_cons))) (And.intro (And.intro @fs_nil @fs_cons) (And.intro @subC_l (And.intro @subC_t @Bool.false_eq_true))))))
theorem dn7 : type_of% (And.intro (And.intro (And.intro (And.intro @Bool.not_true @Bool.true_and) (And.intro @Bool.false_and @Bool.and_true)) (And.intro (And.intro @Bool.and_false @Bool.true_or) (And.intro @Bool.false_or @Bool.or_true))) (And.intro (And.intro (And.intro @Bool.or_false @Bool.not_false) (And.intro @e_callk @s_ins)) (And.intro (And.intro @pm_n @pm_c) (And.intro @consP_s @rev_t)))) := (And.intro (And.intro (And.intro (And.intro @Bool.not_true @Bool.true_and) (And.intro @Bool.false_and @Bool.and_true)) (And.intro (And.intro @Bool.and_false @Bool.true_or) (And.intro @Bool.false_or @Bool.or_true))) (And.intro (And.intro (And.intro @Bool.or_false @Bool.not_false) (And.intro @e_callk @s_ins)) (And.intro (And.intro @pm_n @pm_c) (And.intro @consP_s @rev_t))))
theorem dnx : type_of% (And.intro (And.intro (And.intro @dn0 @dn1) (And.intro @dn2 @dn3)) (And.intro (And.intro @dn4 @dn5) (And.intro @dn6 @dn7))) := (And.intro (And.intro (And.intro @dn0 @dn1) (And.intro @dn2 @dn3)) (And.intro (And.intro @dn4 @dn5) (And.intro @dn6 @dn7)))
end Z
end

section
set_option Elab.async false
set_option linter.all false
set_option maxRecDepth 100000
set_option maxHeartbeats 0
namespace ZL
open PySem PySem.Spec PyProof.Rows L2 Z
def f_0 : Def := ⟨"is_whole", ["value"], ["value"],
      (.cons (.sRet (.and (.isi (.var 0) "int") (.one (.not (.isi (.var 0) "bool")))))
      .nil)⟩
def f_1 : Def := ⟨"is_between", ["value", "low", "high"], ["value", "low", "high"],
      (.cons (.sIf (.not (.call 0 (.cons (.var 0) .nil)))
      (.cons (.sRet (.cst (.bl false)))
      .nil)
      .nil)
      (.cons (.sRet (.and (.or (.cmp .is_ (.var 1) (.cst .non)) (.one (.cmp .ge (.var 0) (.var 1)))) (.one (.or (.cmp .is_ (.var 2) (.cst .non)) (.one (.cmp .le (.var 0) (.var 2)))))))
      .nil))⟩
def f_2_c0 : X := (.not (.call 1 (.cons (.var 1) (.cons (.cst (.int (1))) (.cons (.cst .non) .nil)))))
def f_2 : Def := ⟨"link_fits", ["value"], ["value", "item"],
      (.cons (.sIf (.or (.not (.isi (.var 0) "tuple")) (.one (.cmp .ne (.bi .len (.cons (.var 0) .nil)) (.cst (.int (4))))))
      (.cons (.sRet (.cst (.bl false)))
      .nil)
      .nil)
      (.cons (.sRet (.cmp .eq (.comp (.var 1) (.tName 1) (.iEx (.var 0)) f_2_c0 [1]) (.lst .nil)))
      .nil))⟩
def f_3 : Def := ⟨"check_link", ["link"], ["link"],
      (.cons (.sIf (.not (.call 2 (.cons (.var 0) .nil)))
      (.cons .sNo
      .nil)
      .nil)
      .nil)⟩
def f_4 : Def := ⟨"bit_fits", ["value"], ["value"],
      (.cons (.sRet (.call 1 (.cons (.var 0) (.cons (.cst (.int (0))) (.cons (.cst (.int (1))) .nil)))))
      .nil)⟩
def f_5 : Def := ⟨"copy_fits", ["value"], ["value"],
      (.cons (.sRet (.and (.isi (.var 0) "str") (.one (.cmp .in_ (.var 0) (.con 0)))))
      .nil)⟩
def f_6_c0 : X := (.not (.call 1 (.cons (.var 3) (.cons (.cst (.int (0))) (.cons (.cst .non) .nil)))))
def f_6 : Def := ⟨"counts_fit", ["value", "size", "most"], ["value", "size", "most", "item"],
      (.cons (.sIf (.or (.not (.isi (.var 0) "tuple")) (.one (.cmp .ne (.bi .len (.cons (.var 0) .nil)) (.var 1))))
      (.cons (.sRet (.cst (.bl false)))
      .nil)
      .nil)
      (.cons (.sIf (.cmp .ne (.comp (.var 3) (.tName 3) (.iEx (.var 0)) f_6_c0 [3]) (.lst .nil))
      (.cons (.sRet (.cst (.bl false)))
      .nil)
      .nil)
      (.cons (.sRet (.cmp .le (.bi .sum (.cons (.var 0) .nil)) (.var 2)))
      .nil)))⟩
def f_7_s0 : X := (.sIf (.or (.not (.isi (.var 1) "tuple")) (.or (.cmp .ne (.bi .len (.cons (.var 1) .nil)) (.cst (.int (2)))) (.one (.not (.isi (.sub (.var 1) (.cst (.int (0)))) "str")))))
      (.cons (.sRet (.cst (.bl false)))
      .nil)
      .nil)
def f_7_s1 : X := (.sIf (.or (.cmp .notIn (.sub (.var 1) (.cst (.int (0)))) (.lst (.cons (.cst (.str "new")) (.cons (.cst (.str "old")) .nil)))) (.one (.and (.cmp .eq (.sub (.var 1) (.cst (.int (0)))) (.cst (.str "new"))) (.one (.var 2)))))
      (.cons (.sRet (.cst (.bl false)))
      .nil)
      .nil)
def f_7 : Def := ⟨"lot_fits", ["link", "value", "alike"], ["link", "value", "alike"],
      (.cons (.sIf (.cmp .is_ (.var 1) (.cst .non))
      (.cons (.sRet (.cst (.bl true)))
      .nil)
      .nil)
      (.cons f_7_s0
      (.cons f_7_s1
      (.cons (.sRet (.call 1 (.cons (.sub (.var 1) (.cst (.int (1)))) (.cons (.cst (.int (1))) (.cons (.bin .sub (.sub (.var 0) (.cst (.int (2)))) (.cst (.int (1)))) .nil)))))
      .nil))))⟩
def f_8_s0 : X := (.sIf (.or (.not (.isi (.var 1) "tuple")) (.or (.cmp .ne (.bi .len (.cons (.var 1) .nil)) (.cst (.int (2)))) (.or (.not (.isi (.var 2) "tuple")) (.one (.cmp .ne (.bi .len (.cons (.var 2) .nil)) (.cst (.int (3))))))))
      (.cons (.sRet (.cst (.bl false)))
      .nil)
      .nil)
def f_8_s1 : X := (.sIf (.or (.not (.call 4 (.cons (.sub (.var 1) (.cst (.int (0)))) .nil))) (.one (.not (.call 1 (.cons (.sub (.var 1) (.cst (.int (1)))) (.cons (.cst (.int (0))) (.cons (.bin .sub (.sub (.var 0) (.cst (.int (3)))) (.cst (.int (1)))) .nil)))))))
      (.cons (.sRet (.cst (.bl false)))
      .nil)
      .nil)
def f_8 : Def := ⟨"hosts_fit", ["link", "sender", "receiver"], ["link", "sender", "receiver"],
      (.cons f_8_s0
      (.cons f_8_s1
      (.cons (.sIf (.or (.not (.call 4 (.cons (.sub (.var 2) (.cst (.int (0)))) .nil))) (.one (.not (.isi (.sub (.var 2) (.cst (.int (2)))) "bool"))))
      (.cons (.sRet (.cst (.bl false)))
      .nil)
      .nil)
      (.cons (.sRet (.call 7 (.cons (.var 0) (.cons (.sub (.var 2) (.cst (.int (1)))) (.cons (.cmp .eq (.sub (.var 1) (.cst (.int (0)))) (.sub (.var 2) (.cst (.int (0))))) .nil)))))
      .nil))))⟩
def f_9_s0 : X := (.sIf (.or (.not (.isi (.var 1) "tuple")) (.or (.cmp .ne (.bi .len (.cons (.var 1) .nil)) (.cst (.int (4)))) (.one (.not (.call 8 (.cons (.var 0) (.cons (.sub (.var 1) (.cst (.int (0)))) (.cons (.sub (.var 1) (.cst (.int (1)))) .nil))))))))
      (.cons (.sRet (.cst (.bl false)))
      .nil)
      .nil)
def f_9 : Def := ⟨"contents_fit", ["link", "value"], ["link", "value"],
      (.cons f_9_s0
      (.cons (.sRet (.and (.call 6 (.cons (.sub (.var 1) (.cst (.int (2)))) (.cons (.cst (.int (3))) (.cons (.sub (.var 0) (.cst (.int (0)))) .nil)))) (.one (.call 6 (.cons (.sub (.var 1) (.cst (.int (3)))) (.cons (.cst (.int (2))) (.cons (.sub (.var 0) (.cst (.int (1)))) .nil)))))))
      .nil))⟩
def f_10 : Def := ⟨"check_contents", ["link", "contents"], ["link", "contents"],
      (.cons (.sEx (.call 3 (.cons (.var 0) .nil)))
      (.cons (.sIf (.not (.call 9 (.cons (.var 0) (.cons (.var 1) .nil))))
      (.cons .sNo
      .nil)
      .nil)
      .nil))⟩
def f_11_s0 : X := (.sIf (.cmp .in_ (.sub (.var 0) (.cst (.int (0)))) (.lst (.cons (.cst (.str "drop")) (.cons (.cst (.str "bring")) .nil))))
      (.cons (.sRet (.and (.cmp .eq (.bi .len (.cons (.var 0) .nil)) (.cst (.int (2)))) (.one (.call 5 (.cons (.sub (.var 0) (.cst (.int (1)))) .nil)))))
      .nil)
      .nil)
def f_11 : Def := ⟨"event_fits", ["value"], ["value"],
      (.cons (.sIf (.or (.not (.isi (.var 0) "tuple")) (.or (.cmp .eq (.var 0) (.tup .nil)) (.one (.not (.isi (.sub (.var 0) (.cst (.int (0)))) "str")))))
      (.cons (.sRet (.cst (.bl false)))
      .nil)
      .nil)
      (.cons (.sIf (.cmp .eq (.sub (.var 0) (.cst (.int (0)))) (.cst (.str "send")))
      (.cons (.sRet (.cmp .eq (.bi .len (.cons (.var 0) .nil)) (.cst (.int (1)))))
      .nil)
      .nil)
      (.cons f_11_s0
      (.cons (.sRet (.and (.cmp .in_ (.sub (.var 0) (.cst (.int (0)))) (.lst (.cons (.cst (.str "miss")) (.cons (.cst (.str "hear")) .nil)))) (.and (.cmp .eq (.bi .len (.cons (.var 0) .nil)) (.cst (.int (2)))) (.one (.call 4 (.cons (.sub (.var 0) (.cst (.int (1)))) .nil))))))
      .nil))))⟩
def f_12_e0 : X := (.ite (.cmp .eq (.var 3) (.var 1)) (.bin .add (.var 4) (.var 2)) (.var 4))
def f_12 : Def := ⟨"changed", ["counts", "place", "more"], ["counts", "place", "more", "at", "many"],
      (.cons (.sRet (.bi .tuple (.cons (.comp f_12_e0 (.tTup (.cons (.tName 3) (.cons (.tName 4) .nil))) (.iEnum (.var 0)) (.cst (.bl true)) [3, 4]) .nil)))
      .nil)⟩
def f_13_s0 : X := (.sIf (.cmp .in_ (.sub (.var 2) (.cst (.int (0)))) (.lst (.cons (.cst (.str "drop")) (.cons (.cst (.str "bring")) .nil))))
      (.cons (.sRet (.cmp .gt (.sub (.sub (.var 1) (.cst (.int (2)))) (.md .indexT (.con 0) (.cons (.sub (.var 2) (.cst (.int (1)))) .nil))) (.cst (.int (0)))))
      .nil)
      .nil)
def f_13 : Def := ⟨"possible_in", ["link", "contents", "event"], ["link", "contents", "event"],
      (.cons (.sIf (.cmp .eq (.sub (.var 2) (.cst (.int (0)))) (.cst (.str "send")))
      (.cons (.sRet (.cmp .lt (.bi .sum (.cons (.sub (.var 1) (.cst (.int (2)))) .nil)) (.sub (.var 0) (.cst (.int (0))))))
      .nil)
      .nil)
      (.cons f_13_s0
      (.cons (.sRet (.cmp .gt (.sub (.sub (.var 1) (.cst (.int (3)))) (.sub (.var 2) (.cst (.int (1))))) (.cst (.int (0)))))
      .nil)))⟩
def f_14_s0 : X := (.sIf (.cmp .ge (.var 3) (.sub (.var 0) (.cst (.int (2)))))
      (.cons (.sRet (.tup (.cons (.tup (.cons (.bin .sub (.cst (.int (1))) (.var 4)) (.cons (.cst .non) (.cons (.or (.var 6) (.one (.cmp .eq (.var 2) (.cst (.str "new"))))) .nil)))) (.cons (.cst (.bl true)) .nil))))
      .nil)
      .nil)
def f_14 : Def := ⟨"lot_behind", ["link", "receiver", "sort"], ["link", "receiver", "sort", "many", "bit", "lot", "done"],
      (.cons (.sSet (.tTup (.cons (.tName 4) (.cons (.tName 5) (.cons (.tName 6) .nil)))) (.var 1))
      (.cons (.sSet (.tName 3) (.ite (.and (.cmp .isNot (.var 5) (.cst .non)) (.one (.cmp .eq (.sub (.var 5) (.cst (.int (0)))) (.var 2)))) (.bin .add (.sub (.var 5) (.cst (.int (1)))) (.cst (.int (1)))) (.cst (.int (1)))))
      (.cons f_14_s0
      (.cons (.sRet (.tup (.cons (.tup (.cons (.var 4) (.cons (.tup (.cons (.var 2) (.cons (.var 3) .nil))) (.cons (.var 6) .nil)))) (.cons (.cst (.bl false)) .nil))))
      .nil))))⟩
def f_15_s0 : X := (.sIf (.and (.var 11) (.one (.cmp .eq (.var 8) (.cst (.str "old")))))
      (.cons (.sSet (.tName 9) (.cst (.str "made")))
      .nil)
      (.cons (.sIf (.and (.var 11) (.one (.sub (.var 5) (.cst (.int (2))))))
      (.cons (.sSet (.tName 9) (.cst (.str "twice")))
      .nil)
      .nil)
      .nil))
def f_15_s1 : X := (.sIf (.cmp .eq (.var 3) (.sub (.var 5) (.cst (.int (0)))))
      (.cons (.sSet (.tName 10) (.tup (.cons (.var 3) (.cons (.cst .non) (.cons (.sub (.var 5) (.cst (.int (2)))) .nil)))))
      .nil)
      (.cons (.sSet (.tTup (.cons (.tName 10) (.cons (.tName 11) .nil))) (.call 14 (.cons (.var 0) (.cons (.var 5) (.cons (.var 8) .nil)))))
      (.cons f_15_s0
      .nil)))
def f_15_s2 : X := (.sIf (.and (.cmp .eq (.sub (.var 10) (.cst (.int (0)))) (.var 3)) (.one (.cmp .lt (.bi .sum (.cons (.var 7) .nil)) (.sub (.var 0) (.cst (.int (1)))))))
      (.cons (.sSet (.tName 7) (.call 12 (.cons (.var 7) (.cons (.var 3) (.cons (.cst (.int (1))) .nil)))))
      .nil)
      .nil)
def f_15 : Def := ⟨"brought", ["link", "contents", "copy"], ["link", "contents", "copy", "bit", "sender", "receiver", "there", "back", "sort", "wrong", "later", "out"],
      (.cons (.sSet (.tTup (.cons (.tName 4) (.cons (.tName 5) (.cons (.tName 6) (.cons (.tName 7) .nil))))) (.var 1))
      (.cons (.sSet (.tName 3) (.ite (.cmp .eq (.var 2) (.cst (.str "new"))) (.sub (.var 4) (.cst (.int (0)))) (.bin .sub (.md .indexT (.con 0) (.cons (.var 2) .nil)) (.cst (.int (1))))))
      (.cons (.sPar [8, 9] (.cons (.giv (.ite (.cmp .eq (.var 2) (.cst (.str "new"))) (.cst (.str "new")) (.cst (.str "old")))) (.cons (.cst .non) .nil)))
      (.cons f_15_s1
      (.cons f_15_s2
      (.cons (.sRet (.tup (.cons (.tup (.cons (.var 4) (.cons (.var 10) (.cons (.call 12 (.cons (.var 6) (.cons (.md .indexT (.con 0) (.cons (.var 2) .nil)) (.cons (.neg (.cst (.int (1)))) .nil)))) (.cons (.var 7) .nil))))) (.cons (.var 9) .nil))))
      .nil))))))⟩
def f_16 : Def := ⟨"next_turn", ["contents"], ["contents", "lot", "bit", "receiver", "there"],
      (.cons (.sPar [2, 3, 4] (.cons (.giv (.sub (.sub (.var 0) (.cst (.int (0)))) (.cst (.int (0))))) (.cons (.giv (.sub (.var 0) (.cst (.int (1))))) (.cons (.giv (.sub (.var 0) (.cst (.int (2))))) .nil))))
      (.cons (.sSet (.tName 1) (.ite (.cmp .is_ (.sub (.var 3) (.cst (.int (1)))) (.cst .non)) (.cst .non) (.tup (.cons (.cst (.str "old")) (.cons (.sub (.sub (.var 3) (.cst (.int (1)))) (.cst (.int (1)))) .nil)))))
      (.cons (.sRet (.tup (.cons (.tup (.cons (.bin .sub (.cst (.int (1))) (.var 2)) (.cons (.cst (.int (0))) .nil))) (.cons (.tup (.cons (.sub (.var 3) (.cst (.int (0)))) (.cons (.var 1) (.cons (.cst (.bl false)) .nil)))) (.cons (.call 12 (.cons (.bin .add (.tup (.cons (.cst (.int (0))) .nil)) (.slc (.var 4) (.cst (.int (1))) .noX)) (.cons (.bin .add (.cst (.int (1))) (.var 2)) (.cons (.sub (.var 4) (.cst (.int (0)))) .nil)))) (.cons (.sub (.var 0) (.cst (.int (3)))) .nil))))))
      .nil)))⟩
def f_17_s0 : X := (.sIf (.cmp .ne (.var 2) (.sub (.var 5) (.cst (.int (0)))))
      (.cons (.sRet (.tup (.cons (.tup (.cons (.var 5) (.cons (.var 6) (.cons (.var 7) (.cons (.var 3) .nil))))) (.cons (.cst .non) .nil))))
      .nil)
      .nil)
def f_17 : Def := ⟨"told_answer", ["link", "contents", "bit"], ["link", "contents", "bit", "back", "later", "sender", "receiver", "there"],
      (.cons (.sSet (.tTup (.cons (.tName 5) (.cons (.tName 6) (.cons (.tName 7) (.cons (.tName 3) .nil))))) (.var 1))
      (.cons (.sSet (.tName 3) (.call 12 (.cons (.var 3) (.cons (.var 2) (.cons (.neg (.cst (.int (1)))) .nil)))))
      (.cons f_17_s0
      (.cons (.sSet (.tName 4) (.tup (.cons (.tup (.cons (.var 2) (.cons (.bin .add (.sub (.var 5) (.cst (.int (1)))) (.cst (.int (1)))) .nil))) (.cons (.var 6) (.cons (.var 7) (.cons (.var 3) .nil))))))
      (.cons (.sIf (.cmp .lt (.sub (.sub (.var 4) (.cst (.int (0)))) (.cst (.int (1)))) (.sub (.var 0) (.cst (.int (3)))))
      (.cons (.sRet (.tup (.cons (.var 4) (.cons (.cst .non) .nil))))
      .nil)
      .nil)
      (.cons (.sRet (.tup (.cons (.call 16 (.cons (.var 4) .nil)) (.cons (.ite (.sub (.var 6) (.cst (.int (2)))) (.cst .non) (.cst (.str "lost"))) .nil))))
      .nil))))))⟩
def f_18_s0 : X := (.sIf (.cmp .eq (.sub (.var 2) (.cst (.int (0)))) (.cst (.str "send")))
      (.cons (.sRet (.tup (.cons (.tup (.cons (.var 3) (.cons (.var 4) (.cons (.call 12 (.cons (.var 5) (.cons (.cst (.int (0))) (.cons (.cst (.int (1))) .nil)))) (.cons (.var 6) .nil))))) (.cons (.cst .non) .nil))))
      .nil)
      .nil)
def f_18_s1 : X := (.sIf (.cmp .eq (.sub (.var 2) (.cst (.int (0)))) (.cst (.str "drop")))
      (.cons (.sRet (.tup (.cons (.tup (.cons (.var 3) (.cons (.var 4) (.cons (.call 12 (.cons (.var 5) (.cons (.md .indexT (.con 0) (.cons (.sub (.var 2) (.cst (.int (1)))) .nil)) (.cons (.neg (.cst (.int (1)))) .nil)))) (.cons (.var 6) .nil))))) (.cons (.cst .non) .nil))))
      .nil)
      .nil)
def f_18_s2 : X := (.sIf (.cmp .eq (.sub (.var 2) (.cst (.int (0)))) (.cst (.str "miss")))
      (.cons (.sRet (.tup (.cons (.tup (.cons (.var 3) (.cons (.var 4) (.cons (.var 5) (.cons (.call 12 (.cons (.var 6) (.cons (.sub (.var 2) (.cst (.int (1)))) (.cons (.neg (.cst (.int (1)))) .nil)))) .nil))))) (.cons (.cst .non) .nil))))
      .nil)
      .nil)
def f_18 : Def := ⟨"behind_in", ["link", "contents", "event"], ["link", "contents", "event", "sender", "receiver", "there", "back"],
      (.cons (.sSet (.tTup (.cons (.tName 3) (.cons (.tName 4) (.cons (.tName 5) (.cons (.tName 6) .nil))))) (.var 1))
      (.cons f_18_s0
      (.cons f_18_s1
      (.cons f_18_s2
      (.cons (.sRet (.ite (.cmp .eq (.sub (.var 2) (.cst (.int (0)))) (.cst (.str "bring"))) (.call 15 (.cons (.var 0) (.cons (.var 1) (.cons (.sub (.var 2) (.cst (.int (1)))) .nil)))) (.call 17 (.cons (.var 0) (.cons (.var 1) (.cons (.sub (.var 2) (.cst (.int (1)))) .nil))))))
      .nil)))))⟩
def f_19_c0 : X := (.call 13 (.cons (.var 0) (.cons (.var 1) (.cons (.var 2) .nil))))
def f_19 : Def := ⟨"events_in", ["link", "contents"], ["link", "contents", "event"],
      (.cons (.sRet (.comp (.var 2) (.tName 2) (.iEx (.con 2)) f_19_c0 [2]))
      .nil)⟩
def f_20 : Def := ⟨"ends_in", ["link", "contents", "event"], ["link", "contents", "event"],
      (.cons (.sRet (.and (.cmp .eq (.var 2) (.tup (.cons (.cst (.str "hear")) (.cons (.sub (.sub (.var 1) (.cst (.int (0)))) (.cst (.int (0)))) .nil)))) (.one (.cmp .ge (.bin .add (.sub (.sub (.var 1) (.cst (.int (0)))) (.cst (.int (1)))) (.cst (.int (1)))) (.sub (.var 0) (.cst (.int (3))))))))
      .nil)⟩
def f_21 : Def := ⟨"check_possible", ["link", "contents", "event"], ["link", "contents", "event"],
      (.cons (.sEx (.call 10 (.cons (.var 0) (.cons (.var 1) .nil))))
      (.cons (.sIf (.or (.not (.call 11 (.cons (.var 2) .nil))) (.one (.not (.call 13 (.cons (.var 0) (.cons (.var 1) (.cons (.var 2) .nil)))))))
      (.cons .sNo
      .nil)
      .nil)
      .nil))⟩
def f_22 : Def := ⟨"possible_events", ["link", "contents"], ["link", "contents"],
      (.cons (.sEx (.call 10 (.cons (.var 0) (.cons (.var 1) .nil))))
      (.cons (.sRet (.call 19 (.cons (.var 0) (.cons (.var 1) .nil))))
      .nil))⟩
def f_23 : Def := ⟨"behind", ["link", "contents", "event"], ["link", "contents", "event"],
      (.cons (.sEx (.call 21 (.cons (.var 0) (.cons (.var 1) (.cons (.var 2) .nil)))))
      (.cons (.sRet (.sub (.call 18 (.cons (.var 0) (.cons (.var 1) (.cons (.var 2) .nil)))) (.cst (.int (0)))))
      .nil))⟩
def f_24 : Def := ⟨"ends_turn", ["link", "contents", "event"], ["link", "contents", "event"],
      (.cons (.sEx (.call 21 (.cons (.var 0) (.cons (.var 1) (.cons (.var 2) .nil)))))
      (.cons (.sRet (.call 20 (.cons (.var 0) (.cons (.var 1) (.cons (.var 2) .nil)))))
      .nil))⟩
def f_25_c0 : X := (.cmp .eq (.sub (.call 18 (.cons (.var 0) (.cons (.var 1) (.cons (.var 3) .nil)))) (.cst (.int (0)))) (.var 2))
def f_25 : Def := ⟨"leading_to", ["link", "contents", "other"], ["link", "contents", "other", "event"],
      (.cons (.sEx (.call 10 (.cons (.var 0) (.cons (.var 1) .nil))))
      (.cons (.sIf (.not (.call 9 (.cons (.var 0) (.cons (.var 2) .nil))))
      (.cons .sNo
      .nil)
      .nil)
      (.cons (.sRet (.comp (.var 3) (.tName 3) (.iEx (.call 19 (.cons (.var 0) (.cons (.var 1) .nil)))) f_25_c0 [3]))
      .nil)))⟩
def f_26 : Def := ⟨"_law_hash", ["_law_seed", "_law_index"], ["_law_seed", "_law_index", "_law_mixed"],
      (.cons (.sSet (.tName 2) (.bin .mod (.bi .int (.cons (.bin .add (.bin .add (.bin .add (.bin .mul (.var 0) (.cst (.int (1140671)))) (.bin .mul (.bin .mul (.cst (.int (27644437))) (.var 1)) (.var 1))) (.bin .mul (.cst (.int (131))) (.var 1))) (.cst (.int (19)))) .nil)) (.cst (.int (2147483629)))))
      (.cons (.sSet (.tName 2) (.bin .mod (.bi .int (.cons (.bin .add (.bin .add (.bin .mul (.var 2) (.var 2)) (.bin .mul (.cst (.int (62089))) (.var 1))) (.cst (.int (32416187)))) .nil)) (.cst (.int (2147483587)))))
      (.cons (.sRet (.bin .mod (.bi .int (.cons (.bin .mul (.var 2) (.cst (.int (48271)))) .nil)) (.cst (.int (2147483647)))))
      .nil)))⟩
def f_27_s0 : X := (.sIf (.cmp .gt (.sub (.var 0) (.cst (.int (0)))) (.cst (.int (0))))
      (.cons (.sSet (.tName 2) (.bin .mod (.bi .int (.cons (.sub (.var 0) (.cst (.int (0)))) .nil)) (.var 1)))
      (.cons (.sSubC 0 (.cst (.int (0))) (.bin .fdiv (.sub (.var 0) (.cst (.int (0)))) (.var 1)))
      (.cons (.sRet (.var 2))
      .nil)))
      .nil)
def f_27_b0 : X := (.cons (.sSubC 0 (.cst (.int (2))) (.bin .add (.sub (.var 0) (.cst (.int (2)))) (.cst (.int (1)))))
      (.cons (.sSet (.tName 2) (.bin .add (.bin .mul (.var 2) (.cst (.int (2147483587)))) (.call 26 (.cons (.sub (.var 0) (.cst (.int (1)))) (.cons (.sub (.var 0) (.cst (.int (2)))) .nil)))))
      .nil))
def f_27 : Def := ⟨"_law_random", ["_law_generator_here", "_law_bound"], ["_law_generator_here", "_law_bound", "_law_drawn", "_law_turn"],
      (.cons f_27_s0
      (.cons (.sSet (.tName 2) (.cst (.int (0))))
      (.cons (.sFor (.tName 3) (.iRng (.cons (.bin .add (.cst (.int (1))) (.bin .fdiv (.md .bits (.var 1) .nil) (.cst (.int (30))))) .nil)) f_27_b0)
      (.cons (.sRet (.bin .mod (.bi .int (.cons (.var 2) .nil)) (.var 1)))
      .nil))))⟩
def f_28 : Def := ⟨"_law_cell", ["_law_script", "_law_index"], ["_law_script", "_law_index"],
      (.cons (.sIf (.cmp .lt (.var 1) (.bi .len (.cons (.var 0) .nil)))
      (.cons (.sRet (.sub (.var 0) (.var 1)))
      .nil)
      .nil)
      (.cons (.sRet (.bin .mod (.bi .sum (.cons (.slc (.var 0) .noX (.cst (.int (1)))) .nil)) (.cst (.int (1000003)))))
      .nil))⟩
def f_29 : Def := ⟨"_law_generator", ["_law_script", "_law_index"], ["_law_script", "_law_index", "_law_seed"],
      (.cons (.sSet (.tName 2) (.call 28 (.cons (.var 0) (.cons (.var 1) .nil))))
      (.cons (.sRet (.lst (.cons (.bin .mod (.bi .int (.cons (.bi .max (.cons (.bin .sub (.var 2) (.bin .pow (.cst (.int (10))) (.cst (.int (18))))) (.cons (.cst (.int (0))) .nil))) .nil)) (.bin .pow (.bin .pow (.cst (.int (10))) (.cst (.int (60)))) (.cst (.int (10))))) (.cons (.bin .mod (.bi .int (.cons (.var 2) .nil)) (.cst (.int (2147483647)))) (.cons (.bin .mul (.cst (.int (1000))) (.var 1)) .nil)))))
      .nil))⟩
def f_30 : Def := ⟨"_law_number", ["_law_generator_here", "_law_low", "_law_high"], ["_law_generator_here", "_law_low", "_law_high"],
      (.cons (.sRet (.bin .add (.var 1) (.call 27 (.cons (.var 0) (.cons (.bin .add (.bin .sub (.var 2) (.var 1)) (.cst (.int (1)))) .nil)))))
      .nil)⟩
def f_31 : Def := ⟨"_law_link", ["_law_generator_here", "_law_most"], ["_law_generator_here", "_law_most", "_law_places", "_law_back"],
      (.cons (.sPar [2, 3] (.cons (.giv (.call 30 (.cons (.var 0) (.cons (.cst (.int (1))) (.cons (.var 1) .nil))))) (.cons (.giv (.call 30 (.cons (.var 0) (.cons (.cst (.int (1))) (.cons (.var 1) .nil))))) .nil)))
      (.cons (.sRet (.tup (.cons (.var 2) (.cons (.var 3) (.cons (.call 30 (.cons (.var 0) (.cons (.cst (.int (1))) (.cons (.var 1) .nil)))) (.cons (.call 30 (.cons (.var 0) (.cons (.cst (.int (1))) (.cons (.var 1) .nil)))) .nil))))))
      .nil))⟩
def f_32_b0 : X := (.cons (.sSet (.tName 6) (.ite (.cmp .eq (.call 27 (.cons (.var 0) (.cons (.cst (.int (2))) .nil))) (.cst (.int (0)))) (.sub (.lst (.cons (.cst (.int (0))) (.cons (.var 5) (.cons (.call 30 (.cons (.var 0) (.cons (.cst (.int (0))) (.cons (.var 5) .nil)))) .nil)))) (.call 27 (.cons (.var 0) (.cons (.cst (.int (3))) .nil)))) (.call 30 (.cons (.var 0) (.cons (.cst (.int (0))) (.cons (.var 5) .nil))))))
      (.cons (.sApp 4 (.var 6))
      (.cons (.sSet (.tName 5) (.bin .sub (.var 5) (.var 6)))
      .nil)))
def f_32 : Def := ⟨"_law_share", ["_law_generator_here", "_law_most", "_law_many"], ["_law_generator_here", "_law_most", "_law_many", "_law_turn", "_law_found", "_law_left", "_law_part"],
      (.cons (.sPar [4, 5] (.cons (.lst .nil) (.cons (.var 1) .nil)))
      (.cons (.sFor (.tName 3) (.iRng (.cons (.var 2) .nil)) f_32_b0)
      (.cons (.sDis 4 (.sRet (.ite (.cmp .eq (.call 27 (.cons (.var 0) (.cons (.cst (.int (2))) .nil))) (.cst (.int (0)))) (.var 4) (.rev (.pv 4)))))
      .nil)))⟩
def f_33_s0 : X := (.sIf (.and (.cmp .gt (.sub (.var 1) (.cst (.int (2)))) (.cst (.int (1)))) (.one (.cmp .gt (.call 27 (.cons (.var 0) (.cons (.cst (.int (3))) .nil))) (.cst (.int (0))))))
      (.cons (.sSet (.tName 6) (.ite (.cmp .ne (.var 4) (.var 5)) (.sub (.lst (.cons (.cst (.str "new")) (.cons (.cst (.str "old")) .nil))) (.call 27 (.cons (.var 0) (.cons (.cst (.int (2))) .nil)))) (.cst (.str "old"))))
      (.cons (.sSet (.tName 2) (.tup (.cons (.var 6) (.cons (.sub (.lst (.cons (.cst (.int (1))) (.cons (.bin .sub (.sub (.var 1) (.cst (.int (2)))) (.cst (.int (1)))) (.cons (.call 30 (.cons (.var 0) (.cons (.cst (.int (1))) (.cons (.bin .sub (.sub (.var 1) (.cst (.int (2)))) (.cst (.int (1)))) .nil)))) .nil)))) (.call 27 (.cons (.var 0) (.cons (.cst (.int (3))) .nil)))) .nil))))
      .nil))
      .nil)
def f_33 : Def := ⟨"_law_contents", ["_law_generator_here", "_law_link_here"], ["_law_generator_here", "_law_link_here", "_law_lot", "_law_heard", "_law_bit", "_law_has", "_law_sort", "_law_there", "_law_back"],
      (.cons (.sPar [4, 5] (.cons (.giv (.call 27 (.cons (.var 0) (.cons (.cst (.int (2))) .nil)))) (.cons (.giv (.call 27 (.cons (.var 0) (.cons (.cst (.int (2))) .nil)))) .nil)))
      (.cons (.sSet (.tName 2) (.cst .non))
      (.cons f_33_s0
      (.cons (.sSet (.tName 3) (.sub (.lst (.cons (.cst (.int (0))) (.cons (.bin .sub (.sub (.var 1) (.cst (.int (3)))) (.cst (.int (1)))) (.cons (.call 30 (.cons (.var 0) (.cons (.cst (.int (0))) (.cons (.bin .sub (.sub (.var 1) (.cst (.int (3)))) (.cst (.int (1)))) .nil)))) .nil)))) (.call 27 (.cons (.var 0) (.cons (.cst (.int (3))) .nil)))))
      (.cons (.sPar [7, 8] (.cons (.giv (.call 32 (.cons (.var 0) (.cons (.sub (.var 1) (.cst (.int (0)))) (.cons (.cst (.int (3))) .nil))))) (.cons (.giv (.call 32 (.cons (.var 0) (.cons (.sub (.var 1) (.cst (.int (1)))) (.cons (.cst (.int (2))) .nil))))) .nil)))
      (.cons (.sRet (.tup (.cons (.tup (.cons (.var 4) (.cons (.var 3) .nil))) (.cons (.tup (.cons (.var 5) (.cons (.var 2) (.cons (.cmp .eq (.call 27 (.cons (.var 0) (.cons (.cst (.int (2))) .nil))) (.cst (.int (0)))) .nil)))) (.cons (.bi .tuple (.cons (.var 7) .nil)) (.cons (.bi .tuple (.cons (.var 8) .nil)) .nil))))))
      .nil))))))⟩
def f_34 : Def := ⟨"_law_more", ["_law_counts", "_law_place", "_law_more_here"], ["_law_counts", "_law_place", "_law_more_here"],
      (.cons (.sRet (.bin .add (.bin .add (.slc (.var 0) .noX (.var 1)) (.tup (.cons (.bin .add (.sub (.var 0) (.var 1)) (.var 2)) .nil))) (.slc (.var 0) (.bin .add (.var 1) (.cst (.int (1)))) .noX)))
      .nil)⟩
def f_35_b0 : X := (.cons (.sSet (.tName 0) (.bin .add (.var 0) (.lst (.cons (.tup (.cons (.cst (.str "drop")) (.cons (.var 1) .nil))) (.cons (.tup (.cons (.cst (.str "bring")) (.cons (.var 1) .nil))) .nil)))))
      .nil)
def f_35 : Def := ⟨"_law_events", [], ["_law_found", "_law_copy_there"],
      (.cons (.sSet (.tName 0) (.lst (.cons (.tup (.cons (.cst (.str "send")) .nil)) .nil)))
      (.cons (.sFor (.tName 1) (.iEx (.lst (.cons (.cst (.str "new")) (.cons (.cst (.str "zero")) (.cons (.cst (.str "one")) .nil))))) f_35_b0)
      (.cons (.sRet (.bin .add (.var 0) (.lst (.cons (.tup (.cons (.cst (.str "miss")) (.cons (.cst (.int (0))) .nil))) (.cons (.tup (.cons (.cst (.str "miss")) (.cons (.cst (.int (1))) .nil))) (.cons (.tup (.cons (.cst (.str "hear")) (.cons (.cst (.int (0))) .nil))) (.cons (.tup (.cons (.cst (.str "hear")) (.cons (.cst (.int (1))) .nil))) .nil)))))))
      .nil)))⟩
def f_36_s0 : X := (.sIf (.cmp .eq (.sub (.var 9) (.cst (.int (1)))) (.sub (.var 0) (.cst (.int (2)))))
      (.cons (.sIf (.cmp .eq (.var 12) (.cst (.str "old")))
      (.cons (.sSet (.tName 13) (.cst (.str "made")))
      .nil)
      .nil)
      (.cons (.sIf (.and (.cmp .eq (.var 12) (.cst (.str "new"))) (.one (.var 10)))
      (.cons (.sSet (.tName 13) (.cst (.str "twice")))
      .nil)
      .nil)
      (.cons (.sPar [8, 9, 10, 14] (.cons (.var 11) (.cons (.cst .non) (.cons (.giv (.or (.var 10) (.one (.cmp .eq (.var 12) (.cst (.str "new")))))) (.cons (.cst (.bl true)) .nil)))))
      .nil)))
      .nil)
def f_36_s1 : X := (.sIf (.cmp .eq (.var 11) (.var 8))
      (.cons (.sSet (.tName 9) (.cst .non))
      .nil)
      (.cons (.sSet (.tName 9) (.ite (.or (.cmp .is_ (.var 9) (.cst .non)) (.one (.cmp .ne (.sub (.var 9) (.cst (.int (0)))) (.var 12)))) (.tup (.cons (.var 12) (.cons (.cst (.int (1))) .nil))) (.tup (.cons (.var 12) (.cons (.bin .add (.sub (.var 9) (.cst (.int (1)))) (.cst (.int (1)))) .nil)))))
      (.cons f_36_s0
      .nil)))
def f_36_s2 : X := (.sIf (.and (.cmp .eq (.var 11) (.var 8)) (.one (.cmp .lt (.bin .add (.sub (.var 7) (.cst (.int (0)))) (.sub (.var 7) (.cst (.int (1))))) (.sub (.var 0) (.cst (.int (1)))))))
      (.cons (.sSet (.tName 7) (.call 34 (.cons (.var 7) (.cons (.var 11) (.cons (.cst (.int (1))) .nil)))))
      .nil)
      .nil)
def f_36 : Def := ⟨"_law_bring", ["_law_link_here", "_law_contents_there", "_law_copy_there"], ["_law_link_here", "_law_contents_there", "_law_copy_there", "_law_place", "_law_sender", "_law_receiver", "_law_there", "_law_back", "_law_has", "_law_lot", "_law_done", "_law_bit", "_law_sort", "_law_wrong", "_law_out"],
      (.cons (.sSet (.tTup (.cons (.tName 4) (.cons (.tName 5) (.cons (.tName 6) (.cons (.tName 7) .nil))))) (.var 1))
      (.cons (.sSet (.tTup (.cons (.tName 8) (.cons (.tName 9) (.cons (.tName 10) .nil)))) (.var 5))
      (.cons (.sSet (.tName 3) (.md .indexL (.lst (.cons (.cst (.str "new")) (.cons (.cst (.str "zero")) (.cons (.cst (.str "one")) .nil)))) (.cons (.var 2) .nil)))
      (.cons (.sPar [11, 12] (.cons (.giv (.ite (.cmp .eq (.var 3) (.cst (.int (0)))) (.sub (.var 4) (.cst (.int (0)))) (.bin .sub (.var 3) (.cst (.int (1)))))) (.cons (.giv (.ite (.cmp .eq (.var 3) (.cst (.int (0)))) (.cst (.str "new")) (.cst (.str "old")))) .nil)))
      (.cons (.sPar [13, 14, 6] (.cons (.cst .non) (.cons (.cst (.bl false)) (.cons (.giv (.call 34 (.cons (.var 6) (.cons (.var 3) (.cons (.bin .sub (.cst (.int (0))) (.cst (.int (1)))) .nil))))) .nil))))
      (.cons f_36_s1
      (.cons f_36_s2
      (.cons (.sRet (.lst (.cons (.tup (.cons (.var 4) (.cons (.tup (.cons (.var 8) (.cons (.var 9) (.cons (.var 10) .nil)))) (.cons (.var 6) (.cons (.var 7) .nil))))) (.cons (.var 13) (.cons (.cst (.bl false)) (.cons (.var 14) .nil))))))
      .nil))))))))⟩
def f_37_s0 : X := (.sIf (.cmp .eq (.sub (.var 2) (.cst (.int (0)))) (.cst (.str "send")))
      (.cons (.sRet (.ite (.cmp .lt (.bi .sum (.cons (.var 7) .nil)) (.sub (.var 0) (.cst (.int (0))))) (.lst (.cons (.tup (.cons (.var 5) (.cons (.var 6) (.cons (.call 34 (.cons (.var 7) (.cons (.cst (.int (0))) (.cons (.cst (.int (1))) .nil)))) (.cons (.var 3) .nil))))) (.cons (.cst .non) (.cons (.cst (.bl false)) (.cons (.cst (.bl false)) .nil))))) (.cst .non)))
      .nil)
      .nil)
def f_37_s1 : X := (.sIf (.cmp .in_ (.sub (.var 2) (.cst (.int (0)))) (.lst (.cons (.cst (.str "drop")) (.cons (.cst (.str "bring")) .nil))))
      (.cons (.sSet (.tName 8) (.md .indexL (.lst (.cons (.cst (.str "new")) (.cons (.cst (.str "zero")) (.cons (.cst (.str "one")) .nil)))) (.cons (.sub (.var 2) (.cst (.int (1)))) .nil)))
      (.cons (.sIf (.cmp .eq (.sub (.var 7) (.var 8)) (.cst (.int (0))))
      (.cons (.sRet (.cst .non))
      .nil)
      .nil)
      (.cons (.sIf (.cmp .eq (.sub (.var 2) (.cst (.int (0)))) (.cst (.str "bring")))
      (.cons (.sRet (.call 36 (.cons (.var 0) (.cons (.var 1) (.cons (.sub (.var 2) (.cst (.int (1)))) .nil)))))
      .nil)
      .nil)
      (.cons (.sRet (.lst (.cons (.tup (.cons (.var 5) (.cons (.var 6) (.cons (.call 34 (.cons (.var 7) (.cons (.var 8) (.cons (.bin .sub (.cst (.int (0))) (.cst (.int (1)))) .nil)))) (.cons (.var 3) .nil))))) (.cons (.cst .non) (.cons (.cst (.bl false)) (.cons (.cst (.bl false)) .nil))))))
      .nil))))
      .nil)
def f_37_s2 : X := (.sIf (.or (.cmp .eq (.sub (.var 2) (.cst (.int (0)))) (.cst (.str "miss"))) (.one (.cmp .ne (.sub (.var 2) (.cst (.int (1)))) (.sub (.var 5) (.cst (.int (0)))))))
      (.cons (.sRet (.lst (.cons (.tup (.cons (.var 5) (.cons (.var 6) (.cons (.var 7) (.cons (.var 3) .nil))))) (.cons (.cst .non) (.cons (.cst (.bl false)) (.cons (.cst (.bl false)) .nil))))))
      .nil)
      .nil)
def f_37_s3 : X := (.sIf (.cmp .lt (.bin .add (.sub (.var 5) (.cst (.int (1)))) (.cst (.int (1)))) (.sub (.var 0) (.cst (.int (3)))))
      (.cons (.sRet (.lst (.cons (.tup (.cons (.tup (.cons (.sub (.var 5) (.cst (.int (0)))) (.cons (.bin .add (.sub (.var 5) (.cst (.int (1)))) (.cst (.int (1)))) .nil))) (.cons (.var 6) (.cons (.var 7) (.cons (.var 3) .nil))))) (.cons (.cst .non) (.cons (.cst (.bl false)) (.cons (.cst (.bl false)) .nil))))))
      .nil)
      .nil)
def f_37 : Def := ⟨"_law_step", ["_law_link_here", "_law_contents_there", "_law_event_there"], ["_law_link_here", "_law_contents_there", "_law_event_there", "_law_back", "_law_later", "_law_sender", "_law_receiver", "_law_there", "_law_place", "_law_wrong", "_law_lot"],
      (.cons (.sSet (.tTup (.cons (.tName 5) (.cons (.tName 6) (.cons (.tName 7) (.cons (.tName 3) .nil))))) (.var 1))
      (.cons f_37_s0
      (.cons f_37_s1
      (.cons (.sIf (.cmp .eq (.sub (.var 3) (.sub (.var 2) (.cst (.int (1))))) (.cst (.int (0))))
      (.cons (.sRet (.cst .non))
      .nil)
      .nil)
      (.cons (.sSet (.tName 3) (.call 34 (.cons (.var 3) (.cons (.sub (.var 2) (.cst (.int (1)))) (.cons (.bin .sub (.cst (.int (0))) (.cst (.int (1)))) .nil)))))
      (.cons f_37_s2
      (.cons f_37_s3
      (.cons (.sPar [9, 10] (.cons (.giv (.ite (.sub (.var 6) (.cst (.int (2)))) (.cst .non) (.cst (.str "lost")))) (.cons (.giv (.sub (.var 6) (.cst (.int (1))))) .nil)))
      (.cons (.sIf (.cmp .isNot (.var 10) (.cst .non))
      (.cons (.sSet (.tName 10) (.tup (.cons (.cst (.str "old")) (.cons (.sub (.var 10) (.cst (.int (1)))) .nil))))
      .nil)
      .nil)
      (.cons (.sSet (.tName 4) (.call 34 (.cons (.tup (.cons (.cst (.int (0))) (.cons (.sub (.var 7) (.cst (.int (1)))) (.cons (.sub (.var 7) (.cst (.int (2)))) .nil)))) (.cons (.bin .add (.cst (.int (1))) (.sub (.var 5) (.cst (.int (0))))) (.cons (.sub (.var 7) (.cst (.int (0)))) .nil)))))
      (.cons (.sRet (.lst (.cons (.tup (.cons (.tup (.cons (.bin .sub (.cst (.int (1))) (.sub (.var 5) (.cst (.int (0))))) (.cons (.cst (.int (0))) .nil))) (.cons (.tup (.cons (.sub (.var 6) (.cst (.int (0)))) (.cons (.var 10) (.cons (.cst (.bl false)) .nil)))) (.cons (.var 4) (.cons (.var 3) .nil))))) (.cons (.var 9) (.cons (.cst (.bl true)) (.cons (.cst (.bl false)) .nil))))))
      .nil)))))))))))⟩
def f_38_b0 : X := (.cons (.sSet (.tName 8) (.call 37 (.cons (.var 0) (.cons (.var 7) (.cons (.var 3) .nil)))))
      (.cons (.sIf (.cmp .is_ (.var 8) (.cst .non))
      (.cons (.sRet (.cst .non))
      .nil)
      .nil)
      (.cons (.sIf (.sub (.var 8) (.cst (.int (3))))
      (.cons (.sApp 6 (.ite (.cmp .eq (.var 3) (.tup (.cons (.cst (.str "bring")) (.cons (.cst (.str "new")) .nil)))) (.var 5) (.cst .non)))
      .nil)
      .nil)
      (.cons (.sIf (.cmp .isNot (.sub (.var 8) (.cst (.int (1)))) (.cst .non))
      (.cons (.sApp 4 (.sub (.var 8) (.cst (.int (1)))))
      .nil)
      .nil)
      (.cons (.sPar [5, 7] (.cons (.giv (.bin .add (.var 5) (.ite (.sub (.var 8) (.cst (.int (2)))) (.cst (.int (1))) (.cst (.int (0)))))) (.cons (.giv (.sub (.var 8) (.cst (.int (0))))) .nil)))
      .nil)))))
def f_38 : Def := ⟨"_law_played", ["_law_link_here", "_law_contents_there", "_law_events_there"], ["_law_link_here", "_law_contents_there", "_law_events_there", "_law_event_there", "_law_wrongs", "_law_turns", "_law_letters", "_law_here", "_law_told"],
      (.cons (.sPar [4, 5, 6, 7] (.cons (.lst .nil) (.cons (.cst (.int (0))) (.cons (.lst .nil) (.cons (.var 1) .nil)))))
      (.cons (.sFor (.tName 3) (.iEx (.var 2)) f_38_b0)
      (.cons (.sDis 4 (.sDis 6 (.sRet (.lst (.cons (.var 7) (.cons (.var 4) (.cons (.var 5) (.cons (.var 6) .nil))))))))
      .nil)))⟩
def f_39_c0 : X := (.cmp .isNot (.call 37 (.cons (.var 1) (.cons (.var 6) (.cons (.var 8) .nil)))) (.cst .non))
def f_39_c1 : X := (.cmp .in_ (.sub (.var 8) (.cst (.int (0)))) (.lst (.cons (.cst (.str "send")) (.cons (.cst (.str "bring")) (.cons (.cst (.str "hear")) .nil)))))
def f_39_c2 : X := (.cmp .in_ (.sub (.var 8) (.cst (.int (0)))) (.lst (.cons (.cst (.str "send")) (.cons (.cst (.str "bring")) (.cons (.cst (.str "hear")) .nil)))))
def f_39_s0 : X := (.sIf (.and (.cmp .ne (.comp (.var 8) (.tName 8) (.iEx (.var 7)) f_39_c1 [8]) (.lst .nil)) (.one (.cmp .gt (.call 27 (.cons (.var 0) (.cons (.cst (.int (4))) .nil))) (.cst (.int (0))))))
      (.cons (.sSet (.tName 7) (.comp (.var 8) (.tName 8) (.iEx (.var 7)) f_39_c2 [8]))
      .nil)
      .nil)
def f_39_s1 : X := (.sIf (.cmp .ne (.var 7) (.lst .nil))
      (.cons (.sSet (.tName 8) (.sub (.var 7) (.call 27 (.cons (.var 0) (.cons (.bi .len (.cons (.var 7) .nil)) .nil)))))
      (.cons (.sApp 5 (.var 8))
      (.cons (.sSet (.tName 6) (.sub (.call 37 (.cons (.var 1) (.cons (.var 6) (.cons (.var 8) .nil)))) (.cst (.int (0)))))
      .nil)))
      .nil)
def f_39_b0 : X := (.cons (.sSet (.tName 7) (.comp (.var 8) (.tName 8) (.iEx (.call 35 .nil)) f_39_c0 [8]))
      (.cons f_39_s0
      (.cons f_39_s1
      .nil)))
def f_39 : Def := ⟨"_law_run", ["_law_generator_here", "_law_link_here", "_law_contents_there", "_law_most"], ["_law_generator_here", "_law_link_here", "_law_contents_there", "_law_most", "_law_turn", "_law_found", "_law_here", "_law_menu", "_law_event_there"],
      (.cons (.sPar [5, 6] (.cons (.lst .nil) (.cons (.var 2) .nil)))
      (.cons (.sFor (.tName 4) (.iRng (.cons (.call 27 (.cons (.var 0) (.cons (.bin .add (.var 3) (.cst (.int (1)))) .nil))) .nil)) f_39_b0)
      (.cons (.sRet (.pv 5))
      .nil)))⟩
def f_40 : Def := ⟨"_law_bears", ["_law_contents_there", "_law_event_there"], ["_law_contents_there", "_law_event_there"],
      (.cons (.sIf (.cmp .ne (.sub (.var 1) (.cst (.int (0)))) (.cst (.str "bring")))
      (.cons (.sRet (.cst .non))
      .nil)
      .nil)
      (.cons (.sRet (.ite (.cmp .eq (.sub (.var 1) (.cst (.int (1)))) (.cst (.str "new"))) (.sub (.sub (.var 0) (.cst (.int (0)))) (.cst (.int (0)))) (.md .indexL (.lst (.cons (.cst (.str "zero")) (.cons (.cst (.str "one")) .nil))) (.cons (.sub (.var 1) (.cst (.int (1)))) .nil))))
      .nil))⟩
def f_41_b0 : X := (.cons (.sSetO 9 (.call 37 (.cons (.var 2) (.cons (.var 5) (.cons (.var 3) .nil)))))
      (.cons (.sIf (.cmp .isNot (.pv 9) (.cst .non))
      (.cons (.sApp 8 (.sub (.pv 9) (.cst (.int (0)))))
      .nil)
      .nil)
      .nil))
def f_41_c0 : X := (.and (.cmp .isNot (.call 37 (.cons (.var 2) (.cons (.var 5) (.cons (.var 3) .nil)))) (.cst .non)) (.one (.cmp .eq (.sub (.call 37 (.cons (.var 2) (.cons (.var 5) (.cons (.var 3) .nil)))) (.cst (.int (0)))) (.var 4))))
def f_41_s0 : X := (.sIf (.or (.cmp .ne (.bi .repr (.cons (.pv 9) .nil)) (.bi .repr (.cons (.var 10) .nil))) (.one (.cmp .ne (.bi .repr (.cons (.callk 25 [2, 0, 1] .nil (.cons (.var 5) (.cons (.var 4) (.cons (.var 2) .nil)))) .nil)) (.bi .repr (.cons (.var 10) .nil)))))
      (.cons (.sRet (.cst (.bl false)))
      .nil)
      .nil)
def f_41_b1 : X := (.cons (.sSet (.tName 10) (.bi .sorted (.cons (.comp (.var 3) (.tName 3) (.iEx (.call 35 .nil)) f_41_c0 [3]) .nil)))
      (.cons (.sSetO 9 (.call 25 (.cons (.var 2) (.cons (.var 5) (.cons (.var 4) .nil)))))
      (.cons f_41_s0
      (.cons (.sApp 9 (.cst .non))
      (.cons (.sIf (.cmp .ne (.bi .repr (.cons (.call 25 (.cons (.var 2) (.cons (.var 5) (.cons (.var 4) .nil)))) .nil)) (.bi .repr (.cons (.var 10) .nil)))
      (.cons (.sRet (.cst (.bl false)))
      .nil)
      .nil)
      .nil)))))
def f_41_s1 : X := (.sIf (.and (.cmp .gt (.sub (.sub (.var 5) (.cst (.int (2)))) (.cst (.int (0)))) (.cst (.int (0)))) (.one (.cmp .ge (.bin .add (.sub (.sub (.var 5) (.cst (.int (2)))) (.cst (.int (1)))) (.sub (.sub (.var 5) (.cst (.int (2)))) (.cst (.int (2))))) (.sub (.var 2) (.cst (.int (0)))))))
      (.cons (.sRet (.cst (.bl false)))
      .nil)
      .nil)
def f_41_s2 : X := (.sIf (.and (.cmp .gt (.sub (.sub (.var 4) (.cst (.int (2)))) (.bin .add (.cst (.int (1))) (.var 11))) (.sub (.sub (.var 5) (.cst (.int (2)))) (.bin .add (.cst (.int (1))) (.var 11)))) (.one (.or (.not (.call 24 (.cons (.var 2) (.cons (.var 5) (.cons (.var 3) .nil))))) (.one (.cmp .ne (.sub (.sub (.var 5) (.cst (.int (0)))) (.cst (.int (0)))) (.var 11))))))
      (.cons (.sRet (.cst (.bl false)))
      .nil)
      .nil)
def f_41_s3 : X := (.sIf (.and (.cmp .gt (.sub (.sub (.var 4) (.cst (.int (3)))) (.var 11)) (.sub (.sub (.var 5) (.cst (.int (3)))) (.var 11))) (.one (.cmp .ne (.call 40 (.cons (.var 5) (.cons (.var 3) .nil))) (.var 11))))
      (.cons (.sRet (.cst (.bl false)))
      .nil)
      .nil)
def f_41_b2 : X := (.cons f_41_s2
      (.cons f_41_s3
      .nil))
def f_41_b3 : X := (.cons (.sSet (.tName 4) (.call 23 (.cons (.var 2) (.cons (.var 5) (.cons (.var 3) .nil)))))
      (.cons (.sFor (.tName 11) (.iRng (.cons (.cst (.int (2))) .nil)) f_41_b2)
      .nil))
def f_41 : Def := ⟨"_law_right", ["_law_generator_here", "_law_most"], ["_law_generator_here", "_law_most", "_law_link_here", "_law_event_there", "_law_later", "_law_here", "_law_other", "_law_kept", "_law_others_there", "_law_told", "_law_due", "_law_bit"],
      (.cons (.sSet (.tName 2) (.call 31 (.cons (.var 0) (.cons (.var 1) .nil))))
      (.cons (.sPar [5, 6] (.cons (.giv (.call 33 (.cons (.var 0) (.cons (.var 2) .nil)))) (.cons (.giv (.call 33 (.cons (.var 0) (.cons (.var 2) .nil)))) .nil)))
      (.cons (.sPar [7, 8] (.cons (.giv (.bi .repr (.cons (.lst (.cons (.var 2) (.cons (.var 5) (.cons (.var 6) .nil)))) .nil))) (.cons (.lst (.cons (.var 5) (.cons (.var 6) .nil))) .nil)))
      (.cons (.sFor (.tName 3) (.iEx (.call 35 .nil)) f_41_b0)
      (.cons (.sDis 8 (.sFor (.tName 4) (.iEx (.var 8)) f_41_b1))
      (.cons f_41_s1
      (.cons (.sFor (.tName 3) (.iEx (.call 22 (.cons (.var 2) (.cons (.var 5) .nil)))) f_41_b3)
      (.cons (.sRet (.cmp .eq (.bi .repr (.cons (.lst (.cons (.var 2) (.cons (.var 5) (.cons (.var 6) .nil)))) .nil)) (.var 7)))
      .nil))))))))⟩
def f_42_b0 : X := (.cons (.sIf (.not (.call 41 (.cons (.var 2) (.cons (.var 3) .nil))))
      (.cons (.sRet (.cst (.bl false)))
      .nil)
      .nil)
      .nil)
def f_42_b1 : X := (.cons (.sSet (.tName 2) (.mk (.call 29 (.cons (.var 0) (.cons (.var 1) .nil)))))
      (.cons (.sFor (.tName 3) (.iEx (.lst (.cons (.cst (.int (2))) (.cons (.cst (.int (3))) (.cons (.cst (.int (3))) (.cons (.bin .pow (.cst (.int (10))) (.cst (.int (28)))) .nil)))))) f_42_b0)
      .nil))
def f_42 : Def := ⟨"law", ["_law_script"], ["_law_script", "_law_index", "_law_generator_here", "_law_most", "_law_link_here", "_law_start", "_law_later", "_law_full"],
      (.cons (.sFor (.tName 1) (.iRng (.cons (.cst (.int (3))) .nil)) f_42_b1)
      (.cons (.sPar [4, 5] (.cons (.giv (.tup (.cons (.cst (.int (2))) (.cons (.cst (.int (1))) (.cons (.cst (.int (2))) (.cons (.cst (.int (1))) .nil)))))) (.cons (.giv (.tup (.cons (.tup (.cons (.cst (.int (0))) (.cons (.cst (.int (0))) .nil))) (.cons (.tup (.cons (.cst (.int (1))) (.cons (.cst .non) (.cons (.cst (.bl false)) .nil)))) (.cons (.tup (.cons (.cst (.int (0))) (.cons (.cst (.int (0))) (.cons (.cst (.int (0))) .nil)))) (.cons (.tup (.cons (.cst (.int (0))) (.cons (.cst (.int (0))) .nil))) .nil)))))) .nil)))
      (.cons (.sPar [6, 7] (.cons (.giv (.call 23 (.cons (.var 4) (.cons (.var 5) (.cons (.tup (.cons (.cst (.str "send")) .nil)) .nil))))) (.cons (.giv (.tup (.cons (.tup (.cons (.cst (.int (0))) (.cons (.cst (.int (0))) .nil))) (.cons (.tup (.cons (.cst (.int (0))) (.cons (.cst .non) (.cons (.cst (.bl true)) .nil)))) (.cons (.tup (.cons (.cst (.int (1))) (.cons (.cst (.int (0))) (.cons (.cst (.int (0))) .nil)))) (.cons (.tup (.cons (.cst (.int (1))) (.cons (.cst (.int (0))) .nil))) .nil)))))) .nil)))
      (.cons (.sRet (.and (.cmp .eq (.call 25 (.cons (.var 4) (.cons (.var 6) (.cons (.var 5) .nil)))) (.lst (.cons (.tup (.cons (.cst (.str "drop")) (.cons (.cst (.str "new")) .nil))) .nil))) (.one (.cmp .eq (.call 25 (.cons (.var 4) (.cons (.var 7) (.cons (.tup (.cons (.tup (.cons (.cst (.int (0))) (.cons (.cst (.int (0))) .nil))) (.cons (.tup (.cons (.cst (.int (0))) (.cons (.cst .non) (.cons (.cst (.bl true)) .nil)))) (.cons (.tup (.cons (.cst (.int (0))) (.cons (.cst (.int (0))) (.cons (.cst (.int (0))) .nil)))) (.cons (.tup (.cons (.cst (.int (1))) (.cons (.cst (.int (0))) .nil))) .nil))))) .nil)))) (.lst (.cons (.tup (.cons (.cst (.str "bring")) (.cons (.cst (.str "new")) .nil))) (.cons (.tup (.cons (.cst (.str "drop")) (.cons (.cst (.str "new")) .nil))) .nil)))))))
      .nil))))⟩
def fs : List Def := [f_0, f_1, f_2, f_3, f_4, f_5, f_6, f_7, f_8, f_9, f_10, f_11, f_12, f_13, f_14, f_15, f_16, f_17, f_18, f_19, f_20, f_21, f_22, f_23, f_24, f_25, f_26, f_27, f_28, f_29, f_30, f_31, f_32, f_33, f_34, f_35, f_36, f_37, f_38, f_39, f_40, f_41, f_42]
def cs : List (Str × D) := [("COPIES", (.tup [(.str "new"), (.str "zero"), (.str "one")])), ("BROUGHT", (.lst [(.tup [(.str "bring"), (.str "new")]), (.tup [(.str "bring"), (.str "one")]), (.tup [(.str "bring"), (.str "zero")]), (.tup [(.str "drop"), (.str "new")]), (.tup [(.str "drop"), (.str "one")]), (.tup [(.str "drop"), (.str "zero")])])), ("EVENTS", (.lst [(.tup [(.str "bring"), (.str "new")]), (.tup [(.str "bring"), (.str "one")]), (.tup [(.str "bring"), (.str "zero")]), (.tup [(.str "drop"), (.str "new")]), (.tup [(.str "drop"), (.str "one")]), (.tup [(.str "drop"), (.str "zero")]), (.tup [(.str "hear"), (.int (0))]), (.tup [(.str "hear"), (.int (1))]), (.tup [(.str "miss"), (.int (0))]), (.tup [(.str "miss"), (.int (1))]), (.tup [(.str "send")])]))]
def T : Tab := ⟨cs.map (·.2), []⟩
theorem con_0 : T.cons[0]? = some (.tup [(.str "new"), (.str "zero"), (.str "one")]) := rfl
theorem con_1 : T.cons[1]? = some (.lst [(.tup [(.str "bring"), (.str "new")]), (.tup [(.str "bring"), (.str "one")]), (.tup [(.str "bring"), (.str "zero")]), (.tup [(.str "drop"), (.str "new")]), (.tup [(.str "drop"), (.str "one")]), (.tup [(.str "drop"), (.str "zero")])]) := rfl
theorem con_2 : T.cons[2]? = some (.lst [(.tup [(.str "bring"), (.str "new")]), (.tup [(.str "bring"), (.str "one")]), (.tup [(.str "bring"), (.str "zero")]), (.tup [(.str "drop"), (.str "new")]), (.tup [(.str "drop"), (.str "one")]), (.tup [(.str "drop"), (.str "zero")]), (.tup [(.str "hear"), (.int (0))]), (.tup [(.str "hear"), (.int (1))]), (.tup [(.str "miss"), (.int (0))]), (.tup [(.str "miss"), (.int (1))]), (.tup [(.str "send")])]) := rfl
-- consts: COPIES BROUGHT EVENTS
theorem at_0 : fs[0]? = some f_0 := rfl
theorem at_1 : fs[1]? = some f_1 := rfl
theorem at_2 : fs[2]? = some f_2 := rfl
theorem at_3 : fs[3]? = some f_3 := rfl
theorem at_4 : fs[4]? = some f_4 := rfl
theorem at_5 : fs[5]? = some f_5 := rfl
theorem at_6 : fs[6]? = some f_6 := rfl
theorem at_7 : fs[7]? = some f_7 := rfl
theorem at_8 : fs[8]? = some f_8 := rfl
theorem at_9 : fs[9]? = some f_9 := rfl
theorem at_10 : fs[10]? = some f_10 := rfl
theorem at_11 : fs[11]? = some f_11 := rfl
theorem at_12 : fs[12]? = some f_12 := rfl
theorem at_13 : fs[13]? = some f_13 := rfl
theorem at_14 : fs[14]? = some f_14 := rfl
theorem at_15 : fs[15]? = some f_15 := rfl
theorem at_16 : fs[16]? = some f_16 := rfl
theorem at_17 : fs[17]? = some f_17 := rfl
theorem at_18 : fs[18]? = some f_18 := rfl
theorem at_19 : fs[19]? = some f_19 := rfl
theorem at_20 : fs[20]? = some f_20 := rfl
theorem at_21 : fs[21]? = some f_21 := rfl
theorem at_22 : fs[22]? = some f_22 := rfl
theorem at_23 : fs[23]? = some f_23 := rfl
theorem at_24 : fs[24]? = some f_24 := rfl
theorem at_25 : fs[25]? = some f_25 := rfl
theorem at_26 : fs[26]? = some f_26 := rfl
theorem at_27 : fs[27]? = some f_27 := rfl
theorem at_28 : fs[28]? = some f_28 := rfl
theorem at_29 : fs[29]? = some f_29 := rfl
theorem at_30 : fs[30]? = some f_30 := rfl
theorem at_31 : fs[31]? = some f_31 := rfl
theorem at_32 : fs[32]? = some f_32 := rfl
theorem at_33 : fs[33]? = some f_33 := rfl
theorem at_34 : fs[34]? = some f_34 := rfl
theorem at_35 : fs[35]? = some f_35 := rfl
theorem at_36 : fs[36]? = some f_36 := rfl
theorem at_37 : fs[37]? = some f_37 := rfl
theorem at_38 : fs[38]? = some f_38 := rfl
theorem at_39 : fs[39]? = some f_39 := rfl
theorem at_40 : fs[40]? = some f_40 := rfl
theorem at_41 : fs[41]? = some f_41 := rfl
theorem at_42 : fs[42]? = some f_42 := rfl
end ZL
end

section
set_option Elab.async false
set_option linter.all false
set_option maxRecDepth 100000
set_option maxHeartbeats 4000000
set_option exponentiation.threshold 4000
-- d01919e41712c899044298fbc3e13abc
namespace ZL
open PySem PySem.Spec Z
theorem c_0 (k : Nat) (i : Int) (μ : Mu) : dCall T fs (k + 1) 0 [.int i] μ = some (.bl true, false, μ) := by
  rw [dCall_eq at_0 rfl]
  simp only [f_0]
  simp only [dnx, e_lend, disowns, sz1_s, decide_true, decide_false, eq_self, kVl, kT, kLs, kW, kBl, kNt, kNg, kOp2, kCp2, kSb2, kIs, kBi, kMd2, kRv, kSl3, kMk, kGv, kLc, kPr, kPo, kRt, kNxt, kExS, kStO, kAp, kSb3, gC, kSc3, kEx1, kOp, kCp, kCh1, kCh, kSb, kMd, kSl2, kSl, kCl, kTe2, kTn, turnC, kCm, kCns, kCnp, kCno, kSeqS, kStT, kPrS, kTb, turnS, kFo, kS2, kC2, kEn, kZp2, kZp, dT, dT.dTs, setR, disown, wipeR, scalar, kFc2, kFc, kFs, seqD, kCk, kCk2, kIn2, kIn3, Nat.reduceAdd, Nat.reduceSub, Nat.reduceLT, Nat.reduceLeDiff, ite_true, ite_false, if_true, if_false, reduceCtorEq, List.append_nil, List.cons_append, List.getElem?_cons_succ, List.getElem?_cons_zero, List.length_cons, List.length_nil, List.map_cons, List.map_nil, List.nil_append, List.replicate_succ, List.replicate_zero, List.reverse_cons, List.reverse_nil, List.set_cons_succ, List.set_cons_zero]
theorem c_1 (k : Nat) (i j h : Int) (μ : Mu) : dCall T fs (k + 2) 1 [.int i, .int j, .int h] μ = some (.bl (decide (j ≤ i) && decide (i ≤ h)), false, μ) := by
  rw [dCall_eq at_1 rfl]
  simp only [f_1]
  simp only [dnx, e_lend, disowns, sz1_s, decide_true, decide_false, eq_self, kVl, kT, kLs, kW, kBl, kNt, kNg, kOp2, kCp2, kSb2, kIs, kBi, kMd2, kRv, kSl3, kMk, kGv, kLc, kPr, kPo, kRt, kNxt, kExS, kStO, kAp, kSb3, gC, kSc3, kEx1, kOp, kCp, kCh1, kCh, kSb, kMd, kSl2, kSl, kCl, kTe2, kTn, turnC, kCm, kCns, kCnp, kCno, kSeqS, kStT, kPrS, kTb, turnS, kFo, kS2, kC2, kEn, kZp2, kZp, dT, dT.dTs, setR, disown, wipeR, scalar, kFc2, kFc, kFs, seqD, kCk, kCk2, kIn2, kIn3, Nat.reduceAdd, Nat.reduceSub, Nat.reduceLT, Nat.reduceLeDiff, ite_true, ite_false, if_true, if_false, reduceCtorEq, List.append_nil, List.cons_append, List.getElem?_cons_succ, List.getElem?_cons_zero, List.length_cons, List.length_nil, List.map_cons, List.map_nil, List.nil_append, List.replicate_succ, List.replicate_zero, List.reverse_cons, List.reverse_nil, List.set_cons_succ, List.set_cons_zero, c_0]
  cases decide (j ≤ i)
  · simp only [dnx, e_lend, disowns, sz1_s, decide_true, decide_false, eq_self, kVl, kT, kLs, kW, kBl, kNt, kNg, kOp2, kCp2, kSb2, kIs, kBi, kMd2, kRv, kSl3, kMk, kGv, kLc, kPr, kPo, kRt, kNxt, kExS, kStO, kAp, kSb3, gC, kSc3, kEx1, kOp, kCp, kCh1, kCh, kSb, kMd, kSl2, kSl, kCl, kTe2, kTn, turnC, kCm, kCns, kCnp, kCno, kSeqS, kStT, kPrS, kTb, turnS, kFo, kS2, kC2, kEn, kZp2, kZp, dT, dT.dTs, setR, disown, wipeR, scalar, kFc2, kFc, kFs, seqD, kCk, kCk2, kIn2, kIn3, Nat.reduceAdd, Nat.reduceSub, Nat.reduceLT, Nat.reduceLeDiff, ite_true, ite_false, if_true, if_false, reduceCtorEq, List.append_nil, List.cons_append, List.getElem?_cons_succ, List.getElem?_cons_zero, List.length_cons, List.length_nil, List.map_cons, List.map_nil, List.nil_append, List.replicate_succ, List.replicate_zero, List.reverse_cons, List.reverse_nil, List.set_cons_succ, List.set_cons_zero]
  · simp only [dnx, e_lend, disowns, sz1_s, decide_true, decide_false, eq_self, kVl, kT, kLs, kW, kBl, kNt, kNg, kOp2, kCp2, kSb2, kIs, kBi, kMd2, kRv, kSl3, kMk, kGv, kLc, kPr, kPo, kRt, kNxt, kExS, kStO, kAp, kSb3, gC, kSc3, kEx1, kOp, kCp, kCh1, kCh, kSb, kMd, kSl2, kSl, kCl, kTe2, kTn, turnC, kCm, kCns, kCnp, kCno, kSeqS, kStT, kPrS, kTb, turnS, kFo, kS2, kC2, kEn, kZp2, kZp, dT, dT.dTs, setR, disown, wipeR, scalar, kFc2, kFc, kFs, seqD, kCk, kCk2, kIn2, kIn3, Nat.reduceAdd, Nat.reduceSub, Nat.reduceLT, Nat.reduceLeDiff, ite_true, ite_false, if_true, if_false, reduceCtorEq, List.append_nil, List.cons_append, List.getElem?_cons_succ, List.getElem?_cons_zero, List.length_cons, List.length_nil, List.map_cons, List.map_nil, List.nil_append, List.replicate_succ, List.replicate_zero, List.reverse_cons, List.reverse_nil, List.set_cons_succ, List.set_cons_zero]
def hashM (s i : Int) : Int := ((((s * 1140671 + 27644437 * i * i + 131 * i + 19) % 2147483629) * ((s * 1140671 + 27644437 * i * i + 131 * i + 19) % 2147483629) + 62089 * i + 32416187) % 2147483587 * 48271) % 2147483647
theorem c_14 (k : Nat) (s i : Int) (μ : Mu) (h0 : -18446744073709551616 < i) (h1 : i < 18446744073709551616) : dCall T fs (k + 1) 26 [.int s, .int i] μ = some (.int (hashM s i), false, μ) := by
  have q1 : -18446744073709551616 < (s * 1140671 + 27644437 * i * i + 131 * i + 19) % 2147483629 := by omega
  have q2 : (s * 1140671 + 27644437 * i * i + 131 * i + 19) % 2147483629 < 18446744073709551616 := by omega
  rw [dCall_eq at_26 rfl]
  simp only [f_26]
  simp only [dnx, e_lend, disowns, sz1_s, decide_true, decide_false, eq_self, kVl, kT, kLs, kW, kBl, kNt, kNg, kOp2, kCp2, kSb2, kIs, kBi, kMd2, kRv, kSl3, kMk, kGv, kLc, kPr, kPo, kRt, kNxt, kExS, kStO, kAp, kSb3, gC, kSc3, kEx1, kOp, kCp, kCh1, kCh, kSb, kMd, kSl2, kSl, kCl, kTe2, kTn, turnC, kCm, kCns, kCnp, kCno, kSeqS, kStT, kPrS, kTb, turnS, kFo, kS2, kC2, kEn, kZp2, kZp, dT, dT.dTs, setR, disown, wipeR, scalar, kFc2, kFc, kFs, seqD, kCk, kCk2, kIn2, kIn3, Nat.reduceAdd, Nat.reduceSub, Nat.reduceLT, Nat.reduceLeDiff, ite_true, ite_false, if_true, if_false, reduceCtorEq, List.append_nil, List.cons_append, List.getElem?_cons_succ, List.getElem?_cons_zero, List.length_cons, List.length_nil, List.map_cons, List.map_nil, List.nil_append, List.replicate_succ, List.replicate_zero, List.reverse_cons, List.reverse_nil, List.set_cons_succ, List.set_cons_zero, mul_r, mul_l, mod_i, h0, h1, Int.reduceLT, Int.reduceNeg, q1, q2]
  rfl
/-- the generator's cell -/
def GS (μ : Mu) (n : Nat) (m : Int) : Prop := ∃ a b c : Int, μ[n]? = some [.int a, .int b, .int c] ∧ 0 ≤ a ∧ 0 ≤ c ∧ c ≤ m ∧ μ.all scalL = true
theorem at_i0 (a b c : D) : L2.atI [a, b, c] 0 = some a := rfl
theorem at_i1 (a b c : D) : L2.atI [a, b, c] 1 = some b := rfl
theorem at_i2 (a b c : D) : L2.atI [a, b, c] 2 = some c := rfl
theorem ix_0 : L2.ixN 3 0 = some 0 := rfl
theorem ix_2 : L2.ixN 3 2 = some 2 := rfl
theorem set_at {μ : Mu} {n : Nat} {xs ys : List D} (h : μ[n]? = some xs) : (μ.set n ys)[n]? = some ys := by
  rw [List.getElem?_set_self (List.getElem?_eq_some_iff.mp h).1]
theorem set_scal {μ : Mu} {n : Nat} {xs : List D} (h : μ.all scalL = true) (hx : scalL xs = true) : (μ.set n xs).all scalL = true := by
  rw [List.all_eq_true] at h ⊢
  intro y hy
  rcases List.mem_or_eq_of_mem_set hy with q | q
  · exact h y q
  · rw [q]
    exact hx
theorem rnd_pos (k : Nat) (μ : Mu) (n : Nat) (a b c w : Int) (h : μ[n]? = some [.int a, .int b, .int c]) (ha : 0 < a) (hw : 0 < w) (hw2 : w < 2 ^ 1000) :
    dCall T fs (k + 1) 27 [.cell n, .int w] μ = some (.int (a % w), false, μ.set n [.int (a / w), .int b, .int c]) := by
  rw [dCall_eq at_27 rfl]
  simp only [f_27, f_27_s0]
  simp only [dnx, e_lend, disowns, sz1_s, decide_true, decide_false, eq_self, kVl, kT, kLs, kW, kBl, kNt, kNg, kOp2, kCp2, kSb2, kIs, kBi, kMd2, kRv, kSl3, kMk, kGv, kLc, kPr, kPo, kRt, kNxt, kExS, kStO, kAp, kSb3, gC, kSc3, kEx1, kOp, kCp, kCh1, kCh, kSb, kMd, kSl2, kSl, kCl, kTe2, kTn, turnC, kCm, kCns, kCnp, kCno, kSeqS, kStT, kPrS, kTb, turnS, kFo, kS2, kC2, kEn, kZp2, kZp, dT, dT.dTs, setR, disown, wipeR, scalar, kFc2, kFc, kFs, seqD, kCk, kCk2, kIn2, kIn3, Nat.reduceAdd, Nat.reduceSub, Nat.reduceLT, Nat.reduceLeDiff, ite_true, ite_false, if_true, if_false, reduceCtorEq, List.append_nil, List.cons_append, List.getElem?_cons_succ, List.getElem?_cons_zero, List.length_cons, List.length_nil, List.map_cons, List.map_nil, List.nil_append, List.replicate_succ, List.replicate_zero, List.reverse_cons, List.reverse_nil, List.set_cons_succ, List.set_cons_zero, subC_c h, at_i0, at_i1, at_i2, ix_0, ix_2, mod_i, div_i, ha, hw, hw2, h, decide_true]
theorem rnd_loop (k : Nat) (n : Nat) (a b w : Int) : ∀ (j : Nat) (lo c d : Int) (x : Option (D × Bool)) (μ : Mu), μ[n]? = some [.int a, .int b, .int c] → 0 ≤ c → c + j < 18446744073709551616 →
    ∃ d' x', foldS (turnS T (dCall T fs (k + 1)) (.tName 3) f_27_b0) (rngL j lo) [some (.cell n, false), some (.int w, false), some (.int d, false), x] μ = some (.nx [some (.cell n, false), some (.int w, false), some (.int d', false), x'] (μ.set n [.int a, .int b, .int (c + j)]))
  | 0, lo, c, d, x, μ, h, _, _ => by
    refine ⟨d, x, ?_⟩
    have e : μ.set n [.int a, .int b, .int (c + (0 : Nat))] = μ := by
      have ec : c + ((0 : Nat) : Int) = c := by omega
      rw [ec]
      apply List.ext_getElem?
      intro i
      by_cases q : n = i
      · subst q
        rw [set_at h, h]
      · rw [List.getElem?_set_ne q]
    rw [e]
    rfl
  | j + 1, lo, c, d, x, μ, h, h0, h1 => by
    have h2 := set_at (ys := [.int a, .int b, .int (c + 1)]) h
    have q1 : -18446744073709551616 < c + 1 := by omega
    have q2 : c + 1 < 18446744073709551616 := by omega
    obtain ⟨d', x', ih⟩ := rnd_loop k n a b w j (lo + 1) (c + 1) (d * 2147483587 + hashM b (c + 1)) (some (.int lo, false)) _ h2 (by omega) (by omega)
    refine ⟨d', x', ?_⟩
    have e1 : (μ.set n [.int a, .int b, .int (c + 1)]).set n [.int a, .int b, .int (c + 1 + j)] = μ.set n [.int a, .int b, .int (c + (j + 1 : Nat))] := by
      rw [List.set_set, show c + 1 + (j : Int) = c + ((j + 1 : Nat) : Int) by omega]
    rw [e1] at ih
    rw [← ih]
    show foldS _ (.int lo :: rngL j (lo + 1)) _ _ = _
    rw [foldS]
    have turn : turnS T (dCall T fs (k + 1)) (.tName 3) f_27_b0 (.int lo) [some (.cell n, false), some (.int w, false), some (.int d, false), x] μ = some (.nx [some (.cell n, false), some (.int w, false), some (.int (d * 2147483587 + hashM b (c + 1)), false), some (.int lo, false)] (μ.set n [.int a, .int b, .int (c + 1)])) := by
      simp only [dnx, e_lend, disowns, sz1_s, decide_true, decide_false, eq_self, kVl, kT, kLs, kW, kBl, kNt, kNg, kOp2, kCp2, kSb2, kIs, kBi, kMd2, kRv, kSl3, kMk, kGv, kLc, kPr, kPo, kRt, kNxt, kExS, kStO, kAp, kSb3, gC, kSc3, kEx1, kOp, kCp, kCh1, kCh, kSb, kMd, kSl2, kSl, kCl, kTe2, kTn, turnC, kCm, kCns, kCnp, kCno, kSeqS, kStT, kPrS, kTb, turnS, kFo, kS2, kC2, kEn, kZp2, kZp, dT, dT.dTs, setR, disown, wipeR, scalar, kFc2, kFc, kFs, seqD, kCk, kCk2, kIn2, kIn3, Nat.reduceAdd, Nat.reduceSub, Nat.reduceLT, Nat.reduceLeDiff, ite_true, ite_false, if_true, if_false, reduceCtorEq, List.append_nil, List.cons_append, List.getElem?_cons_succ, List.getElem?_cons_zero, List.length_cons, List.length_nil, List.map_cons, List.map_nil, List.nil_append, List.replicate_succ, List.replicate_zero, List.reverse_cons, List.reverse_nil, List.set_cons_succ, List.set_cons_zero, f_27_b0, subC_c h, subC_c h2, at_i0, at_i1, at_i2, ix_0, ix_2, h, List.set_nil, mul_r, Int.reduceLT, Int.reduceNeg, c_14 k b (c + 1) _ q1 q2]
    rw [turn]
theorem rnd (k : Nat) (μ : Mu) (n : Nat) (m w : Int) (h : GS μ n m) (hm : m < 2 ^ 60) (hw : 0 < w) (hw2 : w < 2 ^ 200) :
    ∃ v μ', dCall T fs (k + 2) 27 [.cell n, .int w] μ = some (.int v, false, μ') ∧ 0 ≤ v ∧ v < w ∧ GS μ' n (m + 10) := by
  obtain ⟨a, b, c, h, ha, hc, hcm, hs⟩ := h
  have hw3 : w < 2 ^ 1000 := Int.lt_trans hw2 (by decide)
  by_cases h0 : 0 < a
  · refine ⟨a % w, _, rnd_pos (k + 1) μ n a b c w h h0 hw hw3, Int.emod_nonneg _ (by omega), Int.emod_lt_of_pos _ hw, a / w, b, c, set_at h, Int.ediv_nonneg ha (by omega), hc, by omega, set_scal hs rfl⟩
  · have hb : Builtin.Int.intBits w ≤ 200 := PyProof.Rows.intBits_le (by
      have e : (2 : Int) ^ 200 = ((2 ^ 200 : Nat) : Int) := by norm_cast
      omega)
    have hn : ((1 : Int) + (Builtin.Int.intBits w : Int) / 30).toNat ≤ 7 := by omega
    have hz : (1 : Int) + (Builtin.Int.intBits w : Int) / 30 ≤ 7 := by omega
    obtain ⟨d', x', lp⟩ := rnd_loop k n a b w ((1 : Int) + (Builtin.Int.intBits w : Int) / 30).toNat 0 c 0 none μ h hc (by omega)
    refine ⟨d' % w, μ.set n [.int a, .int b, .int (c + ((1 : Int) + (Builtin.Int.intBits w : Int) / 30).toNat)], ?_, Int.emod_nonneg _ (by omega), Int.emod_lt_of_pos _ hw, a, b, _, set_at h, ha, by omega, by omega, set_scal hs rfl⟩
    rw [dCall_eq at_27 rfl]
    simp only [f_27, f_27_s0]
    have hz2 : -4611686018427387904 ≤ (1 : Int) + (Builtin.Int.intBits w : Int) / 30 := by omega
    have hz3 : (1 : Int) + (Builtin.Int.intBits w : Int) / 30 ≤ 100000 := by omega
    simp only [dnx, e_lend, disowns, sz1_s, decide_true, decide_false, eq_self, kVl, kT, kLs, kW, kBl, kNt, kNg, kOp2, kCp2, kSb2, kIs, kBi, kMd2, kRv, kSl3, kMk, kGv, kLc, kPr, kPo, kRt, kNxt, kExS, kStO, kAp, kSb3, gC, kSc3, kEx1, kOp, kCp, kCh1, kCh, kSb, kMd, kSl2, kSl, kCl, kTe2, kTn, turnC, kCm, kCns, kCnp, kCno, kSeqS, kStT, kPrS, kTb, turnS, kFo, kS2, kC2, kEn, kZp2, kZp, dT, dT.dTs, setR, disown, wipeR, scalar, kFc2, kFc, kFs, seqD, kCk, kCk2, kIn2, kIn3, Nat.reduceAdd, Nat.reduceSub, Nat.reduceLT, Nat.reduceLeDiff, ite_true, ite_false, if_true, if_false, reduceCtorEq, List.append_nil, List.cons_append, List.getElem?_cons_succ, List.getElem?_cons_zero, List.length_cons, List.length_nil, List.map_cons, List.map_nil, List.nil_append, List.replicate_succ, List.replicate_zero, List.reverse_cons, List.reverse_nil, List.set_cons_succ, List.set_cons_zero, subC_c h, at_i0, at_i1, at_i2, mod_i, div_i, div_s, hw, hw3, h, h0, decide_false, mdD, Int.reduceLT, Int.reducePow, hz2, hz3, lp]
end ZL
end

section
set_option Elab.async false
set_option linter.all false
set_option maxRecDepth 100000
set_option maxHeartbeats 4000000
set_option exponentiation.threshold 4000
-- 12a6172ec0a2c700a8f66f6732e3c11a
namespace ZL
open PySem PySem.Spec Z
theorem GS.mono {μ : Mu} {n : Nat} {m m' : Int} (h : GS μ n m) (l : m ≤ m') : GS μ n m' := by
  obtain ⟨a, b, c, h1, h2, h3, h4, h5⟩ := h
  exact ⟨a, b, c, h1, h2, h3, by omega, h5⟩
theorem GS.scal {μ : Mu} {n : Nat} {m : Int} (h : GS μ n m) : μ.all scalL = true := by
  obtain ⟨_, _, _, _, _, _, _, h5⟩ := h
  exact h5
theorem slc1 (xs : List D) : slcD (.lst xs) none (some 1) = some (.lst (xs.take 1), true) := by
  show some (D.lst (cutD xs none (some 1)), true) = _
  cases xs with
  | nil => rfl
  | cons a r =>
    have e : HT.sIx (a :: r).length (a :: r).length (some 1) = 1 := by
      refine (HT.sIx_nat _ _ 1).trans ?_
      rw [List.length_cons]
      omega
    unfold cutD
    rw [e]
    rfl
theorem sum1 (ns : List Int) : ∃ z, biD .sum [.lst ((ns.map D.int).take 1)] = some (.int z, false) := by
  cases ns with
  | nil => exact ⟨_, rfl⟩
  | cons a r => exact ⟨_, rfl⟩
theorem lcell (k : Nat) (ns : List Int) (i : Nat) (μ : Mu) : ∃ z, dCall T fs (k + 1) 28 [.lst (ns.map .int), .int i] μ = some (.int z, false, μ) := by
  by_cases h : (i : Int) < ((ns.map D.int).length : Int)
  · have h2 : i < ns.length := by rw [List.length_map] at h; omega
    refine ⟨ns[i], ?_⟩
    have ha : L2.atI (ns.map D.int) (i : Int) = some (.int ns[i]) := at_n (by rw [List.getElem?_map, List.getElem?_eq_getElem h2]; rfl)
    rw [dCall_eq at_28 rfl]
    simp only [f_28]
    simp only [dnx, e_lend, disowns, sz1_s, decide_true, decide_false, eq_self, kVl, kT, kLs, kW, kBl, kNt, kNg, kOp2, kCp2, kSb2, kIs, kBi, kMd2, kRv, kSl3, kMk, kGv, kLc, kPr, kPo, kRt, kNxt, kExS, kStO, kAp, kSb3, gC, kSc3, kEx1, kOp, kCp, kCh1, kCh, kSb, kMd, kSl2, kSl, kCl, kTe2, kTn, turnC, kCm, kCns, kCnp, kCno, kSeqS, kStT, kPrS, kTb, turnS, kFo, kS2, kC2, kEn, kZp2, kZp, dT, dT.dTs, setR, disown, wipeR, scalar, kFc2, kFc, kFs, seqD, kCk, kCk2, kIn2, kIn3, Nat.reduceAdd, Nat.reduceSub, Nat.reduceLT, Nat.reduceLeDiff, ite_true, ite_false, if_true, if_false, reduceCtorEq, List.append_nil, List.cons_append, List.getElem?_cons_succ, List.getElem?_cons_zero, List.length_cons, List.length_nil, List.map_cons, List.map_nil, List.nil_append, List.replicate_succ, List.replicate_zero, List.reverse_cons, List.reverse_nil, List.set_cons_succ, List.set_cons_zero, len_l, h, decide_true, ha]
  · obtain ⟨z, hz⟩ := sum1 ns
    refine ⟨z % 1000003, ?_⟩
    rw [dCall_eq at_28 rfl]
    simp only [f_28]
    have q3 : (0 : Int) < 1000003 := by decide
    simp only [dnx, e_lend, disowns, sz1_s, decide_true, decide_false, eq_self, kVl, kT, kLs, kW, kBl, kNt, kNg, kOp2, kCp2, kSb2, kIs, kBi, kMd2, kRv, kSl3, kMk, kGv, kLc, kPr, kPo, kRt, kNxt, kExS, kStO, kAp, kSb3, gC, kSc3, kEx1, kOp, kCp, kCh1, kCh, kSb, kMd, kSl2, kSl, kCl, kTe2, kTn, turnC, kCm, kCns, kCnp, kCno, kSeqS, kStT, kPrS, kTb, turnS, kFo, kS2, kC2, kEn, kZp2, kZp, dT, dT.dTs, setR, disown, wipeR, scalar, kFc2, kFc, kFs, seqD, kCk, kCk2, kIn2, kIn3, Nat.reduceAdd, Nat.reduceSub, Nat.reduceLT, Nat.reduceLeDiff, ite_true, ite_false, if_true, if_false, reduceCtorEq, List.append_nil, List.cons_append, List.getElem?_cons_succ, List.getElem?_cons_zero, List.length_cons, List.length_nil, List.map_cons, List.map_nil, List.nil_append, List.replicate_succ, List.replicate_zero, List.reverse_cons, List.reverse_nil, List.set_cons_succ, List.set_cons_zero, len_l, h, decide_false, slc1, hz, mod_i, q3]
theorem pw1 : opD .pow (.int 10) (.int 18) = some (.int (10 ^ 18), false) := by kernel_rfl
theorem pw2 : opD .pow (.int 10) (.int 60) = some (.int (10 ^ 60), false) := by kernel_rfl
theorem pw3 : opD .pow (.int (10 ^ 60)) (.int 10) = some (.int ((10 ^ 60) ^ 10), false) := by kernel_rfl
theorem max2 (i j : Int) : biD .max [.int i, .int j] = some (.int (if j > i then j else i), false) := rfl
theorem q600 : (0 : Int) < (10 ^ 60) ^ 10 := by decide
theorem q21 : (0 : Int) < 2147483647 := by decide
theorem lgen (k : Nat) (ns : List Int) (i : Nat) (hi : i < 1000) (μ : Mu) : ∃ a b : Int, dCall T fs (k + 2) 29 [.lst (ns.map .int), .int i] μ = some (.lst [.int a, .int b, .int (1000 * i)], true, μ) ∧ 0 ≤ a := by
  obtain ⟨z, hz⟩ := lcell k ns i μ
  refine ⟨(if (0 : Int) > z - 10 ^ 18 then 0 else z - 10 ^ 18) % ((10 ^ 60) ^ 10), z % 2147483647, ?_, Int.emod_nonneg _ (by decide)⟩
  rw [dCall_eq at_29 rfl]
  simp only [f_29]
  have i1 : -18446744073709551616 < (i : Int) := by omega
  have i2 : (i : Int) < 18446744073709551616 := by omega
  simp only [dnx, e_lend, disowns, sz1_s, decide_true, decide_false, eq_self, kVl, kT, kLs, kW, kBl, kNt, kNg, kOp2, kCp2, kSb2, kIs, kBi, kMd2, kRv, kSl3, kMk, kGv, kLc, kPr, kPo, kRt, kNxt, kExS, kStO, kAp, kSb3, gC, kSc3, kEx1, kOp, kCp, kCh1, kCh, kSb, kMd, kSl2, kSl, kCl, kTe2, kTn, turnC, kCm, kCns, kCnp, kCno, kSeqS, kStT, kPrS, kTb, turnS, kFo, kS2, kC2, kEn, kZp2, kZp, dT, dT.dTs, setR, disown, wipeR, scalar, kFc2, kFc, kFs, seqD, kCk, kCk2, kIn2, kIn3, Nat.reduceAdd, Nat.reduceSub, Nat.reduceLT, Nat.reduceLeDiff, ite_true, ite_false, if_true, if_false, reduceCtorEq, List.append_nil, List.cons_append, List.getElem?_cons_succ, List.getElem?_cons_zero, List.length_cons, List.length_nil, List.map_cons, List.map_nil, List.nil_append, List.replicate_succ, List.replicate_zero, List.reverse_cons, List.reverse_nil, List.set_cons_succ, List.set_cons_zero, hz, sz1_s, pw1, pw2, pw3, max2, mod_i, q600, q21, mul_r, i1, i2, int_i]
theorem gs_new (a b c m : Int) (μ : Mu) (h0 : 0 ≤ a) (h1 : 0 ≤ c) (h2 : c ≤ m) (hs : μ.all scalL = true) : GS (μ ++ [[.int a, .int b, .int c]]) μ.length m :=
  ⟨a, b, c, by rw [List.getElem?_append_right (Nat.le_refl _), Nat.sub_self]; rfl, h0, h1, h2, by rw [List.all_append, hs]; rfl⟩
end ZL
end

section
set_option Elab.async false
set_option linter.all false
set_option maxRecDepth 100000
set_option maxHeartbeats 4000000
set_option exponentiation.threshold 4000
-- 7d6b33499f42335b92cb7dd524e06192
namespace ZL
open PySem PySem.Spec Z
def lk (p q r s : Int) : D := .tup [.int p, .int q, .int r, .int s]
theorem at3 (a b c : D) (v : Int) (h0 : 0 ≤ v) (h1 : v < 3) : L2.atI [a, b, c] v = some (if v = 0 then a else if v = 1 then b else c) := by
  have h : v = 0 ∨ v = 1 ∨ v = 2 := by omega
  rcases h with rfl | rfl | rfl <;> rfl
def sumI : List Int → Int
  | [] => 0
  | i :: r => i + sumI r
theorem sumI_app : ∀ xs ys : List Int, sumI (xs ++ ys) = sumI xs + sumI ys
  | [], ys => (Int.zero_add _).symm
  | x :: xs, ys => by
    show x + sumI (xs ++ ys) = x + sumI xs + sumI ys
    rw [sumI_app xs ys]
    omega
theorem sumI_rev : ∀ xs : List Int, sumI xs.reverse = sumI xs
  | [] => rfl
  | x :: xs => by
    rw [List.reverse_cons, sumI_app, sumI_rev xs]
    show sumI xs + (x + 0) = x + sumI xs
    omega
/-- contents -/
structure Co where
  sb : Int
  sh : Int
  rb : Int
  lot : Option (Bool × Int)
  dun : Bool
  t0 : Int
  t1 : Int
  t2 : Int
  b0 : Int
  b1 : Int
def lotD : Option (Bool × Int) → D
  | none => .non
  | some (true, n) => .tup [.str "new", .int n]
  | some (false, n) => .tup [.str "old", .int n]
theorem lotD_n : lotD none = .non := rfl
theorem lotD_w {n : Int} : lotD (some (true, n)) = .tup [.str "new", .int n] := rfl
theorem lotD_o {n : Int} : lotD (some (false, n)) = .tup [.str "old", .int n] := rfl
def co (c : Co) : D := .tup [.tup [.int c.sb, .int c.sh], .tup [.int c.rb, lotD c.lot, .bl c.dun], .tup [.int c.t0, .int c.t1, .int c.t2], .tup [.int c.b0, .int c.b1]]
/-- contents of the link p q r s -/
structure COk (p q r s : Int) (c : Co) : Prop where
  sb : c.sb = 0 ∨ c.sb = 1
  sh0 : 0 ≤ c.sh
  sh1 : c.sh ≤ s - 1
  rb : c.rb = 0 ∨ c.rb = 1
  lot : ∀ b n, c.lot = some (b, n) → 1 ≤ n ∧ n ≤ r - 1 ∧ (b = true → c.sb ≠ c.rb)
  t0 : 0 ≤ c.t0
  t1 : 0 ≤ c.t1
  t2 : 0 ≤ c.t2
  ts : c.t0 + c.t1 + c.t2 ≤ p
  b0 : 0 ≤ c.b0
  b1 : 0 ≤ c.b1
  bs : c.b0 + c.b1 ≤ q
/-- a link of numbers that are not too great -/
structure LOk (p q r s : Int) : Prop where
  p0 : 1 ≤ p
  p1 : p < 2 ^ 150
  q0 : 1 ≤ q
  q1 : q < 2 ^ 150
  r0 : 1 ≤ r
  r1 : r < 2 ^ 150
  s0 : 1 ≤ s
  s1 : s < 2 ^ 150
theorem at4_0 (a b c d : D) : L2.atI [a, b, c, d] 0 = some a := rfl
theorem at4_1 (a b c d : D) : L2.atI [a, b, c, d] 1 = some b := rfl
theorem at4_2 (a b c d : D) : L2.atI [a, b, c, d] 2 = some c := rfl
theorem at4_3 (a b c d : D) : L2.atI [a, b, c, d] 3 = some d := rfl
theorem at2_0 (a b : D) : L2.atI [a, b] 0 = some a := rfl
theorem at2_1 (a b : D) : L2.atI [a, b] 1 = some b := rfl
theorem at2 (a b : D) (v : Int) (h0 : 0 ≤ v) (h1 : v < 2) : L2.atI [a, b] v = some (if v = 0 then a else b) := by
  have h : v = 0 ∨ v = 1 := by omega
  rcases h with rfl | rfl <;> rfl
theorem three {vs : List Int} (h : vs.length = 3) : ∃ a b c, vs = [a, b, c] := by
  match vs, h with
  | [a, b, c], _ => exact ⟨a, b, c, rfl⟩
theorem two {vs : List Int} (h : vs.length = 2) : ∃ a b, vs = [a, b] := by
  match vs, h with
  | [a, b], _ => exact ⟨a, b, rfl⟩
end ZL
end

section
set_option Elab.async false
set_option linter.all false
set_option maxRecDepth 100000
set_option maxHeartbeats 4000000
set_option exponentiation.threshold 4000
-- b4f4c9de70b961e45cedbf742efa8d94
namespace ZL
open PySem PySem.Spec Z
theorem c_1n (k : Nat) (i j : Int) (μ : Mu) : dCall T fs (k + 2) 1 [.int i, .int j, .non] μ = some (.bl (decide (j ≤ i)), false, μ) := by
  rw [dCall_eq at_1 rfl]
  simp only [f_1]
  simp only [dnx, e_lend, disowns, sz1_s, decide_true, decide_false, eq_self, kVl, kT, kLs, kW, kBl, kNt, kNg, kOp2, kCp2, kSb2, kIs, kBi, kMd2, kRv, kSl3, kMk, kGv, kLc, kPr, kPo, kRt, kNxt, kExS, kStO, kAp, kSb3, gC, kSc3, kEx1, kOp, kCp, kCh1, kCh, kSb, kMd, kSl2, kSl, kCl, kTe2, kTn, turnC, kCm, kCns, kCnp, kCno, kSeqS, kStT, kPrS, kTb, turnS, kFo, kS2, kC2, kEn, kZp2, kZp, dT, dT.dTs, setR, disown, wipeR, scalar, kFc2, kFc, kFs, seqD, kCk, kCk2, kIn2, kIn3, Nat.reduceAdd, Nat.reduceSub, Nat.reduceLT, Nat.reduceLeDiff, ite_true, ite_false, if_true, if_false, reduceCtorEq, List.append_nil, List.cons_append, List.getElem?_cons_succ, List.getElem?_cons_zero, List.length_cons, List.length_nil, List.map_cons, List.map_nil, List.nil_append, List.replicate_succ, List.replicate_zero, List.reverse_cons, List.reverse_nil, List.set_cons_succ, List.set_cons_zero, c_0]
  cases decide (j ≤ i)
  · simp only [dnx, e_lend, disowns, sz1_s, decide_true, decide_false, eq_self, kVl, kT, kLs, kW, kBl, kNt, kNg, kOp2, kCp2, kSb2, kIs, kBi, kMd2, kRv, kSl3, kMk, kGv, kLc, kPr, kPo, kRt, kNxt, kExS, kStO, kAp, kSb3, gC, kSc3, kEx1, kOp, kCp, kCh1, kCh, kSb, kMd, kSl2, kSl, kCl, kTe2, kTn, turnC, kCm, kCns, kCnp, kCno, kSeqS, kStT, kPrS, kTb, turnS, kFo, kS2, kC2, kEn, kZp2, kZp, dT, dT.dTs, setR, disown, wipeR, scalar, kFc2, kFc, kFs, seqD, kCk, kCk2, kIn2, kIn3, Nat.reduceAdd, Nat.reduceSub, Nat.reduceLT, Nat.reduceLeDiff, ite_true, ite_false, if_true, if_false, reduceCtorEq, List.append_nil, List.cons_append, List.getElem?_cons_succ, List.getElem?_cons_zero, List.length_cons, List.length_nil, List.map_cons, List.map_nil, List.nil_append, List.replicate_succ, List.replicate_zero, List.reverse_cons, List.reverse_nil, List.set_cons_succ, List.set_cons_zero]
  · simp only [dnx, e_lend, disowns, sz1_s, decide_true, decide_false, eq_self, kVl, kT, kLs, kW, kBl, kNt, kNg, kOp2, kCp2, kSb2, kIs, kBi, kMd2, kRv, kSl3, kMk, kGv, kLc, kPr, kPo, kRt, kNxt, kExS, kStO, kAp, kSb3, gC, kSc3, kEx1, kOp, kCp, kCh1, kCh, kSb, kMd, kSl2, kSl, kCl, kTe2, kTn, turnC, kCm, kCns, kCnp, kCno, kSeqS, kStT, kPrS, kTb, turnS, kFo, kS2, kC2, kEn, kZp2, kZp, dT, dT.dTs, setR, disown, wipeR, scalar, kFc2, kFc, kFs, seqD, kCk, kCk2, kIn2, kIn3, Nat.reduceAdd, Nat.reduceSub, Nat.reduceLT, Nat.reduceLeDiff, ite_true, ite_false, if_true, if_false, reduceCtorEq, List.append_nil, List.cons_append, List.getElem?_cons_succ, List.getElem?_cons_zero, List.length_cons, List.length_nil, List.map_cons, List.map_nil, List.nil_append, List.replicate_succ, List.replicate_zero, List.reverse_cons, List.reverse_nil, List.set_cons_succ, List.set_cons_zero]
variable {p q r s : Int} {c c' : Co} (L : LOk p q r s) (C : COk p q r s c)
include L
theorem link_ok (k : Nat) (μ : Mu) : dCall T fs (k + 3) 2 [lk p q r s] μ = some (.bl true, false, μ) := by
  obtain ⟨hp0, hp1, hq0, hq1, hr0, hr1, hs0, hs1⟩ := L
  rw [dCall_eq at_2 rfl]
  simp only [f_2, lk]
  simp only [dnx, e_lend, disowns, sz1_s, decide_true, decide_false, eq_self, kVl, kT, kLs, kW, kBl, kNt, kNg, kOp2, kCp2, kSb2, kIs, kBi, kMd2, kRv, kSl3, kMk, kGv, kLc, kPr, kPo, kRt, kNxt, kExS, kStO, kAp, kSb3, gC, kSc3, kEx1, kOp, kCp, kCh1, kCh, kSb, kMd, kSl2, kSl, kCl, kTe2, kTn, turnC, kCm, kCns, kCnp, kCno, kSeqS, kStT, kPrS, kTb, turnS, kFo, kS2, kC2, kEn, kZp2, kZp, dT, dT.dTs, setR, disown, wipeR, scalar, kFc2, kFc, kFs, seqD, kCk, kCk2, kIn2, kIn3, Nat.reduceAdd, Nat.reduceSub, Nat.reduceLT, Nat.reduceLeDiff, ite_true, ite_false, if_true, if_false, reduceCtorEq, List.append_nil, List.cons_append, List.getElem?_cons_succ, List.getElem?_cons_zero, List.length_cons, List.length_nil, List.map_cons, List.map_nil, List.nil_append, List.replicate_succ, List.replicate_zero, List.reverse_cons, List.reverse_nil, List.set_cons_succ, List.set_cons_zero, c_1n, hp0, hq0, hr0, hs0, decide_true, decide_false, Int.reduceEq, sz1_s, f_2_c0]
theorem check_link (k : Nat) (μ : Mu) : dCall T fs (k + 4) 3 [lk p q r s] μ = some (.non, false, μ) := by
  rw [dCall_eq at_3 rfl]
  simp only [f_3]
  simp only [dnx, e_lend, disowns, sz1_s, decide_true, decide_false, eq_self, kVl, kT, kLs, kW, kBl, kNt, kNg, kOp2, kCp2, kSb2, kIs, kBi, kMd2, kRv, kSl3, kMk, kGv, kLc, kPr, kPo, kRt, kNxt, kExS, kStO, kAp, kSb3, gC, kSc3, kEx1, kOp, kCp, kCh1, kCh, kSb, kMd, kSl2, kSl, kCl, kTe2, kTn, turnC, kCm, kCns, kCnp, kCno, kSeqS, kStT, kPrS, kTb, turnS, kFo, kS2, kC2, kEn, kZp2, kZp, dT, dT.dTs, setR, disown, wipeR, scalar, kFc2, kFc, kFs, seqD, kCk, kCk2, kIn2, kIn3, Nat.reduceAdd, Nat.reduceSub, Nat.reduceLT, Nat.reduceLeDiff, ite_true, ite_false, if_true, if_false, reduceCtorEq, List.append_nil, List.cons_append, List.getElem?_cons_succ, List.getElem?_cons_zero, List.length_cons, List.length_nil, List.map_cons, List.map_nil, List.nil_append, List.replicate_succ, List.replicate_zero, List.reverse_cons, List.reverse_nil, List.set_cons_succ, List.set_cons_zero, link_ok L]
omit L
theorem bit_ok (k : Nat) (i : Int) (h : i = 0 ∨ i = 1) (μ : Mu) : dCall T fs (k + 3) 4 [.int i] μ = some (.bl true, false, μ) := by
  have h0 : (0 : Int) ≤ i := by omega
  have h1 : i ≤ 1 := by omega
  rw [dCall_eq at_4 rfl]
  simp only [f_4]
  simp only [dnx, e_lend, disowns, sz1_s, decide_true, decide_false, eq_self, kVl, kT, kLs, kW, kBl, kNt, kNg, kOp2, kCp2, kSb2, kIs, kBi, kMd2, kRv, kSl3, kMk, kGv, kLc, kPr, kPo, kRt, kNxt, kExS, kStO, kAp, kSb3, gC, kSc3, kEx1, kOp, kCp, kCh1, kCh, kSb, kMd, kSl2, kSl, kCl, kTe2, kTn, turnC, kCm, kCns, kCnp, kCno, kSeqS, kStT, kPrS, kTb, turnS, kFo, kS2, kC2, kEn, kZp2, kZp, dT, dT.dTs, setR, disown, wipeR, scalar, kFc2, kFc, kFs, seqD, kCk, kCk2, kIn2, kIn3, Nat.reduceAdd, Nat.reduceSub, Nat.reduceLT, Nat.reduceLeDiff, ite_true, ite_false, if_true, if_false, reduceCtorEq, List.append_nil, List.cons_append, List.getElem?_cons_succ, List.getElem?_cons_zero, List.length_cons, List.length_nil, List.map_cons, List.map_nil, List.nil_append, List.replicate_succ, List.replicate_zero, List.reverse_cons, List.reverse_nil, List.set_cons_succ, List.set_cons_zero, c_1, h0, h1, decide_true]
theorem counts3 (k : Nat) (a b d m : Int) (μ : Mu) (ha : 0 ≤ a) (hb : 0 ≤ b) (hd : 0 ≤ d) (hm : a + b + d ≤ m) : dCall T fs (k + 3) 6 [.tup [.int a, .int b, .int d], .int 3, .int m] μ = some (.bl true, false, μ) := by
  have hm' : a + (b + (d + 0)) ≤ m := by omega
  rw [dCall_eq at_6 rfl]
  simp only [f_6]
  simp only [dnx, e_lend, disowns, sz1_s, decide_true, decide_false, eq_self, kVl, kT, kLs, kW, kBl, kNt, kNg, kOp2, kCp2, kSb2, kIs, kBi, kMd2, kRv, kSl3, kMk, kGv, kLc, kPr, kPo, kRt, kNxt, kExS, kStO, kAp, kSb3, gC, kSc3, kEx1, kOp, kCp, kCh1, kCh, kSb, kMd, kSl2, kSl, kCl, kTe2, kTn, turnC, kCm, kCns, kCnp, kCno, kSeqS, kStT, kPrS, kTb, turnS, kFo, kS2, kC2, kEn, kZp2, kZp, dT, dT.dTs, setR, disown, wipeR, scalar, kFc2, kFc, kFs, seqD, kCk, kCk2, kIn2, kIn3, Nat.reduceAdd, Nat.reduceSub, Nat.reduceLT, Nat.reduceLeDiff, ite_true, ite_false, if_true, if_false, reduceCtorEq, List.append_nil, List.cons_append, List.getElem?_cons_succ, List.getElem?_cons_zero, List.length_cons, List.length_nil, List.map_cons, List.map_nil, List.nil_append, List.replicate_succ, List.replicate_zero, List.reverse_cons, List.reverse_nil, List.set_cons_succ, List.set_cons_zero, c_1n, ha, hb, hd, hm', decide_true, decide_false, Int.reduceEq, sz1_s, f_6_c0]
theorem counts2 (k : Nat) (a b m : Int) (μ : Mu) (ha : 0 ≤ a) (hb : 0 ≤ b) (hm : a + b ≤ m) : dCall T fs (k + 3) 6 [.tup [.int a, .int b], .int 2, .int m] μ = some (.bl true, false, μ) := by
  have hm' : a + (b + 0) ≤ m := by omega
  rw [dCall_eq at_6 rfl]
  simp only [f_6]
  simp only [dnx, e_lend, disowns, sz1_s, decide_true, decide_false, eq_self, kVl, kT, kLs, kW, kBl, kNt, kNg, kOp2, kCp2, kSb2, kIs, kBi, kMd2, kRv, kSl3, kMk, kGv, kLc, kPr, kPo, kRt, kNxt, kExS, kStO, kAp, kSb3, gC, kSc3, kEx1, kOp, kCp, kCh1, kCh, kSb, kMd, kSl2, kSl, kCl, kTe2, kTn, turnC, kCm, kCns, kCnp, kCno, kSeqS, kStT, kPrS, kTb, turnS, kFo, kS2, kC2, kEn, kZp2, kZp, dT, dT.dTs, setR, disown, wipeR, scalar, kFc2, kFc, kFs, seqD, kCk, kCk2, kIn2, kIn3, Nat.reduceAdd, Nat.reduceSub, Nat.reduceLT, Nat.reduceLeDiff, ite_true, ite_false, if_true, if_false, reduceCtorEq, List.append_nil, List.cons_append, List.getElem?_cons_succ, List.getElem?_cons_zero, List.length_cons, List.length_nil, List.map_cons, List.map_nil, List.nil_append, List.replicate_succ, List.replicate_zero, List.reverse_cons, List.reverse_nil, List.set_cons_succ, List.set_cons_zero, c_1n, ha, hb, hm', decide_true, decide_false, Int.reduceEq, sz1_s, f_6_c0]
theorem ni_new : cpD .notIn (.str "new") (.lst [.str "new", .str "old"]) = some false := by kernel_rfl
theorem ni_old : cpD .notIn (.str "old") (.lst [.str "new", .str "old"]) = some false := by kernel_rfl
theorem lot_ok (k : Nat) (l : Option (Bool × Int)) (al : Bool) (μ : Mu) (h : ∀ b n, l = some (b, n) → 1 ≤ n ∧ n ≤ r - 1 ∧ (b = true → al = false)) : dCall T fs (k + 3) 7 [lk p q r s, lotD l, .bl al] μ = some (.bl true, false, μ) := by
  rw [dCall_eq at_7 rfl]
  simp only [f_7]
  cases l with
  | none =>
    simp only [lotD]
    simp only [dnx, e_lend, disowns, sz1_s, decide_true, decide_false, eq_self, kVl, kT, kLs, kW, kBl, kNt, kNg, kOp2, kCp2, kSb2, kIs, kBi, kMd2, kRv, kSl3, kMk, kGv, kLc, kPr, kPo, kRt, kNxt, kExS, kStO, kAp, kSb3, gC, kSc3, kEx1, kOp, kCp, kCh1, kCh, kSb, kMd, kSl2, kSl, kCl, kTe2, kTn, turnC, kCm, kCns, kCnp, kCno, kSeqS, kStT, kPrS, kTb, turnS, kFo, kS2, kC2, kEn, kZp2, kZp, dT, dT.dTs, setR, disown, wipeR, scalar, kFc2, kFc, kFs, seqD, kCk, kCk2, kIn2, kIn3, Nat.reduceAdd, Nat.reduceSub, Nat.reduceLT, Nat.reduceLeDiff, ite_true, ite_false, if_true, if_false, reduceCtorEq, List.append_nil, List.cons_append, List.getElem?_cons_succ, List.getElem?_cons_zero, List.length_cons, List.length_nil, List.map_cons, List.map_nil, List.nil_append, List.replicate_succ, List.replicate_zero, List.reverse_cons, List.reverse_nil, List.set_cons_succ, List.set_cons_zero]
  | some z =>
    obtain ⟨b, n⟩ := z
    obtain ⟨h1, h2, h3⟩ := h b n rfl
    cases b with
    | true =>
      have h4 := h3 rfl
      subst h4
      simp only [lotD, lk]
      simp only [dnx, e_lend, disowns, sz1_s, decide_true, decide_false, eq_self, kVl, kT, kLs, kW, kBl, kNt, kNg, kOp2, kCp2, kSb2, kIs, kBi, kMd2, kRv, kSl3, kMk, kGv, kLc, kPr, kPo, kRt, kNxt, kExS, kStO, kAp, kSb3, gC, kSc3, kEx1, kOp, kCp, kCh1, kCh, kSb, kMd, kSl2, kSl, kCl, kTe2, kTn, turnC, kCm, kCns, kCnp, kCno, kSeqS, kStT, kPrS, kTb, turnS, kFo, kS2, kC2, kEn, kZp2, kZp, dT, dT.dTs, setR, disown, wipeR, scalar, kFc2, kFc, kFs, seqD, kCk, kCk2, kIn2, kIn3, Nat.reduceAdd, Nat.reduceSub, Nat.reduceLT, Nat.reduceLeDiff, ite_true, ite_false, if_true, if_false, reduceCtorEq, List.append_nil, List.cons_append, List.getElem?_cons_succ, List.getElem?_cons_zero, List.length_cons, List.length_nil, List.map_cons, List.map_nil, List.nil_append, List.replicate_succ, List.replicate_zero, List.reverse_cons, List.reverse_nil, List.set_cons_succ, List.set_cons_zero, f_7_s0, f_7_s1, ni_new, c_1, h1, h2, decide_true, decide_false, Int.reduceEq, sz1_s]
    | false =>
      have hs : decide (Str.ofString "old" = Str.ofString "new") = false := by decide
      simp only [lotD, lk]
      simp only [dnx, e_lend, disowns, sz1_s, decide_true, decide_false, eq_self, kVl, kT, kLs, kW, kBl, kNt, kNg, kOp2, kCp2, kSb2, kIs, kBi, kMd2, kRv, kSl3, kMk, kGv, kLc, kPr, kPo, kRt, kNxt, kExS, kStO, kAp, kSb3, gC, kSc3, kEx1, kOp, kCp, kCh1, kCh, kSb, kMd, kSl2, kSl, kCl, kTe2, kTn, turnC, kCm, kCns, kCnp, kCno, kSeqS, kStT, kPrS, kTb, turnS, kFo, kS2, kC2, kEn, kZp2, kZp, dT, dT.dTs, setR, disown, wipeR, scalar, kFc2, kFc, kFs, seqD, kCk, kCk2, kIn2, kIn3, Nat.reduceAdd, Nat.reduceSub, Nat.reduceLT, Nat.reduceLeDiff, ite_true, ite_false, if_true, if_false, reduceCtorEq, List.append_nil, List.cons_append, List.getElem?_cons_succ, List.getElem?_cons_zero, List.length_cons, List.length_nil, List.map_cons, List.map_nil, List.nil_append, List.replicate_succ, List.replicate_zero, List.reverse_cons, List.reverse_nil, List.set_cons_succ, List.set_cons_zero, f_7_s0, f_7_s1, ni_old, c_1, h1, h2, hs, decide_true, decide_false, Int.reduceEq, sz1_s]
theorem hosts_ok (C : COk p q r s c) (k : Nat) (μ : Mu) : dCall T fs (k + 4) 8 [lk p q r s, .tup [.int c.sb, .int c.sh], .tup [.int c.rb, lotD c.lot, .bl c.dun]] μ = some (.bl true, false, μ) := by
  have hl := lot_ok (p := p) (q := q) (r := r) (s := s) k c.lot (decide (c.sb = c.rb)) μ fun b n h => by
    obtain ⟨h1, h2, h3⟩ := C.lot b n h
    exact ⟨h1, h2, fun z => decide_eq_false (h3 z)⟩
  have q1 := bit_ok k c.sb C.sb μ
  have q2 := bit_ok k c.rb C.rb μ
  rw [dCall_eq at_8 rfl]
  simp only [f_8]
  have q3 := C.sh0
  have q4 := C.sh1
  have e : lk p q r s = .tup [.int p, .int q, .int r, .int s] := rfl
  simp only [dnx, e_lend, disowns, sz1_s, decide_true, decide_false, eq_self, kVl, kT, kLs, kW, kBl, kNt, kNg, kOp2, kCp2, kSb2, kIs, kBi, kMd2, kRv, kSl3, kMk, kGv, kLc, kPr, kPo, kRt, kNxt, kExS, kStO, kAp, kSb3, gC, kSc3, kEx1, kOp, kCp, kCh1, kCh, kSb, kMd, kSl2, kSl, kCl, kTe2, kTn, turnC, kCm, kCns, kCnp, kCno, kSeqS, kStT, kPrS, kTb, turnS, kFo, kS2, kC2, kEn, kZp2, kZp, dT, dT.dTs, setR, disown, wipeR, scalar, kFc2, kFc, kFs, seqD, kCk, kCk2, kIn2, kIn3, Nat.reduceAdd, Nat.reduceSub, Nat.reduceLT, Nat.reduceLeDiff, ite_true, ite_false, if_true, if_false, reduceCtorEq, List.append_nil, List.cons_append, List.getElem?_cons_succ, List.getElem?_cons_zero, List.length_cons, List.length_nil, List.map_cons, List.map_nil, List.nil_append, List.replicate_succ, List.replicate_zero, List.reverse_cons, List.reverse_nil, List.set_cons_succ, List.set_cons_zero, f_8_s0, f_8_s1]
  simp only [dnx, e_lend, disowns, sz1_s, decide_true, decide_false, eq_self, kVl, kT, kLs, kW, kBl, kNt, kNg, kOp2, kCp2, kSb2, kIs, kBi, kMd2, kRv, kSl3, kMk, kGv, kLc, kPr, kPo, kRt, kNxt, kExS, kStO, kAp, kSb3, gC, kSc3, kEx1, kOp, kCp, kCh1, kCh, kSb, kMd, kSl2, kSl, kCl, kTe2, kTn, turnC, kCm, kCns, kCnp, kCno, kSeqS, kStT, kPrS, kTb, turnS, kFo, kS2, kC2, kEn, kZp2, kZp, dT, dT.dTs, setR, disown, wipeR, scalar, kFc2, kFc, kFs, seqD, kCk, kCk2, kIn2, kIn3, Nat.reduceAdd, Nat.reduceSub, Nat.reduceLT, Nat.reduceLeDiff, ite_true, ite_false, if_true, if_false, reduceCtorEq, List.append_nil, List.cons_append, List.getElem?_cons_succ, List.getElem?_cons_zero, List.length_cons, List.length_nil, List.map_cons, List.map_nil, List.nil_append, List.replicate_succ, List.replicate_zero, List.reverse_cons, List.reverse_nil, List.set_cons_succ, List.set_cons_zero, q1, q2, subC_t, e, c_1, q3, q4, decide_true, decide_false, Int.reduceEq]
  rw [e] at hl
  simp only [dnx, e_lend, disowns, sz1_s, decide_true, decide_false, eq_self, kVl, kT, kLs, kW, kBl, kNt, kNg, kOp2, kCp2, kSb2, kIs, kBi, kMd2, kRv, kSl3, kMk, kGv, kLc, kPr, kPo, kRt, kNxt, kExS, kStO, kAp, kSb3, gC, kSc3, kEx1, kOp, kCp, kCh1, kCh, kSb, kMd, kSl2, kSl, kCl, kTe2, kTn, turnC, kCm, kCns, kCnp, kCno, kSeqS, kStT, kPrS, kTb, turnS, kFo, kS2, kC2, kEn, kZp2, kZp, dT, dT.dTs, setR, disown, wipeR, scalar, kFc2, kFc, kFs, seqD, kCk, kCk2, kIn2, kIn3, Nat.reduceAdd, Nat.reduceSub, Nat.reduceLT, Nat.reduceLeDiff, ite_true, ite_false, if_true, if_false, reduceCtorEq, List.append_nil, List.cons_append, List.getElem?_cons_succ, List.getElem?_cons_zero, List.length_cons, List.length_nil, List.map_cons, List.map_nil, List.nil_append, List.replicate_succ, List.replicate_zero, List.reverse_cons, List.reverse_nil, List.set_cons_succ, List.set_cons_zero, hl]
theorem fit_ok (C : COk p q r s c) (k : Nat) (μ : Mu) : dCall T fs (k + 5) 9 [lk p q r s, co c] μ = some (.bl true, false, μ) := by
  have h1 := hosts_ok C k μ
  have h2 := counts3 (k + 1) c.t0 c.t1 c.t2 p μ C.t0 C.t1 C.t2 C.ts
  have h3 := counts2 (k + 1) c.b0 c.b1 q μ C.b0 C.b1 C.bs
  have e : lk p q r s = .tup [.int p, .int q, .int r, .int s] := rfl
  rw [dCall_eq at_9 rfl]
  simp only [f_9, co]
  simp only [dnx, e_lend, disowns, sz1_s, decide_true, decide_false, eq_self, kVl, kT, kLs, kW, kBl, kNt, kNg, kOp2, kCp2, kSb2, kIs, kBi, kMd2, kRv, kSl3, kMk, kGv, kLc, kPr, kPo, kRt, kNxt, kExS, kStO, kAp, kSb3, gC, kSc3, kEx1, kOp, kCp, kCh1, kCh, kSb, kMd, kSl2, kSl, kCl, kTe2, kTn, turnC, kCm, kCns, kCnp, kCno, kSeqS, kStT, kPrS, kTb, turnS, kFo, kS2, kC2, kEn, kZp2, kZp, dT, dT.dTs, setR, disown, wipeR, scalar, kFc2, kFc, kFs, seqD, kCk, kCk2, kIn2, kIn3, Nat.reduceAdd, Nat.reduceSub, Nat.reduceLT, Nat.reduceLeDiff, ite_true, ite_false, if_true, if_false, reduceCtorEq, List.append_nil, List.cons_append, List.getElem?_cons_succ, List.getElem?_cons_zero, List.length_cons, List.length_nil, List.map_cons, List.map_nil, List.nil_append, List.replicate_succ, List.replicate_zero, List.reverse_cons, List.reverse_nil, List.set_cons_succ, List.set_cons_zero, f_9_s0, h1, decide_true, decide_false, Int.reduceEq]
  simp only [dnx, e_lend, disowns, sz1_s, decide_true, decide_false, eq_self, kVl, kT, kLs, kW, kBl, kNt, kNg, kOp2, kCp2, kSb2, kIs, kBi, kMd2, kRv, kSl3, kMk, kGv, kLc, kPr, kPo, kRt, kNxt, kExS, kStO, kAp, kSb3, gC, kSc3, kEx1, kOp, kCp, kCh1, kCh, kSb, kMd, kSl2, kSl, kCl, kTe2, kTn, turnC, kCm, kCns, kCnp, kCno, kSeqS, kStT, kPrS, kTb, turnS, kFo, kS2, kC2, kEn, kZp2, kZp, dT, dT.dTs, setR, disown, wipeR, scalar, kFc2, kFc, kFs, seqD, kCk, kCk2, kIn2, kIn3, Nat.reduceAdd, Nat.reduceSub, Nat.reduceLT, Nat.reduceLeDiff, ite_true, ite_false, if_true, if_false, reduceCtorEq, List.append_nil, List.cons_append, List.getElem?_cons_succ, List.getElem?_cons_zero, List.length_cons, List.length_nil, List.map_cons, List.map_nil, List.nil_append, List.replicate_succ, List.replicate_zero, List.reverse_cons, List.reverse_nil, List.set_cons_succ, List.set_cons_zero, e, h2, h3]
include L
theorem chk_ok (C : COk p q r s c) (k : Nat) (μ : Mu) : dCall T fs (k + 6) 10 [lk p q r s, co c] μ = some (.non, false, μ) := by
  rw [dCall_eq at_10 rfl]
  simp only [f_10]
  simp only [dnx, e_lend, disowns, sz1_s, decide_true, decide_false, eq_self, kVl, kT, kLs, kW, kBl, kNt, kNg, kOp2, kCp2, kSb2, kIs, kBi, kMd2, kRv, kSl3, kMk, kGv, kLc, kPr, kPo, kRt, kNxt, kExS, kStO, kAp, kSb3, gC, kSc3, kEx1, kOp, kCp, kCh1, kCh, kSb, kMd, kSl2, kSl, kCl, kTe2, kTn, turnC, kCm, kCns, kCnp, kCno, kSeqS, kStT, kPrS, kTb, turnS, kFo, kS2, kC2, kEn, kZp2, kZp, dT, dT.dTs, setR, disown, wipeR, scalar, kFc2, kFc, kFs, seqD, kCk, kCk2, kIn2, kIn3, Nat.reduceAdd, Nat.reduceSub, Nat.reduceLT, Nat.reduceLeDiff, ite_true, ite_false, if_true, if_false, reduceCtorEq, List.append_nil, List.cons_append, List.getElem?_cons_succ, List.getElem?_cons_zero, List.length_cons, List.length_nil, List.map_cons, List.map_nil, List.nil_append, List.replicate_succ, List.replicate_zero, List.reverse_cons, List.reverse_nil, List.set_cons_succ, List.set_cons_zero, check_link L, fit_ok C]
end ZL
end

section
set_option Elab.async false
set_option linter.all false
set_option maxRecDepth 100000
set_option maxHeartbeats 4000000
set_option exponentiation.threshold 4000
-- 6cc8821afe6b3a4dc758bd99e6264113
namespace ZL
open PySem PySem.Spec Z
def rb (b : Bool) : Str := if b then Str.ofString "True" else Str.ofString "False"
theorem repr_b (b : Bool) : biD .repr [.bl b] = some (.str (rb b), false) := by
  cases b <;> kernel_rfl
theorem rb_inj (a b : Bool) : decide (rb a = rb b) = (a == b) := by
  cases a <;> cases b <;> decide +kernel
theorem log_ok {i : Int} (h0 : 0 ≤ i) (h1 : i < 2 ^ 150) : decide (i.natAbs.log2 < 1920) = true := by
  have h2 : i.natAbs < 2 ^ 1920 := by
    have e : (2 : Int) ^ 150 < ((2 ^ 1920 : Nat) : Int) := by decide
    omega
  refine decide_eq_true ?_
  by_cases z : i.natAbs = 0
  · rw [z]
    decide
  · exact (Nat.log2_lt z).mpr h2
theorem co_show {p q r s : Int} (L : LOk p q r s) {c : Co} (C : COk p q r s c) : (py (co c)).showable = true := by
  obtain ⟨sb, sh, rbb, l, d, t0, t1, t2, b0, b1⟩ := c
  obtain ⟨csb, csh0, csh1, crb, clot, ct0, ct1, ct2, cts, cb0, cb1, cbs⟩ := C
  dsimp only at csb csh0 csh1 crb clot ct0 ct1 ct2 cts cb0 cb1 cbs
  have := L.p1
  have := L.q1
  have := L.r1
  have := L.s1
  have big : (2 : Int) ^ 150 > 10 := by decide
  have g1 := log_ok (i := sb) (by omega) (by omega)
  have g2 := log_ok (i := sh) (by omega) (by omega)
  have g3 := log_ok (i := rbb) (by omega) (by omega)
  have g4 := log_ok (i := t0) (by omega) (by omega)
  have g5 := log_ok (i := t1) (by omega) (by omega)
  have g6 := log_ok (i := t2) (by omega) (by omega)
  have g7 := log_ok (i := b0) (by omega) (by omega)
  have g8 := log_ok (i := b1) (by omega) (by omega)
  cases l with
  | none =>
    simp only [co, lotD, py, pyL, PyData.showable, PyData.showableAll, g1, g2, g3, g4, g5, g6, g7, g8, Bool.and_self, Bool.and_true]
  | some z =>
    obtain ⟨b, n⟩ := z
    obtain ⟨n0, n1, _⟩ := clot b n rfl
    have g9 := log_ok (i := n) (by omega) (by omega)
    cases b <;> simp only [co, lotD, py, pyL, PyData.showable, PyData.showableAll, g1, g2, g3, g4, g5, g6, g7, g8, g9, Bool.and_self, Bool.and_true]
/-! whatever data of small whole numbers: repr tells -/
mutual
def smD : D → Prop
  | .int i => i.natAbs < 2 ^ 1900
  | .tup xs => smL xs
  | .lst xs => smL xs
  | .dct _ => False
  | .cell _ => False
  | .fn _ => False
  | .non => True
  | .bl _ => True
  | .str _ => True
def smL : List D → Prop
  | [] => True
  | d :: ds => smD d ∧ smL ds
end
theorem log_ok2 {i : Int} (h : i.natAbs < 2 ^ 1900) : decide (i.natAbs.log2 < 1920) = true := by
  refine decide_eq_true ?_
  by_cases z : i.natAbs = 0
  · rw [z]
    decide
  · exact (Nat.log2_lt z).mpr (Nat.lt_trans h (Nat.pow_lt_pow_right (by decide) (by decide)))
mutual
theorem sm_show : ∀ d : D, smD d → (py d).showable = true
  | .int i, h => by
    simp only [py, PyData.showable]
    exact log_ok2 (by simpa only [smD] using h)
  | .tup xs, h => by
    simp only [py, PyData.showable]
    exact sm_showL xs (by simpa only [smD] using h)
  | .lst xs, h => by
    simp only [py, PyData.showable]
    exact sm_showL xs (by simpa only [smD] using h)
  | .dct _, h => by simp only [smD] at h
  | .cell _, h => by simp only [smD] at h
  | .fn _, h => by simp only [smD] at h
  | .non, _ => by simp only [py, PyData.showable]
  | .bl _, _ => by simp only [py, PyData.showable]
  | .str _, _ => by simp only [py, PyData.showable]
theorem sm_showL : ∀ ds : List D, smL ds → PyData.showableAll (pyL ds) = true
  | [], _ => by simp only [pyL, PyData.showableAll]
  | d :: ds, h => by
    have h' : smD d ∧ smL ds := by simpa only [smL] using h
    simp only [pyL, PyData.showableAll, sm_show d h'.1, sm_showL ds h'.2, Bool.and_self]
end
/-- what repr wants of the shape alone -/
def shp (d : D) : Bool := pl d && decide (sz d ≤ sizeLine) && decide ((py d).depth ≤ 60)
theorem rp {d : D} (h : smD d) (h2 : shp d = true) : biD .repr [d] = some (.str (py d).shown, false) := by
  have h3 : showOk d = true := by
    unfold shp at h2
    unfold showOk
    obtain ⟨h2, a3⟩ := Bool.and_eq_true_iff.mp h2
    obtain ⟨a1, a2⟩ := Bool.and_eq_true_iff.mp h2
    rw [a1, a2, a3, sm_show d h]
    rfl
  exact if_pos h3
theorem small {i : Int} (h0 : -(2 ^ 1800) < i) (h1 : i < 2 ^ 1800) : i.natAbs < 2 ^ 1900 := by
  have e : (2 : Int) ^ 1800 < ((2 ^ 1900 : Nat) : Int) := by decide
  omega
section
variable {p q r s : Int} {c : Co}
theorem co_sm (L : LOk p q r s) (C : COk p q r s c) : smD (co c) := by
  obtain ⟨sb, sh, rbb, l, d, t0, t1, t2, b0, b1⟩ := c
  obtain ⟨csb, csh0, csh1, crb, clot, ct0, ct1, ct2, cts, cb0, cb1, cbs⟩ := C
  dsimp only at csb csh0 csh1 crb clot ct0 ct1 ct2 cts cb0 cb1 cbs
  have := L.p1
  have := L.q1
  have := L.r1
  have := L.s1
  have big : (2 : Int) ^ 150 < 2 ^ 1800 := by decide
  have big2 : (10 : Int) < 2 ^ 150 := by decide
  have hl : smD (lotD l) := by
    rcases l with _ | ⟨_ | _, n⟩
    · simp only [lotD, smD]
    · have := clot _ _ rfl
      simp only [lotD, smD, smL, and_true, true_and]
      exact small (by omega) (by omega)
    · have := clot _ _ rfl
      simp only [lotD, smD, smL, and_true, true_and]
      exact small (by omega) (by omega)
  simp only [co, smD, smL, hl, and_true, true_and]
  refine ⟨⟨small (by omega) (by omega), small (by omega) (by omega)⟩, small (by omega) (by omega), ⟨small (by omega) (by omega), small (by omega) (by omega), small (by omega) (by omega)⟩, small (by omega) (by omega), small (by omega) (by omega)⟩
theorem lk_sm (L : LOk p q r s) : smD (lk p q r s) := by
  obtain ⟨h1, h2, h3, h4, h5, h6, h7, h8⟩ := L
  have big : (2 : Int) ^ 150 < 2 ^ 1800 := by decide
  simp only [lk, smD, smL, and_true]
  exact ⟨small (by omega) (by omega), small (by omega) (by omega), small (by omega) (by omega), small (by omega) (by omega)⟩
end
end ZL
end

section
set_option Elab.async false
set_option linter.all false
set_option maxRecDepth 100000
set_option maxHeartbeats 4000000
set_option exponentiation.threshold 4000
-- ceb335a194003b2700b338bb7ce94256
namespace ZL
open PySem PySem.Spec Z
theorem gI_0 {i : Nat} {ρ : Rho} {d : D} {μ : Mu} {ds : List D} (h : ds.length < 100000) : gI i ρ 0 d μ (some (some (.lst ds, true))) = some (.nx (ρ.set i (some (.lst (d :: ds), true))) μ) := gI_s (by decide) (by decide) h
theorem gI_1 {i : Nat} {ρ : Rho} {d x : D} {μ : Mu} {ds : List D} (h : (x :: ds).length < 100000) : gI i ρ 1 d μ (some (some (.lst (x :: ds), true))) = some (.nx (ρ.set i (some (.lst (x :: d :: ds), true))) μ) := gI_s (by decide) (by decide) h
theorem gI_2 {i : Nat} {ρ : Rho} {d x y : D} {μ : Mu} {ds : List D} (h : (x :: y :: ds).length < 100000) : gI i ρ 2 d μ (some (some (.lst (x :: y :: ds), true))) = some (.nx (ρ.set i (some (.lst (x :: y :: d :: ds), true))) μ) := gI_s (by decide) (by decide) h
theorem suml0 : biD .sum [.lst []] = some (.int 0, false) := rfl
theorem suml1 {a : Int} : biD .sum [.lst [.int a]] = some (.int (a + 0), false) := rfl
theorem suml2 {a b : Int} : biD .sum [.lst [.int a, .int b]] = some (.int (a + (b + 0)), false) := rfl
theorem suml3 {a b c : Int} : biD .sum [.lst [.int a, .int b, .int c]] = some (.int (a + (b + (c + 0))), false) := rfl
end ZL
end

section
set_option Elab.async false
set_option linter.all false
set_option maxRecDepth 100000
set_option maxHeartbeats 4000000
set_option exponentiation.threshold 4000
-- 6dce7a45e79ba7bc793791946e62328f
namespace ZL
open PySem PySem.Spec Z
theorem num (k : Nat) (μ : Mu) (n : Nat) (m lo hi : Int) (h : GS μ n m) (hm : m < 2 ^ 60) (hw : lo ≤ hi) (hw2 : hi - lo + 1 < 2 ^ 200) :
    ∃ v μ', dCall T fs (k + 3) 30 [.cell n, .int lo, .int hi] μ = some (.int v, false, μ') ∧ lo ≤ v ∧ v ≤ hi ∧ GS μ' n (m + 10) := by
  obtain ⟨v, μ', e, h1, h2, h3⟩ := rnd k μ n m (hi - lo + 1) h hm (by omega) hw2
  refine ⟨lo + v, μ', ?_, by omega, by omega, h3⟩
  rw [dCall_eq at_30 rfl]
  simp only [f_30]
  simp only [dnx, e_lend, disowns, sz1_s, decide_true, decide_false, eq_self, kVl, kT, kLs, kW, kBl, kNt, kNg, kOp2, kCp2, kSb2, kIs, kBi, kMd2, kRv, kSl3, kMk, kGv, kLc, kPr, kPo, kRt, kNxt, kExS, kStO, kAp, kSb3, gC, kSc3, kEx1, kOp, kCp, kCh1, kCh, kSb, kMd, kSl2, kSl, kCl, kTe2, kTn, turnC, kCm, kCns, kCnp, kCno, kSeqS, kStT, kPrS, kTb, turnS, kFo, kS2, kC2, kEn, kZp2, kZp, dT, dT.dTs, setR, disown, wipeR, scalar, kFc2, kFc, kFs, seqD, kCk, kCk2, kIn2, kIn3, Nat.reduceAdd, Nat.reduceSub, Nat.reduceLT, Nat.reduceLeDiff, ite_true, ite_false, if_true, if_false, reduceCtorEq, List.append_nil, List.cons_append, List.getElem?_cons_succ, List.getElem?_cons_zero, List.length_cons, List.length_nil, List.map_cons, List.map_nil, List.nil_append, List.replicate_succ, List.replicate_zero, List.reverse_cons, List.reverse_nil, List.set_cons_succ, List.set_cons_zero, e]
theorem link (k : Nat) (μ : Mu) (n : Nat) (m M : Int) (h : GS μ n m) (hm : m + 40 < 2 ^ 60) (hw : 1 ≤ M) (hw2 : M < 2 ^ 190) :
    ∃ p q r s μ', dCall T fs (k + 4) 31 [.cell n, .int M] μ = some (lk p q r s, false, μ') ∧ (1 ≤ p ∧ p ≤ M) ∧ (1 ≤ q ∧ q ≤ M) ∧ (1 ≤ r ∧ r ≤ M) ∧ (1 ≤ s ∧ s ≤ M) ∧ GS μ' n (m + 40) := by
  have hb : M - 1 + 1 < 2 ^ 200 := by
    have e : (2 : Int) ^ 190 < 2 ^ 200 := by decide
    omega
  obtain ⟨p, μ1, e1, a1, b1, g1⟩ := num k μ n m 1 M h (by omega) hw hb
  obtain ⟨q, μ2, e2, a2, b2, g2⟩ := num k μ1 n _ 1 M g1 (by omega) hw hb
  obtain ⟨r, μ3, e3, a3, b3, g3⟩ := num k μ2 n _ 1 M g2 (by omega) hw hb
  obtain ⟨s, μ4, e4, a4, b4, g4⟩ := num k μ3 n _ 1 M g3 (by omega) hw hb
  refine ⟨p, q, r, s, μ4, ?_, ⟨a1, b1⟩, ⟨a2, b2⟩, ⟨a3, b3⟩, ⟨a4, b4⟩, g4.mono (by omega)⟩
  rw [dCall_eq at_31 rfl]
  simp only [f_31]
  simp only [dnx, e_lend, disowns, sz1_s, decide_true, decide_false, eq_self, kVl, kT, kLs, kW, kBl, kNt, kNg, kOp2, kCp2, kSb2, kIs, kBi, kMd2, kRv, kSl3, kMk, kGv, kLc, kPr, kPo, kRt, kNxt, kExS, kStO, kAp, kSb3, gC, kSc3, kEx1, kOp, kCp, kCh1, kCh, kSb, kMd, kSl2, kSl, kCl, kTe2, kTn, turnC, kCm, kCns, kCnp, kCno, kSeqS, kStT, kPrS, kTb, turnS, kFo, kS2, kC2, kEn, kZp2, kZp, dT, dT.dTs, setR, disown, wipeR, scalar, kFc2, kFc, kFs, seqD, kCk, kCk2, kIn2, kIn3, Nat.reduceAdd, Nat.reduceSub, Nat.reduceLT, Nat.reduceLeDiff, ite_true, ite_false, if_true, if_false, reduceCtorEq, List.append_nil, List.cons_append, List.getElem?_cons_succ, List.getElem?_cons_zero, List.length_cons, List.length_nil, List.map_cons, List.map_nil, List.nil_append, List.replicate_succ, List.replicate_zero, List.reverse_cons, List.reverse_nil, List.set_cons_succ, List.set_cons_zero, e1, e2, e3, e4, sz1_s, Nat.reduceLeDiff, lk]
theorem share_turn (k : Nat) (n : Nat) (M W l : Int) (xs : List D) (lo m : Int) (y z : Option (D × Bool)) (μ : Mu) (h : GS μ n m) (hm : m + 40 < 2 ^ 60) (h0 : 0 ≤ l) (h1 : l < 2 ^ 190) (hx : xs.length < 1000) :
    ∃ v μ', turnS T (dCall T fs (k + 3)) (.tName 3) f_32_b0 (.int lo) [some (.cell n, false), some (.int M, false), some (.int W, false), y, some (.lst xs, true), some (.int l, false), z] μ =
      some (.nx [some (.cell n, false), some (.int M, false), some (.int W, false), some (.int lo, false), some (.lst (xs ++ [.int v]), true), some (.int (l - v), false), some (.int v, false)] μ') ∧ 0 ≤ v ∧ v ≤ l ∧ GS μ' n (m + 40) := by
  have hb : l - 0 + 1 < 2 ^ 200 := by
    have e : (2 : Int) ^ 190 + 1 < 2 ^ 200 := by decide
    omega
  have hx2 : xs.length < 100000 := by omega
  obtain ⟨c, μ1, e1, a1, b1, g1⟩ := rnd (k + 1) μ n m 2 h (by omega) (by decide) (by decide)
  by_cases hc : c = 0
  · obtain ⟨v, μ2, e2, a2, b2, g2⟩ := num k μ1 n _ 0 l g1 (by omega) h0 hb
    obtain ⟨w, μ3, e3, a3, b3, g3⟩ := rnd (k + 1) μ2 n _ 3 g2 (by omega) (by decide) (by decide)
    have q := at3 (.int 0) (.int l) (.int v) w a3 b3
    have hu : ∃ u, (if w = 0 then D.int 0 else if w = 1 then D.int l else D.int v) = D.int u ∧ 0 ≤ u ∧ u ≤ l := by
      split
      · exact ⟨0, rfl, by omega, by omega⟩
      · split
        · exact ⟨l, rfl, by omega, by omega⟩
        · exact ⟨v, rfl, by omega, by omega⟩
    obtain ⟨u, hu1, hu2, hu3⟩ := hu
    rw [hu1] at q
    refine ⟨u, μ3, ?_, hu2, hu3, g3.mono (by omega)⟩
    subst hc
    simp only [dnx, e_lend, disowns, sz1_s, decide_true, decide_false, eq_self, kVl, kT, kLs, kW, kBl, kNt, kNg, kOp2, kCp2, kSb2, kIs, kBi, kMd2, kRv, kSl3, kMk, kGv, kLc, kPr, kPo, kRt, kNxt, kExS, kStO, kAp, kSb3, gC, kSc3, kEx1, kOp, kCp, kCh1, kCh, kSb, kMd, kSl2, kSl, kCl, kTe2, kTn, turnC, kCm, kCns, kCnp, kCno, kSeqS, kStT, kPrS, kTb, turnS, kFo, kS2, kC2, kEn, kZp2, kZp, dT, dT.dTs, setR, disown, wipeR, scalar, kFc2, kFc, kFs, seqD, kCk, kCk2, kIn2, kIn3, Nat.reduceAdd, Nat.reduceSub, Nat.reduceLT, Nat.reduceLeDiff, ite_true, ite_false, if_true, if_false, reduceCtorEq, List.append_nil, List.cons_append, List.getElem?_cons_succ, List.getElem?_cons_zero, List.length_cons, List.length_nil, List.map_cons, List.map_nil, List.nil_append, List.replicate_succ, List.replicate_zero, List.reverse_cons, List.reverse_nil, List.set_cons_succ, List.set_cons_zero, f_32_b0, e1, e2, e3, sz1_s, q, gA_s, decide_true, hx2]
  · obtain ⟨v, μ2, e2, a2, b2, g2⟩ := num k μ1 n _ 0 l g1 (by omega) h0 hb
    refine ⟨v, μ2, ?_, a2, b2, g2.mono (by omega)⟩
    simp only [dnx, e_lend, disowns, sz1_s, decide_true, decide_false, eq_self, kVl, kT, kLs, kW, kBl, kNt, kNg, kOp2, kCp2, kSb2, kIs, kBi, kMd2, kRv, kSl3, kMk, kGv, kLc, kPr, kPo, kRt, kNxt, kExS, kStO, kAp, kSb3, gC, kSc3, kEx1, kOp, kCp, kCh1, kCh, kSb, kMd, kSl2, kSl, kCl, kTe2, kTn, turnC, kCm, kCns, kCnp, kCno, kSeqS, kStT, kPrS, kTb, turnS, kFo, kS2, kC2, kEn, kZp2, kZp, dT, dT.dTs, setR, disown, wipeR, scalar, kFc2, kFc, kFs, seqD, kCk, kCk2, kIn2, kIn3, Nat.reduceAdd, Nat.reduceSub, Nat.reduceLT, Nat.reduceLeDiff, ite_true, ite_false, if_true, if_false, reduceCtorEq, List.append_nil, List.cons_append, List.getElem?_cons_succ, List.getElem?_cons_zero, List.length_cons, List.length_nil, List.map_cons, List.map_nil, List.nil_append, List.replicate_succ, List.replicate_zero, List.reverse_cons, List.reverse_nil, List.set_cons_succ, List.set_cons_zero, f_32_b0, e1, e2, sz1_s, gA_s, decide_false, hc, hx2]
theorem share_loop (k : Nat) (n : Nat) (M W : Int) : ∀ (j : Nat) (l : Int) (xs : List D) (lo m : Int) (y z : Option (D × Bool)) (μ : Mu), GS μ n m → m + 40 * j < 2 ^ 60 → 0 ≤ l → l < 2 ^ 190 → xs.length + j < 1000 →
    ∃ (vs : List Int) (y' z' : Option (D × Bool)) (μ' : Mu), foldS (turnS T (dCall T fs (k + 3)) (.tName 3) f_32_b0) (rngL j lo) [some (.cell n, false), some (.int M, false), some (.int W, false), y, some (.lst xs, true), some (.int l, false), z] μ =
      some (.nx [some (.cell n, false), some (.int M, false), some (.int W, false), y', some (.lst (xs ++ vs.map .int), true), some (.int (l - sumI vs), false), z'] μ') ∧ vs.length = j ∧ (∀ v ∈ vs, 0 ≤ v) ∧ sumI vs ≤ l ∧ GS μ' n (m + 40 * j)
  | 0, l, xs, lo, m, y, z, μ, h, _, h0, _, _ => by
    refine ⟨[], y, z, μ, ?_, rfl, fun v hv => (nomatch hv), h0, h.mono (by omega)⟩
    rw [List.map_nil, List.append_nil, show l - sumI [] = l from Int.sub_zero l]
    rfl
  | j + 1, l, xs, lo, m, y, z, μ, h, hm, h0, h1, hx => by
    obtain ⟨v, μ1, e1, a1, b1, g1⟩ := share_turn k n M W l xs lo m y z μ h (by omega) h0 h1 (by omega)
    obtain ⟨vs, y', z', μ2, e2, hl, hv, hs, g2⟩ := share_loop k n M W j (l - v) (xs ++ [.int v]) (lo + 1) (m + 40) (some (.int lo, false)) (some (.int v, false)) μ1 g1 (by omega) (by omega) (by omega) (by rw [List.length_append]; show xs.length + 1 + j < 1000; omega)
    refine ⟨v :: vs, y', z', μ2, ?_, by rw [List.length_cons, hl], fun u hu => ?_, ?_, g2.mono (by omega)⟩
    · show foldS _ (.int lo :: rngL j (lo + 1)) _ _ = _
      rw [foldS, e1]
      dsimp only
      rw [e2, List.map_cons, List.append_assoc, show l - v - sumI vs = l - sumI (v :: vs) by show l - v - sumI vs = l - (v + sumI vs); omega]
      rfl
    · rcases List.mem_cons.mp hu with rfl | hu
      · exact a1
      · exact hv u hu
    · show v + sumI vs ≤ l
      omega
theorem share (k : Nat) (n : Nat) (M : Int) (j : Nat) (m : Int) (μ : Mu) (h : GS μ n m) (hm : m + 1000 < 2 ^ 60) (hj : j ≤ 3) (h0 : 0 ≤ M) (h1 : M < 2 ^ 190) :
    ∃ (vs : List Int) (o : Bool) (μ' : Mu), dCall T fs (k + 4) 32 [.cell n, .int M, .int j] μ = some (.lst (vs.map .int), o, μ') ∧ vs.length = j ∧ (∀ v ∈ vs, 0 ≤ v) ∧ sumI vs ≤ M ∧ GS μ' n (m + 150) := by
  obtain ⟨vs, y', z', μ1, e1, hl, hv, hs, g1⟩ := share_loop k n M j j M [] 0 m none none μ h (by omega) h0 h1 (by show 0 + j < 1000; omega)
  obtain ⟨c, μ2, e2, a2, b2, g2⟩ := rnd (k + 1) μ1 n _ 2 g1 (by omega) (by decide) (by decide)
  have q1 : -4611686018427387904 ≤ (j : Int) := by omega
  have q2 : (j : Int) ≤ 100000 := by omega
  have q3 : (j : Int).toNat = j := Int.toNat_natCast j
  rw [List.nil_append] at e1
  by_cases hc : c = 0
  · refine ⟨vs, false, μ2, ?_, hl, hv, hs, g2.mono (by omega)⟩
    subst hc
    rw [dCall_eq at_32 rfl]
    simp only [f_32]
    simp only [dnx, e_lend, disowns, sz1_s, decide_true, decide_false, eq_self, kVl, kT, kLs, kW, kBl, kNt, kNg, kOp2, kCp2, kSb2, kIs, kBi, kMd2, kRv, kSl3, kMk, kGv, kLc, kPr, kPo, kRt, kNxt, kExS, kStO, kAp, kSb3, gC, kSc3, kEx1, kOp, kCp, kCh1, kCh, kSb, kMd, kSl2, kSl, kCl, kTe2, kTn, turnC, kCm, kCns, kCnp, kCno, kSeqS, kStT, kPrS, kTb, turnS, kFo, kS2, kC2, kEn, kZp2, kZp, dT, dT.dTs, setR, disown, wipeR, scalar, kFc2, kFc, kFs, seqD, kCk, kCk2, kIn2, kIn3, Nat.reduceAdd, Nat.reduceSub, Nat.reduceLT, Nat.reduceLeDiff, ite_true, ite_false, if_true, if_false, reduceCtorEq, List.append_nil, List.cons_append, List.getElem?_cons_succ, List.getElem?_cons_zero, List.length_cons, List.length_nil, List.map_cons, List.map_nil, List.nil_append, List.replicate_succ, List.replicate_zero, List.reverse_cons, List.reverse_nil, List.set_cons_succ, List.set_cons_zero, q1, q2, q3, e1, e2, decide_true, sz1_s]
  · refine ⟨vs.reverse, true, μ2, ?_, by rw [List.length_reverse, hl], fun v h => hv v (List.mem_reverse.mp h), by rw [sumI_rev]; exact hs, g2.mono (by omega)⟩
    rw [dCall_eq at_32 rfl]
    simp only [f_32]
    simp only [dnx, e_lend, disowns, sz1_s, decide_true, decide_false, eq_self, kVl, kT, kLs, kW, kBl, kNt, kNg, kOp2, kCp2, kSb2, kIs, kBi, kMd2, kRv, kSl3, kMk, kGv, kLc, kPr, kPo, kRt, kNxt, kExS, kStO, kAp, kSb3, gC, kSc3, kEx1, kOp, kCp, kCh1, kCh, kSb, kMd, kSl2, kSl, kCl, kTe2, kTn, turnC, kCm, kCns, kCnp, kCno, kSeqS, kStT, kPrS, kTb, turnS, kFo, kS2, kC2, kEn, kZp2, kZp, dT, dT.dTs, setR, disown, wipeR, scalar, kFc2, kFc, kFs, seqD, kCk, kCk2, kIn2, kIn3, Nat.reduceAdd, Nat.reduceSub, Nat.reduceLT, Nat.reduceLeDiff, ite_true, ite_false, if_true, if_false, reduceCtorEq, List.append_nil, List.cons_append, List.getElem?_cons_succ, List.getElem?_cons_zero, List.length_cons, List.length_nil, List.map_cons, List.map_nil, List.nil_append, List.replicate_succ, List.replicate_zero, List.reverse_cons, List.reverse_nil, List.set_cons_succ, List.set_cons_zero, q1, q2, q3, e1, e2, hc, decide_false, sz1_s, rev_l, List.map_reverse]
/-- one of 0, the most, a drawn one -/
theorem pick (k : Nat) (n : Nat) (lo hi m : Int) (μ : Mu) (h : GS μ n m) (hm : m + 40 < 2 ^ 60) (h0 : lo ≤ hi) (h1 : hi - lo + 1 < 2 ^ 200) :
    ∃ v μ1 u μ2 w, dCall T fs (k + 3) 30 [.cell n, .int lo, .int hi] μ = some (.int v, false, μ1) ∧ dCall T fs (k + 3) 27 [.cell n, .int 3] μ1 = some (.int u, false, μ2) ∧ L2.atI [D.int lo, D.int hi, D.int v] u = some (D.int w) ∧ lo ≤ w ∧ w ≤ hi ∧ GS μ2 n (m + 20) := by
  obtain ⟨v, μ1, e1, a1, b1, g1⟩ := num k μ n m lo hi h (by omega) h0 h1
  obtain ⟨u, μ2, e2, a2, b2, g2⟩ := rnd (k + 1) μ1 n _ 3 g1 (by omega) (by decide) (by decide)
  have q := at3 (.int lo) (.int hi) (.int v) u a2 b2
  have hu : ∃ w, (if u = 0 then D.int lo else if u = 1 then D.int hi else D.int v) = D.int w ∧ lo ≤ w ∧ w ≤ hi := by
    split
    · exact ⟨lo, rfl, by omega, by omega⟩
    · split
      · exact ⟨hi, rfl, by omega, by omega⟩
      · exact ⟨v, rfl, by omega, by omega⟩
  obtain ⟨w, hw, h2, h3⟩ := hu
  rw [hw] at q
  exact ⟨v, μ1, u, μ2, w, e1, e2, q, h2, h3, g2.mono (by omega)⟩
theorem contents (k : Nat) (n : Nat) (p q r s m : Int) (μ : Mu) (L : LOk p q r s) (h : GS μ n m) (hm : m + 4000 < 2 ^ 60) :
    ∃ c μ', dCall T fs (k + 5) 33 [.cell n, lk p q r s] μ = some (co c, false, μ') ∧ COk p q r s c ∧ GS μ' n (m + 1000) := by
  obtain ⟨hp0, hp1, hq0, hq1, hr0, hr1, hs0, hs1⟩ := L
  have big : (2 : Int) ^ 150 + 1 < 2 ^ 200 := by decide
  have big2 : (2 : Int) ^ 150 < 2 ^ 190 := by decide
  obtain ⟨b, μ1, e1, a1, b1, g1⟩ := rnd (k + 2) μ n m 2 h (by omega) (by decide) (by decide)
  obtain ⟨hb, μ2, e2, a2, b2, g2⟩ := rnd (k + 2) μ1 n _ 2 g1 (by omega) (by decide) (by decide)
  -- the lot
  have lot : ∃ (l : Option (Bool × Int)) (x : Option (D × Bool)) (μ3 : Mu), dS T (dCall T fs (k + 4)) f_33_s0 [some (.cell n, false), some (lk p q r s, false), some (.non, false), none, some (.int b, false), some (.int hb, false), none, none, none] μ2 = some (.nx [some (.cell n, false), some (lk p q r s, false), some (lotD l, false), none, some (.int b, false), some (.int hb, false), x, none, none] μ3) ∧
      (∀ z i, l = some (z, i) → 1 ≤ i ∧ i ≤ r - 1 ∧ (z = true → b ≠ hb)) ∧ GS μ3 n (m + 200) := by
    by_cases hr : 1 < r
    · obtain ⟨u, μ3, e3, a3, b3, g3⟩ := rnd (k + 2) μ2 n _ 3 g2 (by omega) (by decide) (by decide)
      by_cases hu : 0 < u
      · by_cases hne : b = hb
        · obtain ⟨v, μ5, x, μ6, i, e5, e6, e7, h7, h8, g6⟩ := pick (k + 1) n 1 (r - 1) _ μ3 g3 (by omega) (by omega) (by omega)
          refine ⟨some (false, i), some (.str "old", false), μ6, ?_, fun z j hz => ?_, g6.mono (by omega)⟩
          · simp only [dnx, e_lend, disowns, sz1_s, decide_true, decide_false, eq_self, kVl, kT, kLs, kW, kBl, kNt, kNg, kOp2, kCp2, kSb2, kIs, kBi, kMd2, kRv, kSl3, kMk, kGv, kLc, kPr, kPo, kRt, kNxt, kExS, kStO, kAp, kSb3, gC, kSc3, kEx1, kOp, kCp, kCh1, kCh, kSb, kMd, kSl2, kSl, kCl, kTe2, kTn, turnC, kCm, kCns, kCnp, kCno, kSeqS, kStT, kPrS, kTb, turnS, kFo, kS2, kC2, kEn, kZp2, kZp, dT, dT.dTs, setR, disown, wipeR, scalar, kFc2, kFc, kFs, seqD, kCk, kCk2, kIn2, kIn3, Nat.reduceAdd, Nat.reduceSub, Nat.reduceLT, Nat.reduceLeDiff, ite_true, ite_false, if_true, if_false, reduceCtorEq, List.append_nil, List.cons_append, List.getElem?_cons_succ, List.getElem?_cons_zero, List.length_cons, List.length_nil, List.map_cons, List.map_nil, List.nil_append, List.replicate_succ, List.replicate_zero, List.reverse_cons, List.reverse_nil, List.set_cons_succ, List.set_cons_zero, f_33_s0, lk, at4_2, at4_3, hr, hu, hne, e3, e5, e6, e7, decide_true, decide_false, lotD, sz1_s]
          · cases hz
            exact ⟨h7, h8, fun z => nomatch z⟩
        · obtain ⟨y, μ4, e4, a4, b4, g4⟩ := rnd (k + 2) μ3 n _ 2 g3 (by omega) (by decide) (by decide)
          obtain ⟨v, μ5, x, μ6, i, e5, e6, e7, h7, h8, g6⟩ := pick (k + 1) n 1 (r - 1) _ μ4 g4 (by omega) (by omega) (by omega)
          have qq := at2 (.str "new") (.str "old") y a4 b4
          by_cases hy : y = 0
          · refine ⟨some (true, i), some (.str "new", false), μ6, ?_, fun z j hz => ?_, g6.mono (by omega)⟩
            · subst hy
              simp only [dnx, e_lend, disowns, sz1_s, decide_true, decide_false, eq_self, kVl, kT, kLs, kW, kBl, kNt, kNg, kOp2, kCp2, kSb2, kIs, kBi, kMd2, kRv, kSl3, kMk, kGv, kLc, kPr, kPo, kRt, kNxt, kExS, kStO, kAp, kSb3, gC, kSc3, kEx1, kOp, kCp, kCh1, kCh, kSb, kMd, kSl2, kSl, kCl, kTe2, kTn, turnC, kCm, kCns, kCnp, kCno, kSeqS, kStT, kPrS, kTb, turnS, kFo, kS2, kC2, kEn, kZp2, kZp, dT, dT.dTs, setR, disown, wipeR, scalar, kFc2, kFc, kFs, seqD, kCk, kCk2, kIn2, kIn3, Nat.reduceAdd, Nat.reduceSub, Nat.reduceLT, Nat.reduceLeDiff, ite_true, ite_false, if_true, if_false, reduceCtorEq, List.append_nil, List.cons_append, List.getElem?_cons_succ, List.getElem?_cons_zero, List.length_cons, List.length_nil, List.map_cons, List.map_nil, List.nil_append, List.replicate_succ, List.replicate_zero, List.reverse_cons, List.reverse_nil, List.set_cons_succ, List.set_cons_zero, f_33_s0, lk, at4_2, at4_3, hr, hu, hne, e3, e4, e5, e6, e7, at2_0, decide_true, decide_false, lotD, sz1_s]
            · cases hz
              exact ⟨h7, h8, fun _ => hne⟩
          · have hy1 : y = 1 := by omega
            refine ⟨some (false, i), some (.str "old", false), μ6, ?_, fun z j hz => ?_, g6.mono (by omega)⟩
            · subst hy1
              simp only [dnx, e_lend, disowns, sz1_s, decide_true, decide_false, eq_self, kVl, kT, kLs, kW, kBl, kNt, kNg, kOp2, kCp2, kSb2, kIs, kBi, kMd2, kRv, kSl3, kMk, kGv, kLc, kPr, kPo, kRt, kNxt, kExS, kStO, kAp, kSb3, gC, kSc3, kEx1, kOp, kCp, kCh1, kCh, kSb, kMd, kSl2, kSl, kCl, kTe2, kTn, turnC, kCm, kCns, kCnp, kCno, kSeqS, kStT, kPrS, kTb, turnS, kFo, kS2, kC2, kEn, kZp2, kZp, dT, dT.dTs, setR, disown, wipeR, scalar, kFc2, kFc, kFs, seqD, kCk, kCk2, kIn2, kIn3, Nat.reduceAdd, Nat.reduceSub, Nat.reduceLT, Nat.reduceLeDiff, ite_true, ite_false, if_true, if_false, reduceCtorEq, List.append_nil, List.cons_append, List.getElem?_cons_succ, List.getElem?_cons_zero, List.length_cons, List.length_nil, List.map_cons, List.map_nil, List.nil_append, List.replicate_succ, List.replicate_zero, List.reverse_cons, List.reverse_nil, List.set_cons_succ, List.set_cons_zero, f_33_s0, lk, at4_2, at4_3, hr, hu, hne, e3, e4, e5, e6, e7, at2_1, decide_true, decide_false, lotD, sz1_s]
            · cases hz
              exact ⟨h7, h8, fun z => nomatch z⟩
      · refine ⟨none, none, μ3, ?_, fun z i hz => (nomatch hz), g3.mono (by omega)⟩
        simp only [dnx, e_lend, disowns, sz1_s, decide_true, decide_false, eq_self, kVl, kT, kLs, kW, kBl, kNt, kNg, kOp2, kCp2, kSb2, kIs, kBi, kMd2, kRv, kSl3, kMk, kGv, kLc, kPr, kPo, kRt, kNxt, kExS, kStO, kAp, kSb3, gC, kSc3, kEx1, kOp, kCp, kCh1, kCh, kSb, kMd, kSl2, kSl, kCl, kTe2, kTn, turnC, kCm, kCns, kCnp, kCno, kSeqS, kStT, kPrS, kTb, turnS, kFo, kS2, kC2, kEn, kZp2, kZp, dT, dT.dTs, setR, disown, wipeR, scalar, kFc2, kFc, kFs, seqD, kCk, kCk2, kIn2, kIn3, Nat.reduceAdd, Nat.reduceSub, Nat.reduceLT, Nat.reduceLeDiff, ite_true, ite_false, if_true, if_false, reduceCtorEq, List.append_nil, List.cons_append, List.getElem?_cons_succ, List.getElem?_cons_zero, List.length_cons, List.length_nil, List.map_cons, List.map_nil, List.nil_append, List.replicate_succ, List.replicate_zero, List.reverse_cons, List.reverse_nil, List.set_cons_succ, List.set_cons_zero, f_33_s0, lk, at4_2, at4_3, hr, hu, e3, decide_true, decide_false, lotD, sz1_s]
    · refine ⟨none, none, μ2, ?_, fun z i hz => (nomatch hz), g2.mono (by omega)⟩
      simp only [dnx, e_lend, disowns, sz1_s, decide_true, decide_false, eq_self, kVl, kT, kLs, kW, kBl, kNt, kNg, kOp2, kCp2, kSb2, kIs, kBi, kMd2, kRv, kSl3, kMk, kGv, kLc, kPr, kPo, kRt, kNxt, kExS, kStO, kAp, kSb3, gC, kSc3, kEx1, kOp, kCp, kCh1, kCh, kSb, kMd, kSl2, kSl, kCl, kTe2, kTn, turnC, kCm, kCns, kCnp, kCno, kSeqS, kStT, kPrS, kTb, turnS, kFo, kS2, kC2, kEn, kZp2, kZp, dT, dT.dTs, setR, disown, wipeR, scalar, kFc2, kFc, kFs, seqD, kCk, kCk2, kIn2, kIn3, Nat.reduceAdd, Nat.reduceSub, Nat.reduceLT, Nat.reduceLeDiff, ite_true, ite_false, if_true, if_false, reduceCtorEq, List.append_nil, List.cons_append, List.getElem?_cons_succ, List.getElem?_cons_zero, List.length_cons, List.length_nil, List.map_cons, List.map_nil, List.nil_append, List.replicate_succ, List.replicate_zero, List.reverse_cons, List.reverse_nil, List.set_cons_succ, List.set_cons_zero, f_33_s0, lk, at4_2, at4_3, hr, decide_true, decide_false, lotD, sz1_s]
  obtain ⟨l, x, μ3, el, hl, g3⟩ := lot
  obtain ⟨v, μ4, u, μ5, w, e4, e5, e6, h6, h7, g5⟩ := pick (k + 1) n 0 (s - 1) _ μ3 g3 (by omega) (by omega) (by omega)
  obtain ⟨ts, o1, μ6, e7, l7, v7, s7, g6⟩ := share k n p 3 _ μ5 g5 (by omega) (by decide) (by omega) (by omega)
  obtain ⟨bs, o2, μ7, e8, l8, v8, s8, g7⟩ := share k n q 2 _ μ6 g6 (by omega) (by decide) (by omega) (by omega)
  obtain ⟨t0, t1, t2, rfl⟩ := three l7
  obtain ⟨b0, bb1, rfl⟩ := two l8
  obtain ⟨d, μ8, e9, a9, b9, g8⟩ := rnd (k + 2) μ7 n _ 2 g7 (by omega) (by decide) (by decide)
  have s7' : t0 + (t1 + (t2 + 0)) ≤ p := s7
  have s8' : b0 + (bb1 + 0) ≤ q := s8
  refine ⟨⟨b, w, hb, l, decide (d = 0), t0, t1, t2, b0, bb1⟩, μ8, ?_, ⟨by show b = 0 ∨ b = 1; omega, h6, h7, by show hb = 0 ∨ hb = 1; omega, hl, v7 t0 (by simp), v7 t1 (by simp), v7 t2 (by simp), by show t0 + t1 + t2 ≤ p; omega, v8 b0 (by simp), v8 bb1 (by simp), by show b0 + bb1 ≤ q; omega⟩, g8.mono (by omega)⟩
  rw [dCall_eq at_33 rfl]
  have e7' : dCall T fs (k + 4) 32 [.cell n, .int p, .int 3] μ5 = some (.lst [.int t0, .int t1, .int t2], o1, μ6) := e7
  have e8' : dCall T fs (k + 4) 32 [.cell n, .int q, .int 2] μ6 = some (.lst [.int b0, .int bb1], o2, μ7) := e8
  simp only [f_33]
  simp only [dnx, e_lend, disowns, sz1_s, decide_true, decide_false, eq_self, kVl, kT, kLs, kW, kBl, kNt, kNg, kOp2, kCp2, kSb2, kIs, kBi, kMd2, kRv, kSl3, kMk, kGv, kLc, kPr, kPo, kRt, kNxt, kExS, kStO, kAp, kSb3, gC, kSc3, kEx1, kOp, kCp, kCh1, kCh, kSb, kMd, kSl2, kSl, kCl, kTe2, kTn, turnC, kCm, kCns, kCnp, kCno, kSeqS, kStT, kPrS, kTb, turnS, kFo, kS2, kC2, kEn, kZp2, kZp, dT, dT.dTs, setR, disown, wipeR, scalar, kFc2, kFc, kFs, seqD, kCk, kCk2, kIn2, kIn3, Nat.reduceAdd, Nat.reduceSub, Nat.reduceLT, Nat.reduceLeDiff, ite_true, ite_false, if_true, if_false, reduceCtorEq, List.append_nil, List.cons_append, List.getElem?_cons_succ, List.getElem?_cons_zero, List.length_cons, List.length_nil, List.map_cons, List.map_nil, List.nil_append, List.replicate_succ, List.replicate_zero, List.reverse_cons, List.reverse_nil, List.set_cons_succ, List.set_cons_zero, e1, e2, el]
  simp only [dnx, e_lend, disowns, sz1_s, decide_true, decide_false, eq_self, kVl, kT, kLs, kW, kBl, kNt, kNg, kOp2, kCp2, kSb2, kIs, kBi, kMd2, kRv, kSl3, kMk, kGv, kLc, kPr, kPo, kRt, kNxt, kExS, kStO, kAp, kSb3, gC, kSc3, kEx1, kOp, kCp, kCh1, kCh, kSb, kMd, kSl2, kSl, kCl, kTe2, kTn, turnC, kCm, kCns, kCnp, kCno, kSeqS, kStT, kPrS, kTb, turnS, kFo, kS2, kC2, kEn, kZp2, kZp, dT, dT.dTs, setR, disown, wipeR, scalar, kFc2, kFc, kFs, seqD, kCk, kCk2, kIn2, kIn3, Nat.reduceAdd, Nat.reduceSub, Nat.reduceLT, Nat.reduceLeDiff, ite_true, ite_false, if_true, if_false, reduceCtorEq, List.append_nil, List.cons_append, List.getElem?_cons_succ, List.getElem?_cons_zero, List.length_cons, List.length_nil, List.map_cons, List.map_nil, List.nil_append, List.replicate_succ, List.replicate_zero, List.reverse_cons, List.reverse_nil, List.set_cons_succ, List.set_cons_zero, lk, at4_0, at4_1, at4_2, at4_3, e4, e5, e6, e7', e8', e9, sz1_s, tup_l]
  rfl
end ZL
end

section
set_option Elab.async false
set_option linter.all false
set_option maxRecDepth 100000
set_option maxHeartbeats 4000000
set_option exponentiation.threshold 4000
-- 52f48033e2834532683eb7df1cf373f7
namespace ZL
open PySem PySem.Spec Z
/-! events and steps, as plain Lean -/
inductive Ev where
  | send | drop (i : Nat) | bring (i : Nat) | miss (b : Int) | hear (b : Int)
  deriving DecidableEq
def nm : Nat → D
  | 0 => .str "new"
  | 1 => .str "zero"
  | _ => .str "one"
def evD : Ev → D
  | .send => .tup [.str "send"]
  | .drop i => .tup [.str "drop", nm i]
  | .bring i => .tup [.str "bring", nm i]
  | .miss i => .tup [.str "miss", .int i]
  | .hear i => .tup [.str "hear", .int i]
/-- one of the eleven -/
def EvOk : Ev → Prop
  | .send => True
  | .drop i => i = 0 ∨ i = 1 ∨ i = 2
  | .bring i => i = 0 ∨ i = 1 ∨ i = 2
  | .miss b => b = 0 ∨ b = 1
  | .hear b => b = 0 ∨ b = 1
inductive Wr where
  | lost | made | twice
def wrD : Option Wr → D
  | none => .non
  | some .lost => .str "lost"
  | some .made => .str "made"
  | some .twice => .str "twice"
def tI (c : Co) : Nat → Int
  | 0 => c.t0
  | 1 => c.t1
  | _ => c.t2
def bI (c : Co) (b : Int) : Int := if b = 0 then c.b0 else c.b1
def addT (c : Co) : Nat → Int → Co
  | 0, v => { c with t0 := c.t0 + v }
  | 1, v => { c with t1 := c.t1 + v }
  | _, v => { c with t2 := c.t2 + v }
def addB (c : Co) (b v : Int) : Co := { c with b0 := if b = 0 then c.b0 + v else c.b0, b1 := if b = 0 then c.b1 else c.b1 + v }
def bitOf (c : Co) : Nat → Int
  | 0 => c.sb
  | 1 => 0
  | _ => 1
def lotNext : Option (Bool × Int) → Bool → Int
  | some (b, n), k => if b = k then n + 1 else 1
  | none, _ => 1
def ansA (q : Int) (c : Co) (b : Int) : Co := if c.b0 + c.b1 < q then addB c b 1 else c
def sortOf : Nat → Bool
  | 0 => true
  | _ => false
def bringM (q r : Int) (c : Co) (i : Nat) : Co × Option Wr :=
  if bitOf c i = c.rb then (ansA q { addT c i (-1) with lot := none } (bitOf c i), none)
  else if lotNext c.lot (sortOf i) < r then ({ addT c i (-1) with lot := some (sortOf i, lotNext c.lot (sortOf i)) }, none)
  else (ansA q { addT c i (-1) with rb := bitOf c i, lot := none, dun := c.dun || sortOf i } (bitOf c i), if sortOf i then (if c.dun then some .twice else none) else some .made)
def oldLot : Option (Bool × Int) → Option (Bool × Int)
  | some (_, n) => some (false, n)
  | none => none
def turnM (c : Co) (b : Int) : Co := { addB c b (-1) with sb := 1 - c.sb, sh := 0, lot := oldLot c.lot, dun := false, t0 := 0, t1 := if c.sb = 0 then c.t1 + c.t0 else c.t1, t2 := if c.sb = 0 then c.t2 else c.t2 + c.t0 }
def hearM (s : Int) (c : Co) (b : Int) : Co × Option Wr :=
  if b = c.sb then (if c.sh + 1 < s then ({ addB c b (-1) with sh := c.sh + 1 }, none) else (turnM c b, if c.dun then none else some .lost))
  else (addB c b (-1), none)
def stepM (q r s : Int) (c : Co) : Ev → Co × Option Wr
  | .send => (addT c 0 1, none)
  | .drop i => (addT c i (-1), none)
  | .bring i => bringM q r c i
  | .miss b => (addB c b (-1), none)
  | .hear b => hearM s c b
def canM (p : Int) (c : Co) : Ev → Bool
  | .send => decide (c.t0 + (c.t1 + (c.t2 + 0)) < p)
  | .drop i => decide (0 < tI c i)
  | .bring i => decide (0 < tI c i)
  | .miss b => decide (0 < bI c b)
  | .hear b => decide (0 < bI c b)
variable {p q r s : Int} {c c' : Co}
theorem COk.cut (C : COk p q r s c) {i : Nat} (hi : i = 0 ∨ i = 1 ∨ i = 2) (h : 0 < tI c i) : COk p q r s (addT c i (-1)) := by
  obtain ⟨h1, h2, h3, h4, h5, h6, h7, h8, h9, h10, h11, h12⟩ := C
  rcases hi with rfl | rfl | rfl
  · have h' : 0 < c.t0 := h
    exact ⟨h1, h2, h3, h4, h5, by show 0 ≤ c.t0 + -1; omega, h7, h8, by show c.t0 + -1 + c.t1 + c.t2 ≤ p; omega, h10, h11, h12⟩
  · have h' : 0 < c.t1 := h
    exact ⟨h1, h2, h3, h4, h5, h6, by show 0 ≤ c.t1 + -1; omega, h8, by show c.t0 + (c.t1 + -1) + c.t2 ≤ p; omega, h10, h11, h12⟩
  · have h' : 0 < c.t2 := h
    exact ⟨h1, h2, h3, h4, h5, h6, h7, by show 0 ≤ c.t2 + -1; omega, by show c.t0 + c.t1 + (c.t2 + -1) ≤ p; omega, h10, h11, h12⟩
theorem COk.cutB (C : COk p q r s c) {b : Int} (h : 0 < bI c b) : COk p q r s (addB c b (-1)) := by
  obtain ⟨h1, h2, h3, h4, h5, h6, h7, h8, h9, h10, h11, h12⟩ := C
  unfold bI at h
  refine ⟨h1, h2, h3, h4, h5, h6, h7, h8, h9, ?_, ?_, ?_⟩
  · show 0 ≤ if b = 0 then c.b0 + -1 else c.b0
    split at h <;> split <;> omega
  · show 0 ≤ if b = 0 then c.b1 else c.b1 + -1
    split at h <;> split <;> omega
  · show (if b = 0 then c.b0 + -1 else c.b0) + (if b = 0 then c.b1 else c.b1 + -1) ≤ q
    split <;> omega
theorem COk.ans (C : COk p q r s c) (b : Int) : COk p q r s (ansA q c b) := by
  unfold ansA
  split
  · rename_i h
    obtain ⟨h1, h2, h3, h4, h5, h6, h7, h8, h9, h10, h11, h12⟩ := C
    refine ⟨h1, h2, h3, h4, h5, h6, h7, h8, h9, ?_, ?_, ?_⟩
    · show 0 ≤ if b = 0 then c.b0 + 1 else c.b0
      split <;> omega
    · show 0 ≤ if b = 0 then c.b1 else c.b1 + 1
      split <;> omega
    · show (if b = 0 then c.b0 + 1 else c.b0) + (if b = 0 then c.b1 else c.b1 + 1) ≤ q
      split <;> omega
  · exact C
theorem bit_01 (C : COk p q r s c) {i : Nat} (hi : i = 0 ∨ i = 1 ∨ i = 2) : bitOf c i = 0 ∨ bitOf c i = 1 := by
  rcases hi with rfl | rfl | rfl
  · exact C.sb
  · exact .inl rfl
  · exact .inr rfl
theorem lotNext_1 (C : COk p q r s c) (k : Bool) : 1 ≤ lotNext c.lot k := by
  have h := C.lot
  cases hl : c.lot with
  | none => exact Int.le_refl 1
  | some z =>
    obtain ⟨b, n⟩ := z
    have := h b n hl
    show 1 ≤ if b = k then n + 1 else 1
    split <;> omega
theorem COk.bring (C : COk p q r s c) {i : Nat} (hi : i = 0 ∨ i = 1 ∨ i = 2) (h : 0 < tI c i) : COk p q r s (bringM q r c i).1 := by
  have C1 := C.cut hi h
  have hb := bit_01 C hi
  have hn := lotNext_1 C (sortOf i)
  have e1 : (addT c i (-1)).sb = c.sb := by rcases hi with rfl | rfl | rfl <;> rfl
  have e2 : (addT c i (-1)).rb = c.rb := by rcases hi with rfl | rfl | rfl <;> rfl
  obtain ⟨h1, h2, h3, h4, h5, h6, h7, h8, h9, h10, h11, h12⟩ := C1
  unfold bringM
  split
  · refine COk.ans (c := { addT c i (-1) with lot := none }) ?_ _
    exact ⟨h1, h2, h3, h4, fun b n e => (nomatch e), h6, h7, h8, h9, h10, h11, h12⟩
  · rename_i hne
    split
    · rename_i hlt
      refine ⟨h1, h2, h3, h4, fun b n e => ?_, h6, h7, h8, h9, h10, h11, h12⟩
      cases e
      refine ⟨hn, by omega, fun z => ?_⟩
      show (addT c i (-1)).sb ≠ (addT c i (-1)).rb
      rw [e1, e2]
      have hi0 : i = 0 := by
        rcases hi with rfl | rfl | rfl
        · rfl
        · cases z
        · cases z
      subst hi0
      exact hne
    · refine COk.ans (c := { addT c i (-1) with rb := bitOf c i, lot := none, dun := c.dun || sortOf i }) ?_ _
      exact ⟨h1, h2, h3, hb, fun b n e => (nomatch e), h6, h7, h8, h9, h10, h11, h12⟩
theorem COk.step (L : LOk p q r s) (C : COk p q r s c) {e : Ev} (he : EvOk e) (h : canM p c e = true) : COk p q r s (stepM q r s c e).1 := by
  cases e with
  | send =>
    have h' := of_decide_eq_true h
    obtain ⟨h1, h2, h3, h4, h5, h6, h7, h8, h9, h10, h11, h12⟩ := C
    exact ⟨h1, h2, h3, h4, h5, by show 0 ≤ c.t0 + 1; omega, h7, h8, by show c.t0 + 1 + c.t1 + c.t2 ≤ p; omega, h10, h11, h12⟩
  | drop i => exact C.cut he (of_decide_eq_true h)
  | bring i => exact C.bring he (of_decide_eq_true h)
  | miss b => exact C.cutB (of_decide_eq_true h)
  | hear b =>
    have C1 := C.cutB (of_decide_eq_true h)
    show COk p q r s (hearM s c b).1
    unfold hearM
    split
    · split
      · rename_i hs
        obtain ⟨h1, h2, h3, h4, h5, h6, h7, h8, h9, h10, h11, h12⟩ := C1
        exact ⟨h1, by show 0 ≤ c.sh + 1; have := C.sh0; omega, by show c.sh + 1 ≤ s - 1; omega, h4, h5, h6, h7, h8, h9, h10, h11, h12⟩
      · obtain ⟨h1, h2, h3, h4, h5, h6, h7, h8, h9, h10, h11, h12⟩ := C1
        have k1 := C.sb
        have k2 := C.t0
        have k3 := C.t1
        have k4 := C.t2
        have k5 := C.ts
        have k6 := L.s0
        refine ⟨by show 1 - c.sb = 0 ∨ 1 - c.sb = 1; omega, Int.le_refl 0, by show (0 : Int) ≤ s - 1; omega, h4, fun b n e => ?_, Int.le_refl 0, ?_, ?_, ?_, h10, h11, h12⟩
        · have e' : oldLot c.lot = some (b, n) := e
          cases hl : c.lot with
          | none =>
            rw [hl] at e'
            cases e'
          | some z =>
            obtain ⟨b', n'⟩ := z
            rw [hl] at e'
            cases e'
            have := C.lot _ _ hl
            exact ⟨this.1, this.2.1, fun z => nomatch z⟩
        · show 0 ≤ if c.sb = 0 then c.t1 + c.t0 else c.t1
          split <;> omega
        · show 0 ≤ if c.sb = 0 then c.t2 else c.t2 + c.t0
          split <;> omega
        · show 0 + (if c.sb = 0 then c.t1 + c.t0 else c.t1) + (if c.sb = 0 then c.t2 else c.t2 + c.t0) ≤ p
          split <;> omega
    · exact C1
end ZL
end

section
set_option Elab.async false
set_option linter.all false
set_option maxRecDepth 100000
set_option maxHeartbeats 4000000
set_option exponentiation.threshold 4000
-- bc6eb68684a2c8a3a5d05d92733343c1
namespace ZL
open PySem PySem.Spec Z
/-! written texts are apart -/
theorem sn0 : (Str.ofString "send" = Str.ofString "drop") = False := eq_false (by decide)
theorem sn1 : (Str.ofString "send" = Str.ofString "bring") = False := eq_false (by decide)
theorem sn2 : (Str.ofString "send" = Str.ofString "miss") = False := eq_false (by decide)
theorem sn3 : (Str.ofString "send" = Str.ofString "hear") = False := eq_false (by decide)
theorem sn4 : (Str.ofString "drop" = Str.ofString "send") = False := eq_false (by decide)
theorem sn5 : (Str.ofString "drop" = Str.ofString "bring") = False := eq_false (by decide)
theorem sn6 : (Str.ofString "drop" = Str.ofString "miss") = False := eq_false (by decide)
theorem sn7 : (Str.ofString "drop" = Str.ofString "hear") = False := eq_false (by decide)
theorem sn8 : (Str.ofString "bring" = Str.ofString "send") = False := eq_false (by decide)
theorem sn9 : (Str.ofString "bring" = Str.ofString "drop") = False := eq_false (by decide)
theorem sn10 : (Str.ofString "bring" = Str.ofString "miss") = False := eq_false (by decide)
theorem sn11 : (Str.ofString "bring" = Str.ofString "hear") = False := eq_false (by decide)
theorem sn12 : (Str.ofString "miss" = Str.ofString "send") = False := eq_false (by decide)
theorem sn13 : (Str.ofString "miss" = Str.ofString "drop") = False := eq_false (by decide)
theorem sn14 : (Str.ofString "miss" = Str.ofString "bring") = False := eq_false (by decide)
theorem sn15 : (Str.ofString "miss" = Str.ofString "hear") = False := eq_false (by decide)
theorem sn16 : (Str.ofString "hear" = Str.ofString "send") = False := eq_false (by decide)
theorem sn17 : (Str.ofString "hear" = Str.ofString "drop") = False := eq_false (by decide)
theorem sn18 : (Str.ofString "hear" = Str.ofString "bring") = False := eq_false (by decide)
theorem sn19 : (Str.ofString "hear" = Str.ofString "miss") = False := eq_false (by decide)
theorem sn20 : (Str.ofString "new" = Str.ofString "old") = False := eq_false (by decide)
theorem sn21 : (Str.ofString "new" = Str.ofString "zero") = False := eq_false (by decide)
theorem sn22 : (Str.ofString "new" = Str.ofString "one") = False := eq_false (by decide)
theorem sn23 : (Str.ofString "old" = Str.ofString "new") = False := eq_false (by decide)
theorem sn24 : (Str.ofString "old" = Str.ofString "zero") = False := eq_false (by decide)
theorem sn25 : (Str.ofString "old" = Str.ofString "one") = False := eq_false (by decide)
theorem sn26 : (Str.ofString "zero" = Str.ofString "new") = False := eq_false (by decide)
theorem sn27 : (Str.ofString "zero" = Str.ofString "old") = False := eq_false (by decide)
theorem sn28 : (Str.ofString "zero" = Str.ofString "one") = False := eq_false (by decide)
theorem sn29 : (Str.ofString "one" = Str.ofString "new") = False := eq_false (by decide)
theorem sn30 : (Str.ofString "one" = Str.ofString "old") = False := eq_false (by decide)
theorem sn31 : (Str.ofString "one" = Str.ofString "zero") = False := eq_false (by decide)
theorem sne : type_of% (And.intro (And.intro (And.intro (And.intro (And.intro sn0 sn1) (And.intro sn2 sn3)) (And.intro (And.intro sn4 sn5) (And.intro sn6 sn7))) (And.intro (And.intro (And.intro sn8 sn9) (And.intro sn10 sn11)) (And.intro (And.intro sn12 sn13) (And.intro sn14 sn15)))) (And.intro (And.intro (And.intro (And.intro sn16 sn17) (And.intro sn18 sn19)) (And.intro (And.intro sn20 sn21) (And.intro sn22 sn23))) (And.intro (And.intro (And.intro sn24 sn25) (And.intro sn26 sn27)) (And.intro (And.intro sn28 sn29) (And.intro sn30 sn31))))) := (And.intro (And.intro (And.intro (And.intro (And.intro sn0 sn1) (And.intro sn2 sn3)) (And.intro (And.intro sn4 sn5) (And.intro sn6 sn7))) (And.intro (And.intro (And.intro sn8 sn9) (And.intro sn10 sn11)) (And.intro (And.intro sn12 sn13) (And.intro sn14 sn15)))) (And.intro (And.intro (And.intro (And.intro sn16 sn17) (And.intro sn18 sn19)) (And.intro (And.intro sn20 sn21) (And.intro sn22 sn23))) (And.intro (And.intro (And.intro sn24 sn25) (And.intro sn26 sn27)) (And.intro (And.intro sn28 sn29) (And.intro sn30 sn31)))))
theorem in_d1 : cpD .in_ (.str "drop") (.lst [.str "drop", .str "bring"]) = some true := by kernel_rfl
theorem in_d2 : cpD .in_ (.str "bring") (.lst [.str "drop", .str "bring"]) = some true := by kernel_rfl
theorem in_d3 : cpD .in_ (.str "miss") (.lst [.str "drop", .str "bring"]) = some false := by kernel_rfl
theorem in_d4 : cpD .in_ (.str "hear") (.lst [.str "drop", .str "bring"]) = some false := by kernel_rfl
theorem in_d5 : cpD .in_ (.str "send") (.lst [.str "drop", .str "bring"]) = some false := by kernel_rfl
theorem in_h1 : cpD .in_ (.str "drop") (.lst [.str "hear", .str "miss"]) = some false := by kernel_rfl
theorem in_h2 : cpD .in_ (.str "bring") (.lst [.str "hear", .str "miss"]) = some false := by kernel_rfl
theorem in_h3 : cpD .in_ (.str "miss") (.lst [.str "hear", .str "miss"]) = some true := by kernel_rfl
theorem in_h4 : cpD .in_ (.str "hear") (.lst [.str "hear", .str "miss"]) = some true := by kernel_rfl
theorem in_m3 : cpD .in_ (.str "miss") (.lst [.str "miss", .str "hear"]) = some true := by kernel_rfl
theorem in_m4 : cpD .in_ (.str "hear") (.lst [.str "miss", .str "hear"]) = some true := by kernel_rfl
theorem in_c0 : cpD .in_ (.str "new") (.tup [.str "new", .str "zero", .str "one"]) = some true := by kernel_rfl
theorem in_c1 : cpD .in_ (.str "zero") (.tup [.str "new", .str "zero", .str "one"]) = some true := by kernel_rfl
theorem in_c2 : cpD .in_ (.str "one") (.tup [.str "new", .str "zero", .str "one"]) = some true := by kernel_rfl
theorem ixT0 : mdD .indexT (.tup [.str "new", .str "zero", .str "one"]) [.str "new"] = some (.int 0, false) := by kernel_rfl
theorem ixT1 : mdD .indexT (.tup [.str "new", .str "zero", .str "one"]) [.str "zero"] = some (.int 1, false) := by kernel_rfl
theorem ixT2 : mdD .indexT (.tup [.str "new", .str "zero", .str "one"]) [.str "one"] = some (.int 2, false) := by kernel_rfl
theorem ixL0 : mdD .indexL (.lst [.str "new", .str "zero", .str "one"]) [.str "new"] = some (.int 0, false) := by kernel_rfl
theorem ixL1 : mdD .indexL (.lst [.str "new", .str "zero", .str "one"]) [.str "zero"] = some (.int 1, false) := by kernel_rfl
theorem ixL2 : mdD .indexL (.lst [.str "new", .str "zero", .str "one"]) [.str "one"] = some (.int 2, false) := by kernel_rfl
theorem inE : type_of% (And.intro in_d1 (And.intro in_d2 (And.intro in_d3 (And.intro in_d4 (And.intro in_d5 (And.intro in_h1 (And.intro in_h2 (And.intro in_h3 (And.intro in_h4 (And.intro in_m3 (And.intro in_m4 (And.intro in_c0 (And.intro in_c1 (And.intro in_c2 (And.intro ixT0 (And.intro ixT1 (And.intro ixT2 (And.intro ixL0 (And.intro ixL1 ixL2))))))))))))))))))) := (And.intro in_d1 (And.intro in_d2 (And.intro in_d3 (And.intro in_d4 (And.intro in_d5 (And.intro in_h1 (And.intro in_h2 (And.intro in_h3 (And.intro in_h4 (And.intro in_m3 (And.intro in_m4 (And.intro in_c0 (And.intro in_c1 (And.intro in_c2 (And.intro ixT0 (And.intro ixT1 (And.intro ixT2 (And.intro ixL0 (And.intro ixL1 ixL2)))))))))))))))))))
end ZL
end

section
set_option Elab.async false
set_option linter.all false
set_option maxRecDepth 100000
set_option maxHeartbeats 4000000
set_option exponentiation.threshold 4000
-- 12ad65c2173eca3e07dfbd3eb63a9338
namespace ZL
open PySem PySem.Spec Z
/-! the program's steps -/
theorem chg0 (k : Nat) (a b c v : Int) (μ : Mu) : dCall T fs (k + 1) 12 [.tup [.int a, .int b, .int c], .int 0, .int v] μ = some (.tup [.int (a + v), .int b, .int c], false, μ) := by kernel_rfl
theorem chg1 (k : Nat) (a b c v : Int) (μ : Mu) : dCall T fs (k + 1) 12 [.tup [.int a, .int b, .int c], .int 1, .int v] μ = some (.tup [.int a, .int (b + v), .int c], false, μ) := by kernel_rfl
theorem chg2 (k : Nat) (a b c v : Int) (μ : Mu) : dCall T fs (k + 1) 12 [.tup [.int a, .int b, .int c], .int 2, .int v] μ = some (.tup [.int a, .int b, .int (c + v)], false, μ) := by kernel_rfl
theorem chgB (k : Nat) (a b v i : Int) (h : i = 0 ∨ i = 1) (μ : Mu) : dCall T fs (k + 1) 12 [.tup [.int a, .int b], .int i, .int v] μ = some (.tup [.int (if i = 0 then a + v else a), .int (if i = 0 then b else b + v)], false, μ) := by
  rcases h with rfl | rfl
  · kernel_rfl
  · kernel_rfl
variable {p q r s : Int} {c c' : Co}
theorem at_b {x y : D} (b : Int) (h : b = 0 ∨ b = 1) : L2.atI [x, y] b = some (if b = 0 then x else y) := by
  rcases h with rfl | rfl
  · rfl
  · rfl
theorem can_ok {e : Ev} (he : EvOk e) (k : Nat) (μ : Mu) : dCall T fs (k + 1) 13 [lk p q r s, co c, evD e] μ = some (.bl (canM p c e), false, μ) := by
  rw [dCall_eq at_13 rfl]
  simp only [f_13]
  cases e with
  | send =>
    simp only [evD, co, lk]
    simp only [dnx, e_lend, disowns, sz1_s, decide_true, decide_false, eq_self, kVl, kT, kLs, kW, kBl, kNt, kNg, kOp2, kCp2, kSb2, kIs, kBi, kMd2, kRv, kSl3, kMk, kGv, kLc, kPr, kPo, kRt, kNxt, kExS, kStO, kAp, kSb3, gC, kSc3, kEx1, kOp, kCp, kCh1, kCh, kSb, kMd, kSl2, kSl, kCl, kTe2, kTn, turnC, kCm, kCns, kCnp, kCno, kSeqS, kStT, kPrS, kTb, turnS, kFo, kS2, kC2, kEn, kZp2, kZp, dT, dT.dTs, setR, disown, wipeR, scalar, kFc2, kFc, kFs, seqD, kCk, kCk2, kIn2, kIn3, Nat.reduceAdd, Nat.reduceSub, Nat.reduceLT, Nat.reduceLeDiff, ite_true, ite_false, if_true, if_false, reduceCtorEq, List.append_nil, List.cons_append, List.getElem?_cons_succ, List.getElem?_cons_zero, List.length_cons, List.length_nil, List.map_cons, List.map_nil, List.nil_append, List.replicate_succ, List.replicate_zero, List.reverse_cons, List.reverse_nil, List.set_cons_succ, List.set_cons_zero, f_13_s0, sne, inE, canM, decide_true, decide_false]
  | drop i =>
    simp only [evD, co, lk]
    rcases he with rfl | rfl | rfl
    · simp only [dnx, e_lend, disowns, sz1_s, decide_true, decide_false, eq_self, kVl, kT, kLs, kW, kBl, kNt, kNg, kOp2, kCp2, kSb2, kIs, kBi, kMd2, kRv, kSl3, kMk, kGv, kLc, kPr, kPo, kRt, kNxt, kExS, kStO, kAp, kSb3, gC, kSc3, kEx1, kOp, kCp, kCh1, kCh, kSb, kMd, kSl2, kSl, kCl, kTe2, kTn, turnC, kCm, kCns, kCnp, kCno, kSeqS, kStT, kPrS, kTb, turnS, kFo, kS2, kC2, kEn, kZp2, kZp, dT, dT.dTs, setR, disown, wipeR, scalar, kFc2, kFc, kFs, seqD, kCk, kCk2, kIn2, kIn3, Nat.reduceAdd, Nat.reduceSub, Nat.reduceLT, Nat.reduceLeDiff, ite_true, ite_false, if_true, if_false, reduceCtorEq, List.append_nil, List.cons_append, List.getElem?_cons_succ, List.getElem?_cons_zero, List.length_cons, List.length_nil, List.map_cons, List.map_nil, List.nil_append, List.replicate_succ, List.replicate_zero, List.reverse_cons, List.reverse_nil, List.set_cons_succ, List.set_cons_zero, f_13_s0, sne, inE, canM, decide_true, decide_false, con_0, nm, tI]
    · simp only [dnx, e_lend, disowns, sz1_s, decide_true, decide_false, eq_self, kVl, kT, kLs, kW, kBl, kNt, kNg, kOp2, kCp2, kSb2, kIs, kBi, kMd2, kRv, kSl3, kMk, kGv, kLc, kPr, kPo, kRt, kNxt, kExS, kStO, kAp, kSb3, gC, kSc3, kEx1, kOp, kCp, kCh1, kCh, kSb, kMd, kSl2, kSl, kCl, kTe2, kTn, turnC, kCm, kCns, kCnp, kCno, kSeqS, kStT, kPrS, kTb, turnS, kFo, kS2, kC2, kEn, kZp2, kZp, dT, dT.dTs, setR, disown, wipeR, scalar, kFc2, kFc, kFs, seqD, kCk, kCk2, kIn2, kIn3, Nat.reduceAdd, Nat.reduceSub, Nat.reduceLT, Nat.reduceLeDiff, ite_true, ite_false, if_true, if_false, reduceCtorEq, List.append_nil, List.cons_append, List.getElem?_cons_succ, List.getElem?_cons_zero, List.length_cons, List.length_nil, List.map_cons, List.map_nil, List.nil_append, List.replicate_succ, List.replicate_zero, List.reverse_cons, List.reverse_nil, List.set_cons_succ, List.set_cons_zero, f_13_s0, sne, inE, canM, decide_true, decide_false, con_0, nm, tI]
    · simp only [dnx, e_lend, disowns, sz1_s, decide_true, decide_false, eq_self, kVl, kT, kLs, kW, kBl, kNt, kNg, kOp2, kCp2, kSb2, kIs, kBi, kMd2, kRv, kSl3, kMk, kGv, kLc, kPr, kPo, kRt, kNxt, kExS, kStO, kAp, kSb3, gC, kSc3, kEx1, kOp, kCp, kCh1, kCh, kSb, kMd, kSl2, kSl, kCl, kTe2, kTn, turnC, kCm, kCns, kCnp, kCno, kSeqS, kStT, kPrS, kTb, turnS, kFo, kS2, kC2, kEn, kZp2, kZp, dT, dT.dTs, setR, disown, wipeR, scalar, kFc2, kFc, kFs, seqD, kCk, kCk2, kIn2, kIn3, Nat.reduceAdd, Nat.reduceSub, Nat.reduceLT, Nat.reduceLeDiff, ite_true, ite_false, if_true, if_false, reduceCtorEq, List.append_nil, List.cons_append, List.getElem?_cons_succ, List.getElem?_cons_zero, List.length_cons, List.length_nil, List.map_cons, List.map_nil, List.nil_append, List.replicate_succ, List.replicate_zero, List.reverse_cons, List.reverse_nil, List.set_cons_succ, List.set_cons_zero, f_13_s0, sne, inE, canM, decide_true, decide_false, con_0, nm, tI]
  | bring i =>
    simp only [evD, co, lk]
    rcases he with rfl | rfl | rfl
    · simp only [dnx, e_lend, disowns, sz1_s, decide_true, decide_false, eq_self, kVl, kT, kLs, kW, kBl, kNt, kNg, kOp2, kCp2, kSb2, kIs, kBi, kMd2, kRv, kSl3, kMk, kGv, kLc, kPr, kPo, kRt, kNxt, kExS, kStO, kAp, kSb3, gC, kSc3, kEx1, kOp, kCp, kCh1, kCh, kSb, kMd, kSl2, kSl, kCl, kTe2, kTn, turnC, kCm, kCns, kCnp, kCno, kSeqS, kStT, kPrS, kTb, turnS, kFo, kS2, kC2, kEn, kZp2, kZp, dT, dT.dTs, setR, disown, wipeR, scalar, kFc2, kFc, kFs, seqD, kCk, kCk2, kIn2, kIn3, Nat.reduceAdd, Nat.reduceSub, Nat.reduceLT, Nat.reduceLeDiff, ite_true, ite_false, if_true, if_false, reduceCtorEq, List.append_nil, List.cons_append, List.getElem?_cons_succ, List.getElem?_cons_zero, List.length_cons, List.length_nil, List.map_cons, List.map_nil, List.nil_append, List.replicate_succ, List.replicate_zero, List.reverse_cons, List.reverse_nil, List.set_cons_succ, List.set_cons_zero, f_13_s0, sne, inE, canM, decide_true, decide_false, con_0, nm, tI]
    · simp only [dnx, e_lend, disowns, sz1_s, decide_true, decide_false, eq_self, kVl, kT, kLs, kW, kBl, kNt, kNg, kOp2, kCp2, kSb2, kIs, kBi, kMd2, kRv, kSl3, kMk, kGv, kLc, kPr, kPo, kRt, kNxt, kExS, kStO, kAp, kSb3, gC, kSc3, kEx1, kOp, kCp, kCh1, kCh, kSb, kMd, kSl2, kSl, kCl, kTe2, kTn, turnC, kCm, kCns, kCnp, kCno, kSeqS, kStT, kPrS, kTb, turnS, kFo, kS2, kC2, kEn, kZp2, kZp, dT, dT.dTs, setR, disown, wipeR, scalar, kFc2, kFc, kFs, seqD, kCk, kCk2, kIn2, kIn3, Nat.reduceAdd, Nat.reduceSub, Nat.reduceLT, Nat.reduceLeDiff, ite_true, ite_false, if_true, if_false, reduceCtorEq, List.append_nil, List.cons_append, List.getElem?_cons_succ, List.getElem?_cons_zero, List.length_cons, List.length_nil, List.map_cons, List.map_nil, List.nil_append, List.replicate_succ, List.replicate_zero, List.reverse_cons, List.reverse_nil, List.set_cons_succ, List.set_cons_zero, f_13_s0, sne, inE, canM, decide_true, decide_false, con_0, nm, tI]
    · simp only [dnx, e_lend, disowns, sz1_s, decide_true, decide_false, eq_self, kVl, kT, kLs, kW, kBl, kNt, kNg, kOp2, kCp2, kSb2, kIs, kBi, kMd2, kRv, kSl3, kMk, kGv, kLc, kPr, kPo, kRt, kNxt, kExS, kStO, kAp, kSb3, gC, kSc3, kEx1, kOp, kCp, kCh1, kCh, kSb, kMd, kSl2, kSl, kCl, kTe2, kTn, turnC, kCm, kCns, kCnp, kCno, kSeqS, kStT, kPrS, kTb, turnS, kFo, kS2, kC2, kEn, kZp2, kZp, dT, dT.dTs, setR, disown, wipeR, scalar, kFc2, kFc, kFs, seqD, kCk, kCk2, kIn2, kIn3, Nat.reduceAdd, Nat.reduceSub, Nat.reduceLT, Nat.reduceLeDiff, ite_true, ite_false, if_true, if_false, reduceCtorEq, List.append_nil, List.cons_append, List.getElem?_cons_succ, List.getElem?_cons_zero, List.length_cons, List.length_nil, List.map_cons, List.map_nil, List.nil_append, List.replicate_succ, List.replicate_zero, List.reverse_cons, List.reverse_nil, List.set_cons_succ, List.set_cons_zero, f_13_s0, sne, inE, canM, decide_true, decide_false, con_0, nm, tI]
  | miss b =>
    simp only [evD, co, lk]
    rcases he with rfl | rfl
    · simp only [dnx, e_lend, disowns, sz1_s, decide_true, decide_false, eq_self, kVl, kT, kLs, kW, kBl, kNt, kNg, kOp2, kCp2, kSb2, kIs, kBi, kMd2, kRv, kSl3, kMk, kGv, kLc, kPr, kPo, kRt, kNxt, kExS, kStO, kAp, kSb3, gC, kSc3, kEx1, kOp, kCp, kCh1, kCh, kSb, kMd, kSl2, kSl, kCl, kTe2, kTn, turnC, kCm, kCns, kCnp, kCno, kSeqS, kStT, kPrS, kTb, turnS, kFo, kS2, kC2, kEn, kZp2, kZp, dT, dT.dTs, setR, disown, wipeR, scalar, kFc2, kFc, kFs, seqD, kCk, kCk2, kIn2, kIn3, Nat.reduceAdd, Nat.reduceSub, Nat.reduceLT, Nat.reduceLeDiff, ite_true, ite_false, if_true, if_false, reduceCtorEq, List.append_nil, List.cons_append, List.getElem?_cons_succ, List.getElem?_cons_zero, List.length_cons, List.length_nil, List.map_cons, List.map_nil, List.nil_append, List.replicate_succ, List.replicate_zero, List.reverse_cons, List.reverse_nil, List.set_cons_succ, List.set_cons_zero, f_13_s0, sne, inE, canM, decide_true, decide_false, bI]
    · simp only [dnx, e_lend, disowns, sz1_s, decide_true, decide_false, eq_self, kVl, kT, kLs, kW, kBl, kNt, kNg, kOp2, kCp2, kSb2, kIs, kBi, kMd2, kRv, kSl3, kMk, kGv, kLc, kPr, kPo, kRt, kNxt, kExS, kStO, kAp, kSb3, gC, kSc3, kEx1, kOp, kCp, kCh1, kCh, kSb, kMd, kSl2, kSl, kCl, kTe2, kTn, turnC, kCm, kCns, kCnp, kCno, kSeqS, kStT, kPrS, kTb, turnS, kFo, kS2, kC2, kEn, kZp2, kZp, dT, dT.dTs, setR, disown, wipeR, scalar, kFc2, kFc, kFs, seqD, kCk, kCk2, kIn2, kIn3, Nat.reduceAdd, Nat.reduceSub, Nat.reduceLT, Nat.reduceLeDiff, ite_true, ite_false, if_true, if_false, reduceCtorEq, List.append_nil, List.cons_append, List.getElem?_cons_succ, List.getElem?_cons_zero, List.length_cons, List.length_nil, List.map_cons, List.map_nil, List.nil_append, List.replicate_succ, List.replicate_zero, List.reverse_cons, List.reverse_nil, List.set_cons_succ, List.set_cons_zero, f_13_s0, sne, inE, canM, decide_true, decide_false, bI, Int.reduceEq]
  | hear b =>
    simp only [evD, co, lk]
    rcases he with rfl | rfl
    · simp only [dnx, e_lend, disowns, sz1_s, decide_true, decide_false, eq_self, kVl, kT, kLs, kW, kBl, kNt, kNg, kOp2, kCp2, kSb2, kIs, kBi, kMd2, kRv, kSl3, kMk, kGv, kLc, kPr, kPo, kRt, kNxt, kExS, kStO, kAp, kSb3, gC, kSc3, kEx1, kOp, kCp, kCh1, kCh, kSb, kMd, kSl2, kSl, kCl, kTe2, kTn, turnC, kCm, kCns, kCnp, kCno, kSeqS, kStT, kPrS, kTb, turnS, kFo, kS2, kC2, kEn, kZp2, kZp, dT, dT.dTs, setR, disown, wipeR, scalar, kFc2, kFc, kFs, seqD, kCk, kCk2, kIn2, kIn3, Nat.reduceAdd, Nat.reduceSub, Nat.reduceLT, Nat.reduceLeDiff, ite_true, ite_false, if_true, if_false, reduceCtorEq, List.append_nil, List.cons_append, List.getElem?_cons_succ, List.getElem?_cons_zero, List.length_cons, List.length_nil, List.map_cons, List.map_nil, List.nil_append, List.replicate_succ, List.replicate_zero, List.reverse_cons, List.reverse_nil, List.set_cons_succ, List.set_cons_zero, f_13_s0, sne, inE, canM, decide_true, decide_false, bI]
    · simp only [dnx, e_lend, disowns, sz1_s, decide_true, decide_false, eq_self, kVl, kT, kLs, kW, kBl, kNt, kNg, kOp2, kCp2, kSb2, kIs, kBi, kMd2, kRv, kSl3, kMk, kGv, kLc, kPr, kPo, kRt, kNxt, kExS, kStO, kAp, kSb3, gC, kSc3, kEx1, kOp, kCp, kCh1, kCh, kSb, kMd, kSl2, kSl, kCl, kTe2, kTn, turnC, kCm, kCns, kCnp, kCno, kSeqS, kStT, kPrS, kTb, turnS, kFo, kS2, kC2, kEn, kZp2, kZp, dT, dT.dTs, setR, disown, wipeR, scalar, kFc2, kFc, kFs, seqD, kCk, kCk2, kIn2, kIn3, Nat.reduceAdd, Nat.reduceSub, Nat.reduceLT, Nat.reduceLeDiff, ite_true, ite_false, if_true, if_false, reduceCtorEq, List.append_nil, List.cons_append, List.getElem?_cons_succ, List.getElem?_cons_zero, List.length_cons, List.length_nil, List.map_cons, List.map_nil, List.nil_append, List.replicate_succ, List.replicate_zero, List.reverse_cons, List.reverse_nil, List.set_cons_succ, List.set_cons_zero, f_13_s0, sne, inE, canM, decide_true, decide_false, bI, Int.reduceEq]
theorem lot_bhd (k : Nat) (rb : Int) (l : Option (Bool × Int)) (d : Bool) (kd : Bool) (μ : Mu) : dCall T fs (k + 1) 14 [lk p q r s, .tup [.int rb, lotD l, .bl d], .str (if kd then Str.ofString "new" else Str.ofString "old")] μ =
    some (if lotNext l kd < r then .tup [.tup [.int rb, lotD (some (kd, lotNext l kd)), .bl d], .bl false] else .tup [.tup [.int (1 - rb), .non, .bl (d || kd)], .bl true], false, μ) := by
  rw [dCall_eq at_14 rfl]
  simp only [f_14, lk]
  rcases l with _ | ⟨_ | _, n⟩ <;> cases kd
  · simp only [lotD, lotNext]
    by_cases h : (1 : Int) < r
    · have h2 : ¬ r ≤ 1 := by omega
      simp only [dnx, e_lend, disowns, sz1_s, decide_true, decide_false, eq_self, kVl, kT, kLs, kW, kBl, kNt, kNg, kOp2, kCp2, kSb2, kIs, kBi, kMd2, kRv, kSl3, kMk, kGv, kLc, kPr, kPo, kRt, kNxt, kExS, kStO, kAp, kSb3, gC, kSc3, kEx1, kOp, kCp, kCh1, kCh, kSb, kMd, kSl2, kSl, kCl, kTe2, kTn, turnC, kCm, kCns, kCnp, kCno, kSeqS, kStT, kPrS, kTb, turnS, kFo, kS2, kC2, kEn, kZp2, kZp, dT, dT.dTs, setR, disown, wipeR, scalar, kFc2, kFc, kFs, seqD, kCk, kCk2, kIn2, kIn3, Nat.reduceAdd, Nat.reduceSub, Nat.reduceLT, Nat.reduceLeDiff, ite_true, ite_false, if_true, if_false, reduceCtorEq, List.append_nil, List.cons_append, List.getElem?_cons_succ, List.getElem?_cons_zero, List.length_cons, List.length_nil, List.map_cons, List.map_nil, List.nil_append, List.replicate_succ, List.replicate_zero, List.reverse_cons, List.reverse_nil, List.set_cons_succ, List.set_cons_zero, f_14_s0, sne, h, h2, decide_true, decide_false, sz1_s]
    · have h2 : r ≤ 1 := by omega
      cases d <;> simp only [dnx, e_lend, disowns, sz1_s, decide_true, decide_false, eq_self, kVl, kT, kLs, kW, kBl, kNt, kNg, kOp2, kCp2, kSb2, kIs, kBi, kMd2, kRv, kSl3, kMk, kGv, kLc, kPr, kPo, kRt, kNxt, kExS, kStO, kAp, kSb3, gC, kSc3, kEx1, kOp, kCp, kCh1, kCh, kSb, kMd, kSl2, kSl, kCl, kTe2, kTn, turnC, kCm, kCns, kCnp, kCno, kSeqS, kStT, kPrS, kTb, turnS, kFo, kS2, kC2, kEn, kZp2, kZp, dT, dT.dTs, setR, disown, wipeR, scalar, kFc2, kFc, kFs, seqD, kCk, kCk2, kIn2, kIn3, Nat.reduceAdd, Nat.reduceSub, Nat.reduceLT, Nat.reduceLeDiff, ite_true, ite_false, if_true, if_false, reduceCtorEq, List.append_nil, List.cons_append, List.getElem?_cons_succ, List.getElem?_cons_zero, List.length_cons, List.length_nil, List.map_cons, List.map_nil, List.nil_append, List.replicate_succ, List.replicate_zero, List.reverse_cons, List.reverse_nil, List.set_cons_succ, List.set_cons_zero, f_14_s0, sne, h, h2, decide_true, decide_false, sz1_s]
  · simp only [lotD, lotNext]
    by_cases h : (1 : Int) < r
    · have h2 : ¬ r ≤ 1 := by omega
      simp only [dnx, e_lend, disowns, sz1_s, decide_true, decide_false, eq_self, kVl, kT, kLs, kW, kBl, kNt, kNg, kOp2, kCp2, kSb2, kIs, kBi, kMd2, kRv, kSl3, kMk, kGv, kLc, kPr, kPo, kRt, kNxt, kExS, kStO, kAp, kSb3, gC, kSc3, kEx1, kOp, kCp, kCh1, kCh, kSb, kMd, kSl2, kSl, kCl, kTe2, kTn, turnC, kCm, kCns, kCnp, kCno, kSeqS, kStT, kPrS, kTb, turnS, kFo, kS2, kC2, kEn, kZp2, kZp, dT, dT.dTs, setR, disown, wipeR, scalar, kFc2, kFc, kFs, seqD, kCk, kCk2, kIn2, kIn3, Nat.reduceAdd, Nat.reduceSub, Nat.reduceLT, Nat.reduceLeDiff, ite_true, ite_false, if_true, if_false, reduceCtorEq, List.append_nil, List.cons_append, List.getElem?_cons_succ, List.getElem?_cons_zero, List.length_cons, List.length_nil, List.map_cons, List.map_nil, List.nil_append, List.replicate_succ, List.replicate_zero, List.reverse_cons, List.reverse_nil, List.set_cons_succ, List.set_cons_zero, f_14_s0, sne, h, h2, decide_true, decide_false, sz1_s]
    · have h2 : r ≤ 1 := by omega
      cases d <;> simp only [dnx, e_lend, disowns, sz1_s, decide_true, decide_false, eq_self, kVl, kT, kLs, kW, kBl, kNt, kNg, kOp2, kCp2, kSb2, kIs, kBi, kMd2, kRv, kSl3, kMk, kGv, kLc, kPr, kPo, kRt, kNxt, kExS, kStO, kAp, kSb3, gC, kSc3, kEx1, kOp, kCp, kCh1, kCh, kSb, kMd, kSl2, kSl, kCl, kTe2, kTn, turnC, kCm, kCns, kCnp, kCno, kSeqS, kStT, kPrS, kTb, turnS, kFo, kS2, kC2, kEn, kZp2, kZp, dT, dT.dTs, setR, disown, wipeR, scalar, kFc2, kFc, kFs, seqD, kCk, kCk2, kIn2, kIn3, Nat.reduceAdd, Nat.reduceSub, Nat.reduceLT, Nat.reduceLeDiff, ite_true, ite_false, if_true, if_false, reduceCtorEq, List.append_nil, List.cons_append, List.getElem?_cons_succ, List.getElem?_cons_zero, List.length_cons, List.length_nil, List.map_cons, List.map_nil, List.nil_append, List.replicate_succ, List.replicate_zero, List.reverse_cons, List.reverse_nil, List.set_cons_succ, List.set_cons_zero, f_14_s0, sne, h, h2, decide_true, decide_false, sz1_s]
  · simp only [lotD, lotNext]
    by_cases h : n + 1 < r
    · have h2 : ¬ r ≤ n + 1 := by omega
      simp only [dnx, e_lend, disowns, sz1_s, decide_true, decide_false, eq_self, kVl, kT, kLs, kW, kBl, kNt, kNg, kOp2, kCp2, kSb2, kIs, kBi, kMd2, kRv, kSl3, kMk, kGv, kLc, kPr, kPo, kRt, kNxt, kExS, kStO, kAp, kSb3, gC, kSc3, kEx1, kOp, kCp, kCh1, kCh, kSb, kMd, kSl2, kSl, kCl, kTe2, kTn, turnC, kCm, kCns, kCnp, kCno, kSeqS, kStT, kPrS, kTb, turnS, kFo, kS2, kC2, kEn, kZp2, kZp, dT, dT.dTs, setR, disown, wipeR, scalar, kFc2, kFc, kFs, seqD, kCk, kCk2, kIn2, kIn3, Nat.reduceAdd, Nat.reduceSub, Nat.reduceLT, Nat.reduceLeDiff, ite_true, ite_false, if_true, if_false, reduceCtorEq, List.append_nil, List.cons_append, List.getElem?_cons_succ, List.getElem?_cons_zero, List.length_cons, List.length_nil, List.map_cons, List.map_nil, List.nil_append, List.replicate_succ, List.replicate_zero, List.reverse_cons, List.reverse_nil, List.set_cons_succ, List.set_cons_zero, f_14_s0, sne, h, h2, decide_true, decide_false, sz1_s]
    · have h2 : r ≤ n + 1 := by omega
      cases d <;> simp only [dnx, e_lend, disowns, sz1_s, decide_true, decide_false, eq_self, kVl, kT, kLs, kW, kBl, kNt, kNg, kOp2, kCp2, kSb2, kIs, kBi, kMd2, kRv, kSl3, kMk, kGv, kLc, kPr, kPo, kRt, kNxt, kExS, kStO, kAp, kSb3, gC, kSc3, kEx1, kOp, kCp, kCh1, kCh, kSb, kMd, kSl2, kSl, kCl, kTe2, kTn, turnC, kCm, kCns, kCnp, kCno, kSeqS, kStT, kPrS, kTb, turnS, kFo, kS2, kC2, kEn, kZp2, kZp, dT, dT.dTs, setR, disown, wipeR, scalar, kFc2, kFc, kFs, seqD, kCk, kCk2, kIn2, kIn3, Nat.reduceAdd, Nat.reduceSub, Nat.reduceLT, Nat.reduceLeDiff, ite_true, ite_false, if_true, if_false, reduceCtorEq, List.append_nil, List.cons_append, List.getElem?_cons_succ, List.getElem?_cons_zero, List.length_cons, List.length_nil, List.map_cons, List.map_nil, List.nil_append, List.replicate_succ, List.replicate_zero, List.reverse_cons, List.reverse_nil, List.set_cons_succ, List.set_cons_zero, f_14_s0, sne, h, h2, decide_true, decide_false, sz1_s]
  · simp only [lotD, lotNext]
    by_cases h : (1 : Int) < r
    · have h2 : ¬ r ≤ 1 := by omega
      simp only [dnx, e_lend, disowns, sz1_s, decide_true, decide_false, eq_self, kVl, kT, kLs, kW, kBl, kNt, kNg, kOp2, kCp2, kSb2, kIs, kBi, kMd2, kRv, kSl3, kMk, kGv, kLc, kPr, kPo, kRt, kNxt, kExS, kStO, kAp, kSb3, gC, kSc3, kEx1, kOp, kCp, kCh1, kCh, kSb, kMd, kSl2, kSl, kCl, kTe2, kTn, turnC, kCm, kCns, kCnp, kCno, kSeqS, kStT, kPrS, kTb, turnS, kFo, kS2, kC2, kEn, kZp2, kZp, dT, dT.dTs, setR, disown, wipeR, scalar, kFc2, kFc, kFs, seqD, kCk, kCk2, kIn2, kIn3, Nat.reduceAdd, Nat.reduceSub, Nat.reduceLT, Nat.reduceLeDiff, ite_true, ite_false, if_true, if_false, reduceCtorEq, List.append_nil, List.cons_append, List.getElem?_cons_succ, List.getElem?_cons_zero, List.length_cons, List.length_nil, List.map_cons, List.map_nil, List.nil_append, List.replicate_succ, List.replicate_zero, List.reverse_cons, List.reverse_nil, List.set_cons_succ, List.set_cons_zero, f_14_s0, sne, h, h2, decide_true, decide_false, sz1_s]
    · have h2 : r ≤ 1 := by omega
      cases d <;> simp only [dnx, e_lend, disowns, sz1_s, decide_true, decide_false, eq_self, kVl, kT, kLs, kW, kBl, kNt, kNg, kOp2, kCp2, kSb2, kIs, kBi, kMd2, kRv, kSl3, kMk, kGv, kLc, kPr, kPo, kRt, kNxt, kExS, kStO, kAp, kSb3, gC, kSc3, kEx1, kOp, kCp, kCh1, kCh, kSb, kMd, kSl2, kSl, kCl, kTe2, kTn, turnC, kCm, kCns, kCnp, kCno, kSeqS, kStT, kPrS, kTb, turnS, kFo, kS2, kC2, kEn, kZp2, kZp, dT, dT.dTs, setR, disown, wipeR, scalar, kFc2, kFc, kFs, seqD, kCk, kCk2, kIn2, kIn3, Nat.reduceAdd, Nat.reduceSub, Nat.reduceLT, Nat.reduceLeDiff, ite_true, ite_false, if_true, if_false, reduceCtorEq, List.append_nil, List.cons_append, List.getElem?_cons_succ, List.getElem?_cons_zero, List.length_cons, List.length_nil, List.map_cons, List.map_nil, List.nil_append, List.replicate_succ, List.replicate_zero, List.reverse_cons, List.reverse_nil, List.set_cons_succ, List.set_cons_zero, f_14_s0, sne, h, h2, decide_true, decide_false, sz1_s]
  · simp only [lotD, lotNext]
    by_cases h : (1 : Int) < r
    · have h2 : ¬ r ≤ 1 := by omega
      simp only [dnx, e_lend, disowns, sz1_s, decide_true, decide_false, eq_self, kVl, kT, kLs, kW, kBl, kNt, kNg, kOp2, kCp2, kSb2, kIs, kBi, kMd2, kRv, kSl3, kMk, kGv, kLc, kPr, kPo, kRt, kNxt, kExS, kStO, kAp, kSb3, gC, kSc3, kEx1, kOp, kCp, kCh1, kCh, kSb, kMd, kSl2, kSl, kCl, kTe2, kTn, turnC, kCm, kCns, kCnp, kCno, kSeqS, kStT, kPrS, kTb, turnS, kFo, kS2, kC2, kEn, kZp2, kZp, dT, dT.dTs, setR, disown, wipeR, scalar, kFc2, kFc, kFs, seqD, kCk, kCk2, kIn2, kIn3, Nat.reduceAdd, Nat.reduceSub, Nat.reduceLT, Nat.reduceLeDiff, ite_true, ite_false, if_true, if_false, reduceCtorEq, List.append_nil, List.cons_append, List.getElem?_cons_succ, List.getElem?_cons_zero, List.length_cons, List.length_nil, List.map_cons, List.map_nil, List.nil_append, List.replicate_succ, List.replicate_zero, List.reverse_cons, List.reverse_nil, List.set_cons_succ, List.set_cons_zero, f_14_s0, sne, h, h2, decide_true, decide_false, sz1_s]
    · have h2 : r ≤ 1 := by omega
      cases d <;> simp only [dnx, e_lend, disowns, sz1_s, decide_true, decide_false, eq_self, kVl, kT, kLs, kW, kBl, kNt, kNg, kOp2, kCp2, kSb2, kIs, kBi, kMd2, kRv, kSl3, kMk, kGv, kLc, kPr, kPo, kRt, kNxt, kExS, kStO, kAp, kSb3, gC, kSc3, kEx1, kOp, kCp, kCh1, kCh, kSb, kMd, kSl2, kSl, kCl, kTe2, kTn, turnC, kCm, kCns, kCnp, kCno, kSeqS, kStT, kPrS, kTb, turnS, kFo, kS2, kC2, kEn, kZp2, kZp, dT, dT.dTs, setR, disown, wipeR, scalar, kFc2, kFc, kFs, seqD, kCk, kCk2, kIn2, kIn3, Nat.reduceAdd, Nat.reduceSub, Nat.reduceLT, Nat.reduceLeDiff, ite_true, ite_false, if_true, if_false, reduceCtorEq, List.append_nil, List.cons_append, List.getElem?_cons_succ, List.getElem?_cons_zero, List.length_cons, List.length_nil, List.map_cons, List.map_nil, List.nil_append, List.replicate_succ, List.replicate_zero, List.reverse_cons, List.reverse_nil, List.set_cons_succ, List.set_cons_zero, f_14_s0, sne, h, h2, decide_true, decide_false, sz1_s]
  · simp only [lotD, lotNext]
    by_cases h : n + 1 < r
    · have h2 : ¬ r ≤ n + 1 := by omega
      simp only [dnx, e_lend, disowns, sz1_s, decide_true, decide_false, eq_self, kVl, kT, kLs, kW, kBl, kNt, kNg, kOp2, kCp2, kSb2, kIs, kBi, kMd2, kRv, kSl3, kMk, kGv, kLc, kPr, kPo, kRt, kNxt, kExS, kStO, kAp, kSb3, gC, kSc3, kEx1, kOp, kCp, kCh1, kCh, kSb, kMd, kSl2, kSl, kCl, kTe2, kTn, turnC, kCm, kCns, kCnp, kCno, kSeqS, kStT, kPrS, kTb, turnS, kFo, kS2, kC2, kEn, kZp2, kZp, dT, dT.dTs, setR, disown, wipeR, scalar, kFc2, kFc, kFs, seqD, kCk, kCk2, kIn2, kIn3, Nat.reduceAdd, Nat.reduceSub, Nat.reduceLT, Nat.reduceLeDiff, ite_true, ite_false, if_true, if_false, reduceCtorEq, List.append_nil, List.cons_append, List.getElem?_cons_succ, List.getElem?_cons_zero, List.length_cons, List.length_nil, List.map_cons, List.map_nil, List.nil_append, List.replicate_succ, List.replicate_zero, List.reverse_cons, List.reverse_nil, List.set_cons_succ, List.set_cons_zero, f_14_s0, sne, h, h2, decide_true, decide_false, sz1_s]
    · have h2 : r ≤ n + 1 := by omega
      cases d <;> simp only [dnx, e_lend, disowns, sz1_s, decide_true, decide_false, eq_self, kVl, kT, kLs, kW, kBl, kNt, kNg, kOp2, kCp2, kSb2, kIs, kBi, kMd2, kRv, kSl3, kMk, kGv, kLc, kPr, kPo, kRt, kNxt, kExS, kStO, kAp, kSb3, gC, kSc3, kEx1, kOp, kCp, kCh1, kCh, kSb, kMd, kSl2, kSl, kCl, kTe2, kTn, turnC, kCm, kCns, kCnp, kCno, kSeqS, kStT, kPrS, kTb, turnS, kFo, kS2, kC2, kEn, kZp2, kZp, dT, dT.dTs, setR, disown, wipeR, scalar, kFc2, kFc, kFs, seqD, kCk, kCk2, kIn2, kIn3, Nat.reduceAdd, Nat.reduceSub, Nat.reduceLT, Nat.reduceLeDiff, ite_true, ite_false, if_true, if_false, reduceCtorEq, List.append_nil, List.cons_append, List.getElem?_cons_succ, List.getElem?_cons_zero, List.length_cons, List.length_nil, List.map_cons, List.map_nil, List.nil_append, List.replicate_succ, List.replicate_zero, List.reverse_cons, List.reverse_nil, List.set_cons_succ, List.set_cons_zero, f_14_s0, sne, h, h2, decide_true, decide_false, sz1_s]
theorem co_tup (c : Co) : co c = .tup [.tup [.int c.sb, .int c.sh], .tup [.int c.rb, lotD c.lot, .bl c.dun], .tup [.int c.t0, .int c.t1, .int c.t2], .tup [.int c.b0, .int c.b1]] := rfl
theorem brought_ok (C : COk p q r s c) {i : Nat} (hi : i = 0 ∨ i = 1 ∨ i = 2) (k : Nat) (μ : Mu) : dCall T fs (k + 2) 15 [lk p q r s, co c, nm i] μ = some (.tup [co (bringM q r c i).1, wrD (bringM q r c i).2], false, μ) := by
  obtain ⟨sb, sh, rb, l, d, t0, t1, t2, b0, b1⟩ := c
  have hsb := C.sb
  have hrb := C.rb
  dsimp only at hsb hrb
  have hl := fun kd => lot_bhd (p := p) (q := q) (r := r) (s := s) k rb l d kd μ
  have cB := fun (i : Int) (hi : i = 0 ∨ i = 1) => chgB k b0 b1 1 i hi μ
  rw [dCall_eq at_15 rfl]
  simp only [f_15, co, nm]
  have e : lk p q r s = .tup [.int p, .int q, .int r, .int s] := rfl
  rcases hi with rfl | rfl | rfl
  · replace hl := hl true
    replace cB := cB sb hsb
    rw [e] at hl ⊢
    rw [if_pos rfl] at hl
    by_cases h1 : sb = rb
    · subst h1
      by_cases h2 : b0 + b1 < q
      · have h3 : b0 + (b1 + 0) < q := by omega
        simp only [dnx, e_lend, disowns, sz1_s, decide_true, decide_false, eq_self, kVl, kT, kLs, kW, kBl, kNt, kNg, kOp2, kCp2, kSb2, kIs, kBi, kMd2, kRv, kSl3, kMk, kGv, kLc, kPr, kPo, kRt, kNxt, kExS, kStO, kAp, kSb3, gC, kSc3, kEx1, kOp, kCp, kCh1, kCh, kSb, kMd, kSl2, kSl, kCl, kTe2, kTn, turnC, kCm, kCns, kCnp, kCno, kSeqS, kStT, kPrS, kTb, turnS, kFo, kS2, kC2, kEn, kZp2, kZp, dT, dT.dTs, setR, disown, wipeR, scalar, kFc2, kFc, kFs, seqD, kCk, kCk2, kIn2, kIn3, Nat.reduceAdd, Nat.reduceSub, Nat.reduceLT, Nat.reduceLeDiff, ite_true, ite_false, if_true, if_false, reduceCtorEq, List.append_nil, List.cons_append, List.getElem?_cons_succ, List.getElem?_cons_zero, List.length_cons, List.length_nil, List.map_cons, List.map_nil, List.nil_append, List.replicate_succ, List.replicate_zero, List.reverse_cons, List.reverse_nil, List.set_cons_succ, List.set_cons_zero, f_15_s0, f_15_s1, f_15_s2, sne, inE, con_0, chg0, sz1_s, bringM, bitOf, sortOf, ansA, addT, addB, wrD, lotD_n, lotD_o, lotD_w, eq_self, decide_true, decide_false, Int.reduceSub, Int.reduceNeg, Int.reduceEq, cB, h2, h3]
      · have h3 : ¬ b0 + (b1 + 0) < q := by omega
        simp only [dnx, e_lend, disowns, sz1_s, decide_true, decide_false, eq_self, kVl, kT, kLs, kW, kBl, kNt, kNg, kOp2, kCp2, kSb2, kIs, kBi, kMd2, kRv, kSl3, kMk, kGv, kLc, kPr, kPo, kRt, kNxt, kExS, kStO, kAp, kSb3, gC, kSc3, kEx1, kOp, kCp, kCh1, kCh, kSb, kMd, kSl2, kSl, kCl, kTe2, kTn, turnC, kCm, kCns, kCnp, kCno, kSeqS, kStT, kPrS, kTb, turnS, kFo, kS2, kC2, kEn, kZp2, kZp, dT, dT.dTs, setR, disown, wipeR, scalar, kFc2, kFc, kFs, seqD, kCk, kCk2, kIn2, kIn3, Nat.reduceAdd, Nat.reduceSub, Nat.reduceLT, Nat.reduceLeDiff, ite_true, ite_false, if_true, if_false, reduceCtorEq, List.append_nil, List.cons_append, List.getElem?_cons_succ, List.getElem?_cons_zero, List.length_cons, List.length_nil, List.map_cons, List.map_nil, List.nil_append, List.replicate_succ, List.replicate_zero, List.reverse_cons, List.reverse_nil, List.set_cons_succ, List.set_cons_zero, f_15_s0, f_15_s1, f_15_s2, sne, inE, con_0, chg0, sz1_s, bringM, bitOf, sortOf, ansA, addT, addB, wrD, lotD_n, lotD_o, lotD_w, eq_self, decide_true, decide_false, Int.reduceSub, Int.reduceNeg, Int.reduceEq, cB, h2, h3]
    · have h4 : ¬ rb = sb := fun z => h1 z.symm
      by_cases h5 : lotNext l true < r
      · rw [if_pos h5] at hl
        simp only [dnx, e_lend, disowns, sz1_s, decide_true, decide_false, eq_self, kVl, kT, kLs, kW, kBl, kNt, kNg, kOp2, kCp2, kSb2, kIs, kBi, kMd2, kRv, kSl3, kMk, kGv, kLc, kPr, kPo, kRt, kNxt, kExS, kStO, kAp, kSb3, gC, kSc3, kEx1, kOp, kCp, kCh1, kCh, kSb, kMd, kSl2, kSl, kCl, kTe2, kTn, turnC, kCm, kCns, kCnp, kCno, kSeqS, kStT, kPrS, kTb, turnS, kFo, kS2, kC2, kEn, kZp2, kZp, dT, dT.dTs, setR, disown, wipeR, scalar, kFc2, kFc, kFs, seqD, kCk, kCk2, kIn2, kIn3, Nat.reduceAdd, Nat.reduceSub, Nat.reduceLT, Nat.reduceLeDiff, ite_true, ite_false, if_true, if_false, reduceCtorEq, List.append_nil, List.cons_append, List.getElem?_cons_succ, List.getElem?_cons_zero, List.length_cons, List.length_nil, List.map_cons, List.map_nil, List.nil_append, List.replicate_succ, List.replicate_zero, List.reverse_cons, List.reverse_nil, List.set_cons_succ, List.set_cons_zero, f_15_s0, f_15_s1, f_15_s2, sne, inE, con_0, chg0, sz1_s, bringM, bitOf, sortOf, ansA, addT, addB, wrD, lotD_n, lotD_o, lotD_w, eq_self, decide_true, decide_false, Int.reduceSub, Int.reduceNeg, Int.reduceEq, hl, h1, h4, h5]
      · rw [if_neg h5] at hl
        have h6 : 1 - rb = sb := by omega
        rw [h6] at hl
        by_cases h2 : b0 + b1 < q
        · have h3 : b0 + (b1 + 0) < q := by omega
          cases d <;> simp only [dnx, e_lend, disowns, sz1_s, decide_true, decide_false, eq_self, kVl, kT, kLs, kW, kBl, kNt, kNg, kOp2, kCp2, kSb2, kIs, kBi, kMd2, kRv, kSl3, kMk, kGv, kLc, kPr, kPo, kRt, kNxt, kExS, kStO, kAp, kSb3, gC, kSc3, kEx1, kOp, kCp, kCh1, kCh, kSb, kMd, kSl2, kSl, kCl, kTe2, kTn, turnC, kCm, kCns, kCnp, kCno, kSeqS, kStT, kPrS, kTb, turnS, kFo, kS2, kC2, kEn, kZp2, kZp, dT, dT.dTs, setR, disown, wipeR, scalar, kFc2, kFc, kFs, seqD, kCk, kCk2, kIn2, kIn3, Nat.reduceAdd, Nat.reduceSub, Nat.reduceLT, Nat.reduceLeDiff, ite_true, ite_false, if_true, if_false, reduceCtorEq, List.append_nil, List.cons_append, List.getElem?_cons_succ, List.getElem?_cons_zero, List.length_cons, List.length_nil, List.map_cons, List.map_nil, List.nil_append, List.replicate_succ, List.replicate_zero, List.reverse_cons, List.reverse_nil, List.set_cons_succ, List.set_cons_zero, f_15_s0, f_15_s1, f_15_s2, sne, inE, con_0, chg0, sz1_s, bringM, bitOf, sortOf, ansA, addT, addB, wrD, lotD_n, lotD_o, lotD_w, eq_self, decide_true, decide_false, Int.reduceSub, Int.reduceNeg, Int.reduceEq, hl, cB, h1, h4, h5, h2, h3]
        · have h3 : ¬ b0 + (b1 + 0) < q := by omega
          cases d <;> simp only [dnx, e_lend, disowns, sz1_s, decide_true, decide_false, eq_self, kVl, kT, kLs, kW, kBl, kNt, kNg, kOp2, kCp2, kSb2, kIs, kBi, kMd2, kRv, kSl3, kMk, kGv, kLc, kPr, kPo, kRt, kNxt, kExS, kStO, kAp, kSb3, gC, kSc3, kEx1, kOp, kCp, kCh1, kCh, kSb, kMd, kSl2, kSl, kCl, kTe2, kTn, turnC, kCm, kCns, kCnp, kCno, kSeqS, kStT, kPrS, kTb, turnS, kFo, kS2, kC2, kEn, kZp2, kZp, dT, dT.dTs, setR, disown, wipeR, scalar, kFc2, kFc, kFs, seqD, kCk, kCk2, kIn2, kIn3, Nat.reduceAdd, Nat.reduceSub, Nat.reduceLT, Nat.reduceLeDiff, ite_true, ite_false, if_true, if_false, reduceCtorEq, List.append_nil, List.cons_append, List.getElem?_cons_succ, List.getElem?_cons_zero, List.length_cons, List.length_nil, List.map_cons, List.map_nil, List.nil_append, List.replicate_succ, List.replicate_zero, List.reverse_cons, List.reverse_nil, List.set_cons_succ, List.set_cons_zero, f_15_s0, f_15_s1, f_15_s2, sne, inE, con_0, chg0, sz1_s, bringM, bitOf, sortOf, ansA, addT, addB, wrD, lotD_n, lotD_o, lotD_w, eq_self, decide_true, decide_false, Int.reduceSub, Int.reduceNeg, Int.reduceEq, hl, cB, h1, h4, h5, h2, h3]
  · replace hl := hl false
    replace cB := cB 0 (.inl rfl)
    rw [e] at hl ⊢
    rw [if_neg (by decide)] at hl
    by_cases h1 : 0 = rb
    · subst h1
      by_cases h2 : b0 + b1 < q
      · have h3 : b0 + (b1 + 0) < q := by omega
        simp only [dnx, e_lend, disowns, sz1_s, decide_true, decide_false, eq_self, kVl, kT, kLs, kW, kBl, kNt, kNg, kOp2, kCp2, kSb2, kIs, kBi, kMd2, kRv, kSl3, kMk, kGv, kLc, kPr, kPo, kRt, kNxt, kExS, kStO, kAp, kSb3, gC, kSc3, kEx1, kOp, kCp, kCh1, kCh, kSb, kMd, kSl2, kSl, kCl, kTe2, kTn, turnC, kCm, kCns, kCnp, kCno, kSeqS, kStT, kPrS, kTb, turnS, kFo, kS2, kC2, kEn, kZp2, kZp, dT, dT.dTs, setR, disown, wipeR, scalar, kFc2, kFc, kFs, seqD, kCk, kCk2, kIn2, kIn3, Nat.reduceAdd, Nat.reduceSub, Nat.reduceLT, Nat.reduceLeDiff, ite_true, ite_false, if_true, if_false, reduceCtorEq, List.append_nil, List.cons_append, List.getElem?_cons_succ, List.getElem?_cons_zero, List.length_cons, List.length_nil, List.map_cons, List.map_nil, List.nil_append, List.replicate_succ, List.replicate_zero, List.reverse_cons, List.reverse_nil, List.set_cons_succ, List.set_cons_zero, f_15_s0, f_15_s1, f_15_s2, sne, inE, con_0, chg1, sz1_s, bringM, bitOf, sortOf, ansA, addT, addB, wrD, lotD_n, lotD_o, lotD_w, eq_self, decide_true, decide_false, Int.reduceSub, Int.reduceNeg, Int.reduceEq, cB, h2, h3]
      · have h3 : ¬ b0 + (b1 + 0) < q := by omega
        simp only [dnx, e_lend, disowns, sz1_s, decide_true, decide_false, eq_self, kVl, kT, kLs, kW, kBl, kNt, kNg, kOp2, kCp2, kSb2, kIs, kBi, kMd2, kRv, kSl3, kMk, kGv, kLc, kPr, kPo, kRt, kNxt, kExS, kStO, kAp, kSb3, gC, kSc3, kEx1, kOp, kCp, kCh1, kCh, kSb, kMd, kSl2, kSl, kCl, kTe2, kTn, turnC, kCm, kCns, kCnp, kCno, kSeqS, kStT, kPrS, kTb, turnS, kFo, kS2, kC2, kEn, kZp2, kZp, dT, dT.dTs, setR, disown, wipeR, scalar, kFc2, kFc, kFs, seqD, kCk, kCk2, kIn2, kIn3, Nat.reduceAdd, Nat.reduceSub, Nat.reduceLT, Nat.reduceLeDiff, ite_true, ite_false, if_true, if_false, reduceCtorEq, List.append_nil, List.cons_append, List.getElem?_cons_succ, List.getElem?_cons_zero, List.length_cons, List.length_nil, List.map_cons, List.map_nil, List.nil_append, List.replicate_succ, List.replicate_zero, List.reverse_cons, List.reverse_nil, List.set_cons_succ, List.set_cons_zero, f_15_s0, f_15_s1, f_15_s2, sne, inE, con_0, chg1, sz1_s, bringM, bitOf, sortOf, ansA, addT, addB, wrD, lotD_n, lotD_o, lotD_w, eq_self, decide_true, decide_false, Int.reduceSub, Int.reduceNeg, Int.reduceEq, cB, h2, h3]
    · have h4 : ¬ rb = 0 := fun z => h1 z.symm
      by_cases h5 : lotNext l false < r
      · rw [if_pos h5] at hl
        simp only [dnx, e_lend, disowns, sz1_s, decide_true, decide_false, eq_self, kVl, kT, kLs, kW, kBl, kNt, kNg, kOp2, kCp2, kSb2, kIs, kBi, kMd2, kRv, kSl3, kMk, kGv, kLc, kPr, kPo, kRt, kNxt, kExS, kStO, kAp, kSb3, gC, kSc3, kEx1, kOp, kCp, kCh1, kCh, kSb, kMd, kSl2, kSl, kCl, kTe2, kTn, turnC, kCm, kCns, kCnp, kCno, kSeqS, kStT, kPrS, kTb, turnS, kFo, kS2, kC2, kEn, kZp2, kZp, dT, dT.dTs, setR, disown, wipeR, scalar, kFc2, kFc, kFs, seqD, kCk, kCk2, kIn2, kIn3, Nat.reduceAdd, Nat.reduceSub, Nat.reduceLT, Nat.reduceLeDiff, ite_true, ite_false, if_true, if_false, reduceCtorEq, List.append_nil, List.cons_append, List.getElem?_cons_succ, List.getElem?_cons_zero, List.length_cons, List.length_nil, List.map_cons, List.map_nil, List.nil_append, List.replicate_succ, List.replicate_zero, List.reverse_cons, List.reverse_nil, List.set_cons_succ, List.set_cons_zero, f_15_s0, f_15_s1, f_15_s2, sne, inE, con_0, chg1, sz1_s, bringM, bitOf, sortOf, ansA, addT, addB, wrD, lotD_n, lotD_o, lotD_w, eq_self, decide_true, decide_false, Int.reduceSub, Int.reduceNeg, Int.reduceEq, hl, h1, h4, h5]
      · rw [if_neg h5] at hl
        have h6 : 1 - rb = 0 := by omega
        rw [h6] at hl
        by_cases h2 : b0 + b1 < q
        · have h3 : b0 + (b1 + 0) < q := by omega
          cases d <;> simp only [dnx, e_lend, disowns, sz1_s, decide_true, decide_false, eq_self, kVl, kT, kLs, kW, kBl, kNt, kNg, kOp2, kCp2, kSb2, kIs, kBi, kMd2, kRv, kSl3, kMk, kGv, kLc, kPr, kPo, kRt, kNxt, kExS, kStO, kAp, kSb3, gC, kSc3, kEx1, kOp, kCp, kCh1, kCh, kSb, kMd, kSl2, kSl, kCl, kTe2, kTn, turnC, kCm, kCns, kCnp, kCno, kSeqS, kStT, kPrS, kTb, turnS, kFo, kS2, kC2, kEn, kZp2, kZp, dT, dT.dTs, setR, disown, wipeR, scalar, kFc2, kFc, kFs, seqD, kCk, kCk2, kIn2, kIn3, Nat.reduceAdd, Nat.reduceSub, Nat.reduceLT, Nat.reduceLeDiff, ite_true, ite_false, if_true, if_false, reduceCtorEq, List.append_nil, List.cons_append, List.getElem?_cons_succ, List.getElem?_cons_zero, List.length_cons, List.length_nil, List.map_cons, List.map_nil, List.nil_append, List.replicate_succ, List.replicate_zero, List.reverse_cons, List.reverse_nil, List.set_cons_succ, List.set_cons_zero, f_15_s0, f_15_s1, f_15_s2, sne, inE, con_0, chg1, sz1_s, bringM, bitOf, sortOf, ansA, addT, addB, wrD, lotD_n, lotD_o, lotD_w, eq_self, decide_true, decide_false, Int.reduceSub, Int.reduceNeg, Int.reduceEq, hl, cB, h1, h4, h5, h2, h3]
        · have h3 : ¬ b0 + (b1 + 0) < q := by omega
          cases d <;> simp only [dnx, e_lend, disowns, sz1_s, decide_true, decide_false, eq_self, kVl, kT, kLs, kW, kBl, kNt, kNg, kOp2, kCp2, kSb2, kIs, kBi, kMd2, kRv, kSl3, kMk, kGv, kLc, kPr, kPo, kRt, kNxt, kExS, kStO, kAp, kSb3, gC, kSc3, kEx1, kOp, kCp, kCh1, kCh, kSb, kMd, kSl2, kSl, kCl, kTe2, kTn, turnC, kCm, kCns, kCnp, kCno, kSeqS, kStT, kPrS, kTb, turnS, kFo, kS2, kC2, kEn, kZp2, kZp, dT, dT.dTs, setR, disown, wipeR, scalar, kFc2, kFc, kFs, seqD, kCk, kCk2, kIn2, kIn3, Nat.reduceAdd, Nat.reduceSub, Nat.reduceLT, Nat.reduceLeDiff, ite_true, ite_false, if_true, if_false, reduceCtorEq, List.append_nil, List.cons_append, List.getElem?_cons_succ, List.getElem?_cons_zero, List.length_cons, List.length_nil, List.map_cons, List.map_nil, List.nil_append, List.replicate_succ, List.replicate_zero, List.reverse_cons, List.reverse_nil, List.set_cons_succ, List.set_cons_zero, f_15_s0, f_15_s1, f_15_s2, sne, inE, con_0, chg1, sz1_s, bringM, bitOf, sortOf, ansA, addT, addB, wrD, lotD_n, lotD_o, lotD_w, eq_self, decide_true, decide_false, Int.reduceSub, Int.reduceNeg, Int.reduceEq, hl, cB, h1, h4, h5, h2, h3]
  · replace hl := hl false
    replace cB := cB 1 (.inr rfl)
    rw [e] at hl ⊢
    rw [if_neg (by decide)] at hl
    by_cases h1 : 1 = rb
    · subst h1
      by_cases h2 : b0 + b1 < q
      · have h3 : b0 + (b1 + 0) < q := by omega
        simp only [dnx, e_lend, disowns, sz1_s, decide_true, decide_false, eq_self, kVl, kT, kLs, kW, kBl, kNt, kNg, kOp2, kCp2, kSb2, kIs, kBi, kMd2, kRv, kSl3, kMk, kGv, kLc, kPr, kPo, kRt, kNxt, kExS, kStO, kAp, kSb3, gC, kSc3, kEx1, kOp, kCp, kCh1, kCh, kSb, kMd, kSl2, kSl, kCl, kTe2, kTn, turnC, kCm, kCns, kCnp, kCno, kSeqS, kStT, kPrS, kTb, turnS, kFo, kS2, kC2, kEn, kZp2, kZp, dT, dT.dTs, setR, disown, wipeR, scalar, kFc2, kFc, kFs, seqD, kCk, kCk2, kIn2, kIn3, Nat.reduceAdd, Nat.reduceSub, Nat.reduceLT, Nat.reduceLeDiff, ite_true, ite_false, if_true, if_false, reduceCtorEq, List.append_nil, List.cons_append, List.getElem?_cons_succ, List.getElem?_cons_zero, List.length_cons, List.length_nil, List.map_cons, List.map_nil, List.nil_append, List.replicate_succ, List.replicate_zero, List.reverse_cons, List.reverse_nil, List.set_cons_succ, List.set_cons_zero, f_15_s0, f_15_s1, f_15_s2, sne, inE, con_0, chg2, sz1_s, bringM, bitOf, sortOf, ansA, addT, addB, wrD, lotD_n, lotD_o, lotD_w, eq_self, decide_true, decide_false, Int.reduceSub, Int.reduceNeg, Int.reduceEq, cB, h2, h3]
      · have h3 : ¬ b0 + (b1 + 0) < q := by omega
        simp only [dnx, e_lend, disowns, sz1_s, decide_true, decide_false, eq_self, kVl, kT, kLs, kW, kBl, kNt, kNg, kOp2, kCp2, kSb2, kIs, kBi, kMd2, kRv, kSl3, kMk, kGv, kLc, kPr, kPo, kRt, kNxt, kExS, kStO, kAp, kSb3, gC, kSc3, kEx1, kOp, kCp, kCh1, kCh, kSb, kMd, kSl2, kSl, kCl, kTe2, kTn, turnC, kCm, kCns, kCnp, kCno, kSeqS, kStT, kPrS, kTb, turnS, kFo, kS2, kC2, kEn, kZp2, kZp, dT, dT.dTs, setR, disown, wipeR, scalar, kFc2, kFc, kFs, seqD, kCk, kCk2, kIn2, kIn3, Nat.reduceAdd, Nat.reduceSub, Nat.reduceLT, Nat.reduceLeDiff, ite_true, ite_false, if_true, if_false, reduceCtorEq, List.append_nil, List.cons_append, List.getElem?_cons_succ, List.getElem?_cons_zero, List.length_cons, List.length_nil, List.map_cons, List.map_nil, List.nil_append, List.replicate_succ, List.replicate_zero, List.reverse_cons, List.reverse_nil, List.set_cons_succ, List.set_cons_zero, f_15_s0, f_15_s1, f_15_s2, sne, inE, con_0, chg2, sz1_s, bringM, bitOf, sortOf, ansA, addT, addB, wrD, lotD_n, lotD_o, lotD_w, eq_self, decide_true, decide_false, Int.reduceSub, Int.reduceNeg, Int.reduceEq, cB, h2, h3]
    · have h4 : ¬ rb = 1 := fun z => h1 z.symm
      by_cases h5 : lotNext l false < r
      · rw [if_pos h5] at hl
        simp only [dnx, e_lend, disowns, sz1_s, decide_true, decide_false, eq_self, kVl, kT, kLs, kW, kBl, kNt, kNg, kOp2, kCp2, kSb2, kIs, kBi, kMd2, kRv, kSl3, kMk, kGv, kLc, kPr, kPo, kRt, kNxt, kExS, kStO, kAp, kSb3, gC, kSc3, kEx1, kOp, kCp, kCh1, kCh, kSb, kMd, kSl2, kSl, kCl, kTe2, kTn, turnC, kCm, kCns, kCnp, kCno, kSeqS, kStT, kPrS, kTb, turnS, kFo, kS2, kC2, kEn, kZp2, kZp, dT, dT.dTs, setR, disown, wipeR, scalar, kFc2, kFc, kFs, seqD, kCk, kCk2, kIn2, kIn3, Nat.reduceAdd, Nat.reduceSub, Nat.reduceLT, Nat.reduceLeDiff, ite_true, ite_false, if_true, if_false, reduceCtorEq, List.append_nil, List.cons_append, List.getElem?_cons_succ, List.getElem?_cons_zero, List.length_cons, List.length_nil, List.map_cons, List.map_nil, List.nil_append, List.replicate_succ, List.replicate_zero, List.reverse_cons, List.reverse_nil, List.set_cons_succ, List.set_cons_zero, f_15_s0, f_15_s1, f_15_s2, sne, inE, con_0, chg2, sz1_s, bringM, bitOf, sortOf, ansA, addT, addB, wrD, lotD_n, lotD_o, lotD_w, eq_self, decide_true, decide_false, Int.reduceSub, Int.reduceNeg, Int.reduceEq, hl, h1, h4, h5]
      · rw [if_neg h5] at hl
        have h6 : 1 - rb = 1 := by omega
        rw [h6] at hl
        by_cases h2 : b0 + b1 < q
        · have h3 : b0 + (b1 + 0) < q := by omega
          cases d <;> simp only [dnx, e_lend, disowns, sz1_s, decide_true, decide_false, eq_self, kVl, kT, kLs, kW, kBl, kNt, kNg, kOp2, kCp2, kSb2, kIs, kBi, kMd2, kRv, kSl3, kMk, kGv, kLc, kPr, kPo, kRt, kNxt, kExS, kStO, kAp, kSb3, gC, kSc3, kEx1, kOp, kCp, kCh1, kCh, kSb, kMd, kSl2, kSl, kCl, kTe2, kTn, turnC, kCm, kCns, kCnp, kCno, kSeqS, kStT, kPrS, kTb, turnS, kFo, kS2, kC2, kEn, kZp2, kZp, dT, dT.dTs, setR, disown, wipeR, scalar, kFc2, kFc, kFs, seqD, kCk, kCk2, kIn2, kIn3, Nat.reduceAdd, Nat.reduceSub, Nat.reduceLT, Nat.reduceLeDiff, ite_true, ite_false, if_true, if_false, reduceCtorEq, List.append_nil, List.cons_append, List.getElem?_cons_succ, List.getElem?_cons_zero, List.length_cons, List.length_nil, List.map_cons, List.map_nil, List.nil_append, List.replicate_succ, List.replicate_zero, List.reverse_cons, List.reverse_nil, List.set_cons_succ, List.set_cons_zero, f_15_s0, f_15_s1, f_15_s2, sne, inE, con_0, chg2, sz1_s, bringM, bitOf, sortOf, ansA, addT, addB, wrD, lotD_n, lotD_o, lotD_w, eq_self, decide_true, decide_false, Int.reduceSub, Int.reduceNeg, Int.reduceEq, hl, cB, h1, h4, h5, h2, h3]
        · have h3 : ¬ b0 + (b1 + 0) < q := by omega
          cases d <;> simp only [dnx, e_lend, disowns, sz1_s, decide_true, decide_false, eq_self, kVl, kT, kLs, kW, kBl, kNt, kNg, kOp2, kCp2, kSb2, kIs, kBi, kMd2, kRv, kSl3, kMk, kGv, kLc, kPr, kPo, kRt, kNxt, kExS, kStO, kAp, kSb3, gC, kSc3, kEx1, kOp, kCp, kCh1, kCh, kSb, kMd, kSl2, kSl, kCl, kTe2, kTn, turnC, kCm, kCns, kCnp, kCno, kSeqS, kStT, kPrS, kTb, turnS, kFo, kS2, kC2, kEn, kZp2, kZp, dT, dT.dTs, setR, disown, wipeR, scalar, kFc2, kFc, kFs, seqD, kCk, kCk2, kIn2, kIn3, Nat.reduceAdd, Nat.reduceSub, Nat.reduceLT, Nat.reduceLeDiff, ite_true, ite_false, if_true, if_false, reduceCtorEq, List.append_nil, List.cons_append, List.getElem?_cons_succ, List.getElem?_cons_zero, List.length_cons, List.length_nil, List.map_cons, List.map_nil, List.nil_append, List.replicate_succ, List.replicate_zero, List.reverse_cons, List.reverse_nil, List.set_cons_succ, List.set_cons_zero, f_15_s0, f_15_s1, f_15_s2, sne, inE, con_0, chg2, sz1_s, bringM, bitOf, sortOf, ansA, addT, addB, wrD, lotD_n, lotD_o, lotD_w, eq_self, decide_true, decide_false, Int.reduceSub, Int.reduceNeg, Int.reduceEq, hl, cB, h1, h4, h5, h2, h3]
theorem next_ok (C : COk p q r s c) (k : Nat) (μ : Mu) : dCall T fs (k + 2) 16 [co { addB c c.sb (-1) with sh := c.sh + 1 }] μ = some (co (turnM c c.sb), false, μ) := by
  obtain ⟨sb, sh, rb, l, d, t0, t1, t2, b0, b1⟩ := c
  have hsb := C.sb
  dsimp only at hsb
  have sl : ∀ x y z : D, slcD (.tup [x, y, z]) (some 1) none = some (.tup [y, z], false) := fun x y z => by kernel_rfl
  have ad : ∀ x y z : D, opD .add (.tup [x]) (.tup [y, z]) = some (.tup [x, y, z], false) := fun x y z => by kernel_rfl
  rw [dCall_eq at_16 rfl]
  simp only [f_16, co, addB, turnM]
  rcases hsb with rfl | rfl <;> rcases l with _ | ⟨b, n⟩
  · simp only [lotD, oldLot]
    simp only [dnx, e_lend, disowns, sz1_s, decide_true, decide_false, eq_self, kVl, kT, kLs, kW, kBl, kNt, kNg, kOp2, kCp2, kSb2, kIs, kBi, kMd2, kRv, kSl3, kMk, kGv, kLc, kPr, kPo, kRt, kNxt, kExS, kStO, kAp, kSb3, gC, kSc3, kEx1, kOp, kCp, kCh1, kCh, kSb, kMd, kSl2, kSl, kCl, kTe2, kTn, turnC, kCm, kCns, kCnp, kCno, kSeqS, kStT, kPrS, kTb, turnS, kFo, kS2, kC2, kEn, kZp2, kZp, dT, dT.dTs, setR, disown, wipeR, scalar, kFc2, kFc, kFs, seqD, kCk, kCk2, kIn2, kIn3, Nat.reduceAdd, Nat.reduceSub, Nat.reduceLT, Nat.reduceLeDiff, ite_true, ite_false, if_true, if_false, reduceCtorEq, List.append_nil, List.cons_append, List.getElem?_cons_succ, List.getElem?_cons_zero, List.length_cons, List.length_nil, List.map_cons, List.map_nil, List.nil_append, List.replicate_succ, List.replicate_zero, List.reverse_cons, List.reverse_nil, List.set_cons_succ, List.set_cons_zero, f_16, sl, ad, chg1, chg2, sz1_s, Int.reduceAdd, Int.reduceEq, eq_self]
  · cases b <;> simp only [lotD, oldLot] <;> simp only [dnx, e_lend, disowns, sz1_s, decide_true, decide_false, eq_self, kVl, kT, kLs, kW, kBl, kNt, kNg, kOp2, kCp2, kSb2, kIs, kBi, kMd2, kRv, kSl3, kMk, kGv, kLc, kPr, kPo, kRt, kNxt, kExS, kStO, kAp, kSb3, gC, kSc3, kEx1, kOp, kCp, kCh1, kCh, kSb, kMd, kSl2, kSl, kCl, kTe2, kTn, turnC, kCm, kCns, kCnp, kCno, kSeqS, kStT, kPrS, kTb, turnS, kFo, kS2, kC2, kEn, kZp2, kZp, dT, dT.dTs, setR, disown, wipeR, scalar, kFc2, kFc, kFs, seqD, kCk, kCk2, kIn2, kIn3, Nat.reduceAdd, Nat.reduceSub, Nat.reduceLT, Nat.reduceLeDiff, ite_true, ite_false, if_true, if_false, reduceCtorEq, List.append_nil, List.cons_append, List.getElem?_cons_succ, List.getElem?_cons_zero, List.length_cons, List.length_nil, List.map_cons, List.map_nil, List.nil_append, List.replicate_succ, List.replicate_zero, List.reverse_cons, List.reverse_nil, List.set_cons_succ, List.set_cons_zero, f_16, sl, ad, chg1, chg2, sz1_s, Int.reduceAdd, Int.reduceEq, eq_self]
  · simp only [lotD, oldLot]
    simp only [dnx, e_lend, disowns, sz1_s, decide_true, decide_false, eq_self, kVl, kT, kLs, kW, kBl, kNt, kNg, kOp2, kCp2, kSb2, kIs, kBi, kMd2, kRv, kSl3, kMk, kGv, kLc, kPr, kPo, kRt, kNxt, kExS, kStO, kAp, kSb3, gC, kSc3, kEx1, kOp, kCp, kCh1, kCh, kSb, kMd, kSl2, kSl, kCl, kTe2, kTn, turnC, kCm, kCns, kCnp, kCno, kSeqS, kStT, kPrS, kTb, turnS, kFo, kS2, kC2, kEn, kZp2, kZp, dT, dT.dTs, setR, disown, wipeR, scalar, kFc2, kFc, kFs, seqD, kCk, kCk2, kIn2, kIn3, Nat.reduceAdd, Nat.reduceSub, Nat.reduceLT, Nat.reduceLeDiff, ite_true, ite_false, if_true, if_false, reduceCtorEq, List.append_nil, List.cons_append, List.getElem?_cons_succ, List.getElem?_cons_zero, List.length_cons, List.length_nil, List.map_cons, List.map_nil, List.nil_append, List.replicate_succ, List.replicate_zero, List.reverse_cons, List.reverse_nil, List.set_cons_succ, List.set_cons_zero, f_16, sl, ad, chg1, chg2, sz1_s, Int.reduceAdd, Int.reduceEq, eq_self]
  · cases b <;> simp only [lotD, oldLot] <;> simp only [dnx, e_lend, disowns, sz1_s, decide_true, decide_false, eq_self, kVl, kT, kLs, kW, kBl, kNt, kNg, kOp2, kCp2, kSb2, kIs, kBi, kMd2, kRv, kSl3, kMk, kGv, kLc, kPr, kPo, kRt, kNxt, kExS, kStO, kAp, kSb3, gC, kSc3, kEx1, kOp, kCp, kCh1, kCh, kSb, kMd, kSl2, kSl, kCl, kTe2, kTn, turnC, kCm, kCns, kCnp, kCno, kSeqS, kStT, kPrS, kTb, turnS, kFo, kS2, kC2, kEn, kZp2, kZp, dT, dT.dTs, setR, disown, wipeR, scalar, kFc2, kFc, kFs, seqD, kCk, kCk2, kIn2, kIn3, Nat.reduceAdd, Nat.reduceSub, Nat.reduceLT, Nat.reduceLeDiff, ite_true, ite_false, if_true, if_false, reduceCtorEq, List.append_nil, List.cons_append, List.getElem?_cons_succ, List.getElem?_cons_zero, List.length_cons, List.length_nil, List.map_cons, List.map_nil, List.nil_append, List.replicate_succ, List.replicate_zero, List.reverse_cons, List.reverse_nil, List.set_cons_succ, List.set_cons_zero, f_16, sl, ad, chg1, chg2, sz1_s, Int.reduceAdd, Int.reduceEq, eq_self]
end ZL
end

section
set_option Elab.async false
set_option linter.all false
set_option maxRecDepth 100000
set_option maxHeartbeats 4000000
set_option exponentiation.threshold 4000
-- e27c7414e2b0c03687d57f7b57c69add
namespace ZL
open PySem PySem.Spec Z
variable {p q r s : Int} {c c' : Co}
theorem told_ok (C : COk p q r s c) {b : Int} (hb : b = 0 ∨ b = 1) (k : Nat) (μ : Mu) : dCall T fs (k + 3) 17 [lk p q r s, co c, .int b] μ = some (.tup [co (hearM s c b).1, wrD (hearM s c b).2], false, μ) := by
  have cB := chgB (k + 1) c.b0 c.b1 (-1) b hb μ
  have nx := next_ok C k μ
  rw [dCall_eq at_17 rfl]
  simp only [f_17]
  have e : lk p q r s = .tup [.int p, .int q, .int r, .int s] := rfl
  rw [e, co_tup]
  unfold hearM
  by_cases h1 : b = c.sb
  · rw [if_pos h1]
    subst h1
    by_cases h2 : c.sh + 1 < s
    · rw [if_pos h2]
      simp only [dnx, e_lend, disowns, sz1_s, decide_true, decide_false, eq_self, kVl, kT, kLs, kW, kBl, kNt, kNg, kOp2, kCp2, kSb2, kIs, kBi, kMd2, kRv, kSl3, kMk, kGv, kLc, kPr, kPo, kRt, kNxt, kExS, kStO, kAp, kSb3, gC, kSc3, kEx1, kOp, kCp, kCh1, kCh, kSb, kMd, kSl2, kSl, kCl, kTe2, kTn, turnC, kCm, kCns, kCnp, kCno, kSeqS, kStT, kPrS, kTb, turnS, kFo, kS2, kC2, kEn, kZp2, kZp, dT, dT.dTs, setR, disown, wipeR, scalar, kFc2, kFc, kFs, seqD, kCk, kCk2, kIn2, kIn3, Nat.reduceAdd, Nat.reduceSub, Nat.reduceLT, Nat.reduceLeDiff, ite_true, ite_false, if_true, if_false, reduceCtorEq, List.append_nil, List.cons_append, List.getElem?_cons_succ, List.getElem?_cons_zero, List.length_cons, List.length_nil, List.map_cons, List.map_nil, List.nil_append, List.replicate_succ, List.replicate_zero, List.reverse_cons, List.reverse_nil, List.set_cons_succ, List.set_cons_zero, f_17_s0, cB, h2, co_tup, addB, wrD, Int.reduceNeg]
    · rw [if_neg h2]
      simp only [co_tup, addB] at nx
      rw [co_tup]
      cases hd : c.dun
      · simp only [hd] at nx
        simp only [dnx, e_lend, disowns, sz1_s, decide_true, decide_false, eq_self, kVl, kT, kLs, kW, kBl, kNt, kNg, kOp2, kCp2, kSb2, kIs, kBi, kMd2, kRv, kSl3, kMk, kGv, kLc, kPr, kPo, kRt, kNxt, kExS, kStO, kAp, kSb3, gC, kSc3, kEx1, kOp, kCp, kCh1, kCh, kSb, kMd, kSl2, kSl, kCl, kTe2, kTn, turnC, kCm, kCns, kCnp, kCno, kSeqS, kStT, kPrS, kTb, turnS, kFo, kS2, kC2, kEn, kZp2, kZp, dT, dT.dTs, setR, disown, wipeR, scalar, kFc2, kFc, kFs, seqD, kCk, kCk2, kIn2, kIn3, Nat.reduceAdd, Nat.reduceSub, Nat.reduceLT, Nat.reduceLeDiff, ite_true, ite_false, if_true, if_false, reduceCtorEq, List.append_nil, List.cons_append, List.getElem?_cons_succ, List.getElem?_cons_zero, List.length_cons, List.length_nil, List.map_cons, List.map_nil, List.nil_append, List.replicate_succ, List.replicate_zero, List.reverse_cons, List.reverse_nil, List.set_cons_succ, List.set_cons_zero, f_17_s0, cB, h2, wrD, Int.reduceNeg, nx]
      · simp only [hd] at nx
        simp only [dnx, e_lend, disowns, sz1_s, decide_true, decide_false, eq_self, kVl, kT, kLs, kW, kBl, kNt, kNg, kOp2, kCp2, kSb2, kIs, kBi, kMd2, kRv, kSl3, kMk, kGv, kLc, kPr, kPo, kRt, kNxt, kExS, kStO, kAp, kSb3, gC, kSc3, kEx1, kOp, kCp, kCh1, kCh, kSb, kMd, kSl2, kSl, kCl, kTe2, kTn, turnC, kCm, kCns, kCnp, kCno, kSeqS, kStT, kPrS, kTb, turnS, kFo, kS2, kC2, kEn, kZp2, kZp, dT, dT.dTs, setR, disown, wipeR, scalar, kFc2, kFc, kFs, seqD, kCk, kCk2, kIn2, kIn3, Nat.reduceAdd, Nat.reduceSub, Nat.reduceLT, Nat.reduceLeDiff, ite_true, ite_false, if_true, if_false, reduceCtorEq, List.append_nil, List.cons_append, List.getElem?_cons_succ, List.getElem?_cons_zero, List.length_cons, List.length_nil, List.map_cons, List.map_nil, List.nil_append, List.replicate_succ, List.replicate_zero, List.reverse_cons, List.reverse_nil, List.set_cons_succ, List.set_cons_zero, f_17_s0, cB, h2, wrD, Int.reduceNeg, nx]
  · rw [if_neg h1]
    simp only [dnx, e_lend, disowns, sz1_s, decide_true, decide_false, eq_self, kVl, kT, kLs, kW, kBl, kNt, kNg, kOp2, kCp2, kSb2, kIs, kBi, kMd2, kRv, kSl3, kMk, kGv, kLc, kPr, kPo, kRt, kNxt, kExS, kStO, kAp, kSb3, gC, kSc3, kEx1, kOp, kCp, kCh1, kCh, kSb, kMd, kSl2, kSl, kCl, kTe2, kTn, turnC, kCm, kCns, kCnp, kCno, kSeqS, kStT, kPrS, kTb, turnS, kFo, kS2, kC2, kEn, kZp2, kZp, dT, dT.dTs, setR, disown, wipeR, scalar, kFc2, kFc, kFs, seqD, kCk, kCk2, kIn2, kIn3, Nat.reduceAdd, Nat.reduceSub, Nat.reduceLT, Nat.reduceLeDiff, ite_true, ite_false, if_true, if_false, reduceCtorEq, List.append_nil, List.cons_append, List.getElem?_cons_succ, List.getElem?_cons_zero, List.length_cons, List.length_nil, List.map_cons, List.map_nil, List.nil_append, List.replicate_succ, List.replicate_zero, List.reverse_cons, List.reverse_nil, List.set_cons_succ, List.set_cons_zero, f_17_s0, cB, h1, co_tup, addB, wrD, Int.reduceNeg]
theorem behind_ok (C : COk p q r s c) {e : Ev} (he : EvOk e) (k : Nat) (μ : Mu) : dCall T fs (k + 4) 18 [lk p q r s, co c, evD e] μ = some (.tup [co (stepM q r s c e).1, wrD (stepM q r s c e).2], false, μ) := by
  have eC := co_tup c
  rw [dCall_eq at_18 rfl]
  simp only [f_18]
  cases e with
  | send =>
    rw [eC]
    simp only [evD]
    simp only [dnx, e_lend, disowns, sz1_s, decide_true, decide_false, eq_self, kVl, kT, kLs, kW, kBl, kNt, kNg, kOp2, kCp2, kSb2, kIs, kBi, kMd2, kRv, kSl3, kMk, kGv, kLc, kPr, kPo, kRt, kNxt, kExS, kStO, kAp, kSb3, gC, kSc3, kEx1, kOp, kCp, kCh1, kCh, kSb, kMd, kSl2, kSl, kCl, kTe2, kTn, turnC, kCm, kCns, kCnp, kCno, kSeqS, kStT, kPrS, kTb, turnS, kFo, kS2, kC2, kEn, kZp2, kZp, dT, dT.dTs, setR, disown, wipeR, scalar, kFc2, kFc, kFs, seqD, kCk, kCk2, kIn2, kIn3, Nat.reduceAdd, Nat.reduceSub, Nat.reduceLT, Nat.reduceLeDiff, ite_true, ite_false, if_true, if_false, reduceCtorEq, List.append_nil, List.cons_append, List.getElem?_cons_succ, List.getElem?_cons_zero, List.length_cons, List.length_nil, List.map_cons, List.map_nil, List.nil_append, List.replicate_succ, List.replicate_zero, List.reverse_cons, List.reverse_nil, List.set_cons_succ, List.set_cons_zero, f_18_s0, f_18_s1, f_18_s2, sne, chg0, stepM, addT, co_tup, wrD]
  | drop i =>
    rw [eC]
    simp only [evD]
    rcases he with rfl | rfl | rfl
    · simp only [dnx, e_lend, disowns, sz1_s, decide_true, decide_false, eq_self, kVl, kT, kLs, kW, kBl, kNt, kNg, kOp2, kCp2, kSb2, kIs, kBi, kMd2, kRv, kSl3, kMk, kGv, kLc, kPr, kPo, kRt, kNxt, kExS, kStO, kAp, kSb3, gC, kSc3, kEx1, kOp, kCp, kCh1, kCh, kSb, kMd, kSl2, kSl, kCl, kTe2, kTn, turnC, kCm, kCns, kCnp, kCno, kSeqS, kStT, kPrS, kTb, turnS, kFo, kS2, kC2, kEn, kZp2, kZp, dT, dT.dTs, setR, disown, wipeR, scalar, kFc2, kFc, kFs, seqD, kCk, kCk2, kIn2, kIn3, Nat.reduceAdd, Nat.reduceSub, Nat.reduceLT, Nat.reduceLeDiff, ite_true, ite_false, if_true, if_false, reduceCtorEq, List.append_nil, List.cons_append, List.getElem?_cons_succ, List.getElem?_cons_zero, List.length_cons, List.length_nil, List.map_cons, List.map_nil, List.nil_append, List.replicate_succ, List.replicate_zero, List.reverse_cons, List.reverse_nil, List.set_cons_succ, List.set_cons_zero, f_18_s0, f_18_s1, f_18_s2, sne, inE, con_0, nm, chg0, stepM, addT, co_tup, wrD, Int.reduceNeg]
    · simp only [dnx, e_lend, disowns, sz1_s, decide_true, decide_false, eq_self, kVl, kT, kLs, kW, kBl, kNt, kNg, kOp2, kCp2, kSb2, kIs, kBi, kMd2, kRv, kSl3, kMk, kGv, kLc, kPr, kPo, kRt, kNxt, kExS, kStO, kAp, kSb3, gC, kSc3, kEx1, kOp, kCp, kCh1, kCh, kSb, kMd, kSl2, kSl, kCl, kTe2, kTn, turnC, kCm, kCns, kCnp, kCno, kSeqS, kStT, kPrS, kTb, turnS, kFo, kS2, kC2, kEn, kZp2, kZp, dT, dT.dTs, setR, disown, wipeR, scalar, kFc2, kFc, kFs, seqD, kCk, kCk2, kIn2, kIn3, Nat.reduceAdd, Nat.reduceSub, Nat.reduceLT, Nat.reduceLeDiff, ite_true, ite_false, if_true, if_false, reduceCtorEq, List.append_nil, List.cons_append, List.getElem?_cons_succ, List.getElem?_cons_zero, List.length_cons, List.length_nil, List.map_cons, List.map_nil, List.nil_append, List.replicate_succ, List.replicate_zero, List.reverse_cons, List.reverse_nil, List.set_cons_succ, List.set_cons_zero, f_18_s0, f_18_s1, f_18_s2, sne, inE, con_0, nm, chg1, stepM, addT, co_tup, wrD, Int.reduceNeg]
    · simp only [dnx, e_lend, disowns, sz1_s, decide_true, decide_false, eq_self, kVl, kT, kLs, kW, kBl, kNt, kNg, kOp2, kCp2, kSb2, kIs, kBi, kMd2, kRv, kSl3, kMk, kGv, kLc, kPr, kPo, kRt, kNxt, kExS, kStO, kAp, kSb3, gC, kSc3, kEx1, kOp, kCp, kCh1, kCh, kSb, kMd, kSl2, kSl, kCl, kTe2, kTn, turnC, kCm, kCns, kCnp, kCno, kSeqS, kStT, kPrS, kTb, turnS, kFo, kS2, kC2, kEn, kZp2, kZp, dT, dT.dTs, setR, disown, wipeR, scalar, kFc2, kFc, kFs, seqD, kCk, kCk2, kIn2, kIn3, Nat.reduceAdd, Nat.reduceSub, Nat.reduceLT, Nat.reduceLeDiff, ite_true, ite_false, if_true, if_false, reduceCtorEq, List.append_nil, List.cons_append, List.getElem?_cons_succ, List.getElem?_cons_zero, List.length_cons, List.length_nil, List.map_cons, List.map_nil, List.nil_append, List.replicate_succ, List.replicate_zero, List.reverse_cons, List.reverse_nil, List.set_cons_succ, List.set_cons_zero, f_18_s0, f_18_s1, f_18_s2, sne, inE, con_0, nm, chg2, stepM, addT, co_tup, wrD, Int.reduceNeg]
  | bring i =>
    have hb := brought_ok C he (k + 1) μ
    rw [eC] at hb ⊢
    simp only [evD]
    rcases he with rfl | rfl | rfl <;> simp only [nm] at hb ⊢ <;> simp only [dnx, e_lend, disowns, sz1_s, decide_true, decide_false, eq_self, kVl, kT, kLs, kW, kBl, kNt, kNg, kOp2, kCp2, kSb2, kIs, kBi, kMd2, kRv, kSl3, kMk, kGv, kLc, kPr, kPo, kRt, kNxt, kExS, kStO, kAp, kSb3, gC, kSc3, kEx1, kOp, kCp, kCh1, kCh, kSb, kMd, kSl2, kSl, kCl, kTe2, kTn, turnC, kCm, kCns, kCnp, kCno, kSeqS, kStT, kPrS, kTb, turnS, kFo, kS2, kC2, kEn, kZp2, kZp, dT, dT.dTs, setR, disown, wipeR, scalar, kFc2, kFc, kFs, seqD, kCk, kCk2, kIn2, kIn3, Nat.reduceAdd, Nat.reduceSub, Nat.reduceLT, Nat.reduceLeDiff, ite_true, ite_false, if_true, if_false, reduceCtorEq, List.append_nil, List.cons_append, List.getElem?_cons_succ, List.getElem?_cons_zero, List.length_cons, List.length_nil, List.map_cons, List.map_nil, List.nil_append, List.replicate_succ, List.replicate_zero, List.reverse_cons, List.reverse_nil, List.set_cons_succ, List.set_cons_zero, f_18_s0, f_18_s1, f_18_s2, sne, hb, stepM]
  | miss b =>
    have cB := chgB (k + 2) c.b0 c.b1 (-1) b he μ
    rw [eC]
    simp only [evD]
    simp only [dnx, e_lend, disowns, sz1_s, decide_true, decide_false, eq_self, kVl, kT, kLs, kW, kBl, kNt, kNg, kOp2, kCp2, kSb2, kIs, kBi, kMd2, kRv, kSl3, kMk, kGv, kLc, kPr, kPo, kRt, kNxt, kExS, kStO, kAp, kSb3, gC, kSc3, kEx1, kOp, kCp, kCh1, kCh, kSb, kMd, kSl2, kSl, kCl, kTe2, kTn, turnC, kCm, kCns, kCnp, kCno, kSeqS, kStT, kPrS, kTb, turnS, kFo, kS2, kC2, kEn, kZp2, kZp, dT, dT.dTs, setR, disown, wipeR, scalar, kFc2, kFc, kFs, seqD, kCk, kCk2, kIn2, kIn3, Nat.reduceAdd, Nat.reduceSub, Nat.reduceLT, Nat.reduceLeDiff, ite_true, ite_false, if_true, if_false, reduceCtorEq, List.append_nil, List.cons_append, List.getElem?_cons_succ, List.getElem?_cons_zero, List.length_cons, List.length_nil, List.map_cons, List.map_nil, List.nil_append, List.replicate_succ, List.replicate_zero, List.reverse_cons, List.reverse_nil, List.set_cons_succ, List.set_cons_zero, f_18_s0, f_18_s1, f_18_s2, sne, cB, stepM, addB, co_tup, wrD, Int.reduceNeg]
  | hear b =>
    have ht := told_ok C he k μ
    rw [eC] at ht ⊢
    simp only [evD]
    simp only [dnx, e_lend, disowns, sz1_s, decide_true, decide_false, eq_self, kVl, kT, kLs, kW, kBl, kNt, kNg, kOp2, kCp2, kSb2, kIs, kBi, kMd2, kRv, kSl3, kMk, kGv, kLc, kPr, kPo, kRt, kNxt, kExS, kStO, kAp, kSb3, gC, kSc3, kEx1, kOp, kCp, kCh1, kCh, kSb, kMd, kSl2, kSl, kCl, kTe2, kTn, turnC, kCm, kCns, kCnp, kCno, kSeqS, kStT, kPrS, kTb, turnS, kFo, kS2, kC2, kEn, kZp2, kZp, dT, dT.dTs, setR, disown, wipeR, scalar, kFc2, kFc, kFs, seqD, kCk, kCk2, kIn2, kIn3, Nat.reduceAdd, Nat.reduceSub, Nat.reduceLT, Nat.reduceLeDiff, ite_true, ite_false, if_true, if_false, reduceCtorEq, List.append_nil, List.cons_append, List.getElem?_cons_succ, List.getElem?_cons_zero, List.length_cons, List.length_nil, List.map_cons, List.map_nil, List.nil_append, List.replicate_succ, List.replicate_zero, List.reverse_cons, List.reverse_nil, List.set_cons_succ, List.set_cons_zero, f_18_s0, f_18_s1, f_18_s2, sne, ht, stepM]
/-- a comprehension that keeps some of the events -/
theorem keep_fold {call : CallT} {c : X} {ρ : Rho} {f : Ev → Bool} {μ : Mu} {i : Nat} {own : List Nat} : ∀ (es : List Ev), (∀ e ∈ es, turnC T call (.tName i) c (.var i) own ρ (evD e) μ = some (if f e then some (evD e) else none, μ)) →
    foldC (turnC T call (.tName i) c (.var i) own ρ) (es.map evD) μ = some ((es.filter f).map evD, μ)
  | [], _ => rfl
  | e :: es, h => by
    rw [List.map_cons, fc_cons, h e (List.mem_cons_self), bX_s]
    unfold kFc
    rw [keep_fold es fun e' h' => h e' (List.mem_cons_of_mem _ h')]
    rw [bL_s]
    unfold kFc2
    rw [List.filter_cons]
    cases f e <;> rfl
/-- the program's order -/
def evP : List Ev := [.bring 0, .bring 2, .bring 1, .drop 0, .drop 2, .drop 1, .hear 0, .hear 1, .miss 0, .miss 1, .send]
theorem evP_ok : ∀ e ∈ evP, EvOk e := by
  intro e he
  simp only [evP, List.mem_cons, List.not_mem_nil, or_false] at he
  rcases he with rfl | rfl | rfl | rfl | rfl | rfl | rfl | rfl | rfl | rfl | rfl
  · exact .inl rfl
  · exact .inr (.inr rfl)
  · exact .inr (.inl rfl)
  · exact .inl rfl
  · exact .inr (.inr rfl)
  · exact .inr (.inl rfl)
  · exact .inl rfl
  · exact .inr rfl
  · exact .inl rfl
  · exact .inr rfl
  · exact trivial
theorem evP_all {e : Ev} (h : EvOk e) : e ∈ evP := by
  simp only [evP, List.mem_cons, List.not_mem_nil, or_false]
  cases e with
  | send => simp
  | drop i => rcases h with rfl | rfl | rfl <;> simp
  | bring i => rcases h with rfl | rfl | rfl <;> simp
  | miss b => rcases h with rfl | rfl <;> simp
  | hear b => rcases h with rfl | rfl <;> simp
theorem evs_in (k : Nat) (μ : Mu) : dCall T fs (k + 2) 19 [lk p q r s, co c] μ = some (.lst ((evP.filter (canM p c)).map evD), true, μ) := by
  have hE : T.cons[2]? = some (.lst (evP.map evD)) := con_2
  have hk := keep_fold (i := 2) (own := [2]) (ρ := [some (lk p q r s, false), some (co c, false), none]) (f := canM p c) (call := dCall T fs (k + 1)) (c := f_19_c0) (μ := μ) evP fun e he => by
    have h := can_ok (p := p) (q := q) (r := r) (s := s) (c := c) (evP_ok e he) k μ
    simp only [dnx, e_lend, disowns, sz1_s, decide_true, decide_false, eq_self, kVl, kT, kLs, kW, kBl, kNt, kNg, kOp2, kCp2, kSb2, kIs, kBi, kMd2, kRv, kSl3, kMk, kGv, kLc, kPr, kPo, kRt, kNxt, kExS, kStO, kAp, kSb3, gC, kSc3, kEx1, kOp, kCp, kCh1, kCh, kSb, kMd, kSl2, kSl, kCl, kTe2, kTn, turnC, kCm, kCns, kCnp, kCno, kSeqS, kStT, kPrS, kTb, turnS, kFo, kS2, kC2, kEn, kZp2, kZp, dT, dT.dTs, setR, disown, wipeR, scalar, kFc2, kFc, kFs, seqD, kCk, kCk2, kIn2, kIn3, Nat.reduceAdd, Nat.reduceSub, Nat.reduceLT, Nat.reduceLeDiff, ite_true, ite_false, if_true, if_false, reduceCtorEq, List.append_nil, List.cons_append, List.getElem?_cons_succ, List.getElem?_cons_zero, List.length_cons, List.length_nil, List.map_cons, List.map_nil, List.nil_append, List.replicate_succ, List.replicate_zero, List.reverse_cons, List.reverse_nil, List.set_cons_succ, List.set_cons_zero, f_19_c0, h]
    cases canM p c e <;> simp only [dnx, e_lend, disowns, sz1_s, decide_true, decide_false, eq_self, kVl, kT, kLs, kW, kBl, kNt, kNg, kOp2, kCp2, kSb2, kIs, kBi, kMd2, kRv, kSl3, kMk, kGv, kLc, kPr, kPo, kRt, kNxt, kExS, kStO, kAp, kSb3, gC, kSc3, kEx1, kOp, kCp, kCh1, kCh, kSb, kMd, kSl2, kSl, kCl, kTe2, kTn, turnC, kCm, kCns, kCnp, kCno, kSeqS, kStT, kPrS, kTb, turnS, kFo, kS2, kC2, kEn, kZp2, kZp, dT, dT.dTs, setR, disown, wipeR, scalar, kFc2, kFc, kFs, seqD, kCk, kCk2, kIn2, kIn3, Nat.reduceAdd, Nat.reduceSub, Nat.reduceLT, Nat.reduceLeDiff, ite_true, ite_false, if_true, if_false, reduceCtorEq, List.append_nil, List.cons_append, List.getElem?_cons_succ, List.getElem?_cons_zero, List.length_cons, List.length_nil, List.map_cons, List.map_nil, List.nil_append, List.replicate_succ, List.replicate_zero, List.reverse_cons, List.reverse_nil, List.set_cons_succ, List.set_cons_zero]
  have hl : (evP.map evD).length ≤ 100000 := by decide
  rw [dCall_eq at_19 rfl]
  simp only [f_19]
  simp only [dnx, e_lend, disowns, sz1_s, decide_true, decide_false, eq_self, kVl, kT, kLs, kW, kBl, kNt, kNg, kOp2, kCp2, kSb2, kIs, kBi, kMd2, kRv, kSl3, kMk, kGv, kLc, kPr, kPo, kRt, kNxt, kExS, kStO, kAp, kSb3, gC, kSc3, kEx1, kOp, kCp, kCh1, kCh, kSb, kMd, kSl2, kSl, kCl, kTe2, kTn, turnC, kCm, kCns, kCnp, kCno, kSeqS, kStT, kPrS, kTb, turnS, kFo, kS2, kC2, kEn, kZp2, kZp, dT, dT.dTs, setR, disown, wipeR, scalar, kFc2, kFc, kFs, seqD, kCk, kCk2, kIn2, kIn3, Nat.reduceAdd, Nat.reduceSub, Nat.reduceLT, Nat.reduceLeDiff, ite_true, ite_false, if_true, if_false, reduceCtorEq, List.append_nil, List.cons_append, List.getElem?_cons_succ, List.getElem?_cons_zero, List.length_cons, List.length_nil, List.map_cons, List.map_nil, List.nil_append, List.replicate_succ, List.replicate_zero, List.reverse_cons, List.reverse_nil, List.set_cons_succ, List.set_cons_zero, hE, hk, hl]
theorem copy_ok {i : Nat} (hi : i = 0 ∨ i = 1 ∨ i = 2) (k : Nat) (μ : Mu) : dCall T fs (k + 1) 5 [nm i] μ = some (.bl true, false, μ) := by
  rw [dCall_eq at_5 rfl]
  simp only [f_5]
  rcases hi with rfl | rfl | rfl <;> simp only [nm] <;> simp only [dnx, e_lend, disowns, sz1_s, decide_true, decide_false, eq_self, kVl, kT, kLs, kW, kBl, kNt, kNg, kOp2, kCp2, kSb2, kIs, kBi, kMd2, kRv, kSl3, kMk, kGv, kLc, kPr, kPo, kRt, kNxt, kExS, kStO, kAp, kSb3, gC, kSc3, kEx1, kOp, kCp, kCh1, kCh, kSb, kMd, kSl2, kSl, kCl, kTe2, kTn, turnC, kCm, kCns, kCnp, kCno, kSeqS, kStT, kPrS, kTb, turnS, kFo, kS2, kC2, kEn, kZp2, kZp, dT, dT.dTs, setR, disown, wipeR, scalar, kFc2, kFc, kFs, seqD, kCk, kCk2, kIn2, kIn3, Nat.reduceAdd, Nat.reduceSub, Nat.reduceLT, Nat.reduceLeDiff, ite_true, ite_false, if_true, if_false, reduceCtorEq, List.append_nil, List.cons_append, List.getElem?_cons_succ, List.getElem?_cons_zero, List.length_cons, List.length_nil, List.map_cons, List.map_nil, List.nil_append, List.replicate_succ, List.replicate_zero, List.reverse_cons, List.reverse_nil, List.set_cons_succ, List.set_cons_zero, inE, con_0]
theorem nd_ev {e : Ev} (he : EvOk e) : okS (evD e) = true ∧ nd (evD e) ≤ 1 := by
  cases e with
  | send => exact ⟨by decide +kernel, by decide +kernel⟩
  | drop i => rcases he with rfl | rfl | rfl <;> exact ⟨by decide +kernel, by decide +kernel⟩
  | bring i => rcases he with rfl | rfl | rfl <;> exact ⟨by decide +kernel, by decide +kernel⟩
  | miss b => rcases he with rfl | rfl <;> exact ⟨by decide +kernel, by decide +kernel⟩
  | hear b => rcases he with rfl | rfl <;> exact ⟨by decide +kernel, by decide +kernel⟩
theorem ev_fits {e : Ev} (he : EvOk e) (k : Nat) (μ : Mu) : dCall T fs (k + 4) 11 [evD e] μ = some (.bl true, false, μ) := by
  have e0 : cpD .eq (evD e) (.tup []) = some false := by
    obtain ⟨q1, q2⟩ := nd_ev he
    rw [eq_d (by cases e <;> rfl) q1 (by omega) rfl (by decide)]
    cases e with
    | drop i => rcases he with rfl | rfl | rfl <;> rfl
    | bring i => rcases he with rfl | rfl | rfl <;> rfl
    | _ => rfl
  rw [dCall_eq at_11 rfl]
  simp only [f_11]
  cases e with
  | send =>
    simp only [evD] at e0 ⊢
    simp only [dnx, e_lend, disowns, sz1_s, decide_true, decide_false, eq_self, kVl, kT, kLs, kW, kBl, kNt, kNg, kOp2, kCp2, kSb2, kIs, kBi, kMd2, kRv, kSl3, kMk, kGv, kLc, kPr, kPo, kRt, kNxt, kExS, kStO, kAp, kSb3, gC, kSc3, kEx1, kOp, kCp, kCh1, kCh, kSb, kMd, kSl2, kSl, kCl, kTe2, kTn, turnC, kCm, kCns, kCnp, kCno, kSeqS, kStT, kPrS, kTb, turnS, kFo, kS2, kC2, kEn, kZp2, kZp, dT, dT.dTs, setR, disown, wipeR, scalar, kFc2, kFc, kFs, seqD, kCk, kCk2, kIn2, kIn3, Nat.reduceAdd, Nat.reduceSub, Nat.reduceLT, Nat.reduceLeDiff, ite_true, ite_false, if_true, if_false, reduceCtorEq, List.append_nil, List.cons_append, List.getElem?_cons_succ, List.getElem?_cons_zero, List.length_cons, List.length_nil, List.map_cons, List.map_nil, List.nil_append, List.replicate_succ, List.replicate_zero, List.reverse_cons, List.reverse_nil, List.set_cons_succ, List.set_cons_zero, f_11_s0, e0, sne, inE]
  | drop i =>
    have hc := copy_ok he (k + 2) μ
    simp only [evD] at e0 ⊢
    simp only [dnx, e_lend, disowns, sz1_s, decide_true, decide_false, eq_self, kVl, kT, kLs, kW, kBl, kNt, kNg, kOp2, kCp2, kSb2, kIs, kBi, kMd2, kRv, kSl3, kMk, kGv, kLc, kPr, kPo, kRt, kNxt, kExS, kStO, kAp, kSb3, gC, kSc3, kEx1, kOp, kCp, kCh1, kCh, kSb, kMd, kSl2, kSl, kCl, kTe2, kTn, turnC, kCm, kCns, kCnp, kCno, kSeqS, kStT, kPrS, kTb, turnS, kFo, kS2, kC2, kEn, kZp2, kZp, dT, dT.dTs, setR, disown, wipeR, scalar, kFc2, kFc, kFs, seqD, kCk, kCk2, kIn2, kIn3, Nat.reduceAdd, Nat.reduceSub, Nat.reduceLT, Nat.reduceLeDiff, ite_true, ite_false, if_true, if_false, reduceCtorEq, List.append_nil, List.cons_append, List.getElem?_cons_succ, List.getElem?_cons_zero, List.length_cons, List.length_nil, List.map_cons, List.map_nil, List.nil_append, List.replicate_succ, List.replicate_zero, List.reverse_cons, List.reverse_nil, List.set_cons_succ, List.set_cons_zero, f_11_s0, e0, sne, inE, hc, Int.reduceEq]
  | bring i =>
    have hc := copy_ok he (k + 2) μ
    simp only [evD] at e0 ⊢
    simp only [dnx, e_lend, disowns, sz1_s, decide_true, decide_false, eq_self, kVl, kT, kLs, kW, kBl, kNt, kNg, kOp2, kCp2, kSb2, kIs, kBi, kMd2, kRv, kSl3, kMk, kGv, kLc, kPr, kPo, kRt, kNxt, kExS, kStO, kAp, kSb3, gC, kSc3, kEx1, kOp, kCp, kCh1, kCh, kSb, kMd, kSl2, kSl, kCl, kTe2, kTn, turnC, kCm, kCns, kCnp, kCno, kSeqS, kStT, kPrS, kTb, turnS, kFo, kS2, kC2, kEn, kZp2, kZp, dT, dT.dTs, setR, disown, wipeR, scalar, kFc2, kFc, kFs, seqD, kCk, kCk2, kIn2, kIn3, Nat.reduceAdd, Nat.reduceSub, Nat.reduceLT, Nat.reduceLeDiff, ite_true, ite_false, if_true, if_false, reduceCtorEq, List.append_nil, List.cons_append, List.getElem?_cons_succ, List.getElem?_cons_zero, List.length_cons, List.length_nil, List.map_cons, List.map_nil, List.nil_append, List.replicate_succ, List.replicate_zero, List.reverse_cons, List.reverse_nil, List.set_cons_succ, List.set_cons_zero, f_11_s0, e0, sne, inE, hc, Int.reduceEq]
  | miss b =>
    have hc := bit_ok k b he μ
    simp only [evD] at e0 ⊢
    simp only [dnx, e_lend, disowns, sz1_s, decide_true, decide_false, eq_self, kVl, kT, kLs, kW, kBl, kNt, kNg, kOp2, kCp2, kSb2, kIs, kBi, kMd2, kRv, kSl3, kMk, kGv, kLc, kPr, kPo, kRt, kNxt, kExS, kStO, kAp, kSb3, gC, kSc3, kEx1, kOp, kCp, kCh1, kCh, kSb, kMd, kSl2, kSl, kCl, kTe2, kTn, turnC, kCm, kCns, kCnp, kCno, kSeqS, kStT, kPrS, kTb, turnS, kFo, kS2, kC2, kEn, kZp2, kZp, dT, dT.dTs, setR, disown, wipeR, scalar, kFc2, kFc, kFs, seqD, kCk, kCk2, kIn2, kIn3, Nat.reduceAdd, Nat.reduceSub, Nat.reduceLT, Nat.reduceLeDiff, ite_true, ite_false, if_true, if_false, reduceCtorEq, List.append_nil, List.cons_append, List.getElem?_cons_succ, List.getElem?_cons_zero, List.length_cons, List.length_nil, List.map_cons, List.map_nil, List.nil_append, List.replicate_succ, List.replicate_zero, List.reverse_cons, List.reverse_nil, List.set_cons_succ, List.set_cons_zero, f_11_s0, e0, sne, inE, hc, Int.reduceEq]
  | hear b =>
    have hc := bit_ok k b he μ
    simp only [evD] at e0 ⊢
    simp only [dnx, e_lend, disowns, sz1_s, decide_true, decide_false, eq_self, kVl, kT, kLs, kW, kBl, kNt, kNg, kOp2, kCp2, kSb2, kIs, kBi, kMd2, kRv, kSl3, kMk, kGv, kLc, kPr, kPo, kRt, kNxt, kExS, kStO, kAp, kSb3, gC, kSc3, kEx1, kOp, kCp, kCh1, kCh, kSb, kMd, kSl2, kSl, kCl, kTe2, kTn, turnC, kCm, kCns, kCnp, kCno, kSeqS, kStT, kPrS, kTb, turnS, kFo, kS2, kC2, kEn, kZp2, kZp, dT, dT.dTs, setR, disown, wipeR, scalar, kFc2, kFc, kFs, seqD, kCk, kCk2, kIn2, kIn3, Nat.reduceAdd, Nat.reduceSub, Nat.reduceLT, Nat.reduceLeDiff, ite_true, ite_false, if_true, if_false, reduceCtorEq, List.append_nil, List.cons_append, List.getElem?_cons_succ, List.getElem?_cons_zero, List.length_cons, List.length_nil, List.map_cons, List.map_nil, List.nil_append, List.replicate_succ, List.replicate_zero, List.reverse_cons, List.reverse_nil, List.set_cons_succ, List.set_cons_zero, f_11_s0, e0, sne, inE, hc, Int.reduceEq]
theorem chk_can (L : LOk p q r s) (C : COk p q r s c) {e : Ev} (he : EvOk e) (hc : canM p c e = true) (k : Nat) (μ : Mu) : dCall T fs (k + 7) 21 [lk p q r s, co c, evD e] μ = some (.non, false, μ) := by
  have e1 := chk_ok L C k μ
  have e2 := ev_fits he (k + 2) μ
  have e3 := can_ok (p := p) (q := q) (r := r) (s := s) (c := c) he (k + 5) μ
  rw [hc] at e3
  rw [dCall_eq at_21 rfl]
  simp only [f_21]
  simp only [dnx, e_lend, disowns, sz1_s, decide_true, decide_false, eq_self, kVl, kT, kLs, kW, kBl, kNt, kNg, kOp2, kCp2, kSb2, kIs, kBi, kMd2, kRv, kSl3, kMk, kGv, kLc, kPr, kPo, kRt, kNxt, kExS, kStO, kAp, kSb3, gC, kSc3, kEx1, kOp, kCp, kCh1, kCh, kSb, kMd, kSl2, kSl, kCl, kTe2, kTn, turnC, kCm, kCns, kCnp, kCno, kSeqS, kStT, kPrS, kTb, turnS, kFo, kS2, kC2, kEn, kZp2, kZp, dT, dT.dTs, setR, disown, wipeR, scalar, kFc2, kFc, kFs, seqD, kCk, kCk2, kIn2, kIn3, Nat.reduceAdd, Nat.reduceSub, Nat.reduceLT, Nat.reduceLeDiff, ite_true, ite_false, if_true, if_false, reduceCtorEq, List.append_nil, List.cons_append, List.getElem?_cons_succ, List.getElem?_cons_zero, List.length_cons, List.length_nil, List.map_cons, List.map_nil, List.nil_append, List.replicate_succ, List.replicate_zero, List.reverse_cons, List.reverse_nil, List.set_cons_succ, List.set_cons_zero, e1, e2, e3]
end ZL
end

section
set_option Elab.async false
set_option linter.all false
set_option maxRecDepth 100000
set_option maxHeartbeats 4000000
set_option exponentiation.threshold 4000
-- 2a6379ecf67eb1b0b16d0898e24ebac1
namespace ZL
open PySem PySem.Spec Z
/-! lists of events -/
theorem nd_evL : ∀ (es : List Ev), (∀ e ∈ es, EvOk e) → okSL (es.map evD) = true ∧ ndL (es.map evD) ≤ 1
  | [], _ => ⟨rfl, Nat.zero_le _⟩
  | e :: es, h => by
    obtain ⟨a1, a2⟩ := nd_ev (h e List.mem_cons_self)
    obtain ⟨b1, b2⟩ := nd_evL es fun x hx => h x (List.mem_cons_of_mem _ hx)
    refine ⟨?_, ?_⟩
    · show (okS (evD e) && okSL (es.map evD)) = true
      rw [a1, b1]
      rfl
    · show max (nd (evD e)) (ndL (es.map evD)) ≤ 1
      omega
theorem eq_evs (es : List Ev) (h : ∀ e ∈ es, EvOk e) : cpD .eq (.lst (es.map evD)) (.lst []) = some es.isEmpty := by
  obtain ⟨h1, h2⟩ := nd_evL es h
  have h3 : nd (.lst (es.map evD)) ≤ 64 := by
    show ndL (es.map evD) + 1 ≤ 64
    omega
  have h4 : okS (.lst (es.map evD)) = true := h1
  rw [eq_d rfl h4 h3 rfl (by decide)]
  cases es <;> rfl
theorem ne_evs (es : List Ev) (h : ∀ e ∈ es, EvOk e) : cpD .ne (.lst (es.map evD)) (.lst []) = some (!es.isEmpty) := by
  obtain ⟨h1, h2⟩ := nd_evL es h
  have h3 : nd (.lst (es.map evD)) ≤ 64 := by
    show ndL (es.map evD) + 1 ≤ 64
    omega
  have h4 : okS (.lst (es.map evD)) = true := h1
  rw [ne_d rfl h4 h3 rfl (by decide)]
  cases es <;> rfl
theorem ev_sm {e : Ev} (h : EvOk e) : smD (evD e) ∧ sz (evD e) ≤ 2000 := by
  cases e with
  | send => exact ⟨by simp only [evD, smD, smL, and_true], by decide +kernel⟩
  | drop i => rcases h with rfl | rfl | rfl <;> exact ⟨by simp only [evD, nm, smD, smL, and_true], by decide +kernel⟩
  | bring i => rcases h with rfl | rfl | rfl <;> exact ⟨by simp only [evD, nm, smD, smL, and_true], by decide +kernel⟩
  | miss b => rcases h with rfl | rfl <;> exact ⟨by simp only [evD, smD, smL, and_true, true_and]; decide, by decide +kernel⟩
  | hear b => rcases h with rfl | rfl <;> exact ⟨by simp only [evD, smD, smL, and_true, true_and]; decide, by decide +kernel⟩
theorem evs_sm : ∀ (es : List Ev), (∀ e ∈ es, EvOk e) → smL (es.map evD) ∧ szL (es.map evD) ≤ 2002 * es.length
  | [], _ => ⟨trivial, Nat.le_refl 0⟩
  | e :: es, h => by
    obtain ⟨a1, a2⟩ := ev_sm (h e List.mem_cons_self)
    obtain ⟨b1, b2⟩ := evs_sm es fun x hx => h x (List.mem_cons_of_mem _ hx)
    refine ⟨by simp only [List.map_cons, smL]; exact ⟨a1, b1⟩, ?_⟩
    show sz (evD e) + 2 + szL (es.map evD) ≤ 2002 * (es.length + 1)
    omega
theorem evs_shp (es : List Ev) (h : ∀ e ∈ es, EvOk e) (hl : es.length ≤ 40) : shp (.lst (es.map evD)) = true := by
  obtain ⟨h1, h2⟩ := nd_evL es h
  obtain ⟨h3, h4⟩ := evs_sm es h
  have h5 : okS (.lst (es.map evD)) = true := h1
  obtain ⟨k1, k2, k3⟩ := okS_pl _ h5
  have hz := sizeLine_eq
  unfold shp
  rw [k1, k3, decide_eq_true (show sz (.lst (es.map evD)) ≤ sizeLine by show szL (es.map evD) + 3 ≤ sizeLine; omega), decide_eq_true (show nd (.lst (es.map evD)) ≤ 60 by show ndL (es.map evD) + 1 ≤ 60; omega)]
  rfl
theorem evs_rp (es : List Ev) (h : ∀ e ∈ es, EvOk e) (hl : es.length ≤ 40) : ∃ x, biD .repr [.lst (es.map evD)] = some (.str x, false) :=
  ⟨_, rp (by simp only [smD]; exact (evs_sm es h).1) (evs_shp es h hl)⟩
theorem evs_rp2 (es : List Ev) (h : ∀ e ∈ es, EvOk e) (hl : es.length ≤ 40) (i : Int) (hi : i.natAbs < 2 ^ 1900) : ∃ x, biD .repr [.lst [.lst (es.map evD), .int i]] = some (.str x, false) := by
  obtain ⟨h1, h2⟩ := nd_evL es h
  obtain ⟨h3, h4⟩ := evs_sm es h
  have h5 : okS (.lst [.lst (es.map evD), .int i]) = true := by
    show (okSL (es.map evD) && true) = true
    rw [h1]
    rfl
  obtain ⟨k1, k2, k3⟩ := okS_pl _ h5
  have hz := sizeLine_eq
  refine ⟨_, rp (by simp only [smD, smL, and_true]; exact ⟨h3, hi⟩) ?_⟩
  unfold shp
  rw [k1, k3, decide_eq_true (show sz (.lst [.lst (es.map evD), .int i]) ≤ sizeLine by show (szL (es.map evD) + 3 + 2 + (1921 + 2 + 0)) + 3 ≤ sizeLine; omega), decide_eq_true (show nd (.lst [.lst (es.map evD), .int i]) ≤ 60 by show max (ndL (es.map evD) + 1) (max 0 0) + 1 ≤ 60; omega)]
  rfl
theorem pick_ev (menu : List Ev) (v : Int) (h0 : 0 ≤ v) (h1 : v < (menu.map evD).length) : ∃ e ∈ menu, L2.atI (menu.map evD) v = some (evD e) := by
  obtain ⟨i, rfl⟩ := Int.eq_ofNat_of_zero_le h0
  rw [List.length_map] at h1
  have h2 : i < menu.length := by omega
  refine ⟨menu[i], List.getElem_mem h2, at_n ?_⟩
  rw [List.getElem?_map, List.getElem?_eq_getElem h2]
  rfl
end ZL
end

section
set_option Elab.async false
set_option linter.all false
set_option maxRecDepth 100000
set_option maxHeartbeats 4000000
set_option exponentiation.threshold 4000
-- 93799d4902a27f4379d7356bfb963bb4
namespace ZL
open PySem PySem.Spec Z
/-! the law's steps, as most of the laws have them (_law_more, _law_bring, _law_step: contents, wrong, turn, out) -/
theorem pl0 : mdD .indexL (.lst [.str "new", .str "zero", .str "one"]) [.str "new"] = some (.int 0, false) := by kernel_rfl
theorem pl1 : mdD .indexL (.lst [.str "new", .str "zero", .str "one"]) [.str "zero"] = some (.int 1, false) := by kernel_rfl
theorem pl2 : mdD .indexL (.lst [.str "new", .str "zero", .str "one"]) [.str "one"] = some (.int 2, false) := by kernel_rfl
theorem mo0 (k : Nat) (a b c v : Int) (μ : Mu) : dCall T fs (k + 1) 34 [.tup [.int a, .int b, .int c], .int 0, .int v] μ = some (.tup [.int (a + v), .int b, .int c], false, μ) := by kernel_rfl
theorem mo1 (k : Nat) (a b c v : Int) (μ : Mu) : dCall T fs (k + 1) 34 [.tup [.int a, .int b, .int c], .int 1, .int v] μ = some (.tup [.int a, .int (b + v), .int c], false, μ) := by kernel_rfl
theorem mo2 (k : Nat) (a b c v : Int) (μ : Mu) : dCall T fs (k + 1) 34 [.tup [.int a, .int b, .int c], .int 2, .int v] μ = some (.tup [.int a, .int b, .int (c + v)], false, μ) := by kernel_rfl
theorem moB (k : Nat) (a b v i : Int) (h : i = 0 ∨ i = 1) (μ : Mu) : dCall T fs (k + 1) 34 [.tup [.int a, .int b], .int i, .int v] μ = some (.tup [.int (if i = 0 then a + v else a), .int (if i = 0 then b else b + v)], false, μ) := by
  rcases h with rfl | rfl
  · kernel_rfl
  · kernel_rfl
def outM (r : Int) (c : Co) (i : Nat) : Bool := if bitOf c i = c.rb then false else if lotNext c.lot (sortOf i) < r then false else true
def outE (r : Int) (c : Co) : Ev → Bool
  | .bring i => outM r c i
  | _ => false
def turnE (s : Int) (c : Co) : Ev → Bool
  | .hear b => if b = c.sb then (if c.sh + 1 < s then false else true) else false
  | _ => false
def evL : List Ev := [.send, .drop 0, .bring 0, .drop 1, .bring 1, .drop 2, .bring 2, .miss 0, .miss 1, .hear 0, .hear 1]
theorem evL_ok : ∀ e ∈ evL, EvOk e := by
  intro e he
  simp only [evL, List.mem_cons, List.not_mem_nil, or_false] at he
  rcases he with rfl | rfl | rfl | rfl | rfl | rfl | rfl | rfl | rfl | rfl | rfl
  · exact trivial
  · exact .inl rfl
  · exact .inl rfl
  · exact .inr (.inl rfl)
  · exact .inr (.inl rfl)
  · exact .inr (.inr rfl)
  · exact .inr (.inr rfl)
  · exact .inl rfl
  · exact .inr rfl
  · exact .inl rfl
  · exact .inr rfl
theorem lev_all (k : Nat) (μ : Mu) : dCall T fs (k + 1) 35 [] μ = some (.lst (evL.map evD), true, μ) := by kernel_rfl
variable {p q r s : Int} {c c' : Co}
theorem lot_le (C : COk p q r s c) (L : LOk p q r s) (k : Bool) : lotNext c.lot k ≤ r := by
  have h := C.lot
  have := L.r0
  cases hl : c.lot with
  | none => exact this
  | some z =>
    obtain ⟨b, n⟩ := z
    have := h b n hl
    show (if b = k then n + 1 else 1) ≤ r
    split <;> omega
theorem lbringL (L : LOk p q r s) (C : COk p q r s c) {i : Nat} (hi : i = 0 ∨ i = 1 ∨ i = 2) (k : Nat) (μ : Mu) : dCall T fs (k + 2) 36 [lk p q r s, co c, nm i] μ = some (.lst [co (bringM q r c i).1, wrD (bringM q r c i).2, .bl false, .bl (outM r c i)], true, μ) := by
  have hn0 := lot_le C L true
  have hn1 := lot_le C L false
  obtain ⟨sb, sh, rb, l, d, t0, t1, t2, b0, b1⟩ := c
  have hsb := C.sb
  dsimp only at hsb hn0 hn1
  have mx : biD .int [.bl true] = some (.int 1, false) := rfl
  rw [dCall_eq at_36 rfl]
  simp only [f_36, co, nm, lk]
  rcases hi with rfl | rfl | rfl
  · have cB := fun v => moB k b0 b1 v sb (hsb) μ
    unfold bringM
    by_cases h1 : sb = rb
    · subst h1
      by_cases h2 : b0 + b1 < q
      · simp only [dnx, e_lend, disowns, sz1_s, decide_true, decide_false, eq_self, kVl, kT, kLs, kW, kBl, kNt, kNg, kOp2, kCp2, kSb2, kIs, kBi, kMd2, kRv, kSl3, kMk, kGv, kLc, kPr, kPo, kRt, kNxt, kExS, kStO, kAp, kSb3, gC, kSc3, kEx1, kOp, kCp, kCh1, kCh, kSb, kMd, kSl2, kSl, kCl, kTe2, kTn, turnC, kCm, kCns, kCnp, kCno, kSeqS, kStT, kPrS, kTb, turnS, kFo, kS2, kC2, kEn, kZp2, kZp, dT, dT.dTs, setR, disown, wipeR, scalar, kFc2, kFc, kFs, seqD, kCk, kCk2, kIn2, kIn3, Nat.reduceAdd, Nat.reduceSub, Nat.reduceLT, Nat.reduceLeDiff, ite_true, ite_false, if_true, if_false, reduceCtorEq, List.append_nil, List.cons_append, List.getElem?_cons_succ, List.getElem?_cons_zero, List.length_cons, List.length_nil, List.map_cons, List.map_nil, List.nil_append, List.replicate_succ, List.replicate_zero, List.reverse_cons, List.reverse_nil, List.set_cons_succ, List.set_cons_zero, f_36_s0, f_36_s1, f_36_s2, sne, inE, pl0, mo0, bitOf, sortOf, ansA, addT, addB, wrD, outM, lotD_n, lotD_o, lotD_w, lotNext, Int.reduceSub, Int.reduceNeg, Int.reduceEq, Int.add_zero, ite_self, mx, sz1_s, decide_true, decide_false, cB, h2]
      · simp only [dnx, e_lend, disowns, sz1_s, decide_true, decide_false, eq_self, kVl, kT, kLs, kW, kBl, kNt, kNg, kOp2, kCp2, kSb2, kIs, kBi, kMd2, kRv, kSl3, kMk, kGv, kLc, kPr, kPo, kRt, kNxt, kExS, kStO, kAp, kSb3, gC, kSc3, kEx1, kOp, kCp, kCh1, kCh, kSb, kMd, kSl2, kSl, kCl, kTe2, kTn, turnC, kCm, kCns, kCnp, kCno, kSeqS, kStT, kPrS, kTb, turnS, kFo, kS2, kC2, kEn, kZp2, kZp, dT, dT.dTs, setR, disown, wipeR, scalar, kFc2, kFc, kFs, seqD, kCk, kCk2, kIn2, kIn3, Nat.reduceAdd, Nat.reduceSub, Nat.reduceLT, Nat.reduceLeDiff, ite_true, ite_false, if_true, if_false, reduceCtorEq, List.append_nil, List.cons_append, List.getElem?_cons_succ, List.getElem?_cons_zero, List.length_cons, List.length_nil, List.map_cons, List.map_nil, List.nil_append, List.replicate_succ, List.replicate_zero, List.reverse_cons, List.reverse_nil, List.set_cons_succ, List.set_cons_zero, f_36_s0, f_36_s1, f_36_s2, sne, inE, pl0, mo0, bitOf, sortOf, ansA, addT, addB, wrD, outM, lotD_n, lotD_o, lotD_w, lotNext, Int.reduceSub, Int.reduceNeg, Int.reduceEq, Int.add_zero, ite_self, mx, sz1_s, decide_true, decide_false, cB, h2]
    · rcases l with _ | ⟨_ | _, n⟩
      · have hn : (1 : Int) ≤ r := by simpa only [lotNext, if_pos, if_neg, reduceCtorEq, if_true, if_false] using hn0
        by_cases h5 : (1 : Int) < r
        · have h6 : ¬ (1 : Int) = r := by omega
          simp only [dnx, e_lend, disowns, sz1_s, decide_true, decide_false, eq_self, kVl, kT, kLs, kW, kBl, kNt, kNg, kOp2, kCp2, kSb2, kIs, kBi, kMd2, kRv, kSl3, kMk, kGv, kLc, kPr, kPo, kRt, kNxt, kExS, kStO, kAp, kSb3, gC, kSc3, kEx1, kOp, kCp, kCh1, kCh, kSb, kMd, kSl2, kSl, kCl, kTe2, kTn, turnC, kCm, kCns, kCnp, kCno, kSeqS, kStT, kPrS, kTb, turnS, kFo, kS2, kC2, kEn, kZp2, kZp, dT, dT.dTs, setR, disown, wipeR, scalar, kFc2, kFc, kFs, seqD, kCk, kCk2, kIn2, kIn3, Nat.reduceAdd, Nat.reduceSub, Nat.reduceLT, Nat.reduceLeDiff, ite_true, ite_false, if_true, if_false, reduceCtorEq, List.append_nil, List.cons_append, List.getElem?_cons_succ, List.getElem?_cons_zero, List.length_cons, List.length_nil, List.map_cons, List.map_nil, List.nil_append, List.replicate_succ, List.replicate_zero, List.reverse_cons, List.reverse_nil, List.set_cons_succ, List.set_cons_zero, f_36_s0, f_36_s1, f_36_s2, sne, inE, pl0, mo0, bitOf, sortOf, ansA, addT, addB, wrD, outM, lotD_n, lotD_o, lotD_w, lotNext, Int.reduceSub, Int.reduceNeg, Int.reduceEq, Int.add_zero, ite_self, mx, sz1_s, decide_true, decide_false, h1, h5, h6]
        · have h6 : (1 : Int) = r := by omega
          subst h6
          by_cases h2 : b0 + b1 < q
          · cases d <;> simp only [dnx, e_lend, disowns, sz1_s, decide_true, decide_false, eq_self, kVl, kT, kLs, kW, kBl, kNt, kNg, kOp2, kCp2, kSb2, kIs, kBi, kMd2, kRv, kSl3, kMk, kGv, kLc, kPr, kPo, kRt, kNxt, kExS, kStO, kAp, kSb3, gC, kSc3, kEx1, kOp, kCp, kCh1, kCh, kSb, kMd, kSl2, kSl, kCl, kTe2, kTn, turnC, kCm, kCns, kCnp, kCno, kSeqS, kStT, kPrS, kTb, turnS, kFo, kS2, kC2, kEn, kZp2, kZp, dT, dT.dTs, setR, disown, wipeR, scalar, kFc2, kFc, kFs, seqD, kCk, kCk2, kIn2, kIn3, Nat.reduceAdd, Nat.reduceSub, Nat.reduceLT, Nat.reduceLeDiff, ite_true, ite_false, if_true, if_false, reduceCtorEq, List.append_nil, List.cons_append, List.getElem?_cons_succ, List.getElem?_cons_zero, List.length_cons, List.length_nil, List.map_cons, List.map_nil, List.nil_append, List.replicate_succ, List.replicate_zero, List.reverse_cons, List.reverse_nil, List.set_cons_succ, List.set_cons_zero, f_36_s0, f_36_s1, f_36_s2, sne, inE, pl0, mo0, bitOf, sortOf, ansA, addT, addB, wrD, outM, lotD_n, lotD_o, lotD_w, lotNext, Int.reduceSub, Int.reduceNeg, Int.reduceEq, Int.add_zero, ite_self, mx, sz1_s, decide_true, decide_false, cB, h1, h2, Int.lt_irrefl]
          · cases d <;> simp only [dnx, e_lend, disowns, sz1_s, decide_true, decide_false, eq_self, kVl, kT, kLs, kW, kBl, kNt, kNg, kOp2, kCp2, kSb2, kIs, kBi, kMd2, kRv, kSl3, kMk, kGv, kLc, kPr, kPo, kRt, kNxt, kExS, kStO, kAp, kSb3, gC, kSc3, kEx1, kOp, kCp, kCh1, kCh, kSb, kMd, kSl2, kSl, kCl, kTe2, kTn, turnC, kCm, kCns, kCnp, kCno, kSeqS, kStT, kPrS, kTb, turnS, kFo, kS2, kC2, kEn, kZp2, kZp, dT, dT.dTs, setR, disown, wipeR, scalar, kFc2, kFc, kFs, seqD, kCk, kCk2, kIn2, kIn3, Nat.reduceAdd, Nat.reduceSub, Nat.reduceLT, Nat.reduceLeDiff, ite_true, ite_false, if_true, if_false, reduceCtorEq, List.append_nil, List.cons_append, List.getElem?_cons_succ, List.getElem?_cons_zero, List.length_cons, List.length_nil, List.map_cons, List.map_nil, List.nil_append, List.replicate_succ, List.replicate_zero, List.reverse_cons, List.reverse_nil, List.set_cons_succ, List.set_cons_zero, f_36_s0, f_36_s1, f_36_s2, sne, inE, pl0, mo0, bitOf, sortOf, ansA, addT, addB, wrD, outM, lotD_n, lotD_o, lotD_w, lotNext, Int.reduceSub, Int.reduceNeg, Int.reduceEq, Int.add_zero, ite_self, mx, sz1_s, decide_true, decide_false, cB, h1, h2, Int.lt_irrefl]
      · have hn : (1 : Int) ≤ r := by simpa only [lotNext, if_pos, if_neg, reduceCtorEq, if_true, if_false] using hn0
        by_cases h5 : (1 : Int) < r
        · have h6 : ¬ (1 : Int) = r := by omega
          simp only [dnx, e_lend, disowns, sz1_s, decide_true, decide_false, eq_self, kVl, kT, kLs, kW, kBl, kNt, kNg, kOp2, kCp2, kSb2, kIs, kBi, kMd2, kRv, kSl3, kMk, kGv, kLc, kPr, kPo, kRt, kNxt, kExS, kStO, kAp, kSb3, gC, kSc3, kEx1, kOp, kCp, kCh1, kCh, kSb, kMd, kSl2, kSl, kCl, kTe2, kTn, turnC, kCm, kCns, kCnp, kCno, kSeqS, kStT, kPrS, kTb, turnS, kFo, kS2, kC2, kEn, kZp2, kZp, dT, dT.dTs, setR, disown, wipeR, scalar, kFc2, kFc, kFs, seqD, kCk, kCk2, kIn2, kIn3, Nat.reduceAdd, Nat.reduceSub, Nat.reduceLT, Nat.reduceLeDiff, ite_true, ite_false, if_true, if_false, reduceCtorEq, List.append_nil, List.cons_append, List.getElem?_cons_succ, List.getElem?_cons_zero, List.length_cons, List.length_nil, List.map_cons, List.map_nil, List.nil_append, List.replicate_succ, List.replicate_zero, List.reverse_cons, List.reverse_nil, List.set_cons_succ, List.set_cons_zero, f_36_s0, f_36_s1, f_36_s2, sne, inE, pl0, mo0, bitOf, sortOf, ansA, addT, addB, wrD, outM, lotD_n, lotD_o, lotD_w, lotNext, Int.reduceSub, Int.reduceNeg, Int.reduceEq, Int.add_zero, ite_self, mx, sz1_s, decide_true, decide_false, h1, h5, h6]
        · have h6 : (1 : Int) = r := by omega
          subst h6
          by_cases h2 : b0 + b1 < q
          · cases d <;> simp only [dnx, e_lend, disowns, sz1_s, decide_true, decide_false, eq_self, kVl, kT, kLs, kW, kBl, kNt, kNg, kOp2, kCp2, kSb2, kIs, kBi, kMd2, kRv, kSl3, kMk, kGv, kLc, kPr, kPo, kRt, kNxt, kExS, kStO, kAp, kSb3, gC, kSc3, kEx1, kOp, kCp, kCh1, kCh, kSb, kMd, kSl2, kSl, kCl, kTe2, kTn, turnC, kCm, kCns, kCnp, kCno, kSeqS, kStT, kPrS, kTb, turnS, kFo, kS2, kC2, kEn, kZp2, kZp, dT, dT.dTs, setR, disown, wipeR, scalar, kFc2, kFc, kFs, seqD, kCk, kCk2, kIn2, kIn3, Nat.reduceAdd, Nat.reduceSub, Nat.reduceLT, Nat.reduceLeDiff, ite_true, ite_false, if_true, if_false, reduceCtorEq, List.append_nil, List.cons_append, List.getElem?_cons_succ, List.getElem?_cons_zero, List.length_cons, List.length_nil, List.map_cons, List.map_nil, List.nil_append, List.replicate_succ, List.replicate_zero, List.reverse_cons, List.reverse_nil, List.set_cons_succ, List.set_cons_zero, f_36_s0, f_36_s1, f_36_s2, sne, inE, pl0, mo0, bitOf, sortOf, ansA, addT, addB, wrD, outM, lotD_n, lotD_o, lotD_w, lotNext, Int.reduceSub, Int.reduceNeg, Int.reduceEq, Int.add_zero, ite_self, mx, sz1_s, decide_true, decide_false, cB, h1, h2, Int.lt_irrefl]
          · cases d <;> simp only [dnx, e_lend, disowns, sz1_s, decide_true, decide_false, eq_self, kVl, kT, kLs, kW, kBl, kNt, kNg, kOp2, kCp2, kSb2, kIs, kBi, kMd2, kRv, kSl3, kMk, kGv, kLc, kPr, kPo, kRt, kNxt, kExS, kStO, kAp, kSb3, gC, kSc3, kEx1, kOp, kCp, kCh1, kCh, kSb, kMd, kSl2, kSl, kCl, kTe2, kTn, turnC, kCm, kCns, kCnp, kCno, kSeqS, kStT, kPrS, kTb, turnS, kFo, kS2, kC2, kEn, kZp2, kZp, dT, dT.dTs, setR, disown, wipeR, scalar, kFc2, kFc, kFs, seqD, kCk, kCk2, kIn2, kIn3, Nat.reduceAdd, Nat.reduceSub, Nat.reduceLT, Nat.reduceLeDiff, ite_true, ite_false, if_true, if_false, reduceCtorEq, List.append_nil, List.cons_append, List.getElem?_cons_succ, List.getElem?_cons_zero, List.length_cons, List.length_nil, List.map_cons, List.map_nil, List.nil_append, List.replicate_succ, List.replicate_zero, List.reverse_cons, List.reverse_nil, List.set_cons_succ, List.set_cons_zero, f_36_s0, f_36_s1, f_36_s2, sne, inE, pl0, mo0, bitOf, sortOf, ansA, addT, addB, wrD, outM, lotD_n, lotD_o, lotD_w, lotNext, Int.reduceSub, Int.reduceNeg, Int.reduceEq, Int.add_zero, ite_self, mx, sz1_s, decide_true, decide_false, cB, h1, h2, Int.lt_irrefl]
      · have hn : n + 1 ≤ r := by simpa only [lotNext, if_pos, if_neg, reduceCtorEq, if_true, if_false] using hn0
        by_cases h5 : n + 1 < r
        · have h6 : ¬ n + 1 = r := by omega
          simp only [dnx, e_lend, disowns, sz1_s, decide_true, decide_false, eq_self, kVl, kT, kLs, kW, kBl, kNt, kNg, kOp2, kCp2, kSb2, kIs, kBi, kMd2, kRv, kSl3, kMk, kGv, kLc, kPr, kPo, kRt, kNxt, kExS, kStO, kAp, kSb3, gC, kSc3, kEx1, kOp, kCp, kCh1, kCh, kSb, kMd, kSl2, kSl, kCl, kTe2, kTn, turnC, kCm, kCns, kCnp, kCno, kSeqS, kStT, kPrS, kTb, turnS, kFo, kS2, kC2, kEn, kZp2, kZp, dT, dT.dTs, setR, disown, wipeR, scalar, kFc2, kFc, kFs, seqD, kCk, kCk2, kIn2, kIn3, Nat.reduceAdd, Nat.reduceSub, Nat.reduceLT, Nat.reduceLeDiff, ite_true, ite_false, if_true, if_false, reduceCtorEq, List.append_nil, List.cons_append, List.getElem?_cons_succ, List.getElem?_cons_zero, List.length_cons, List.length_nil, List.map_cons, List.map_nil, List.nil_append, List.replicate_succ, List.replicate_zero, List.reverse_cons, List.reverse_nil, List.set_cons_succ, List.set_cons_zero, f_36_s0, f_36_s1, f_36_s2, sne, inE, pl0, mo0, bitOf, sortOf, ansA, addT, addB, wrD, outM, lotD_n, lotD_o, lotD_w, lotNext, Int.reduceSub, Int.reduceNeg, Int.reduceEq, Int.add_zero, ite_self, mx, sz1_s, decide_true, decide_false, h1, h5, h6]
        · have h6 : n + 1 = r := by omega
          subst h6
          by_cases h2 : b0 + b1 < q
          · cases d <;> simp only [dnx, e_lend, disowns, sz1_s, decide_true, decide_false, eq_self, kVl, kT, kLs, kW, kBl, kNt, kNg, kOp2, kCp2, kSb2, kIs, kBi, kMd2, kRv, kSl3, kMk, kGv, kLc, kPr, kPo, kRt, kNxt, kExS, kStO, kAp, kSb3, gC, kSc3, kEx1, kOp, kCp, kCh1, kCh, kSb, kMd, kSl2, kSl, kCl, kTe2, kTn, turnC, kCm, kCns, kCnp, kCno, kSeqS, kStT, kPrS, kTb, turnS, kFo, kS2, kC2, kEn, kZp2, kZp, dT, dT.dTs, setR, disown, wipeR, scalar, kFc2, kFc, kFs, seqD, kCk, kCk2, kIn2, kIn3, Nat.reduceAdd, Nat.reduceSub, Nat.reduceLT, Nat.reduceLeDiff, ite_true, ite_false, if_true, if_false, reduceCtorEq, List.append_nil, List.cons_append, List.getElem?_cons_succ, List.getElem?_cons_zero, List.length_cons, List.length_nil, List.map_cons, List.map_nil, List.nil_append, List.replicate_succ, List.replicate_zero, List.reverse_cons, List.reverse_nil, List.set_cons_succ, List.set_cons_zero, f_36_s0, f_36_s1, f_36_s2, sne, inE, pl0, mo0, bitOf, sortOf, ansA, addT, addB, wrD, outM, lotD_n, lotD_o, lotD_w, lotNext, Int.reduceSub, Int.reduceNeg, Int.reduceEq, Int.add_zero, ite_self, mx, sz1_s, decide_true, decide_false, cB, h1, h2, Int.lt_irrefl]
          · cases d <;> simp only [dnx, e_lend, disowns, sz1_s, decide_true, decide_false, eq_self, kVl, kT, kLs, kW, kBl, kNt, kNg, kOp2, kCp2, kSb2, kIs, kBi, kMd2, kRv, kSl3, kMk, kGv, kLc, kPr, kPo, kRt, kNxt, kExS, kStO, kAp, kSb3, gC, kSc3, kEx1, kOp, kCp, kCh1, kCh, kSb, kMd, kSl2, kSl, kCl, kTe2, kTn, turnC, kCm, kCns, kCnp, kCno, kSeqS, kStT, kPrS, kTb, turnS, kFo, kS2, kC2, kEn, kZp2, kZp, dT, dT.dTs, setR, disown, wipeR, scalar, kFc2, kFc, kFs, seqD, kCk, kCk2, kIn2, kIn3, Nat.reduceAdd, Nat.reduceSub, Nat.reduceLT, Nat.reduceLeDiff, ite_true, ite_false, if_true, if_false, reduceCtorEq, List.append_nil, List.cons_append, List.getElem?_cons_succ, List.getElem?_cons_zero, List.length_cons, List.length_nil, List.map_cons, List.map_nil, List.nil_append, List.replicate_succ, List.replicate_zero, List.reverse_cons, List.reverse_nil, List.set_cons_succ, List.set_cons_zero, f_36_s0, f_36_s1, f_36_s2, sne, inE, pl0, mo0, bitOf, sortOf, ansA, addT, addB, wrD, outM, lotD_n, lotD_o, lotD_w, lotNext, Int.reduceSub, Int.reduceNeg, Int.reduceEq, Int.add_zero, ite_self, mx, sz1_s, decide_true, decide_false, cB, h1, h2, Int.lt_irrefl]
  · have cB := fun v => moB k b0 b1 v 0 (.inl rfl) μ
    unfold bringM
    by_cases h1 : 0 = rb
    · subst h1
      by_cases h2 : b0 + b1 < q
      · simp only [dnx, e_lend, disowns, sz1_s, decide_true, decide_false, eq_self, kVl, kT, kLs, kW, kBl, kNt, kNg, kOp2, kCp2, kSb2, kIs, kBi, kMd2, kRv, kSl3, kMk, kGv, kLc, kPr, kPo, kRt, kNxt, kExS, kStO, kAp, kSb3, gC, kSc3, kEx1, kOp, kCp, kCh1, kCh, kSb, kMd, kSl2, kSl, kCl, kTe2, kTn, turnC, kCm, kCns, kCnp, kCno, kSeqS, kStT, kPrS, kTb, turnS, kFo, kS2, kC2, kEn, kZp2, kZp, dT, dT.dTs, setR, disown, wipeR, scalar, kFc2, kFc, kFs, seqD, kCk, kCk2, kIn2, kIn3, Nat.reduceAdd, Nat.reduceSub, Nat.reduceLT, Nat.reduceLeDiff, ite_true, ite_false, if_true, if_false, reduceCtorEq, List.append_nil, List.cons_append, List.getElem?_cons_succ, List.getElem?_cons_zero, List.length_cons, List.length_nil, List.map_cons, List.map_nil, List.nil_append, List.replicate_succ, List.replicate_zero, List.reverse_cons, List.reverse_nil, List.set_cons_succ, List.set_cons_zero, f_36_s0, f_36_s1, f_36_s2, sne, inE, pl1, mo1, bitOf, sortOf, ansA, addT, addB, wrD, outM, lotD_n, lotD_o, lotD_w, lotNext, Int.reduceSub, Int.reduceNeg, Int.reduceEq, Int.add_zero, ite_self, mx, sz1_s, decide_true, decide_false, cB, h2]
      · simp only [dnx, e_lend, disowns, sz1_s, decide_true, decide_false, eq_self, kVl, kT, kLs, kW, kBl, kNt, kNg, kOp2, kCp2, kSb2, kIs, kBi, kMd2, kRv, kSl3, kMk, kGv, kLc, kPr, kPo, kRt, kNxt, kExS, kStO, kAp, kSb3, gC, kSc3, kEx1, kOp, kCp, kCh1, kCh, kSb, kMd, kSl2, kSl, kCl, kTe2, kTn, turnC, kCm, kCns, kCnp, kCno, kSeqS, kStT, kPrS, kTb, turnS, kFo, kS2, kC2, kEn, kZp2, kZp, dT, dT.dTs, setR, disown, wipeR, scalar, kFc2, kFc, kFs, seqD, kCk, kCk2, kIn2, kIn3, Nat.reduceAdd, Nat.reduceSub, Nat.reduceLT, Nat.reduceLeDiff, ite_true, ite_false, if_true, if_false, reduceCtorEq, List.append_nil, List.cons_append, List.getElem?_cons_succ, List.getElem?_cons_zero, List.length_cons, List.length_nil, List.map_cons, List.map_nil, List.nil_append, List.replicate_succ, List.replicate_zero, List.reverse_cons, List.reverse_nil, List.set_cons_succ, List.set_cons_zero, f_36_s0, f_36_s1, f_36_s2, sne, inE, pl1, mo1, bitOf, sortOf, ansA, addT, addB, wrD, outM, lotD_n, lotD_o, lotD_w, lotNext, Int.reduceSub, Int.reduceNeg, Int.reduceEq, Int.add_zero, ite_self, mx, sz1_s, decide_true, decide_false, cB, h2]
    · rcases l with _ | ⟨_ | _, n⟩
      · have hn : (1 : Int) ≤ r := by simpa only [lotNext, if_pos, if_neg, reduceCtorEq, if_true, if_false] using hn1
        by_cases h5 : (1 : Int) < r
        · have h6 : ¬ (1 : Int) = r := by omega
          simp only [dnx, e_lend, disowns, sz1_s, decide_true, decide_false, eq_self, kVl, kT, kLs, kW, kBl, kNt, kNg, kOp2, kCp2, kSb2, kIs, kBi, kMd2, kRv, kSl3, kMk, kGv, kLc, kPr, kPo, kRt, kNxt, kExS, kStO, kAp, kSb3, gC, kSc3, kEx1, kOp, kCp, kCh1, kCh, kSb, kMd, kSl2, kSl, kCl, kTe2, kTn, turnC, kCm, kCns, kCnp, kCno, kSeqS, kStT, kPrS, kTb, turnS, kFo, kS2, kC2, kEn, kZp2, kZp, dT, dT.dTs, setR, disown, wipeR, scalar, kFc2, kFc, kFs, seqD, kCk, kCk2, kIn2, kIn3, Nat.reduceAdd, Nat.reduceSub, Nat.reduceLT, Nat.reduceLeDiff, ite_true, ite_false, if_true, if_false, reduceCtorEq, List.append_nil, List.cons_append, List.getElem?_cons_succ, List.getElem?_cons_zero, List.length_cons, List.length_nil, List.map_cons, List.map_nil, List.nil_append, List.replicate_succ, List.replicate_zero, List.reverse_cons, List.reverse_nil, List.set_cons_succ, List.set_cons_zero, f_36_s0, f_36_s1, f_36_s2, sne, inE, pl1, mo1, bitOf, sortOf, ansA, addT, addB, wrD, outM, lotD_n, lotD_o, lotD_w, lotNext, Int.reduceSub, Int.reduceNeg, Int.reduceEq, Int.add_zero, ite_self, mx, sz1_s, decide_true, decide_false, h1, h5, h6]
        · have h6 : (1 : Int) = r := by omega
          subst h6
          by_cases h2 : b0 + b1 < q
          · cases d <;> simp only [dnx, e_lend, disowns, sz1_s, decide_true, decide_false, eq_self, kVl, kT, kLs, kW, kBl, kNt, kNg, kOp2, kCp2, kSb2, kIs, kBi, kMd2, kRv, kSl3, kMk, kGv, kLc, kPr, kPo, kRt, kNxt, kExS, kStO, kAp, kSb3, gC, kSc3, kEx1, kOp, kCp, kCh1, kCh, kSb, kMd, kSl2, kSl, kCl, kTe2, kTn, turnC, kCm, kCns, kCnp, kCno, kSeqS, kStT, kPrS, kTb, turnS, kFo, kS2, kC2, kEn, kZp2, kZp, dT, dT.dTs, setR, disown, wipeR, scalar, kFc2, kFc, kFs, seqD, kCk, kCk2, kIn2, kIn3, Nat.reduceAdd, Nat.reduceSub, Nat.reduceLT, Nat.reduceLeDiff, ite_true, ite_false, if_true, if_false, reduceCtorEq, List.append_nil, List.cons_append, List.getElem?_cons_succ, List.getElem?_cons_zero, List.length_cons, List.length_nil, List.map_cons, List.map_nil, List.nil_append, List.replicate_succ, List.replicate_zero, List.reverse_cons, List.reverse_nil, List.set_cons_succ, List.set_cons_zero, f_36_s0, f_36_s1, f_36_s2, sne, inE, pl1, mo1, bitOf, sortOf, ansA, addT, addB, wrD, outM, lotD_n, lotD_o, lotD_w, lotNext, Int.reduceSub, Int.reduceNeg, Int.reduceEq, Int.add_zero, ite_self, mx, sz1_s, decide_true, decide_false, cB, h1, h2, Int.lt_irrefl]
          · cases d <;> simp only [dnx, e_lend, disowns, sz1_s, decide_true, decide_false, eq_self, kVl, kT, kLs, kW, kBl, kNt, kNg, kOp2, kCp2, kSb2, kIs, kBi, kMd2, kRv, kSl3, kMk, kGv, kLc, kPr, kPo, kRt, kNxt, kExS, kStO, kAp, kSb3, gC, kSc3, kEx1, kOp, kCp, kCh1, kCh, kSb, kMd, kSl2, kSl, kCl, kTe2, kTn, turnC, kCm, kCns, kCnp, kCno, kSeqS, kStT, kPrS, kTb, turnS, kFo, kS2, kC2, kEn, kZp2, kZp, dT, dT.dTs, setR, disown, wipeR, scalar, kFc2, kFc, kFs, seqD, kCk, kCk2, kIn2, kIn3, Nat.reduceAdd, Nat.reduceSub, Nat.reduceLT, Nat.reduceLeDiff, ite_true, ite_false, if_true, if_false, reduceCtorEq, List.append_nil, List.cons_append, List.getElem?_cons_succ, List.getElem?_cons_zero, List.length_cons, List.length_nil, List.map_cons, List.map_nil, List.nil_append, List.replicate_succ, List.replicate_zero, List.reverse_cons, List.reverse_nil, List.set_cons_succ, List.set_cons_zero, f_36_s0, f_36_s1, f_36_s2, sne, inE, pl1, mo1, bitOf, sortOf, ansA, addT, addB, wrD, outM, lotD_n, lotD_o, lotD_w, lotNext, Int.reduceSub, Int.reduceNeg, Int.reduceEq, Int.add_zero, ite_self, mx, sz1_s, decide_true, decide_false, cB, h1, h2, Int.lt_irrefl]
      · have hn : n + 1 ≤ r := by simpa only [lotNext, if_pos, if_neg, reduceCtorEq, if_true, if_false] using hn1
        by_cases h5 : n + 1 < r
        · have h6 : ¬ n + 1 = r := by omega
          simp only [dnx, e_lend, disowns, sz1_s, decide_true, decide_false, eq_self, kVl, kT, kLs, kW, kBl, kNt, kNg, kOp2, kCp2, kSb2, kIs, kBi, kMd2, kRv, kSl3, kMk, kGv, kLc, kPr, kPo, kRt, kNxt, kExS, kStO, kAp, kSb3, gC, kSc3, kEx1, kOp, kCp, kCh1, kCh, kSb, kMd, kSl2, kSl, kCl, kTe2, kTn, turnC, kCm, kCns, kCnp, kCno, kSeqS, kStT, kPrS, kTb, turnS, kFo, kS2, kC2, kEn, kZp2, kZp, dT, dT.dTs, setR, disown, wipeR, scalar, kFc2, kFc, kFs, seqD, kCk, kCk2, kIn2, kIn3, Nat.reduceAdd, Nat.reduceSub, Nat.reduceLT, Nat.reduceLeDiff, ite_true, ite_false, if_true, if_false, reduceCtorEq, List.append_nil, List.cons_append, List.getElem?_cons_succ, List.getElem?_cons_zero, List.length_cons, List.length_nil, List.map_cons, List.map_nil, List.nil_append, List.replicate_succ, List.replicate_zero, List.reverse_cons, List.reverse_nil, List.set_cons_succ, List.set_cons_zero, f_36_s0, f_36_s1, f_36_s2, sne, inE, pl1, mo1, bitOf, sortOf, ansA, addT, addB, wrD, outM, lotD_n, lotD_o, lotD_w, lotNext, Int.reduceSub, Int.reduceNeg, Int.reduceEq, Int.add_zero, ite_self, mx, sz1_s, decide_true, decide_false, h1, h5, h6]
        · have h6 : n + 1 = r := by omega
          subst h6
          by_cases h2 : b0 + b1 < q
          · cases d <;> simp only [dnx, e_lend, disowns, sz1_s, decide_true, decide_false, eq_self, kVl, kT, kLs, kW, kBl, kNt, kNg, kOp2, kCp2, kSb2, kIs, kBi, kMd2, kRv, kSl3, kMk, kGv, kLc, kPr, kPo, kRt, kNxt, kExS, kStO, kAp, kSb3, gC, kSc3, kEx1, kOp, kCp, kCh1, kCh, kSb, kMd, kSl2, kSl, kCl, kTe2, kTn, turnC, kCm, kCns, kCnp, kCno, kSeqS, kStT, kPrS, kTb, turnS, kFo, kS2, kC2, kEn, kZp2, kZp, dT, dT.dTs, setR, disown, wipeR, scalar, kFc2, kFc, kFs, seqD, kCk, kCk2, kIn2, kIn3, Nat.reduceAdd, Nat.reduceSub, Nat.reduceLT, Nat.reduceLeDiff, ite_true, ite_false, if_true, if_false, reduceCtorEq, List.append_nil, List.cons_append, List.getElem?_cons_succ, List.getElem?_cons_zero, List.length_cons, List.length_nil, List.map_cons, List.map_nil, List.nil_append, List.replicate_succ, List.replicate_zero, List.reverse_cons, List.reverse_nil, List.set_cons_succ, List.set_cons_zero, f_36_s0, f_36_s1, f_36_s2, sne, inE, pl1, mo1, bitOf, sortOf, ansA, addT, addB, wrD, outM, lotD_n, lotD_o, lotD_w, lotNext, Int.reduceSub, Int.reduceNeg, Int.reduceEq, Int.add_zero, ite_self, mx, sz1_s, decide_true, decide_false, cB, h1, h2, Int.lt_irrefl]
          · cases d <;> simp only [dnx, e_lend, disowns, sz1_s, decide_true, decide_false, eq_self, kVl, kT, kLs, kW, kBl, kNt, kNg, kOp2, kCp2, kSb2, kIs, kBi, kMd2, kRv, kSl3, kMk, kGv, kLc, kPr, kPo, kRt, kNxt, kExS, kStO, kAp, kSb3, gC, kSc3, kEx1, kOp, kCp, kCh1, kCh, kSb, kMd, kSl2, kSl, kCl, kTe2, kTn, turnC, kCm, kCns, kCnp, kCno, kSeqS, kStT, kPrS, kTb, turnS, kFo, kS2, kC2, kEn, kZp2, kZp, dT, dT.dTs, setR, disown, wipeR, scalar, kFc2, kFc, kFs, seqD, kCk, kCk2, kIn2, kIn3, Nat.reduceAdd, Nat.reduceSub, Nat.reduceLT, Nat.reduceLeDiff, ite_true, ite_false, if_true, if_false, reduceCtorEq, List.append_nil, List.cons_append, List.getElem?_cons_succ, List.getElem?_cons_zero, List.length_cons, List.length_nil, List.map_cons, List.map_nil, List.nil_append, List.replicate_succ, List.replicate_zero, List.reverse_cons, List.reverse_nil, List.set_cons_succ, List.set_cons_zero, f_36_s0, f_36_s1, f_36_s2, sne, inE, pl1, mo1, bitOf, sortOf, ansA, addT, addB, wrD, outM, lotD_n, lotD_o, lotD_w, lotNext, Int.reduceSub, Int.reduceNeg, Int.reduceEq, Int.add_zero, ite_self, mx, sz1_s, decide_true, decide_false, cB, h1, h2, Int.lt_irrefl]
      · have hn : (1 : Int) ≤ r := by simpa only [lotNext, if_pos, if_neg, reduceCtorEq, if_true, if_false] using hn1
        by_cases h5 : (1 : Int) < r
        · have h6 : ¬ (1 : Int) = r := by omega
          simp only [dnx, e_lend, disowns, sz1_s, decide_true, decide_false, eq_self, kVl, kT, kLs, kW, kBl, kNt, kNg, kOp2, kCp2, kSb2, kIs, kBi, kMd2, kRv, kSl3, kMk, kGv, kLc, kPr, kPo, kRt, kNxt, kExS, kStO, kAp, kSb3, gC, kSc3, kEx1, kOp, kCp, kCh1, kCh, kSb, kMd, kSl2, kSl, kCl, kTe2, kTn, turnC, kCm, kCns, kCnp, kCno, kSeqS, kStT, kPrS, kTb, turnS, kFo, kS2, kC2, kEn, kZp2, kZp, dT, dT.dTs, setR, disown, wipeR, scalar, kFc2, kFc, kFs, seqD, kCk, kCk2, kIn2, kIn3, Nat.reduceAdd, Nat.reduceSub, Nat.reduceLT, Nat.reduceLeDiff, ite_true, ite_false, if_true, if_false, reduceCtorEq, List.append_nil, List.cons_append, List.getElem?_cons_succ, List.getElem?_cons_zero, List.length_cons, List.length_nil, List.map_cons, List.map_nil, List.nil_append, List.replicate_succ, List.replicate_zero, List.reverse_cons, List.reverse_nil, List.set_cons_succ, List.set_cons_zero, f_36_s0, f_36_s1, f_36_s2, sne, inE, pl1, mo1, bitOf, sortOf, ansA, addT, addB, wrD, outM, lotD_n, lotD_o, lotD_w, lotNext, Int.reduceSub, Int.reduceNeg, Int.reduceEq, Int.add_zero, ite_self, mx, sz1_s, decide_true, decide_false, h1, h5, h6]
        · have h6 : (1 : Int) = r := by omega
          subst h6
          by_cases h2 : b0 + b1 < q
          · cases d <;> simp only [dnx, e_lend, disowns, sz1_s, decide_true, decide_false, eq_self, kVl, kT, kLs, kW, kBl, kNt, kNg, kOp2, kCp2, kSb2, kIs, kBi, kMd2, kRv, kSl3, kMk, kGv, kLc, kPr, kPo, kRt, kNxt, kExS, kStO, kAp, kSb3, gC, kSc3, kEx1, kOp, kCp, kCh1, kCh, kSb, kMd, kSl2, kSl, kCl, kTe2, kTn, turnC, kCm, kCns, kCnp, kCno, kSeqS, kStT, kPrS, kTb, turnS, kFo, kS2, kC2, kEn, kZp2, kZp, dT, dT.dTs, setR, disown, wipeR, scalar, kFc2, kFc, kFs, seqD, kCk, kCk2, kIn2, kIn3, Nat.reduceAdd, Nat.reduceSub, Nat.reduceLT, Nat.reduceLeDiff, ite_true, ite_false, if_true, if_false, reduceCtorEq, List.append_nil, List.cons_append, List.getElem?_cons_succ, List.getElem?_cons_zero, List.length_cons, List.length_nil, List.map_cons, List.map_nil, List.nil_append, List.replicate_succ, List.replicate_zero, List.reverse_cons, List.reverse_nil, List.set_cons_succ, List.set_cons_zero, f_36_s0, f_36_s1, f_36_s2, sne, inE, pl1, mo1, bitOf, sortOf, ansA, addT, addB, wrD, outM, lotD_n, lotD_o, lotD_w, lotNext, Int.reduceSub, Int.reduceNeg, Int.reduceEq, Int.add_zero, ite_self, mx, sz1_s, decide_true, decide_false, cB, h1, h2, Int.lt_irrefl]
          · cases d <;> simp only [dnx, e_lend, disowns, sz1_s, decide_true, decide_false, eq_self, kVl, kT, kLs, kW, kBl, kNt, kNg, kOp2, kCp2, kSb2, kIs, kBi, kMd2, kRv, kSl3, kMk, kGv, kLc, kPr, kPo, kRt, kNxt, kExS, kStO, kAp, kSb3, gC, kSc3, kEx1, kOp, kCp, kCh1, kCh, kSb, kMd, kSl2, kSl, kCl, kTe2, kTn, turnC, kCm, kCns, kCnp, kCno, kSeqS, kStT, kPrS, kTb, turnS, kFo, kS2, kC2, kEn, kZp2, kZp, dT, dT.dTs, setR, disown, wipeR, scalar, kFc2, kFc, kFs, seqD, kCk, kCk2, kIn2, kIn3, Nat.reduceAdd, Nat.reduceSub, Nat.reduceLT, Nat.reduceLeDiff, ite_true, ite_false, if_true, if_false, reduceCtorEq, List.append_nil, List.cons_append, List.getElem?_cons_succ, List.getElem?_cons_zero, List.length_cons, List.length_nil, List.map_cons, List.map_nil, List.nil_append, List.replicate_succ, List.replicate_zero, List.reverse_cons, List.reverse_nil, List.set_cons_succ, List.set_cons_zero, f_36_s0, f_36_s1, f_36_s2, sne, inE, pl1, mo1, bitOf, sortOf, ansA, addT, addB, wrD, outM, lotD_n, lotD_o, lotD_w, lotNext, Int.reduceSub, Int.reduceNeg, Int.reduceEq, Int.add_zero, ite_self, mx, sz1_s, decide_true, decide_false, cB, h1, h2, Int.lt_irrefl]
  · have cB := fun v => moB k b0 b1 v 1 (.inr rfl) μ
    unfold bringM
    by_cases h1 : 1 = rb
    · subst h1
      by_cases h2 : b0 + b1 < q
      · simp only [dnx, e_lend, disowns, sz1_s, decide_true, decide_false, eq_self, kVl, kT, kLs, kW, kBl, kNt, kNg, kOp2, kCp2, kSb2, kIs, kBi, kMd2, kRv, kSl3, kMk, kGv, kLc, kPr, kPo, kRt, kNxt, kExS, kStO, kAp, kSb3, gC, kSc3, kEx1, kOp, kCp, kCh1, kCh, kSb, kMd, kSl2, kSl, kCl, kTe2, kTn, turnC, kCm, kCns, kCnp, kCno, kSeqS, kStT, kPrS, kTb, turnS, kFo, kS2, kC2, kEn, kZp2, kZp, dT, dT.dTs, setR, disown, wipeR, scalar, kFc2, kFc, kFs, seqD, kCk, kCk2, kIn2, kIn3, Nat.reduceAdd, Nat.reduceSub, Nat.reduceLT, Nat.reduceLeDiff, ite_true, ite_false, if_true, if_false, reduceCtorEq, List.append_nil, List.cons_append, List.getElem?_cons_succ, List.getElem?_cons_zero, List.length_cons, List.length_nil, List.map_cons, List.map_nil, List.nil_append, List.replicate_succ, List.replicate_zero, List.reverse_cons, List.reverse_nil, List.set_cons_succ, List.set_cons_zero, f_36_s0, f_36_s1, f_36_s2, sne, inE, pl2, mo2, bitOf, sortOf, ansA, addT, addB, wrD, outM, lotD_n, lotD_o, lotD_w, lotNext, Int.reduceSub, Int.reduceNeg, Int.reduceEq, Int.add_zero, ite_self, mx, sz1_s, decide_true, decide_false, cB, h2]
      · simp only [dnx, e_lend, disowns, sz1_s, decide_true, decide_false, eq_self, kVl, kT, kLs, kW, kBl, kNt, kNg, kOp2, kCp2, kSb2, kIs, kBi, kMd2, kRv, kSl3, kMk, kGv, kLc, kPr, kPo, kRt, kNxt, kExS, kStO, kAp, kSb3, gC, kSc3, kEx1, kOp, kCp, kCh1, kCh, kSb, kMd, kSl2, kSl, kCl, kTe2, kTn, turnC, kCm, kCns, kCnp, kCno, kSeqS, kStT, kPrS, kTb, turnS, kFo, kS2, kC2, kEn, kZp2, kZp, dT, dT.dTs, setR, disown, wipeR, scalar, kFc2, kFc, kFs, seqD, kCk, kCk2, kIn2, kIn3, Nat.reduceAdd, Nat.reduceSub, Nat.reduceLT, Nat.reduceLeDiff, ite_true, ite_false, if_true, if_false, reduceCtorEq, List.append_nil, List.cons_append, List.getElem?_cons_succ, List.getElem?_cons_zero, List.length_cons, List.length_nil, List.map_cons, List.map_nil, List.nil_append, List.replicate_succ, List.replicate_zero, List.reverse_cons, List.reverse_nil, List.set_cons_succ, List.set_cons_zero, f_36_s0, f_36_s1, f_36_s2, sne, inE, pl2, mo2, bitOf, sortOf, ansA, addT, addB, wrD, outM, lotD_n, lotD_o, lotD_w, lotNext, Int.reduceSub, Int.reduceNeg, Int.reduceEq, Int.add_zero, ite_self, mx, sz1_s, decide_true, decide_false, cB, h2]
    · rcases l with _ | ⟨_ | _, n⟩
      · have hn : (1 : Int) ≤ r := by simpa only [lotNext, if_pos, if_neg, reduceCtorEq, if_true, if_false] using hn1
        by_cases h5 : (1 : Int) < r
        · have h6 : ¬ (1 : Int) = r := by omega
          simp only [dnx, e_lend, disowns, sz1_s, decide_true, decide_false, eq_self, kVl, kT, kLs, kW, kBl, kNt, kNg, kOp2, kCp2, kSb2, kIs, kBi, kMd2, kRv, kSl3, kMk, kGv, kLc, kPr, kPo, kRt, kNxt, kExS, kStO, kAp, kSb3, gC, kSc3, kEx1, kOp, kCp, kCh1, kCh, kSb, kMd, kSl2, kSl, kCl, kTe2, kTn, turnC, kCm, kCns, kCnp, kCno, kSeqS, kStT, kPrS, kTb, turnS, kFo, kS2, kC2, kEn, kZp2, kZp, dT, dT.dTs, setR, disown, wipeR, scalar, kFc2, kFc, kFs, seqD, kCk, kCk2, kIn2, kIn3, Nat.reduceAdd, Nat.reduceSub, Nat.reduceLT, Nat.reduceLeDiff, ite_true, ite_false, if_true, if_false, reduceCtorEq, List.append_nil, List.cons_append, List.getElem?_cons_succ, List.getElem?_cons_zero, List.length_cons, List.length_nil, List.map_cons, List.map_nil, List.nil_append, List.replicate_succ, List.replicate_zero, List.reverse_cons, List.reverse_nil, List.set_cons_succ, List.set_cons_zero, f_36_s0, f_36_s1, f_36_s2, sne, inE, pl2, mo2, bitOf, sortOf, ansA, addT, addB, wrD, outM, lotD_n, lotD_o, lotD_w, lotNext, Int.reduceSub, Int.reduceNeg, Int.reduceEq, Int.add_zero, ite_self, mx, sz1_s, decide_true, decide_false, h1, h5, h6]
        · have h6 : (1 : Int) = r := by omega
          subst h6
          by_cases h2 : b0 + b1 < q
          · cases d <;> simp only [dnx, e_lend, disowns, sz1_s, decide_true, decide_false, eq_self, kVl, kT, kLs, kW, kBl, kNt, kNg, kOp2, kCp2, kSb2, kIs, kBi, kMd2, kRv, kSl3, kMk, kGv, kLc, kPr, kPo, kRt, kNxt, kExS, kStO, kAp, kSb3, gC, kSc3, kEx1, kOp, kCp, kCh1, kCh, kSb, kMd, kSl2, kSl, kCl, kTe2, kTn, turnC, kCm, kCns, kCnp, kCno, kSeqS, kStT, kPrS, kTb, turnS, kFo, kS2, kC2, kEn, kZp2, kZp, dT, dT.dTs, setR, disown, wipeR, scalar, kFc2, kFc, kFs, seqD, kCk, kCk2, kIn2, kIn3, Nat.reduceAdd, Nat.reduceSub, Nat.reduceLT, Nat.reduceLeDiff, ite_true, ite_false, if_true, if_false, reduceCtorEq, List.append_nil, List.cons_append, List.getElem?_cons_succ, List.getElem?_cons_zero, List.length_cons, List.length_nil, List.map_cons, List.map_nil, List.nil_append, List.replicate_succ, List.replicate_zero, List.reverse_cons, List.reverse_nil, List.set_cons_succ, List.set_cons_zero, f_36_s0, f_36_s1, f_36_s2, sne, inE, pl2, mo2, bitOf, sortOf, ansA, addT, addB, wrD, outM, lotD_n, lotD_o, lotD_w, lotNext, Int.reduceSub, Int.reduceNeg, Int.reduceEq, Int.add_zero, ite_self, mx, sz1_s, decide_true, decide_false, cB, h1, h2, Int.lt_irrefl]
          · cases d <;> simp only [dnx, e_lend, disowns, sz1_s, decide_true, decide_false, eq_self, kVl, kT, kLs, kW, kBl, kNt, kNg, kOp2, kCp2, kSb2, kIs, kBi, kMd2, kRv, kSl3, kMk, kGv, kLc, kPr, kPo, kRt, kNxt, kExS, kStO, kAp, kSb3, gC, kSc3, kEx1, kOp, kCp, kCh1, kCh, kSb, kMd, kSl2, kSl, kCl, kTe2, kTn, turnC, kCm, kCns, kCnp, kCno, kSeqS, kStT, kPrS, kTb, turnS, kFo, kS2, kC2, kEn, kZp2, kZp, dT, dT.dTs, setR, disown, wipeR, scalar, kFc2, kFc, kFs, seqD, kCk, kCk2, kIn2, kIn3, Nat.reduceAdd, Nat.reduceSub, Nat.reduceLT, Nat.reduceLeDiff, ite_true, ite_false, if_true, if_false, reduceCtorEq, List.append_nil, List.cons_append, List.getElem?_cons_succ, List.getElem?_cons_zero, List.length_cons, List.length_nil, List.map_cons, List.map_nil, List.nil_append, List.replicate_succ, List.replicate_zero, List.reverse_cons, List.reverse_nil, List.set_cons_succ, List.set_cons_zero, f_36_s0, f_36_s1, f_36_s2, sne, inE, pl2, mo2, bitOf, sortOf, ansA, addT, addB, wrD, outM, lotD_n, lotD_o, lotD_w, lotNext, Int.reduceSub, Int.reduceNeg, Int.reduceEq, Int.add_zero, ite_self, mx, sz1_s, decide_true, decide_false, cB, h1, h2, Int.lt_irrefl]
      · have hn : n + 1 ≤ r := by simpa only [lotNext, if_pos, if_neg, reduceCtorEq, if_true, if_false] using hn1
        by_cases h5 : n + 1 < r
        · have h6 : ¬ n + 1 = r := by omega
          simp only [dnx, e_lend, disowns, sz1_s, decide_true, decide_false, eq_self, kVl, kT, kLs, kW, kBl, kNt, kNg, kOp2, kCp2, kSb2, kIs, kBi, kMd2, kRv, kSl3, kMk, kGv, kLc, kPr, kPo, kRt, kNxt, kExS, kStO, kAp, kSb3, gC, kSc3, kEx1, kOp, kCp, kCh1, kCh, kSb, kMd, kSl2, kSl, kCl, kTe2, kTn, turnC, kCm, kCns, kCnp, kCno, kSeqS, kStT, kPrS, kTb, turnS, kFo, kS2, kC2, kEn, kZp2, kZp, dT, dT.dTs, setR, disown, wipeR, scalar, kFc2, kFc, kFs, seqD, kCk, kCk2, kIn2, kIn3, Nat.reduceAdd, Nat.reduceSub, Nat.reduceLT, Nat.reduceLeDiff, ite_true, ite_false, if_true, if_false, reduceCtorEq, List.append_nil, List.cons_append, List.getElem?_cons_succ, List.getElem?_cons_zero, List.length_cons, List.length_nil, List.map_cons, List.map_nil, List.nil_append, List.replicate_succ, List.replicate_zero, List.reverse_cons, List.reverse_nil, List.set_cons_succ, List.set_cons_zero, f_36_s0, f_36_s1, f_36_s2, sne, inE, pl2, mo2, bitOf, sortOf, ansA, addT, addB, wrD, outM, lotD_n, lotD_o, lotD_w, lotNext, Int.reduceSub, Int.reduceNeg, Int.reduceEq, Int.add_zero, ite_self, mx, sz1_s, decide_true, decide_false, h1, h5, h6]
        · have h6 : n + 1 = r := by omega
          subst h6
          by_cases h2 : b0 + b1 < q
          · cases d <;> simp only [dnx, e_lend, disowns, sz1_s, decide_true, decide_false, eq_self, kVl, kT, kLs, kW, kBl, kNt, kNg, kOp2, kCp2, kSb2, kIs, kBi, kMd2, kRv, kSl3, kMk, kGv, kLc, kPr, kPo, kRt, kNxt, kExS, kStO, kAp, kSb3, gC, kSc3, kEx1, kOp, kCp, kCh1, kCh, kSb, kMd, kSl2, kSl, kCl, kTe2, kTn, turnC, kCm, kCns, kCnp, kCno, kSeqS, kStT, kPrS, kTb, turnS, kFo, kS2, kC2, kEn, kZp2, kZp, dT, dT.dTs, setR, disown, wipeR, scalar, kFc2, kFc, kFs, seqD, kCk, kCk2, kIn2, kIn3, Nat.reduceAdd, Nat.reduceSub, Nat.reduceLT, Nat.reduceLeDiff, ite_true, ite_false, if_true, if_false, reduceCtorEq, List.append_nil, List.cons_append, List.getElem?_cons_succ, List.getElem?_cons_zero, List.length_cons, List.length_nil, List.map_cons, List.map_nil, List.nil_append, List.replicate_succ, List.replicate_zero, List.reverse_cons, List.reverse_nil, List.set_cons_succ, List.set_cons_zero, f_36_s0, f_36_s1, f_36_s2, sne, inE, pl2, mo2, bitOf, sortOf, ansA, addT, addB, wrD, outM, lotD_n, lotD_o, lotD_w, lotNext, Int.reduceSub, Int.reduceNeg, Int.reduceEq, Int.add_zero, ite_self, mx, sz1_s, decide_true, decide_false, cB, h1, h2, Int.lt_irrefl]
          · cases d <;> simp only [dnx, e_lend, disowns, sz1_s, decide_true, decide_false, eq_self, kVl, kT, kLs, kW, kBl, kNt, kNg, kOp2, kCp2, kSb2, kIs, kBi, kMd2, kRv, kSl3, kMk, kGv, kLc, kPr, kPo, kRt, kNxt, kExS, kStO, kAp, kSb3, gC, kSc3, kEx1, kOp, kCp, kCh1, kCh, kSb, kMd, kSl2, kSl, kCl, kTe2, kTn, turnC, kCm, kCns, kCnp, kCno, kSeqS, kStT, kPrS, kTb, turnS, kFo, kS2, kC2, kEn, kZp2, kZp, dT, dT.dTs, setR, disown, wipeR, scalar, kFc2, kFc, kFs, seqD, kCk, kCk2, kIn2, kIn3, Nat.reduceAdd, Nat.reduceSub, Nat.reduceLT, Nat.reduceLeDiff, ite_true, ite_false, if_true, if_false, reduceCtorEq, List.append_nil, List.cons_append, List.getElem?_cons_succ, List.getElem?_cons_zero, List.length_cons, List.length_nil, List.map_cons, List.map_nil, List.nil_append, List.replicate_succ, List.replicate_zero, List.reverse_cons, List.reverse_nil, List.set_cons_succ, List.set_cons_zero, f_36_s0, f_36_s1, f_36_s2, sne, inE, pl2, mo2, bitOf, sortOf, ansA, addT, addB, wrD, outM, lotD_n, lotD_o, lotD_w, lotNext, Int.reduceSub, Int.reduceNeg, Int.reduceEq, Int.add_zero, ite_self, mx, sz1_s, decide_true, decide_false, cB, h1, h2, Int.lt_irrefl]
      · have hn : (1 : Int) ≤ r := by simpa only [lotNext, if_pos, if_neg, reduceCtorEq, if_true, if_false] using hn1
        by_cases h5 : (1 : Int) < r
        · have h6 : ¬ (1 : Int) = r := by omega
          simp only [dnx, e_lend, disowns, sz1_s, decide_true, decide_false, eq_self, kVl, kT, kLs, kW, kBl, kNt, kNg, kOp2, kCp2, kSb2, kIs, kBi, kMd2, kRv, kSl3, kMk, kGv, kLc, kPr, kPo, kRt, kNxt, kExS, kStO, kAp, kSb3, gC, kSc3, kEx1, kOp, kCp, kCh1, kCh, kSb, kMd, kSl2, kSl, kCl, kTe2, kTn, turnC, kCm, kCns, kCnp, kCno, kSeqS, kStT, kPrS, kTb, turnS, kFo, kS2, kC2, kEn, kZp2, kZp, dT, dT.dTs, setR, disown, wipeR, scalar, kFc2, kFc, kFs, seqD, kCk, kCk2, kIn2, kIn3, Nat.reduceAdd, Nat.reduceSub, Nat.reduceLT, Nat.reduceLeDiff, ite_true, ite_false, if_true, if_false, reduceCtorEq, List.append_nil, List.cons_append, List.getElem?_cons_succ, List.getElem?_cons_zero, List.length_cons, List.length_nil, List.map_cons, List.map_nil, List.nil_append, List.replicate_succ, List.replicate_zero, List.reverse_cons, List.reverse_nil, List.set_cons_succ, List.set_cons_zero, f_36_s0, f_36_s1, f_36_s2, sne, inE, pl2, mo2, bitOf, sortOf, ansA, addT, addB, wrD, outM, lotD_n, lotD_o, lotD_w, lotNext, Int.reduceSub, Int.reduceNeg, Int.reduceEq, Int.add_zero, ite_self, mx, sz1_s, decide_true, decide_false, h1, h5, h6]
        · have h6 : (1 : Int) = r := by omega
          subst h6
          by_cases h2 : b0 + b1 < q
          · cases d <;> simp only [dnx, e_lend, disowns, sz1_s, decide_true, decide_false, eq_self, kVl, kT, kLs, kW, kBl, kNt, kNg, kOp2, kCp2, kSb2, kIs, kBi, kMd2, kRv, kSl3, kMk, kGv, kLc, kPr, kPo, kRt, kNxt, kExS, kStO, kAp, kSb3, gC, kSc3, kEx1, kOp, kCp, kCh1, kCh, kSb, kMd, kSl2, kSl, kCl, kTe2, kTn, turnC, kCm, kCns, kCnp, kCno, kSeqS, kStT, kPrS, kTb, turnS, kFo, kS2, kC2, kEn, kZp2, kZp, dT, dT.dTs, setR, disown, wipeR, scalar, kFc2, kFc, kFs, seqD, kCk, kCk2, kIn2, kIn3, Nat.reduceAdd, Nat.reduceSub, Nat.reduceLT, Nat.reduceLeDiff, ite_true, ite_false, if_true, if_false, reduceCtorEq, List.append_nil, List.cons_append, List.getElem?_cons_succ, List.getElem?_cons_zero, List.length_cons, List.length_nil, List.map_cons, List.map_nil, List.nil_append, List.replicate_succ, List.replicate_zero, List.reverse_cons, List.reverse_nil, List.set_cons_succ, List.set_cons_zero, f_36_s0, f_36_s1, f_36_s2, sne, inE, pl2, mo2, bitOf, sortOf, ansA, addT, addB, wrD, outM, lotD_n, lotD_o, lotD_w, lotNext, Int.reduceSub, Int.reduceNeg, Int.reduceEq, Int.add_zero, ite_self, mx, sz1_s, decide_true, decide_false, cB, h1, h2, Int.lt_irrefl]
          · cases d <;> simp only [dnx, e_lend, disowns, sz1_s, decide_true, decide_false, eq_self, kVl, kT, kLs, kW, kBl, kNt, kNg, kOp2, kCp2, kSb2, kIs, kBi, kMd2, kRv, kSl3, kMk, kGv, kLc, kPr, kPo, kRt, kNxt, kExS, kStO, kAp, kSb3, gC, kSc3, kEx1, kOp, kCp, kCh1, kCh, kSb, kMd, kSl2, kSl, kCl, kTe2, kTn, turnC, kCm, kCns, kCnp, kCno, kSeqS, kStT, kPrS, kTb, turnS, kFo, kS2, kC2, kEn, kZp2, kZp, dT, dT.dTs, setR, disown, wipeR, scalar, kFc2, kFc, kFs, seqD, kCk, kCk2, kIn2, kIn3, Nat.reduceAdd, Nat.reduceSub, Nat.reduceLT, Nat.reduceLeDiff, ite_true, ite_false, if_true, if_false, reduceCtorEq, List.append_nil, List.cons_append, List.getElem?_cons_succ, List.getElem?_cons_zero, List.length_cons, List.length_nil, List.map_cons, List.map_nil, List.nil_append, List.replicate_succ, List.replicate_zero, List.reverse_cons, List.reverse_nil, List.set_cons_succ, List.set_cons_zero, f_36_s0, f_36_s1, f_36_s2, sne, inE, pl2, mo2, bitOf, sortOf, ansA, addT, addB, wrD, outM, lotD_n, lotD_o, lotD_w, lotNext, Int.reduceSub, Int.reduceNeg, Int.reduceEq, Int.add_zero, ite_self, mx, sz1_s, decide_true, decide_false, cB, h1, h2, Int.lt_irrefl]
def resE (p q r s : Int) (c : Co) (e : Ev) : D × Bool := if canM p c e then (.lst [co (stepM q r s c e).1, wrD (stepM q r s c e).2, .bl (turnE s c e), .bl (outE r c e)], true) else (.non, false)
theorem lstepL (L : LOk p q r s) (C : COk p q r s c) {e : Ev} (he : EvOk e) (k : Nat) (μ : Mu) : dCall T fs (k + 3) 37 [lk p q r s, co c, evD e] μ = some ((resE p q r s c e).1, (resE p q r s c e).2, μ) := by
  have hsb := C.sb
  have hb0 := C.b0
  have hb1 := C.b1
  have ht0 := C.t0
  have ht1 := C.t1
  have ht2 := C.t2
  unfold resE
  cases e with
  | send =>
    rw [dCall_eq at_37 rfl]
    simp only [f_37, evD, co, lk, canM, stepM, turnE, outE]
    by_cases h : c.t0 + (c.t1 + (c.t2 + 0)) < p
    · simp only [dnx, e_lend, disowns, sz1_s, decide_true, decide_false, eq_self, kVl, kT, kLs, kW, kBl, kNt, kNg, kOp2, kCp2, kSb2, kIs, kBi, kMd2, kRv, kSl3, kMk, kGv, kLc, kPr, kPo, kRt, kNxt, kExS, kStO, kAp, kSb3, gC, kSc3, kEx1, kOp, kCp, kCh1, kCh, kSb, kMd, kSl2, kSl, kCl, kTe2, kTn, turnC, kCm, kCns, kCnp, kCno, kSeqS, kStT, kPrS, kTb, turnS, kFo, kS2, kC2, kEn, kZp2, kZp, dT, dT.dTs, setR, disown, wipeR, scalar, kFc2, kFc, kFs, seqD, kCk, kCk2, kIn2, kIn3, Nat.reduceAdd, Nat.reduceSub, Nat.reduceLT, Nat.reduceLeDiff, ite_true, ite_false, if_true, if_false, reduceCtorEq, List.append_nil, List.cons_append, List.getElem?_cons_succ, List.getElem?_cons_zero, List.length_cons, List.length_nil, List.map_cons, List.map_nil, List.nil_append, List.replicate_succ, List.replicate_zero, List.reverse_cons, List.reverse_nil, List.set_cons_succ, List.set_cons_zero, f_37_s0, f_37_s1, f_37_s2, f_37_s3, sne, h, decide_true, mo0, sz1_s, wrD, addT]
    · simp only [dnx, e_lend, disowns, sz1_s, decide_true, decide_false, eq_self, kVl, kT, kLs, kW, kBl, kNt, kNg, kOp2, kCp2, kSb2, kIs, kBi, kMd2, kRv, kSl3, kMk, kGv, kLc, kPr, kPo, kRt, kNxt, kExS, kStO, kAp, kSb3, gC, kSc3, kEx1, kOp, kCp, kCh1, kCh, kSb, kMd, kSl2, kSl, kCl, kTe2, kTn, turnC, kCm, kCns, kCnp, kCno, kSeqS, kStT, kPrS, kTb, turnS, kFo, kS2, kC2, kEn, kZp2, kZp, dT, dT.dTs, setR, disown, wipeR, scalar, kFc2, kFc, kFs, seqD, kCk, kCk2, kIn2, kIn3, Nat.reduceAdd, Nat.reduceSub, Nat.reduceLT, Nat.reduceLeDiff, ite_true, ite_false, if_true, if_false, reduceCtorEq, List.append_nil, List.cons_append, List.getElem?_cons_succ, List.getElem?_cons_zero, List.length_cons, List.length_nil, List.map_cons, List.map_nil, List.nil_append, List.replicate_succ, List.replicate_zero, List.reverse_cons, List.reverse_nil, List.set_cons_succ, List.set_cons_zero, f_37_s0, f_37_s1, f_37_s2, f_37_s3, sne, h, decide_true, decide_false, sz1_s]
  | drop i =>
    rw [dCall_eq at_37 rfl]
    simp only [f_37, evD, co, lk, canM, stepM, turnE, outE]
    rcases he with rfl | rfl | rfl
    · by_cases h : c.t0 = 0
      · have h' : ¬ 0 < c.t0 := by omega
        simp only [dnx, e_lend, disowns, sz1_s, decide_true, decide_false, eq_self, kVl, kT, kLs, kW, kBl, kNt, kNg, kOp2, kCp2, kSb2, kIs, kBi, kMd2, kRv, kSl3, kMk, kGv, kLc, kPr, kPo, kRt, kNxt, kExS, kStO, kAp, kSb3, gC, kSc3, kEx1, kOp, kCp, kCh1, kCh, kSb, kMd, kSl2, kSl, kCl, kTe2, kTn, turnC, kCm, kCns, kCnp, kCno, kSeqS, kStT, kPrS, kTb, turnS, kFo, kS2, kC2, kEn, kZp2, kZp, dT, dT.dTs, setR, disown, wipeR, scalar, kFc2, kFc, kFs, seqD, kCk, kCk2, kIn2, kIn3, Nat.reduceAdd, Nat.reduceSub, Nat.reduceLT, Nat.reduceLeDiff, ite_true, ite_false, if_true, if_false, reduceCtorEq, List.append_nil, List.cons_append, List.getElem?_cons_succ, List.getElem?_cons_zero, List.length_cons, List.length_nil, List.map_cons, List.map_nil, List.nil_append, List.replicate_succ, List.replicate_zero, List.reverse_cons, List.reverse_nil, List.set_cons_succ, List.set_cons_zero, f_37_s0, f_37_s1, f_37_s2, f_37_s3, sne, inE, nm, tI, pl0, h, h', decide_true, decide_false, sz1_s, Int.reduceLT]
      · have h' : 0 < c.t0 := by omega
        simp only [dnx, e_lend, disowns, sz1_s, decide_true, decide_false, eq_self, kVl, kT, kLs, kW, kBl, kNt, kNg, kOp2, kCp2, kSb2, kIs, kBi, kMd2, kRv, kSl3, kMk, kGv, kLc, kPr, kPo, kRt, kNxt, kExS, kStO, kAp, kSb3, gC, kSc3, kEx1, kOp, kCp, kCh1, kCh, kSb, kMd, kSl2, kSl, kCl, kTe2, kTn, turnC, kCm, kCns, kCnp, kCno, kSeqS, kStT, kPrS, kTb, turnS, kFo, kS2, kC2, kEn, kZp2, kZp, dT, dT.dTs, setR, disown, wipeR, scalar, kFc2, kFc, kFs, seqD, kCk, kCk2, kIn2, kIn3, Nat.reduceAdd, Nat.reduceSub, Nat.reduceLT, Nat.reduceLeDiff, ite_true, ite_false, if_true, if_false, reduceCtorEq, List.append_nil, List.cons_append, List.getElem?_cons_succ, List.getElem?_cons_zero, List.length_cons, List.length_nil, List.map_cons, List.map_nil, List.nil_append, List.replicate_succ, List.replicate_zero, List.reverse_cons, List.reverse_nil, List.set_cons_succ, List.set_cons_zero, f_37_s0, f_37_s1, f_37_s2, f_37_s3, sne, inE, nm, tI, pl0, h, h', decide_true, decide_false, sz1_s, mo0, wrD, addT, Int.reduceSub, Int.reduceNeg]
    · by_cases h : c.t1 = 0
      · have h' : ¬ 0 < c.t1 := by omega
        simp only [dnx, e_lend, disowns, sz1_s, decide_true, decide_false, eq_self, kVl, kT, kLs, kW, kBl, kNt, kNg, kOp2, kCp2, kSb2, kIs, kBi, kMd2, kRv, kSl3, kMk, kGv, kLc, kPr, kPo, kRt, kNxt, kExS, kStO, kAp, kSb3, gC, kSc3, kEx1, kOp, kCp, kCh1, kCh, kSb, kMd, kSl2, kSl, kCl, kTe2, kTn, turnC, kCm, kCns, kCnp, kCno, kSeqS, kStT, kPrS, kTb, turnS, kFo, kS2, kC2, kEn, kZp2, kZp, dT, dT.dTs, setR, disown, wipeR, scalar, kFc2, kFc, kFs, seqD, kCk, kCk2, kIn2, kIn3, Nat.reduceAdd, Nat.reduceSub, Nat.reduceLT, Nat.reduceLeDiff, ite_true, ite_false, if_true, if_false, reduceCtorEq, List.append_nil, List.cons_append, List.getElem?_cons_succ, List.getElem?_cons_zero, List.length_cons, List.length_nil, List.map_cons, List.map_nil, List.nil_append, List.replicate_succ, List.replicate_zero, List.reverse_cons, List.reverse_nil, List.set_cons_succ, List.set_cons_zero, f_37_s0, f_37_s1, f_37_s2, f_37_s3, sne, inE, nm, tI, pl1, h, h', decide_true, decide_false, sz1_s, Int.reduceLT]
      · have h' : 0 < c.t1 := by omega
        simp only [dnx, e_lend, disowns, sz1_s, decide_true, decide_false, eq_self, kVl, kT, kLs, kW, kBl, kNt, kNg, kOp2, kCp2, kSb2, kIs, kBi, kMd2, kRv, kSl3, kMk, kGv, kLc, kPr, kPo, kRt, kNxt, kExS, kStO, kAp, kSb3, gC, kSc3, kEx1, kOp, kCp, kCh1, kCh, kSb, kMd, kSl2, kSl, kCl, kTe2, kTn, turnC, kCm, kCns, kCnp, kCno, kSeqS, kStT, kPrS, kTb, turnS, kFo, kS2, kC2, kEn, kZp2, kZp, dT, dT.dTs, setR, disown, wipeR, scalar, kFc2, kFc, kFs, seqD, kCk, kCk2, kIn2, kIn3, Nat.reduceAdd, Nat.reduceSub, Nat.reduceLT, Nat.reduceLeDiff, ite_true, ite_false, if_true, if_false, reduceCtorEq, List.append_nil, List.cons_append, List.getElem?_cons_succ, List.getElem?_cons_zero, List.length_cons, List.length_nil, List.map_cons, List.map_nil, List.nil_append, List.replicate_succ, List.replicate_zero, List.reverse_cons, List.reverse_nil, List.set_cons_succ, List.set_cons_zero, f_37_s0, f_37_s1, f_37_s2, f_37_s3, sne, inE, nm, tI, pl1, h, h', decide_true, decide_false, sz1_s, mo1, wrD, addT, Int.reduceSub, Int.reduceNeg]
    · by_cases h : c.t2 = 0
      · have h' : ¬ 0 < c.t2 := by omega
        simp only [dnx, e_lend, disowns, sz1_s, decide_true, decide_false, eq_self, kVl, kT, kLs, kW, kBl, kNt, kNg, kOp2, kCp2, kSb2, kIs, kBi, kMd2, kRv, kSl3, kMk, kGv, kLc, kPr, kPo, kRt, kNxt, kExS, kStO, kAp, kSb3, gC, kSc3, kEx1, kOp, kCp, kCh1, kCh, kSb, kMd, kSl2, kSl, kCl, kTe2, kTn, turnC, kCm, kCns, kCnp, kCno, kSeqS, kStT, kPrS, kTb, turnS, kFo, kS2, kC2, kEn, kZp2, kZp, dT, dT.dTs, setR, disown, wipeR, scalar, kFc2, kFc, kFs, seqD, kCk, kCk2, kIn2, kIn3, Nat.reduceAdd, Nat.reduceSub, Nat.reduceLT, Nat.reduceLeDiff, ite_true, ite_false, if_true, if_false, reduceCtorEq, List.append_nil, List.cons_append, List.getElem?_cons_succ, List.getElem?_cons_zero, List.length_cons, List.length_nil, List.map_cons, List.map_nil, List.nil_append, List.replicate_succ, List.replicate_zero, List.reverse_cons, List.reverse_nil, List.set_cons_succ, List.set_cons_zero, f_37_s0, f_37_s1, f_37_s2, f_37_s3, sne, inE, nm, tI, pl2, h, h', decide_true, decide_false, sz1_s, Int.reduceLT]
      · have h' : 0 < c.t2 := by omega
        simp only [dnx, e_lend, disowns, sz1_s, decide_true, decide_false, eq_self, kVl, kT, kLs, kW, kBl, kNt, kNg, kOp2, kCp2, kSb2, kIs, kBi, kMd2, kRv, kSl3, kMk, kGv, kLc, kPr, kPo, kRt, kNxt, kExS, kStO, kAp, kSb3, gC, kSc3, kEx1, kOp, kCp, kCh1, kCh, kSb, kMd, kSl2, kSl, kCl, kTe2, kTn, turnC, kCm, kCns, kCnp, kCno, kSeqS, kStT, kPrS, kTb, turnS, kFo, kS2, kC2, kEn, kZp2, kZp, dT, dT.dTs, setR, disown, wipeR, scalar, kFc2, kFc, kFs, seqD, kCk, kCk2, kIn2, kIn3, Nat.reduceAdd, Nat.reduceSub, Nat.reduceLT, Nat.reduceLeDiff, ite_true, ite_false, if_true, if_false, reduceCtorEq, List.append_nil, List.cons_append, List.getElem?_cons_succ, List.getElem?_cons_zero, List.length_cons, List.length_nil, List.map_cons, List.map_nil, List.nil_append, List.replicate_succ, List.replicate_zero, List.reverse_cons, List.reverse_nil, List.set_cons_succ, List.set_cons_zero, f_37_s0, f_37_s1, f_37_s2, f_37_s3, sne, inE, nm, tI, pl2, h, h', decide_true, decide_false, sz1_s, mo2, wrD, addT, Int.reduceSub, Int.reduceNeg]
  | bring i =>
    have hb := lbringL L C he k μ
    rw [dCall_eq at_37 rfl]
    simp only [f_37, evD, co, lk, canM, stepM, turnE, outE] at hb ⊢
    rcases he with rfl | rfl | rfl
    · by_cases h : c.t0 = 0
      · have h' : ¬ 0 < c.t0 := by omega
        simp only [dnx, e_lend, disowns, sz1_s, decide_true, decide_false, eq_self, kVl, kT, kLs, kW, kBl, kNt, kNg, kOp2, kCp2, kSb2, kIs, kBi, kMd2, kRv, kSl3, kMk, kGv, kLc, kPr, kPo, kRt, kNxt, kExS, kStO, kAp, kSb3, gC, kSc3, kEx1, kOp, kCp, kCh1, kCh, kSb, kMd, kSl2, kSl, kCl, kTe2, kTn, turnC, kCm, kCns, kCnp, kCno, kSeqS, kStT, kPrS, kTb, turnS, kFo, kS2, kC2, kEn, kZp2, kZp, dT, dT.dTs, setR, disown, wipeR, scalar, kFc2, kFc, kFs, seqD, kCk, kCk2, kIn2, kIn3, Nat.reduceAdd, Nat.reduceSub, Nat.reduceLT, Nat.reduceLeDiff, ite_true, ite_false, if_true, if_false, reduceCtorEq, List.append_nil, List.cons_append, List.getElem?_cons_succ, List.getElem?_cons_zero, List.length_cons, List.length_nil, List.map_cons, List.map_nil, List.nil_append, List.replicate_succ, List.replicate_zero, List.reverse_cons, List.reverse_nil, List.set_cons_succ, List.set_cons_zero, f_37_s0, f_37_s1, f_37_s2, f_37_s3, sne, inE, nm, tI, pl0, h, h', decide_true, decide_false, sz1_s, Int.reduceLT]
      · have h' : 0 < c.t0 := by omega
        simp only [nm] at hb
        simp only [dnx, e_lend, disowns, sz1_s, decide_true, decide_false, eq_self, kVl, kT, kLs, kW, kBl, kNt, kNg, kOp2, kCp2, kSb2, kIs, kBi, kMd2, kRv, kSl3, kMk, kGv, kLc, kPr, kPo, kRt, kNxt, kExS, kStO, kAp, kSb3, gC, kSc3, kEx1, kOp, kCp, kCh1, kCh, kSb, kMd, kSl2, kSl, kCl, kTe2, kTn, turnC, kCm, kCns, kCnp, kCno, kSeqS, kStT, kPrS, kTb, turnS, kFo, kS2, kC2, kEn, kZp2, kZp, dT, dT.dTs, setR, disown, wipeR, scalar, kFc2, kFc, kFs, seqD, kCk, kCk2, kIn2, kIn3, Nat.reduceAdd, Nat.reduceSub, Nat.reduceLT, Nat.reduceLeDiff, ite_true, ite_false, if_true, if_false, reduceCtorEq, List.append_nil, List.cons_append, List.getElem?_cons_succ, List.getElem?_cons_zero, List.length_cons, List.length_nil, List.map_cons, List.map_nil, List.nil_append, List.replicate_succ, List.replicate_zero, List.reverse_cons, List.reverse_nil, List.set_cons_succ, List.set_cons_zero, f_37_s0, f_37_s1, f_37_s2, f_37_s3, sne, inE, nm, tI, pl0, h, h', decide_true, decide_false, sz1_s, hb]
    · by_cases h : c.t1 = 0
      · have h' : ¬ 0 < c.t1 := by omega
        simp only [dnx, e_lend, disowns, sz1_s, decide_true, decide_false, eq_self, kVl, kT, kLs, kW, kBl, kNt, kNg, kOp2, kCp2, kSb2, kIs, kBi, kMd2, kRv, kSl3, kMk, kGv, kLc, kPr, kPo, kRt, kNxt, kExS, kStO, kAp, kSb3, gC, kSc3, kEx1, kOp, kCp, kCh1, kCh, kSb, kMd, kSl2, kSl, kCl, kTe2, kTn, turnC, kCm, kCns, kCnp, kCno, kSeqS, kStT, kPrS, kTb, turnS, kFo, kS2, kC2, kEn, kZp2, kZp, dT, dT.dTs, setR, disown, wipeR, scalar, kFc2, kFc, kFs, seqD, kCk, kCk2, kIn2, kIn3, Nat.reduceAdd, Nat.reduceSub, Nat.reduceLT, Nat.reduceLeDiff, ite_true, ite_false, if_true, if_false, reduceCtorEq, List.append_nil, List.cons_append, List.getElem?_cons_succ, List.getElem?_cons_zero, List.length_cons, List.length_nil, List.map_cons, List.map_nil, List.nil_append, List.replicate_succ, List.replicate_zero, List.reverse_cons, List.reverse_nil, List.set_cons_succ, List.set_cons_zero, f_37_s0, f_37_s1, f_37_s2, f_37_s3, sne, inE, nm, tI, pl1, h, h', decide_true, decide_false, sz1_s, Int.reduceLT]
      · have h' : 0 < c.t1 := by omega
        simp only [nm] at hb
        simp only [dnx, e_lend, disowns, sz1_s, decide_true, decide_false, eq_self, kVl, kT, kLs, kW, kBl, kNt, kNg, kOp2, kCp2, kSb2, kIs, kBi, kMd2, kRv, kSl3, kMk, kGv, kLc, kPr, kPo, kRt, kNxt, kExS, kStO, kAp, kSb3, gC, kSc3, kEx1, kOp, kCp, kCh1, kCh, kSb, kMd, kSl2, kSl, kCl, kTe2, kTn, turnC, kCm, kCns, kCnp, kCno, kSeqS, kStT, kPrS, kTb, turnS, kFo, kS2, kC2, kEn, kZp2, kZp, dT, dT.dTs, setR, disown, wipeR, scalar, kFc2, kFc, kFs, seqD, kCk, kCk2, kIn2, kIn3, Nat.reduceAdd, Nat.reduceSub, Nat.reduceLT, Nat.reduceLeDiff, ite_true, ite_false, if_true, if_false, reduceCtorEq, List.append_nil, List.cons_append, List.getElem?_cons_succ, List.getElem?_cons_zero, List.length_cons, List.length_nil, List.map_cons, List.map_nil, List.nil_append, List.replicate_succ, List.replicate_zero, List.reverse_cons, List.reverse_nil, List.set_cons_succ, List.set_cons_zero, f_37_s0, f_37_s1, f_37_s2, f_37_s3, sne, inE, nm, tI, pl1, h, h', decide_true, decide_false, sz1_s, hb]
    · by_cases h : c.t2 = 0
      · have h' : ¬ 0 < c.t2 := by omega
        simp only [dnx, e_lend, disowns, sz1_s, decide_true, decide_false, eq_self, kVl, kT, kLs, kW, kBl, kNt, kNg, kOp2, kCp2, kSb2, kIs, kBi, kMd2, kRv, kSl3, kMk, kGv, kLc, kPr, kPo, kRt, kNxt, kExS, kStO, kAp, kSb3, gC, kSc3, kEx1, kOp, kCp, kCh1, kCh, kSb, kMd, kSl2, kSl, kCl, kTe2, kTn, turnC, kCm, kCns, kCnp, kCno, kSeqS, kStT, kPrS, kTb, turnS, kFo, kS2, kC2, kEn, kZp2, kZp, dT, dT.dTs, setR, disown, wipeR, scalar, kFc2, kFc, kFs, seqD, kCk, kCk2, kIn2, kIn3, Nat.reduceAdd, Nat.reduceSub, Nat.reduceLT, Nat.reduceLeDiff, ite_true, ite_false, if_true, if_false, reduceCtorEq, List.append_nil, List.cons_append, List.getElem?_cons_succ, List.getElem?_cons_zero, List.length_cons, List.length_nil, List.map_cons, List.map_nil, List.nil_append, List.replicate_succ, List.replicate_zero, List.reverse_cons, List.reverse_nil, List.set_cons_succ, List.set_cons_zero, f_37_s0, f_37_s1, f_37_s2, f_37_s3, sne, inE, nm, tI, pl2, h, h', decide_true, decide_false, sz1_s, Int.reduceLT]
      · have h' : 0 < c.t2 := by omega
        simp only [nm] at hb
        simp only [dnx, e_lend, disowns, sz1_s, decide_true, decide_false, eq_self, kVl, kT, kLs, kW, kBl, kNt, kNg, kOp2, kCp2, kSb2, kIs, kBi, kMd2, kRv, kSl3, kMk, kGv, kLc, kPr, kPo, kRt, kNxt, kExS, kStO, kAp, kSb3, gC, kSc3, kEx1, kOp, kCp, kCh1, kCh, kSb, kMd, kSl2, kSl, kCl, kTe2, kTn, turnC, kCm, kCns, kCnp, kCno, kSeqS, kStT, kPrS, kTb, turnS, kFo, kS2, kC2, kEn, kZp2, kZp, dT, dT.dTs, setR, disown, wipeR, scalar, kFc2, kFc, kFs, seqD, kCk, kCk2, kIn2, kIn3, Nat.reduceAdd, Nat.reduceSub, Nat.reduceLT, Nat.reduceLeDiff, ite_true, ite_false, if_true, if_false, reduceCtorEq, List.append_nil, List.cons_append, List.getElem?_cons_succ, List.getElem?_cons_zero, List.length_cons, List.length_nil, List.map_cons, List.map_nil, List.nil_append, List.replicate_succ, List.replicate_zero, List.reverse_cons, List.reverse_nil, List.set_cons_succ, List.set_cons_zero, f_37_s0, f_37_s1, f_37_s2, f_37_s3, sne, inE, nm, tI, pl2, h, h', decide_true, decide_false, sz1_s, hb]
  | miss b =>
    rw [dCall_eq at_37 rfl]
    simp only [f_37, evD, co, lk, canM, stepM, turnE, outE]
    rcases he with rfl | rfl
    · have cB := moB (k + 1) c.b0 c.b1 (-1) 0 (.inl rfl) μ
      by_cases h : c.b0 = 0
      · have h' : ¬ 0 < c.b0 := by omega
        simp only [dnx, e_lend, disowns, sz1_s, decide_true, decide_false, eq_self, kVl, kT, kLs, kW, kBl, kNt, kNg, kOp2, kCp2, kSb2, kIs, kBi, kMd2, kRv, kSl3, kMk, kGv, kLc, kPr, kPo, kRt, kNxt, kExS, kStO, kAp, kSb3, gC, kSc3, kEx1, kOp, kCp, kCh1, kCh, kSb, kMd, kSl2, kSl, kCl, kTe2, kTn, turnC, kCm, kCns, kCnp, kCno, kSeqS, kStT, kPrS, kTb, turnS, kFo, kS2, kC2, kEn, kZp2, kZp, dT, dT.dTs, setR, disown, wipeR, scalar, kFc2, kFc, kFs, seqD, kCk, kCk2, kIn2, kIn3, Nat.reduceAdd, Nat.reduceSub, Nat.reduceLT, Nat.reduceLeDiff, ite_true, ite_false, if_true, if_false, reduceCtorEq, List.append_nil, List.cons_append, List.getElem?_cons_succ, List.getElem?_cons_zero, List.length_cons, List.length_nil, List.map_cons, List.map_nil, List.nil_append, List.replicate_succ, List.replicate_zero, List.reverse_cons, List.reverse_nil, List.set_cons_succ, List.set_cons_zero, f_37_s0, f_37_s1, f_37_s2, f_37_s3, sne, inE, bI, h, h', decide_true, decide_false, sz1_s, Int.reduceLT, Int.reduceEq]
      · have h' : 0 < c.b0 := by omega
        simp only [dnx, e_lend, disowns, sz1_s, decide_true, decide_false, eq_self, kVl, kT, kLs, kW, kBl, kNt, kNg, kOp2, kCp2, kSb2, kIs, kBi, kMd2, kRv, kSl3, kMk, kGv, kLc, kPr, kPo, kRt, kNxt, kExS, kStO, kAp, kSb3, gC, kSc3, kEx1, kOp, kCp, kCh1, kCh, kSb, kMd, kSl2, kSl, kCl, kTe2, kTn, turnC, kCm, kCns, kCnp, kCno, kSeqS, kStT, kPrS, kTb, turnS, kFo, kS2, kC2, kEn, kZp2, kZp, dT, dT.dTs, setR, disown, wipeR, scalar, kFc2, kFc, kFs, seqD, kCk, kCk2, kIn2, kIn3, Nat.reduceAdd, Nat.reduceSub, Nat.reduceLT, Nat.reduceLeDiff, ite_true, ite_false, if_true, if_false, reduceCtorEq, List.append_nil, List.cons_append, List.getElem?_cons_succ, List.getElem?_cons_zero, List.length_cons, List.length_nil, List.map_cons, List.map_nil, List.nil_append, List.replicate_succ, List.replicate_zero, List.reverse_cons, List.reverse_nil, List.set_cons_succ, List.set_cons_zero, f_37_s0, f_37_s1, f_37_s2, f_37_s3, sne, inE, bI, h, h', decide_true, decide_false, sz1_s, cB, wrD, addB, Int.reduceSub, Int.reduceNeg, Int.reduceEq]
    · have cB := moB (k + 1) c.b0 c.b1 (-1) 1 (.inr rfl) μ
      by_cases h : c.b1 = 0
      · have h' : ¬ 0 < c.b1 := by omega
        simp only [dnx, e_lend, disowns, sz1_s, decide_true, decide_false, eq_self, kVl, kT, kLs, kW, kBl, kNt, kNg, kOp2, kCp2, kSb2, kIs, kBi, kMd2, kRv, kSl3, kMk, kGv, kLc, kPr, kPo, kRt, kNxt, kExS, kStO, kAp, kSb3, gC, kSc3, kEx1, kOp, kCp, kCh1, kCh, kSb, kMd, kSl2, kSl, kCl, kTe2, kTn, turnC, kCm, kCns, kCnp, kCno, kSeqS, kStT, kPrS, kTb, turnS, kFo, kS2, kC2, kEn, kZp2, kZp, dT, dT.dTs, setR, disown, wipeR, scalar, kFc2, kFc, kFs, seqD, kCk, kCk2, kIn2, kIn3, Nat.reduceAdd, Nat.reduceSub, Nat.reduceLT, Nat.reduceLeDiff, ite_true, ite_false, if_true, if_false, reduceCtorEq, List.append_nil, List.cons_append, List.getElem?_cons_succ, List.getElem?_cons_zero, List.length_cons, List.length_nil, List.map_cons, List.map_nil, List.nil_append, List.replicate_succ, List.replicate_zero, List.reverse_cons, List.reverse_nil, List.set_cons_succ, List.set_cons_zero, f_37_s0, f_37_s1, f_37_s2, f_37_s3, sne, inE, bI, h, h', decide_true, decide_false, sz1_s, Int.reduceLT, Int.reduceEq]
      · have h' : 0 < c.b1 := by omega
        simp only [dnx, e_lend, disowns, sz1_s, decide_true, decide_false, eq_self, kVl, kT, kLs, kW, kBl, kNt, kNg, kOp2, kCp2, kSb2, kIs, kBi, kMd2, kRv, kSl3, kMk, kGv, kLc, kPr, kPo, kRt, kNxt, kExS, kStO, kAp, kSb3, gC, kSc3, kEx1, kOp, kCp, kCh1, kCh, kSb, kMd, kSl2, kSl, kCl, kTe2, kTn, turnC, kCm, kCns, kCnp, kCno, kSeqS, kStT, kPrS, kTb, turnS, kFo, kS2, kC2, kEn, kZp2, kZp, dT, dT.dTs, setR, disown, wipeR, scalar, kFc2, kFc, kFs, seqD, kCk, kCk2, kIn2, kIn3, Nat.reduceAdd, Nat.reduceSub, Nat.reduceLT, Nat.reduceLeDiff, ite_true, ite_false, if_true, if_false, reduceCtorEq, List.append_nil, List.cons_append, List.getElem?_cons_succ, List.getElem?_cons_zero, List.length_cons, List.length_nil, List.map_cons, List.map_nil, List.nil_append, List.replicate_succ, List.replicate_zero, List.reverse_cons, List.reverse_nil, List.set_cons_succ, List.set_cons_zero, f_37_s0, f_37_s1, f_37_s2, f_37_s3, sne, inE, bI, h, h', decide_true, decide_false, sz1_s, cB, wrD, addB, Int.reduceSub, Int.reduceNeg, Int.reduceEq]
  | hear b =>
    obtain ⟨sb, sh, rb, l, d, t0, t1, t2, b0, b1⟩ := c
    dsimp only at hsb hb0 hb1 ht0 ht1 ht2
    rw [dCall_eq at_37 rfl]
    simp only [f_37, evD, co, lk, canM, stepM, turnE, outE, hearM]
    rcases he with rfl | rfl
    · have cB := moB (k + 1) b0 b1 (-1) 0 (.inl rfl) μ
      by_cases h : b0 = 0
      · have h' : ¬ 0 < b0 := by omega
        simp only [dnx, e_lend, disowns, sz1_s, decide_true, decide_false, eq_self, kVl, kT, kLs, kW, kBl, kNt, kNg, kOp2, kCp2, kSb2, kIs, kBi, kMd2, kRv, kSl3, kMk, kGv, kLc, kPr, kPo, kRt, kNxt, kExS, kStO, kAp, kSb3, gC, kSc3, kEx1, kOp, kCp, kCh1, kCh, kSb, kMd, kSl2, kSl, kCl, kTe2, kTn, turnC, kCm, kCns, kCnp, kCno, kSeqS, kStT, kPrS, kTb, turnS, kFo, kS2, kC2, kEn, kZp2, kZp, dT, dT.dTs, setR, disown, wipeR, scalar, kFc2, kFc, kFs, seqD, kCk, kCk2, kIn2, kIn3, Nat.reduceAdd, Nat.reduceSub, Nat.reduceLT, Nat.reduceLeDiff, ite_true, ite_false, if_true, if_false, reduceCtorEq, List.append_nil, List.cons_append, List.getElem?_cons_succ, List.getElem?_cons_zero, List.length_cons, List.length_nil, List.map_cons, List.map_nil, List.nil_append, List.replicate_succ, List.replicate_zero, List.reverse_cons, List.reverse_nil, List.set_cons_succ, List.set_cons_zero, f_37_s0, f_37_s1, f_37_s2, f_37_s3, sne, inE, bI, decide_true, decide_false, sz1_s, wrD, addB, Int.reduceSub, Int.reduceNeg, Int.reduceAdd, Int.reduceEq, Int.reduceLT, mo1, mo2, turnM, oldLot, lotD, h, h']
      · have h' : 0 < b0 := by omega
        rcases hsb with rfl | rfl
        · by_cases h2 : sh + 1 < s
          · simp only [dnx, e_lend, disowns, sz1_s, decide_true, decide_false, eq_self, kVl, kT, kLs, kW, kBl, kNt, kNg, kOp2, kCp2, kSb2, kIs, kBi, kMd2, kRv, kSl3, kMk, kGv, kLc, kPr, kPo, kRt, kNxt, kExS, kStO, kAp, kSb3, gC, kSc3, kEx1, kOp, kCp, kCh1, kCh, kSb, kMd, kSl2, kSl, kCl, kTe2, kTn, turnC, kCm, kCns, kCnp, kCno, kSeqS, kStT, kPrS, kTb, turnS, kFo, kS2, kC2, kEn, kZp2, kZp, dT, dT.dTs, setR, disown, wipeR, scalar, kFc2, kFc, kFs, seqD, kCk, kCk2, kIn2, kIn3, Nat.reduceAdd, Nat.reduceSub, Nat.reduceLT, Nat.reduceLeDiff, ite_true, ite_false, if_true, if_false, reduceCtorEq, List.append_nil, List.cons_append, List.getElem?_cons_succ, List.getElem?_cons_zero, List.length_cons, List.length_nil, List.map_cons, List.map_nil, List.nil_append, List.replicate_succ, List.replicate_zero, List.reverse_cons, List.reverse_nil, List.set_cons_succ, List.set_cons_zero, f_37_s0, f_37_s1, f_37_s2, f_37_s3, sne, inE, bI, decide_true, decide_false, sz1_s, wrD, addB, Int.reduceSub, Int.reduceNeg, Int.reduceAdd, Int.reduceEq, Int.reduceLT, mo1, mo2, turnM, oldLot, lotD, cB, h, h', h2]
          · rcases l with _ | ⟨_ | _, n⟩ <;> cases d <;> simp only [dnx, e_lend, disowns, sz1_s, decide_true, decide_false, eq_self, kVl, kT, kLs, kW, kBl, kNt, kNg, kOp2, kCp2, kSb2, kIs, kBi, kMd2, kRv, kSl3, kMk, kGv, kLc, kPr, kPo, kRt, kNxt, kExS, kStO, kAp, kSb3, gC, kSc3, kEx1, kOp, kCp, kCh1, kCh, kSb, kMd, kSl2, kSl, kCl, kTe2, kTn, turnC, kCm, kCns, kCnp, kCno, kSeqS, kStT, kPrS, kTb, turnS, kFo, kS2, kC2, kEn, kZp2, kZp, dT, dT.dTs, setR, disown, wipeR, scalar, kFc2, kFc, kFs, seqD, kCk, kCk2, kIn2, kIn3, Nat.reduceAdd, Nat.reduceSub, Nat.reduceLT, Nat.reduceLeDiff, ite_true, ite_false, if_true, if_false, reduceCtorEq, List.append_nil, List.cons_append, List.getElem?_cons_succ, List.getElem?_cons_zero, List.length_cons, List.length_nil, List.map_cons, List.map_nil, List.nil_append, List.replicate_succ, List.replicate_zero, List.reverse_cons, List.reverse_nil, List.set_cons_succ, List.set_cons_zero, f_37_s0, f_37_s1, f_37_s2, f_37_s3, sne, inE, bI, decide_true, decide_false, sz1_s, wrD, addB, Int.reduceSub, Int.reduceNeg, Int.reduceAdd, Int.reduceEq, Int.reduceLT, mo1, mo2, turnM, oldLot, lotD, cB, h, h', h2]
        · simp only [dnx, e_lend, disowns, sz1_s, decide_true, decide_false, eq_self, kVl, kT, kLs, kW, kBl, kNt, kNg, kOp2, kCp2, kSb2, kIs, kBi, kMd2, kRv, kSl3, kMk, kGv, kLc, kPr, kPo, kRt, kNxt, kExS, kStO, kAp, kSb3, gC, kSc3, kEx1, kOp, kCp, kCh1, kCh, kSb, kMd, kSl2, kSl, kCl, kTe2, kTn, turnC, kCm, kCns, kCnp, kCno, kSeqS, kStT, kPrS, kTb, turnS, kFo, kS2, kC2, kEn, kZp2, kZp, dT, dT.dTs, setR, disown, wipeR, scalar, kFc2, kFc, kFs, seqD, kCk, kCk2, kIn2, kIn3, Nat.reduceAdd, Nat.reduceSub, Nat.reduceLT, Nat.reduceLeDiff, ite_true, ite_false, if_true, if_false, reduceCtorEq, List.append_nil, List.cons_append, List.getElem?_cons_succ, List.getElem?_cons_zero, List.length_cons, List.length_nil, List.map_cons, List.map_nil, List.nil_append, List.replicate_succ, List.replicate_zero, List.reverse_cons, List.reverse_nil, List.set_cons_succ, List.set_cons_zero, f_37_s0, f_37_s1, f_37_s2, f_37_s3, sne, inE, bI, decide_true, decide_false, sz1_s, wrD, addB, Int.reduceSub, Int.reduceNeg, Int.reduceAdd, Int.reduceEq, Int.reduceLT, mo1, mo2, turnM, oldLot, lotD, cB, h, h']
    · have cB := moB (k + 1) b0 b1 (-1) 1 (.inr rfl) μ
      by_cases h : b1 = 0
      · have h' : ¬ 0 < b1 := by omega
        simp only [dnx, e_lend, disowns, sz1_s, decide_true, decide_false, eq_self, kVl, kT, kLs, kW, kBl, kNt, kNg, kOp2, kCp2, kSb2, kIs, kBi, kMd2, kRv, kSl3, kMk, kGv, kLc, kPr, kPo, kRt, kNxt, kExS, kStO, kAp, kSb3, gC, kSc3, kEx1, kOp, kCp, kCh1, kCh, kSb, kMd, kSl2, kSl, kCl, kTe2, kTn, turnC, kCm, kCns, kCnp, kCno, kSeqS, kStT, kPrS, kTb, turnS, kFo, kS2, kC2, kEn, kZp2, kZp, dT, dT.dTs, setR, disown, wipeR, scalar, kFc2, kFc, kFs, seqD, kCk, kCk2, kIn2, kIn3, Nat.reduceAdd, Nat.reduceSub, Nat.reduceLT, Nat.reduceLeDiff, ite_true, ite_false, if_true, if_false, reduceCtorEq, List.append_nil, List.cons_append, List.getElem?_cons_succ, List.getElem?_cons_zero, List.length_cons, List.length_nil, List.map_cons, List.map_nil, List.nil_append, List.replicate_succ, List.replicate_zero, List.reverse_cons, List.reverse_nil, List.set_cons_succ, List.set_cons_zero, f_37_s0, f_37_s1, f_37_s2, f_37_s3, sne, inE, bI, decide_true, decide_false, sz1_s, wrD, addB, Int.reduceSub, Int.reduceNeg, Int.reduceAdd, Int.reduceEq, Int.reduceLT, mo1, mo2, turnM, oldLot, lotD, h, h']
      · have h' : 0 < b1 := by omega
        rcases hsb with rfl | rfl
        · simp only [dnx, e_lend, disowns, sz1_s, decide_true, decide_false, eq_self, kVl, kT, kLs, kW, kBl, kNt, kNg, kOp2, kCp2, kSb2, kIs, kBi, kMd2, kRv, kSl3, kMk, kGv, kLc, kPr, kPo, kRt, kNxt, kExS, kStO, kAp, kSb3, gC, kSc3, kEx1, kOp, kCp, kCh1, kCh, kSb, kMd, kSl2, kSl, kCl, kTe2, kTn, turnC, kCm, kCns, kCnp, kCno, kSeqS, kStT, kPrS, kTb, turnS, kFo, kS2, kC2, kEn, kZp2, kZp, dT, dT.dTs, setR, disown, wipeR, scalar, kFc2, kFc, kFs, seqD, kCk, kCk2, kIn2, kIn3, Nat.reduceAdd, Nat.reduceSub, Nat.reduceLT, Nat.reduceLeDiff, ite_true, ite_false, if_true, if_false, reduceCtorEq, List.append_nil, List.cons_append, List.getElem?_cons_succ, List.getElem?_cons_zero, List.length_cons, List.length_nil, List.map_cons, List.map_nil, List.nil_append, List.replicate_succ, List.replicate_zero, List.reverse_cons, List.reverse_nil, List.set_cons_succ, List.set_cons_zero, f_37_s0, f_37_s1, f_37_s2, f_37_s3, sne, inE, bI, decide_true, decide_false, sz1_s, wrD, addB, Int.reduceSub, Int.reduceNeg, Int.reduceAdd, Int.reduceEq, Int.reduceLT, mo1, mo2, turnM, oldLot, lotD, cB, h, h']
        · by_cases h2 : sh + 1 < s
          · simp only [dnx, e_lend, disowns, sz1_s, decide_true, decide_false, eq_self, kVl, kT, kLs, kW, kBl, kNt, kNg, kOp2, kCp2, kSb2, kIs, kBi, kMd2, kRv, kSl3, kMk, kGv, kLc, kPr, kPo, kRt, kNxt, kExS, kStO, kAp, kSb3, gC, kSc3, kEx1, kOp, kCp, kCh1, kCh, kSb, kMd, kSl2, kSl, kCl, kTe2, kTn, turnC, kCm, kCns, kCnp, kCno, kSeqS, kStT, kPrS, kTb, turnS, kFo, kS2, kC2, kEn, kZp2, kZp, dT, dT.dTs, setR, disown, wipeR, scalar, kFc2, kFc, kFs, seqD, kCk, kCk2, kIn2, kIn3, Nat.reduceAdd, Nat.reduceSub, Nat.reduceLT, Nat.reduceLeDiff, ite_true, ite_false, if_true, if_false, reduceCtorEq, List.append_nil, List.cons_append, List.getElem?_cons_succ, List.getElem?_cons_zero, List.length_cons, List.length_nil, List.map_cons, List.map_nil, List.nil_append, List.replicate_succ, List.replicate_zero, List.reverse_cons, List.reverse_nil, List.set_cons_succ, List.set_cons_zero, f_37_s0, f_37_s1, f_37_s2, f_37_s3, sne, inE, bI, decide_true, decide_false, sz1_s, wrD, addB, Int.reduceSub, Int.reduceNeg, Int.reduceAdd, Int.reduceEq, Int.reduceLT, mo1, mo2, turnM, oldLot, lotD, cB, h, h', h2]
          · rcases l with _ | ⟨_ | _, n⟩ <;> cases d <;> simp only [dnx, e_lend, disowns, sz1_s, decide_true, decide_false, eq_self, kVl, kT, kLs, kW, kBl, kNt, kNg, kOp2, kCp2, kSb2, kIs, kBi, kMd2, kRv, kSl3, kMk, kGv, kLc, kPr, kPo, kRt, kNxt, kExS, kStO, kAp, kSb3, gC, kSc3, kEx1, kOp, kCp, kCh1, kCh, kSb, kMd, kSl2, kSl, kCl, kTe2, kTn, turnC, kCm, kCns, kCnp, kCno, kSeqS, kStT, kPrS, kTb, turnS, kFo, kS2, kC2, kEn, kZp2, kZp, dT, dT.dTs, setR, disown, wipeR, scalar, kFc2, kFc, kFs, seqD, kCk, kCk2, kIn2, kIn3, Nat.reduceAdd, Nat.reduceSub, Nat.reduceLT, Nat.reduceLeDiff, ite_true, ite_false, if_true, if_false, reduceCtorEq, List.append_nil, List.cons_append, List.getElem?_cons_succ, List.getElem?_cons_zero, List.length_cons, List.length_nil, List.map_cons, List.map_nil, List.nil_append, List.replicate_succ, List.replicate_zero, List.reverse_cons, List.reverse_nil, List.set_cons_succ, List.set_cons_zero, f_37_s0, f_37_s1, f_37_s2, f_37_s3, sne, inE, bI, decide_true, decide_false, sz1_s, wrD, addB, Int.reduceSub, Int.reduceNeg, Int.reduceAdd, Int.reduceEq, Int.reduceLT, mo1, mo2, turnM, oldLot, lotD, cB, h, h', h2]
end ZL
end

section
set_option Elab.async false
set_option linter.all false
set_option maxRecDepth 100000
set_option maxHeartbeats 4000000
set_option exponentiation.threshold 4000
-- 251bf1c6327ccb7e866a959bdb0e09b6
namespace ZL
open PySem PySem.Spec Z
/-! events sorted; contents compared; what the program tells of events -/
theorem keyE : ∀ e ∈ evL, ∃ k, keyD (evD e) = some k := by
  intro e he
  simp only [evL, List.mem_cons, List.not_mem_nil, or_false] at he
  rcases he with rfl | rfl | rfl | rfl | rfl | rfl | rfl | rfl | rfl | rfl | rfl <;> exact ⟨_, rfl⟩
theorem aliE : (evL.all fun e => evL.all fun e' => alikeK (keyOf (evD e)) (keyOf (evD e'))) = true := by decide +kernel
theorem key_evs : ∀ es : List Ev, (∀ e ∈ es, e ∈ evL) → keyDs (es.map evD) = some (es.map fun e => keyOf (evD e))
  | [], _ => rfl
  | e :: es, h => by
    obtain ⟨k, hk⟩ := keyE e (h e List.mem_cons_self)
    rw [List.map_cons, keyDs, hk, key_evs es fun x hx => h x (List.mem_cons_of_mem _ hx), List.map_cons, Z.Sr.keyOf_of hk]
theorem srtOk_evs (es : List Ev) (h : ∀ e ∈ es, e ∈ evL) : srtOk (es.map evD) = true := by
  unfold srtOk
  rw [key_evs es h]
  refine Bool.or_eq_true_iff.mpr (.inr ?_)
  show ((es.map fun e => keyOf (evD e)).all fun x => (es.map fun e => keyOf (evD e)).all fun y => alikeK x y) = true
  refine List.all_eq_true.mpr fun x hx => List.all_eq_true.mpr fun y hy => ?_
  obtain ⟨e, he, rfl⟩ := List.mem_map.mp hx
  obtain ⟨e', he', rfl⟩ := List.mem_map.mp hy
  exact List.all_eq_true.mp (List.all_eq_true.mp aliE e (h e he)) e' (h e' he')
theorem evLP : evL.Perm evP := by decide
theorem srt_evP : SrtO.Srtd ltD (evP.map evD) := by
  have h : (evP.map evD).Pairwise fun x y => ltD y x = false := by decide +kernel
  exact h
theorem srt_ev (f : Ev → Bool) : biD .sorted [.lst ((evL.filter f).map evD)] = some (.lst ((evP.filter f).map evD), true) := by
  have h1 : isortD ((evL.filter f).map evD) = (evP.filter f).map evD := by
    refine Z.Sr.srt_uniq (fun x hx y hy q => ?_) ?_ (Z.Sr.isort_srt _) ?_
    · obtain ⟨e, he, rfl⟩ := List.mem_map.mp ((Z.Sr.isort_perm _).mem_iff.mp hx)
      obtain ⟨e', he', rfl⟩ := List.mem_map.mp ((Z.Sr.isort_perm _).mem_iff.mp hy)
      obtain ⟨k, hk⟩ := keyE e (List.mem_filter.mp he).1
      obtain ⟨k', hk'⟩ := keyE e' (List.mem_filter.mp he').1
      rw [Z.Sr.keyOf_of hk, Z.Sr.keyOf_of hk'] at q
      subst q
      exact Z.Sr.keyD_inj hk hk'
    · exact (Z.Sr.isort_perm _).trans ((evLP.filter f).map evD)
    · exact List.Pairwise.sublist (List.filter_sublist.map evD) srt_evP
  show (if srtOk ((evL.filter f).map evD) then some (D.lst (isortD ((evL.filter f).map evD)), true) else none) = _
  rw [srtOk_evs _ fun e he => (List.mem_filter.mp he).1, h1]
  rfl
def ceq (c c' : Co) : Bool := eqD (co c) (co c')
theorem eq_co (c c' : Co) : cpD .eq (co c) (co c') = some (ceq c c') := by
  obtain ⟨sb, sh, rb, l, d, t0, t1, t2, b0, b1⟩ := c
  obtain ⟨sb', sh', rb', l', d', t0', t1', t2', b0', b1'⟩ := c'
  refine eq_d rfl ?_ ?_ ?_ ?_
  · rcases l with _ | ⟨_ | _, n⟩ <;> kernel_rfl
  · rcases l with _ | ⟨_ | _, n⟩ <;> exact Nat.le_of_ble_eq_true (by kernel_rfl)
  · rcases l' with _ | ⟨_ | _, n⟩ <;> kernel_rfl
  · rcases l' with _ | ⟨_ | _, n⟩ <;> exact Nat.le_of_ble_eq_true (by kernel_rfl)
variable {p q r s : Int} {c c' : Co}
theorem behind_pub (L : LOk p q r s) (C : COk p q r s c) {e : Ev} (he : EvOk e) (hc : canM p c e = true) (k : Nat) (μ : Mu) : dCall T fs (k + 8) 23 [lk p q r s, co c, evD e] μ = some (co (stepM q r s c e).1, false, μ) := by
  have e1 := chk_can L C he hc k μ
  have e3 := behind_ok C he (k + 3) μ
  rw [dCall_eq at_23 rfl]
  simp only [f_23]
  simp only [dnx, e_lend, disowns, sz1_s, decide_true, decide_false, eq_self, kVl, kT, kLs, kW, kBl, kNt, kNg, kOp2, kCp2, kSb2, kIs, kBi, kMd2, kRv, kSl3, kMk, kGv, kLc, kPr, kPo, kRt, kNxt, kExS, kStO, kAp, kSb3, gC, kSc3, kEx1, kOp, kCp, kCh1, kCh, kSb, kMd, kSl2, kSl, kCl, kTe2, kTn, turnC, kCm, kCns, kCnp, kCno, kSeqS, kStT, kPrS, kTb, turnS, kFo, kS2, kC2, kEn, kZp2, kZp, dT, dT.dTs, setR, disown, wipeR, scalar, kFc2, kFc, kFs, seqD, kCk, kCk2, kIn2, kIn3, Nat.reduceAdd, Nat.reduceSub, Nat.reduceLT, Nat.reduceLeDiff, ite_true, ite_false, if_true, if_false, reduceCtorEq, List.append_nil, List.cons_append, List.getElem?_cons_succ, List.getElem?_cons_zero, List.length_cons, List.length_nil, List.map_cons, List.map_nil, List.nil_append, List.replicate_succ, List.replicate_zero, List.reverse_cons, List.reverse_nil, List.set_cons_succ, List.set_cons_zero, e1, e3]
theorem possible_pub (L : LOk p q r s) (C : COk p q r s c) (k : Nat) (μ : Mu) : dCall T fs (k + 7) 22 [lk p q r s, co c] μ = some (.lst ((evP.filter (canM p c)).map evD), true, μ) := by
  have e1 := chk_ok L C k μ
  have e2 := evs_in (p := p) (q := q) (r := r) (s := s) (c := c) (k + 4) μ
  rw [dCall_eq at_22 rfl]
  simp only [f_22]
  simp only [dnx, e_lend, disowns, sz1_s, decide_true, decide_false, eq_self, kVl, kT, kLs, kW, kBl, kNt, kNg, kOp2, kCp2, kSb2, kIs, kBi, kMd2, kRv, kSl3, kMk, kGv, kLc, kPr, kPo, kRt, kNxt, kExS, kStO, kAp, kSb3, gC, kSc3, kEx1, kOp, kCp, kCh1, kCh, kSb, kMd, kSl2, kSl, kCl, kTe2, kTn, turnC, kCm, kCns, kCnp, kCno, kSeqS, kStT, kPrS, kTb, turnS, kFo, kS2, kC2, kEn, kZp2, kZp, dT, dT.dTs, setR, disown, wipeR, scalar, kFc2, kFc, kFs, seqD, kCk, kCk2, kIn2, kIn3, Nat.reduceAdd, Nat.reduceSub, Nat.reduceLT, Nat.reduceLeDiff, ite_true, ite_false, if_true, if_false, reduceCtorEq, List.append_nil, List.cons_append, List.getElem?_cons_succ, List.getElem?_cons_zero, List.length_cons, List.length_nil, List.map_cons, List.map_nil, List.nil_append, List.replicate_succ, List.replicate_zero, List.reverse_cons, List.reverse_nil, List.set_cons_succ, List.set_cons_zero, e1, e2]
theorem ends_ok (C : COk p q r s c) {e : Ev} (he : EvOk e) (k : Nat) (μ : Mu) : dCall T fs (k + 1) 20 [lk p q r s, co c, evD e] μ = some (.bl (turnE s c e), false, μ) := by
  obtain ⟨sb, sh, rb, l, d, t0, t1, t2, b0, b1⟩ := c
  have hsb := C.sb
  dsimp only at hsb
  have q1 : ∀ (x : D) (b : Int), strEq x (.tup [.str "hear", .int b]) = none → okS x = true → nd x ≤ 1 → cpD .eq x (.tup [.str "hear", .int b]) = some (eqD x (.tup [.str "hear", .int b])) := fun x b h0 h1 h2 => eq_d h0 h1 (by omega) (by kernel_rfl) (Nat.le_of_ble_eq_true (by kernel_rfl))
  obtain ⟨q2, q3⟩ := nd_ev he
  have q4 := q1 (evD e) sb (by cases e <;> rfl) q2 q3
  rw [dCall_eq at_20 rfl]
  simp only [f_20, co, lk]
  cases e with
  | send =>
    have z : eqD (evD .send) (.tup [.str "hear", .int sb]) = false := by kernel_rfl
    rw [z] at q4
    simp only [evD] at q4 ⊢
    simp only [dnx, e_lend, disowns, sz1_s, decide_true, decide_false, eq_self, kVl, kT, kLs, kW, kBl, kNt, kNg, kOp2, kCp2, kSb2, kIs, kBi, kMd2, kRv, kSl3, kMk, kGv, kLc, kPr, kPo, kRt, kNxt, kExS, kStO, kAp, kSb3, gC, kSc3, kEx1, kOp, kCp, kCh1, kCh, kSb, kMd, kSl2, kSl, kCl, kTe2, kTn, turnC, kCm, kCns, kCnp, kCno, kSeqS, kStT, kPrS, kTb, turnS, kFo, kS2, kC2, kEn, kZp2, kZp, dT, dT.dTs, setR, disown, wipeR, scalar, kFc2, kFc, kFs, seqD, kCk, kCk2, kIn2, kIn3, Nat.reduceAdd, Nat.reduceSub, Nat.reduceLT, Nat.reduceLeDiff, ite_true, ite_false, if_true, if_false, reduceCtorEq, List.append_nil, List.cons_append, List.getElem?_cons_succ, List.getElem?_cons_zero, List.length_cons, List.length_nil, List.map_cons, List.map_nil, List.nil_append, List.replicate_succ, List.replicate_zero, List.reverse_cons, List.reverse_nil, List.set_cons_succ, List.set_cons_zero, q4, turnE, sz1_s]
  | drop i =>
    have z : eqD (evD (.drop i)) (.tup [.str "hear", .int sb]) = false := by rcases he with rfl | rfl | rfl <;> kernel_rfl
    rw [z] at q4
    simp only [evD] at q4 ⊢
    simp only [dnx, e_lend, disowns, sz1_s, decide_true, decide_false, eq_self, kVl, kT, kLs, kW, kBl, kNt, kNg, kOp2, kCp2, kSb2, kIs, kBi, kMd2, kRv, kSl3, kMk, kGv, kLc, kPr, kPo, kRt, kNxt, kExS, kStO, kAp, kSb3, gC, kSc3, kEx1, kOp, kCp, kCh1, kCh, kSb, kMd, kSl2, kSl, kCl, kTe2, kTn, turnC, kCm, kCns, kCnp, kCno, kSeqS, kStT, kPrS, kTb, turnS, kFo, kS2, kC2, kEn, kZp2, kZp, dT, dT.dTs, setR, disown, wipeR, scalar, kFc2, kFc, kFs, seqD, kCk, kCk2, kIn2, kIn3, Nat.reduceAdd, Nat.reduceSub, Nat.reduceLT, Nat.reduceLeDiff, ite_true, ite_false, if_true, if_false, reduceCtorEq, List.append_nil, List.cons_append, List.getElem?_cons_succ, List.getElem?_cons_zero, List.length_cons, List.length_nil, List.map_cons, List.map_nil, List.nil_append, List.replicate_succ, List.replicate_zero, List.reverse_cons, List.reverse_nil, List.set_cons_succ, List.set_cons_zero, q4, turnE, sz1_s]
  | bring i =>
    have z : eqD (evD (.bring i)) (.tup [.str "hear", .int sb]) = false := by rcases he with rfl | rfl | rfl <;> kernel_rfl
    rw [z] at q4
    simp only [evD] at q4 ⊢
    simp only [dnx, e_lend, disowns, sz1_s, decide_true, decide_false, eq_self, kVl, kT, kLs, kW, kBl, kNt, kNg, kOp2, kCp2, kSb2, kIs, kBi, kMd2, kRv, kSl3, kMk, kGv, kLc, kPr, kPo, kRt, kNxt, kExS, kStO, kAp, kSb3, gC, kSc3, kEx1, kOp, kCp, kCh1, kCh, kSb, kMd, kSl2, kSl, kCl, kTe2, kTn, turnC, kCm, kCns, kCnp, kCno, kSeqS, kStT, kPrS, kTb, turnS, kFo, kS2, kC2, kEn, kZp2, kZp, dT, dT.dTs, setR, disown, wipeR, scalar, kFc2, kFc, kFs, seqD, kCk, kCk2, kIn2, kIn3, Nat.reduceAdd, Nat.reduceSub, Nat.reduceLT, Nat.reduceLeDiff, ite_true, ite_false, if_true, if_false, reduceCtorEq, List.append_nil, List.cons_append, List.getElem?_cons_succ, List.getElem?_cons_zero, List.length_cons, List.length_nil, List.map_cons, List.map_nil, List.nil_append, List.replicate_succ, List.replicate_zero, List.reverse_cons, List.reverse_nil, List.set_cons_succ, List.set_cons_zero, q4, turnE, sz1_s]
  | miss b =>
    have z : eqD (evD (.miss b)) (.tup [.str "hear", .int sb]) = false := by kernel_rfl
    rw [z] at q4
    simp only [evD] at q4 ⊢
    simp only [dnx, e_lend, disowns, sz1_s, decide_true, decide_false, eq_self, kVl, kT, kLs, kW, kBl, kNt, kNg, kOp2, kCp2, kSb2, kIs, kBi, kMd2, kRv, kSl3, kMk, kGv, kLc, kPr, kPo, kRt, kNxt, kExS, kStO, kAp, kSb3, gC, kSc3, kEx1, kOp, kCp, kCh1, kCh, kSb, kMd, kSl2, kSl, kCl, kTe2, kTn, turnC, kCm, kCns, kCnp, kCno, kSeqS, kStT, kPrS, kTb, turnS, kFo, kS2, kC2, kEn, kZp2, kZp, dT, dT.dTs, setR, disown, wipeR, scalar, kFc2, kFc, kFs, seqD, kCk, kCk2, kIn2, kIn3, Nat.reduceAdd, Nat.reduceSub, Nat.reduceLT, Nat.reduceLeDiff, ite_true, ite_false, if_true, if_false, reduceCtorEq, List.append_nil, List.cons_append, List.getElem?_cons_succ, List.getElem?_cons_zero, List.length_cons, List.length_nil, List.map_cons, List.map_nil, List.nil_append, List.replicate_succ, List.replicate_zero, List.reverse_cons, List.reverse_nil, List.set_cons_succ, List.set_cons_zero, q4, turnE, sz1_s]
  | hear b =>
    have z : eqD (evD (.hear b)) (.tup [.str "hear", .int sb]) = decide (b = sb) := by
      rcases he with rfl | rfl <;> rcases hsb with rfl | rfl <;> kernel_rfl
    rw [z] at q4
    simp only [evD] at q4 ⊢
    by_cases h1 : b = sb
    · rw [decide_eq_true h1] at q4
      subst h1
      by_cases h2 : sh + 1 < s
      · have h3 : ¬ s ≤ sh + 1 := by omega
        simp only [dnx, e_lend, disowns, sz1_s, decide_true, decide_false, eq_self, kVl, kT, kLs, kW, kBl, kNt, kNg, kOp2, kCp2, kSb2, kIs, kBi, kMd2, kRv, kSl3, kMk, kGv, kLc, kPr, kPo, kRt, kNxt, kExS, kStO, kAp, kSb3, gC, kSc3, kEx1, kOp, kCp, kCh1, kCh, kSb, kMd, kSl2, kSl, kCl, kTe2, kTn, turnC, kCm, kCns, kCnp, kCno, kSeqS, kStT, kPrS, kTb, turnS, kFo, kS2, kC2, kEn, kZp2, kZp, dT, dT.dTs, setR, disown, wipeR, scalar, kFc2, kFc, kFs, seqD, kCk, kCk2, kIn2, kIn3, Nat.reduceAdd, Nat.reduceSub, Nat.reduceLT, Nat.reduceLeDiff, ite_true, ite_false, if_true, if_false, reduceCtorEq, List.append_nil, List.cons_append, List.getElem?_cons_succ, List.getElem?_cons_zero, List.length_cons, List.length_nil, List.map_cons, List.map_nil, List.nil_append, List.replicate_succ, List.replicate_zero, List.reverse_cons, List.reverse_nil, List.set_cons_succ, List.set_cons_zero, q4, turnE, sz1_s, h2, h3, decide_true, decide_false]
      · have h3 : s ≤ sh + 1 := by omega
        simp only [dnx, e_lend, disowns, sz1_s, decide_true, decide_false, eq_self, kVl, kT, kLs, kW, kBl, kNt, kNg, kOp2, kCp2, kSb2, kIs, kBi, kMd2, kRv, kSl3, kMk, kGv, kLc, kPr, kPo, kRt, kNxt, kExS, kStO, kAp, kSb3, gC, kSc3, kEx1, kOp, kCp, kCh1, kCh, kSb, kMd, kSl2, kSl, kCl, kTe2, kTn, turnC, kCm, kCns, kCnp, kCno, kSeqS, kStT, kPrS, kTb, turnS, kFo, kS2, kC2, kEn, kZp2, kZp, dT, dT.dTs, setR, disown, wipeR, scalar, kFc2, kFc, kFs, seqD, kCk, kCk2, kIn2, kIn3, Nat.reduceAdd, Nat.reduceSub, Nat.reduceLT, Nat.reduceLeDiff, ite_true, ite_false, if_true, if_false, reduceCtorEq, List.append_nil, List.cons_append, List.getElem?_cons_succ, List.getElem?_cons_zero, List.length_cons, List.length_nil, List.map_cons, List.map_nil, List.nil_append, List.replicate_succ, List.replicate_zero, List.reverse_cons, List.reverse_nil, List.set_cons_succ, List.set_cons_zero, q4, turnE, sz1_s, h2, h3, decide_true, decide_false]
    · rw [decide_eq_false h1] at q4
      simp only [dnx, e_lend, disowns, sz1_s, decide_true, decide_false, eq_self, kVl, kT, kLs, kW, kBl, kNt, kNg, kOp2, kCp2, kSb2, kIs, kBi, kMd2, kRv, kSl3, kMk, kGv, kLc, kPr, kPo, kRt, kNxt, kExS, kStO, kAp, kSb3, gC, kSc3, kEx1, kOp, kCp, kCh1, kCh, kSb, kMd, kSl2, kSl, kCl, kTe2, kTn, turnC, kCm, kCns, kCnp, kCno, kSeqS, kStT, kPrS, kTb, turnS, kFo, kS2, kC2, kEn, kZp2, kZp, dT, dT.dTs, setR, disown, wipeR, scalar, kFc2, kFc, kFs, seqD, kCk, kCk2, kIn2, kIn3, Nat.reduceAdd, Nat.reduceSub, Nat.reduceLT, Nat.reduceLeDiff, ite_true, ite_false, if_true, if_false, reduceCtorEq, List.append_nil, List.cons_append, List.getElem?_cons_succ, List.getElem?_cons_zero, List.length_cons, List.length_nil, List.map_cons, List.map_nil, List.nil_append, List.replicate_succ, List.replicate_zero, List.reverse_cons, List.reverse_nil, List.set_cons_succ, List.set_cons_zero, q4, turnE, sz1_s, h1]
theorem ends_pub (L : LOk p q r s) (C : COk p q r s c) {e : Ev} (he : EvOk e) (hc : canM p c e = true) (k : Nat) (μ : Mu) : dCall T fs (k + 8) 24 [lk p q r s, co c, evD e] μ = some (.bl (turnE s c e), false, μ) := by
  have e1 := chk_can L C he hc k μ
  have e3 := ends_ok C he (k + 6) μ
  rw [dCall_eq at_24 rfl]
  simp only [f_24]
  simp only [dnx, e_lend, disowns, sz1_s, decide_true, decide_false, eq_self, kVl, kT, kLs, kW, kBl, kNt, kNg, kOp2, kCp2, kSb2, kIs, kBi, kMd2, kRv, kSl3, kMk, kGv, kLc, kPr, kPo, kRt, kNxt, kExS, kStO, kAp, kSb3, gC, kSc3, kEx1, kOp, kCp, kCh1, kCh, kSb, kMd, kSl2, kSl, kCl, kTe2, kTn, turnC, kCm, kCns, kCnp, kCno, kSeqS, kStT, kPrS, kTb, turnS, kFo, kS2, kC2, kEn, kZp2, kZp, dT, dT.dTs, setR, disown, wipeR, scalar, kFc2, kFc, kFs, seqD, kCk, kCk2, kIn2, kIn3, Nat.reduceAdd, Nat.reduceSub, Nat.reduceLT, Nat.reduceLeDiff, ite_true, ite_false, if_true, if_false, reduceCtorEq, List.append_nil, List.cons_append, List.getElem?_cons_succ, List.getElem?_cons_zero, List.length_cons, List.length_nil, List.map_cons, List.map_nil, List.nil_append, List.replicate_succ, List.replicate_zero, List.reverse_cons, List.reverse_nil, List.set_cons_succ, List.set_cons_zero, e1, e3]
theorem evs_inA (k : Nat) (μ : Mu) : dCall T fs (k + 2) 19 [lk p q r s, co c] μ = some (.lst ((evP.filter (canM p c)).map evD), true, μ) := evs_in k μ
theorem leading (L : LOk p q r s) (C : COk p q r s c) (C' : COk p q r s c') (k : Nat) (μ : Mu) : dCall T fs (k + 7) 25 [lk p q r s, co c, co c'] μ = some (.lst ((evP.filter fun e => canM p c e && ceq (stepM q r s c e).1 c').map evD), true, μ) := by
  have e1 := chk_ok L C k μ
  have e2 := fit_ok C' (k + 1) μ
  have e3 := evs_in (p := p) (q := q) (r := r) (s := s) (c := c) (k + 4) μ
  have hk := keep_fold (i := 3) (own := [3]) (ρ := [some (lk p q r s, false), some (co c, false), some (co c', false), none]) (f := fun e => ceq (stepM q r s c e).1 c') (call := dCall T fs (k + 6)) (c := f_25_c0) (μ := μ) (evP.filter (canM p c)) fun e he => by
    have h := behind_ok C (evP_ok e (List.mem_filter.mp he).1) (k + 2) μ
    have h2 := eq_co (stepM q r s c e).1 c'
    simp only [dnx, e_lend, disowns, sz1_s, decide_true, decide_false, eq_self, kVl, kT, kLs, kW, kBl, kNt, kNg, kOp2, kCp2, kSb2, kIs, kBi, kMd2, kRv, kSl3, kMk, kGv, kLc, kPr, kPo, kRt, kNxt, kExS, kStO, kAp, kSb3, gC, kSc3, kEx1, kOp, kCp, kCh1, kCh, kSb, kMd, kSl2, kSl, kCl, kTe2, kTn, turnC, kCm, kCns, kCnp, kCno, kSeqS, kStT, kPrS, kTb, turnS, kFo, kS2, kC2, kEn, kZp2, kZp, dT, dT.dTs, setR, disown, wipeR, scalar, kFc2, kFc, kFs, seqD, kCk, kCk2, kIn2, kIn3, Nat.reduceAdd, Nat.reduceSub, Nat.reduceLT, Nat.reduceLeDiff, ite_true, ite_false, if_true, if_false, reduceCtorEq, List.append_nil, List.cons_append, List.getElem?_cons_succ, List.getElem?_cons_zero, List.length_cons, List.length_nil, List.map_cons, List.map_nil, List.nil_append, List.replicate_succ, List.replicate_zero, List.reverse_cons, List.reverse_nil, List.set_cons_succ, List.set_cons_zero, f_25_c0, h, h2]
    cases ceq (stepM q r s c e).1 c' <;> simp only [dnx, e_lend, disowns, sz1_s, decide_true, decide_false, eq_self, kVl, kT, kLs, kW, kBl, kNt, kNg, kOp2, kCp2, kSb2, kIs, kBi, kMd2, kRv, kSl3, kMk, kGv, kLc, kPr, kPo, kRt, kNxt, kExS, kStO, kAp, kSb3, gC, kSc3, kEx1, kOp, kCp, kCh1, kCh, kSb, kMd, kSl2, kSl, kCl, kTe2, kTn, turnC, kCm, kCns, kCnp, kCno, kSeqS, kStT, kPrS, kTb, turnS, kFo, kS2, kC2, kEn, kZp2, kZp, dT, dT.dTs, setR, disown, wipeR, scalar, kFc2, kFc, kFs, seqD, kCk, kCk2, kIn2, kIn3, Nat.reduceAdd, Nat.reduceSub, Nat.reduceLT, Nat.reduceLeDiff, ite_true, ite_false, if_true, if_false, reduceCtorEq, List.append_nil, List.cons_append, List.getElem?_cons_succ, List.getElem?_cons_zero, List.length_cons, List.length_nil, List.map_cons, List.map_nil, List.nil_append, List.replicate_succ, List.replicate_zero, List.reverse_cons, List.reverse_nil, List.set_cons_succ, List.set_cons_zero]
  rw [List.filter_filter] at hk
  have hb : (evP.filter fun e => ceq (stepM q r s c e).1 c' && canM p c e) = evP.filter fun e => canM p c e && ceq (stepM q r s c e).1 c' := by
    congr 1
    funext e
    exact Bool.and_comm _ _
  rw [hb] at hk
  have hl : ((evP.filter (canM p c)).map evD).length ≤ 100000 := by
    rw [List.length_map]
    exact Nat.le_trans (List.length_filter_le _ _) (by decide)
  rw [dCall_eq at_25 rfl]
  simp only [f_25]
  simp only [dnx, e_lend, disowns, sz1_s, decide_true, decide_false, eq_self, kVl, kT, kLs, kW, kBl, kNt, kNg, kOp2, kCp2, kSb2, kIs, kBi, kMd2, kRv, kSl3, kMk, kGv, kLc, kPr, kPo, kRt, kNxt, kExS, kStO, kAp, kSb3, gC, kSc3, kEx1, kOp, kCp, kCh1, kCh, kSb, kMd, kSl2, kSl, kCl, kTe2, kTn, turnC, kCm, kCns, kCnp, kCno, kSeqS, kStT, kPrS, kTb, turnS, kFo, kS2, kC2, kEn, kZp2, kZp, dT, dT.dTs, setR, disown, wipeR, scalar, kFc2, kFc, kFs, seqD, kCk, kCk2, kIn2, kIn3, Nat.reduceAdd, Nat.reduceSub, Nat.reduceLT, Nat.reduceLeDiff, ite_true, ite_false, if_true, if_false, reduceCtorEq, List.append_nil, List.cons_append, List.getElem?_cons_succ, List.getElem?_cons_zero, List.length_cons, List.length_nil, List.map_cons, List.map_nil, List.nil_append, List.replicate_succ, List.replicate_zero, List.reverse_cons, List.reverse_nil, List.set_cons_succ, List.set_cons_zero, e1, e2, e3, hk, hl]
end ZL
end

section
set_option Elab.async false
set_option linter.all false
set_option maxRecDepth 100000
set_option maxHeartbeats 4000000
set_option exponentiation.threshold 4000
-- d5e7b71c92e1df2b8956e92b42ac9ab1
namespace ZL
open PySem PySem.Spec Z
variable {p q r s : Int} {c c' : Co}
theorem gA2 {i : Nat} {ρ : Rho} {d : D} {μ : Mu} {ds : List D} (h : ds.length < 1000) : gA i ρ d μ (some (some (.lst ds, true))) = some (.nx (ρ.set i (some (.lst (ds ++ [d]), true))) μ) := gA_s (by omega)
/-! what a step does to the counts -/
theorem step_t1 (C : COk p q r s c) {e : Ev} (he : EvOk e) (h : c.t1 < (stepM q r s c e).1.t1) : turnE s c e = true ∧ c.sb = 0 := by
  cases e with
  | send => exact absurd h (Int.lt_irrefl _)
  | drop i =>
    rcases he with rfl | rfl | rfl
    · exact absurd h (Int.lt_irrefl _)
    · have h' : c.t1 < c.t1 + -1 := h
      omega
    · exact absurd h (Int.lt_irrefl _)
  | bring i =>
    have hz : (stepM q r s c (.bring i)).1.t1 ≤ c.t1 := by
      show (bringM q r c i).1.t1 ≤ c.t1
      unfold bringM ansA
      rcases he with rfl | rfl | rfl <;> (split <;> (try split) <;> (try split) <;> (try simp only [addT, addB]) <;> omega)
    omega
  | miss b => exact absurd h (Int.lt_irrefl _)
  | hear b =>
    have h' : c.t1 < (hearM s c b).1.t1 := h
    unfold hearM at h'
    show (if b = c.sb then (if c.sh + 1 < s then false else true) else false) = true ∧ _
    split at h'
    · rename_i h1
      split at h'
      · exact absurd h' (Int.lt_irrefl _)
      · rename_i h2
        have h3 : c.t1 < if c.sb = 0 then c.t1 + c.t0 else c.t1 := h'
        rw [if_pos h1, if_neg h2]
        split at h3
        · rename_i h4
          exact ⟨rfl, h4⟩
        · omega
    · exact absurd h' (Int.lt_irrefl _)
theorem step_t2 (C : COk p q r s c) {e : Ev} (he : EvOk e) (h : c.t2 < (stepM q r s c e).1.t2) : turnE s c e = true ∧ c.sb = 1 := by
  cases e with
  | send => exact absurd h (Int.lt_irrefl _)
  | drop i =>
    rcases he with rfl | rfl | rfl
    · exact absurd h (Int.lt_irrefl _)
    · exact absurd h (Int.lt_irrefl _)
    · have h' : c.t2 < c.t2 + -1 := h
      omega
  | bring i =>
    have hz : (stepM q r s c (.bring i)).1.t2 ≤ c.t2 := by
      show (bringM q r c i).1.t2 ≤ c.t2
      unfold bringM ansA
      rcases he with rfl | rfl | rfl <;> (split <;> (try split) <;> (try split) <;> (try simp only [addT, addB]) <;> omega)
    omega
  | miss b => exact absurd h (Int.lt_irrefl _)
  | hear b =>
    have h' : c.t2 < (hearM s c b).1.t2 := h
    unfold hearM at h'
    show (if b = c.sb then (if c.sh + 1 < s then false else true) else false) = true ∧ _
    split at h'
    · rename_i h1
      split at h'
      · exact absurd h' (Int.lt_irrefl _)
      · rename_i h2
        have h3 : c.t2 < if c.sb = 0 then c.t2 else c.t2 + c.t0 := h'
        have h5 := C.sb
        rw [if_pos h1, if_neg h2]
        split at h3
        · omega
        · rename_i h4
          exact ⟨rfl, by omega⟩
    · exact absurd h' (Int.lt_irrefl _)
/-- the answers of a bit become more by a copy that bears it alone -/
theorem step_b (C : COk p q r s c) {e : Ev} (he : EvOk e) {b : Int} (hb : b = 0 ∨ b = 1) (h : bI c b < bI (stepM q r s c e).1 b) : ∃ i, e = .bring i ∧ bitOf c i = b := by
  have hA : ∀ (d : Co) (x : Int), (x = 0 ∨ x = 1) → d.b0 = c.b0 → d.b1 = c.b1 → bI c b < bI (ansA q d x) b → x = b := fun d x hx h0 h1 h2 => by
    unfold ansA at h2
    by_cases hq : d.b0 + d.b1 < q
    · rw [if_pos hq] at h2
      unfold bI at h2
      simp only [addB, h0, h1] at h2
      rcases hx with rfl | rfl <;> rcases hb with rfl | rfl
      · rfl
      · simp at h2
      · simp at h2
      · rfl
    · rw [if_neg hq] at h2
      unfold bI at h2
      rw [h0, h1] at h2
      exact absurd h2 (Int.lt_irrefl _)
  have hm : ∀ x : Int, ¬ bI c b < bI (addB c x (-1)) b := fun x h2 => by
    unfold bI at h2
    simp only [addB] at h2
    split at h2 <;> split at h2 <;> omega
  have hm2 : ∀ (d : Co), d.b0 = c.b0 → d.b1 = c.b1 → ¬ bI c b < bI d b := fun d h0 h1 h2 => by
    unfold bI at h2
    rw [h0, h1] at h2
    exact absurd h2 (Int.lt_irrefl _)
  cases e with
  | send => exact absurd h (hm2 _ rfl rfl)
  | drop i => rcases he with rfl | rfl | rfl <;> exact absurd h (hm2 _ rfl rfl)
  | bring i =>
    refine ⟨i, rfl, ?_⟩
    have hx := bit_01 C he
    have h' : bI c b < bI (bringM q r c i).1 b := h
    unfold bringM at h'
    split at h'
    · exact hA _ _ hx (by rcases he with rfl | rfl | rfl <;> rfl) (by rcases he with rfl | rfl | rfl <;> rfl) h'
    · split at h'
      · exact absurd h' (hm2 _ (by rcases he with rfl | rfl | rfl <;> rfl) (by rcases he with rfl | rfl | rfl <;> rfl))
      · exact hA _ _ hx (by rcases he with rfl | rfl | rfl <;> rfl) (by rcases he with rfl | rfl | rfl <;> rfl) h'
  | miss x => exact absurd h (hm x)
  | hear x =>
    have h' : bI c b < bI (hearM s c x).1 b := h
    unfold hearM at h'
    split at h'
    · split at h'
      · exact absurd h' (hm x)
      · exact absurd h' (hm x)
    · exact absurd h' (hm x)
theorem z1 : mdD .indexL (.lst [.str "zero", .str "one"]) [.str "zero"] = some (.int 0, false) := by kernel_rfl
theorem z2 : mdD .indexL (.lst [.str "zero", .str "one"]) [.str "one"] = some (.int 1, false) := by kernel_rfl
theorem bears {i : Nat} (hi : i = 0 ∨ i = 1 ∨ i = 2) (k : Nat) (μ : Mu) : dCall T fs (k + 1) 40 [co c, evD (.bring i)] μ = some (.int (bitOf c i), false, μ) := by
  rw [dCall_eq at_40 rfl]
  simp only [f_40, co, evD]
  rcases hi with rfl | rfl | rfl
  · simp only [nm]
    simp only [dnx, e_lend, disowns, sz1_s, decide_true, decide_false, eq_self, kVl, kT, kLs, kW, kBl, kNt, kNg, kOp2, kCp2, kSb2, kIs, kBi, kMd2, kRv, kSl3, kMk, kGv, kLc, kPr, kPo, kRt, kNxt, kExS, kStO, kAp, kSb3, gC, kSc3, kEx1, kOp, kCp, kCh1, kCh, kSb, kMd, kSl2, kSl, kCl, kTe2, kTn, turnC, kCm, kCns, kCnp, kCno, kSeqS, kStT, kPrS, kTb, turnS, kFo, kS2, kC2, kEn, kZp2, kZp, dT, dT.dTs, setR, disown, wipeR, scalar, kFc2, kFc, kFs, seqD, kCk, kCk2, kIn2, kIn3, Nat.reduceAdd, Nat.reduceSub, Nat.reduceLT, Nat.reduceLeDiff, ite_true, ite_false, if_true, if_false, reduceCtorEq, List.append_nil, List.cons_append, List.getElem?_cons_succ, List.getElem?_cons_zero, List.length_cons, List.length_nil, List.map_cons, List.map_nil, List.nil_append, List.replicate_succ, List.replicate_zero, List.reverse_cons, List.reverse_nil, List.set_cons_succ, List.set_cons_zero, sne, bitOf, sz1_s]
  · simp only [nm]
    simp only [dnx, e_lend, disowns, sz1_s, decide_true, decide_false, eq_self, kVl, kT, kLs, kW, kBl, kNt, kNg, kOp2, kCp2, kSb2, kIs, kBi, kMd2, kRv, kSl3, kMk, kGv, kLc, kPr, kPo, kRt, kNxt, kExS, kStO, kAp, kSb3, gC, kSc3, kEx1, kOp, kCp, kCh1, kCh, kSb, kMd, kSl2, kSl, kCl, kTe2, kTn, turnC, kCm, kCns, kCnp, kCno, kSeqS, kStT, kPrS, kTb, turnS, kFo, kS2, kC2, kEn, kZp2, kZp, dT, dT.dTs, setR, disown, wipeR, scalar, kFc2, kFc, kFs, seqD, kCk, kCk2, kIn2, kIn3, Nat.reduceAdd, Nat.reduceSub, Nat.reduceLT, Nat.reduceLeDiff, ite_true, ite_false, if_true, if_false, reduceCtorEq, List.append_nil, List.cons_append, List.getElem?_cons_succ, List.getElem?_cons_zero, List.length_cons, List.length_nil, List.map_cons, List.map_nil, List.nil_append, List.replicate_succ, List.replicate_zero, List.reverse_cons, List.reverse_nil, List.set_cons_succ, List.set_cons_zero, sne, bitOf, sz1_s, z1]
  · simp only [nm]
    simp only [dnx, e_lend, disowns, sz1_s, decide_true, decide_false, eq_self, kVl, kT, kLs, kW, kBl, kNt, kNg, kOp2, kCp2, kSb2, kIs, kBi, kMd2, kRv, kSl3, kMk, kGv, kLc, kPr, kPo, kRt, kNxt, kExS, kStO, kAp, kSb3, gC, kSc3, kEx1, kOp, kCp, kCh1, kCh, kSb, kMd, kSl2, kSl, kCl, kTe2, kTn, turnC, kCm, kCns, kCnp, kCno, kSeqS, kStT, kPrS, kTb, turnS, kFo, kS2, kC2, kEn, kZp2, kZp, dT, dT.dTs, setR, disown, wipeR, scalar, kFc2, kFc, kFs, seqD, kCk, kCk2, kIn2, kIn3, Nat.reduceAdd, Nat.reduceSub, Nat.reduceLT, Nat.reduceLeDiff, ite_true, ite_false, if_true, if_false, reduceCtorEq, List.append_nil, List.cons_append, List.getElem?_cons_succ, List.getElem?_cons_zero, List.length_cons, List.length_nil, List.map_cons, List.map_nil, List.nil_append, List.replicate_succ, List.replicate_zero, List.reverse_cons, List.reverse_nil, List.set_cons_succ, List.set_cons_zero, sne, bitOf, sz1_s, z2]
end ZL
end

section
set_option Elab.async false
set_option linter.all false
set_option maxRecDepth 100000
set_option maxHeartbeats 4000000
set_option exponentiation.threshold 4000
-- d2fe7a219a0e5da7155a2a82c206997c
namespace ZL
open PySem PySem.Spec Z
variable {p q r s : Int} {c c' : Co}
theorem isn_l {xs : List D} : cpD .isNot (.lst xs) .non = some true := rfl
theorem gather_turn (L : LOk p q r s) (C : COk p q r s c) {e : Ev} (he : EvOk e) (k : Nat) (xs : List Co) (hl : xs.length < 900) (x0 x1 x3 x4 x6 x7 x9 x10 x11 : Option (D × Bool)) (μ : Mu) :
    ∃ x9', turnS T (dCall T fs (k + 8)) (.tName 3) f_41_b0 (evD e) [x0, x1, some (lk p q r s, false), x3, x4, some (co c, false), x6, x7, some (.lst (xs.map co), true), x9, x10, x11] μ =
      some (.nx [x0, x1, some (lk p q r s, false), some (evD e, false), x4, some (co c, false), x6, x7, some (.lst ((xs ++ if canM p c e then [(stepM q r s c e).1] else []).map co), true), x9', x10, x11] μ) := by
  have e1 := lstepL L C he (k + 5) μ
  have hl2 : (xs.map co).length < 1000 := by rw [List.length_map]; omega
  unfold resE at e1
  cases hc : canM p c e with
  | true =>
    rw [hc, if_pos rfl] at e1
    rw [if_pos rfl]
    refine ⟨some (.lst [co (stepM q r s c e).1, wrD (stepM q r s c e).2, .bl (turnE s c e), .bl (outE r c e)], true), ?_⟩
    simp only [dnx, e_lend, disowns, sz1_s, decide_true, decide_false, eq_self, kVl, kT, kLs, kW, kBl, kNt, kNg, kOp2, kCp2, kSb2, kIs, kBi, kMd2, kRv, kSl3, kMk, kGv, kLc, kPr, kPo, kRt, kNxt, kExS, kStO, kAp, kSb3, gC, kSc3, kEx1, kOp, kCp, kCh1, kCh, kSb, kMd, kSl2, kSl, kCl, kTe2, kTn, turnC, kCm, kCns, kCnp, kCno, kSeqS, kStT, kPrS, kTb, turnS, kFo, kS2, kC2, kEn, kZp2, kZp, dT, dT.dTs, setR, disown, wipeR, scalar, kFc2, kFc, kFs, seqD, kCk, kCk2, kIn2, kIn3, Nat.reduceAdd, Nat.reduceSub, Nat.reduceLT, Nat.reduceLeDiff, ite_true, ite_false, if_true, if_false, reduceCtorEq, List.append_nil, List.cons_append, List.getElem?_cons_succ, List.getElem?_cons_zero, List.length_cons, List.length_nil, List.map_cons, List.map_nil, List.nil_append, List.replicate_succ, List.replicate_zero, List.reverse_cons, List.reverse_nil, List.set_cons_succ, List.set_cons_zero, f_41_b0, e1, isn_l, gA2, hl2, List.map_append]
  | false =>
    rw [hc, if_neg (by decide)] at e1
    rw [if_neg (by decide), List.append_nil]
    refine ⟨some (.non, false), ?_⟩
    simp only [dnx, e_lend, disowns, sz1_s, decide_true, decide_false, eq_self, kVl, kT, kLs, kW, kBl, kNt, kNg, kOp2, kCp2, kSb2, kIs, kBi, kMd2, kRv, kSl3, kMk, kGv, kLc, kPr, kPo, kRt, kNxt, kExS, kStO, kAp, kSb3, gC, kSc3, kEx1, kOp, kCp, kCh1, kCh, kSb, kMd, kSl2, kSl, kCl, kTe2, kTn, turnC, kCm, kCns, kCnp, kCno, kSeqS, kStT, kPrS, kTb, turnS, kFo, kS2, kC2, kEn, kZp2, kZp, dT, dT.dTs, setR, disown, wipeR, scalar, kFc2, kFc, kFs, seqD, kCk, kCk2, kIn2, kIn3, Nat.reduceAdd, Nat.reduceSub, Nat.reduceLT, Nat.reduceLeDiff, ite_true, ite_false, if_true, if_false, reduceCtorEq, List.append_nil, List.cons_append, List.getElem?_cons_succ, List.getElem?_cons_zero, List.length_cons, List.length_nil, List.map_cons, List.map_nil, List.nil_append, List.replicate_succ, List.replicate_zero, List.reverse_cons, List.reverse_nil, List.set_cons_succ, List.set_cons_zero, f_41_b0, e1]
theorem gather (L : LOk p q r s) (C : COk p q r s c) (k : Nat) (x0 x1 x4 x6 x7 x10 x11 : Option (D × Bool)) (μ : Mu) : ∀ (es : List Ev) (xs : List Co) (x3 x9 : Option (D × Bool)), (∀ e ∈ es, EvOk e) → (∀ d ∈ xs, COk p q r s d) → xs.length + es.length < 900 →
    ∃ (ys : List Co) (x3' x9' : Option (D × Bool)), foldS (turnS T (dCall T fs (k + 8)) (.tName 3) f_41_b0) (es.map evD) [x0, x1, some (lk p q r s, false), x3, x4, some (co c, false), x6, x7, some (.lst (xs.map co), true), x9, x10, x11] μ =
      some (.nx [x0, x1, some (lk p q r s, false), x3', x4, some (co c, false), x6, x7, some (.lst (ys.map co), true), x9', x10, x11] μ) ∧ (∀ d ∈ ys, COk p q r s d)
  | [], xs, x3, x9, _, hx, _ => ⟨xs, x3, x9, rfl, hx⟩
  | e :: es, xs, x3, x9, h, hx, hl => by
    rw [List.length_cons] at hl
    obtain ⟨y9, e1⟩ := gather_turn L C (h e List.mem_cons_self) k xs (by omega) x0 x1 x3 x4 x6 x7 x9 x10 x11 μ
    obtain ⟨ys, z3, z9, e2, h2⟩ := gather L C k x0 x1 x4 x6 x7 x10 x11 μ es (xs ++ if canM p c e then [(stepM q r s c e).1] else []) (some (evD e, false)) y9 (fun e' h' => h e' (List.mem_cons_of_mem _ h')) (fun d hd => by
      rcases List.mem_append.mp hd with hd | hd
      · exact hx d hd
      · split at hd
        · rename_i hc
          rw [List.mem_singleton.mp hd]
          exact C.step L (h e List.mem_cons_self) hc
        · exact absurd hd (by simp)) (by
      rw [List.length_append]
      have : (if canM p c e then [(stepM q r s c e).1] else []).length ≤ 1 := by
        split
        · exact Nat.le_refl _
        · exact Nat.zero_le _
      omega)
    refine ⟨ys, z3, z9, ?_, h2⟩
    rw [List.map_cons, fs_cons, e1, bT_n]
    exact e2
theorem due_turn (L : LOk p q r s) (C : COk p q r s c) (C' : COk p q r s c') (k : Nat) (x0 x1 x3 x4 x6 x7 x8 x9 x10 x11 : Option (D × Bool)) (μ : Mu) :
    ∃ x3' x9' x10', turnS T (dCall T fs (k + 8)) (.tName 4) f_41_b1 (co c') [x0, x1, some (lk p q r s, false), x3, x4, some (co c, false), x6, x7, x8, x9, x10, x11] μ =
      some (.nx [x0, x1, some (lk p q r s, false), x3', some (co c', false), some (co c, false), x6, x7, x8, x9', x10', x11] μ) := by
  have ev := lev_all (k + 7) μ
  have hk := keep_fold (i := 3) (own := [3]) (ρ := [x0, x1, some (lk p q r s, false), x3, some (co c', false), some (co c, false), x6, x7, x8, x9, x10, x11]) (f := fun e => canM p c e && ceq (stepM q r s c e).1 c') (call := dCall T fs (k + 8)) (c := f_41_c0) (μ := μ) evL fun e he => by
    have h := lstepL L C (evL_ok e he) (k + 5) μ
    have h2 := eq_co (stepM q r s c e).1 c'
    unfold resE at h
    cases hc : canM p c e with
    | true =>
      rw [hc, if_pos rfl] at h
      simp only [dnx, e_lend, disowns, sz1_s, decide_true, decide_false, eq_self, kVl, kT, kLs, kW, kBl, kNt, kNg, kOp2, kCp2, kSb2, kIs, kBi, kMd2, kRv, kSl3, kMk, kGv, kLc, kPr, kPo, kRt, kNxt, kExS, kStO, kAp, kSb3, gC, kSc3, kEx1, kOp, kCp, kCh1, kCh, kSb, kMd, kSl2, kSl, kCl, kTe2, kTn, turnC, kCm, kCns, kCnp, kCno, kSeqS, kStT, kPrS, kTb, turnS, kFo, kS2, kC2, kEn, kZp2, kZp, dT, dT.dTs, setR, disown, wipeR, scalar, kFc2, kFc, kFs, seqD, kCk, kCk2, kIn2, kIn3, Nat.reduceAdd, Nat.reduceSub, Nat.reduceLT, Nat.reduceLeDiff, ite_true, ite_false, if_true, if_false, reduceCtorEq, List.append_nil, List.cons_append, List.getElem?_cons_succ, List.getElem?_cons_zero, List.length_cons, List.length_nil, List.map_cons, List.map_nil, List.nil_append, List.replicate_succ, List.replicate_zero, List.reverse_cons, List.reverse_nil, List.set_cons_succ, List.set_cons_zero, f_41_c0, h, h2, isn_l]
      cases ceq (stepM q r s c e).1 c' <;> simp only [dnx, e_lend, disowns, sz1_s, decide_true, decide_false, eq_self, kVl, kT, kLs, kW, kBl, kNt, kNg, kOp2, kCp2, kSb2, kIs, kBi, kMd2, kRv, kSl3, kMk, kGv, kLc, kPr, kPo, kRt, kNxt, kExS, kStO, kAp, kSb3, gC, kSc3, kEx1, kOp, kCp, kCh1, kCh, kSb, kMd, kSl2, kSl, kCl, kTe2, kTn, turnC, kCm, kCns, kCnp, kCno, kSeqS, kStT, kPrS, kTb, turnS, kFo, kS2, kC2, kEn, kZp2, kZp, dT, dT.dTs, setR, disown, wipeR, scalar, kFc2, kFc, kFs, seqD, kCk, kCk2, kIn2, kIn3, Nat.reduceAdd, Nat.reduceSub, Nat.reduceLT, Nat.reduceLeDiff, ite_true, ite_false, if_true, if_false, reduceCtorEq, List.append_nil, List.cons_append, List.getElem?_cons_succ, List.getElem?_cons_zero, List.length_cons, List.length_nil, List.map_cons, List.map_nil, List.nil_append, List.replicate_succ, List.replicate_zero, List.reverse_cons, List.reverse_nil, List.set_cons_succ, List.set_cons_zero]
    | false =>
      rw [hc, if_neg (by decide)] at h
      simp only [dnx, e_lend, disowns, sz1_s, decide_true, decide_false, eq_self, kVl, kT, kLs, kW, kBl, kNt, kNg, kOp2, kCp2, kSb2, kIs, kBi, kMd2, kRv, kSl3, kMk, kGv, kLc, kPr, kPo, kRt, kNxt, kExS, kStO, kAp, kSb3, gC, kSc3, kEx1, kOp, kCp, kCh1, kCh, kSb, kMd, kSl2, kSl, kCl, kTe2, kTn, turnC, kCm, kCns, kCnp, kCno, kSeqS, kStT, kPrS, kTb, turnS, kFo, kS2, kC2, kEn, kZp2, kZp, dT, dT.dTs, setR, disown, wipeR, scalar, kFc2, kFc, kFs, seqD, kCk, kCk2, kIn2, kIn3, Nat.reduceAdd, Nat.reduceSub, Nat.reduceLT, Nat.reduceLeDiff, ite_true, ite_false, if_true, if_false, reduceCtorEq, List.append_nil, List.cons_append, List.getElem?_cons_succ, List.getElem?_cons_zero, List.length_cons, List.length_nil, List.map_cons, List.map_nil, List.nil_append, List.replicate_succ, List.replicate_zero, List.reverse_cons, List.reverse_nil, List.set_cons_succ, List.set_cons_zero, f_41_c0, h]
  have hs := srt_ev fun e => canM p c e && ceq (stepM q r s c e).1 c'
  have hl := leading L C C' (k + 1) μ
  have hok : ∀ e ∈ evP.filter (fun e => canM p c e && ceq (stepM q r s c e).1 c'), EvOk e := fun e he => evP_ok e (List.mem_filter.mp he).1
  have hlen : (evP.filter fun e => canM p c e && ceq (stepM q r s c e).1 c').length ≤ 11 := List.length_filter_le _ _
  obtain ⟨y, ry⟩ := evs_rp _ hok (by omega)
  have hml : ((evP.filter fun e => canM p c e && ceq (stepM q r s c e).1 c').map evD).length < 1000 := by rw [List.length_map]; omega
  have hl0 : (evL.map evD).length ≤ 100000 := by decide
  generalize hD : (evP.filter fun e => canM p c e && ceq (stepM q r s c e).1 c').map evD = Ds at *
  refine ⟨x3, some (.lst (Ds ++ [.non]), true), some (.lst Ds, false), ?_⟩
  simp only [dnx, e_lend, disowns, sz1_s, decide_true, decide_false, eq_self, kVl, kT, kLs, kW, kBl, kNt, kNg, kOp2, kCp2, kSb2, kIs, kBi, kMd2, kRv, kSl3, kMk, kGv, kLc, kPr, kPo, kRt, kNxt, kExS, kStO, kAp, kSb3, gC, kSc3, kEx1, kOp, kCp, kCh1, kCh, kSb, kMd, kSl2, kSl, kCl, kTe2, kTn, turnC, kCm, kCns, kCnp, kCno, kSeqS, kStT, kPrS, kTb, turnS, kFo, kS2, kC2, kEn, kZp2, kZp, dT, dT.dTs, setR, disown, wipeR, scalar, kFc2, kFc, kFs, seqD, kCk, kCk2, kIn2, kIn3, Nat.reduceAdd, Nat.reduceSub, Nat.reduceLT, Nat.reduceLeDiff, ite_true, ite_false, if_true, if_false, reduceCtorEq, List.append_nil, List.cons_append, List.getElem?_cons_succ, List.getElem?_cons_zero, List.length_cons, List.length_nil, List.map_cons, List.map_nil, List.nil_append, List.replicate_succ, List.replicate_zero, List.reverse_cons, List.reverse_nil, List.set_cons_succ, List.set_cons_zero, f_41_b1, f_41_s0, ev, hl0, hk, hs, hl, ry, gA2, hml]
theorem due_loop (L : LOk p q r s) (C : COk p q r s c) (k : Nat) (x0 x1 x6 x7 x8 x11 : Option (D × Bool)) (μ : Mu) : ∀ (xs : List Co) (x3 x4 x9 x10 : Option (D × Bool)), (∀ d ∈ xs, COk p q r s d) →
    ∃ x3' x4' x9' x10', foldS (turnS T (dCall T fs (k + 8)) (.tName 4) f_41_b1) (xs.map co) [x0, x1, some (lk p q r s, false), x3, x4, some (co c, false), x6, x7, x8, x9, x10, x11] μ =
      some (.nx [x0, x1, some (lk p q r s, false), x3', x4', some (co c, false), x6, x7, x8, x9', x10', x11] μ)
  | [], x3, x4, x9, x10, _ => ⟨x3, x4, x9, x10, rfl⟩
  | d :: xs, x3, x4, x9, x10, h => by
    obtain ⟨y3, y9, y10, e1⟩ := due_turn L C (h d List.mem_cons_self) k x0 x1 x3 x4 x6 x7 x8 x9 x10 x11 μ
    obtain ⟨z3, z4, z9, z10, e2⟩ := due_loop L C k x0 x1 x6 x7 x8 x11 μ xs y3 (some (co d, false)) y9 y10 fun d' h' => h d' (List.mem_cons_of_mem _ h')
    refine ⟨z3, z4, z9, z10, ?_⟩
    rw [List.map_cons, fs_cons, e1, bT_n]
    exact e2
theorem gt_ii {i j : Int} : cpD .gt (.int i) (.int j) = some (decide (j < i)) := rfl
/-- behind an event: what became more, and why -/
theorem bit_turn (L : LOk p q r s) (C : COk p q r s c) {e : Ev} (he : EvOk e) (hc : canM p c e = true) {b : Int} (hb : b = 0 ∨ b = 1) (k : Nat) (x0 x1 x6 x7 x8 x9 x10 x11 : Option (D × Bool)) (μ : Mu) :
    turnS T (dCall T fs (k + 8)) (.tName 11) f_41_b2 (.int b) [x0, x1, some (lk p q r s, false), some (evD e, false), some (co (stepM q r s c e).1, false), some (co c, false), x6, x7, x8, x9, x10, x11] μ =
      some (.nx [x0, x1, some (lk p q r s, false), some (evD e, false), some (co (stepM q r s c e).1, false), some (co c, false), x6, x7, x8, x9, x10, some (.int b, false)] μ) := by
  have en := ends_pub L C he hc k μ
  have t1 := step_t1 (p := p) (q := q) (r := r) (s := s) C he
  have t2 := step_t2 (p := p) (q := q) (r := r) (s := s) C he
  have tb := step_b (p := p) (q := q) (r := r) (s := s) C he hb
  have br : ∀ i, e = .bring i → bitOf c i = b → dCall T fs (k + 8) 40 [co c, evD e] μ = some (.int b, false, μ) := fun i h1 h2 => by
    subst h1
    rw [bears (c := c) he (k + 7) μ, h2]
  generalize (stepM q r s c e).1 = d at *
  rw [co_tup c] at en br ⊢
  rw [co_tup d]
  rcases hb with rfl | rfl
  · by_cases h1 : c.t1 < d.t1
    · obtain ⟨h2, h3⟩ := t1 h1
      rw [h2] at en
      rw [h3] at en br ⊢
      by_cases h4 : c.b0 < d.b0
      · obtain ⟨i, h5, h6⟩ := tb h4
        have bb := br i h5 h6
        simp only [dnx, e_lend, disowns, sz1_s, decide_true, decide_false, eq_self, kVl, kT, kLs, kW, kBl, kNt, kNg, kOp2, kCp2, kSb2, kIs, kBi, kMd2, kRv, kSl3, kMk, kGv, kLc, kPr, kPo, kRt, kNxt, kExS, kStO, kAp, kSb3, gC, kSc3, kEx1, kOp, kCp, kCh1, kCh, kSb, kMd, kSl2, kSl, kCl, kTe2, kTn, turnC, kCm, kCns, kCnp, kCno, kSeqS, kStT, kPrS, kTb, turnS, kFo, kS2, kC2, kEn, kZp2, kZp, dT, dT.dTs, setR, disown, wipeR, scalar, kFc2, kFc, kFs, seqD, kCk, kCk2, kIn2, kIn3, Nat.reduceAdd, Nat.reduceSub, Nat.reduceLT, Nat.reduceLeDiff, ite_true, ite_false, if_true, if_false, reduceCtorEq, List.append_nil, List.cons_append, List.getElem?_cons_succ, List.getElem?_cons_zero, List.length_cons, List.length_nil, List.map_cons, List.map_nil, List.nil_append, List.replicate_succ, List.replicate_zero, List.reverse_cons, List.reverse_nil, List.set_cons_succ, List.set_cons_zero, f_41_b2, f_41_s2, f_41_s3, h1, en, h4, bb, gt_ii, Int.reduceAdd, sz1_s, decide_true, decide_false]
      · simp only [dnx, e_lend, disowns, sz1_s, decide_true, decide_false, eq_self, kVl, kT, kLs, kW, kBl, kNt, kNg, kOp2, kCp2, kSb2, kIs, kBi, kMd2, kRv, kSl3, kMk, kGv, kLc, kPr, kPo, kRt, kNxt, kExS, kStO, kAp, kSb3, gC, kSc3, kEx1, kOp, kCp, kCh1, kCh, kSb, kMd, kSl2, kSl, kCl, kTe2, kTn, turnC, kCm, kCns, kCnp, kCno, kSeqS, kStT, kPrS, kTb, turnS, kFo, kS2, kC2, kEn, kZp2, kZp, dT, dT.dTs, setR, disown, wipeR, scalar, kFc2, kFc, kFs, seqD, kCk, kCk2, kIn2, kIn3, Nat.reduceAdd, Nat.reduceSub, Nat.reduceLT, Nat.reduceLeDiff, ite_true, ite_false, if_true, if_false, reduceCtorEq, List.append_nil, List.cons_append, List.getElem?_cons_succ, List.getElem?_cons_zero, List.length_cons, List.length_nil, List.map_cons, List.map_nil, List.nil_append, List.replicate_succ, List.replicate_zero, List.reverse_cons, List.reverse_nil, List.set_cons_succ, List.set_cons_zero, f_41_b2, f_41_s2, f_41_s3, h1, en, h4, gt_ii, Int.reduceAdd, sz1_s, decide_true, decide_false]
    · by_cases h4 : c.b0 < d.b0
      · obtain ⟨i, h5, h6⟩ := tb h4
        have bb := br i h5 h6
        simp only [dnx, e_lend, disowns, sz1_s, decide_true, decide_false, eq_self, kVl, kT, kLs, kW, kBl, kNt, kNg, kOp2, kCp2, kSb2, kIs, kBi, kMd2, kRv, kSl3, kMk, kGv, kLc, kPr, kPo, kRt, kNxt, kExS, kStO, kAp, kSb3, gC, kSc3, kEx1, kOp, kCp, kCh1, kCh, kSb, kMd, kSl2, kSl, kCl, kTe2, kTn, turnC, kCm, kCns, kCnp, kCno, kSeqS, kStT, kPrS, kTb, turnS, kFo, kS2, kC2, kEn, kZp2, kZp, dT, dT.dTs, setR, disown, wipeR, scalar, kFc2, kFc, kFs, seqD, kCk, kCk2, kIn2, kIn3, Nat.reduceAdd, Nat.reduceSub, Nat.reduceLT, Nat.reduceLeDiff, ite_true, ite_false, if_true, if_false, reduceCtorEq, List.append_nil, List.cons_append, List.getElem?_cons_succ, List.getElem?_cons_zero, List.length_cons, List.length_nil, List.map_cons, List.map_nil, List.nil_append, List.replicate_succ, List.replicate_zero, List.reverse_cons, List.reverse_nil, List.set_cons_succ, List.set_cons_zero, f_41_b2, f_41_s2, f_41_s3, h1, en, h4, bb, gt_ii, Int.reduceAdd, sz1_s, decide_true, decide_false]
      · simp only [dnx, e_lend, disowns, sz1_s, decide_true, decide_false, eq_self, kVl, kT, kLs, kW, kBl, kNt, kNg, kOp2, kCp2, kSb2, kIs, kBi, kMd2, kRv, kSl3, kMk, kGv, kLc, kPr, kPo, kRt, kNxt, kExS, kStO, kAp, kSb3, gC, kSc3, kEx1, kOp, kCp, kCh1, kCh, kSb, kMd, kSl2, kSl, kCl, kTe2, kTn, turnC, kCm, kCns, kCnp, kCno, kSeqS, kStT, kPrS, kTb, turnS, kFo, kS2, kC2, kEn, kZp2, kZp, dT, dT.dTs, setR, disown, wipeR, scalar, kFc2, kFc, kFs, seqD, kCk, kCk2, kIn2, kIn3, Nat.reduceAdd, Nat.reduceSub, Nat.reduceLT, Nat.reduceLeDiff, ite_true, ite_false, if_true, if_false, reduceCtorEq, List.append_nil, List.cons_append, List.getElem?_cons_succ, List.getElem?_cons_zero, List.length_cons, List.length_nil, List.map_cons, List.map_nil, List.nil_append, List.replicate_succ, List.replicate_zero, List.reverse_cons, List.reverse_nil, List.set_cons_succ, List.set_cons_zero, f_41_b2, f_41_s2, f_41_s3, h1, en, h4, gt_ii, Int.reduceAdd, sz1_s, decide_true, decide_false]
  · by_cases h1 : c.t2 < d.t2
    · obtain ⟨h2, h3⟩ := t2 h1
      rw [h2] at en
      rw [h3] at en br ⊢
      by_cases h4 : c.b1 < d.b1
      · obtain ⟨i, h5, h6⟩ := tb h4
        have bb := br i h5 h6
        simp only [dnx, e_lend, disowns, sz1_s, decide_true, decide_false, eq_self, kVl, kT, kLs, kW, kBl, kNt, kNg, kOp2, kCp2, kSb2, kIs, kBi, kMd2, kRv, kSl3, kMk, kGv, kLc, kPr, kPo, kRt, kNxt, kExS, kStO, kAp, kSb3, gC, kSc3, kEx1, kOp, kCp, kCh1, kCh, kSb, kMd, kSl2, kSl, kCl, kTe2, kTn, turnC, kCm, kCns, kCnp, kCno, kSeqS, kStT, kPrS, kTb, turnS, kFo, kS2, kC2, kEn, kZp2, kZp, dT, dT.dTs, setR, disown, wipeR, scalar, kFc2, kFc, kFs, seqD, kCk, kCk2, kIn2, kIn3, Nat.reduceAdd, Nat.reduceSub, Nat.reduceLT, Nat.reduceLeDiff, ite_true, ite_false, if_true, if_false, reduceCtorEq, List.append_nil, List.cons_append, List.getElem?_cons_succ, List.getElem?_cons_zero, List.length_cons, List.length_nil, List.map_cons, List.map_nil, List.nil_append, List.replicate_succ, List.replicate_zero, List.reverse_cons, List.reverse_nil, List.set_cons_succ, List.set_cons_zero, f_41_b2, f_41_s2, f_41_s3, h1, en, h4, bb, gt_ii, Int.reduceAdd, sz1_s, decide_true, decide_false]
      · simp only [dnx, e_lend, disowns, sz1_s, decide_true, decide_false, eq_self, kVl, kT, kLs, kW, kBl, kNt, kNg, kOp2, kCp2, kSb2, kIs, kBi, kMd2, kRv, kSl3, kMk, kGv, kLc, kPr, kPo, kRt, kNxt, kExS, kStO, kAp, kSb3, gC, kSc3, kEx1, kOp, kCp, kCh1, kCh, kSb, kMd, kSl2, kSl, kCl, kTe2, kTn, turnC, kCm, kCns, kCnp, kCno, kSeqS, kStT, kPrS, kTb, turnS, kFo, kS2, kC2, kEn, kZp2, kZp, dT, dT.dTs, setR, disown, wipeR, scalar, kFc2, kFc, kFs, seqD, kCk, kCk2, kIn2, kIn3, Nat.reduceAdd, Nat.reduceSub, Nat.reduceLT, Nat.reduceLeDiff, ite_true, ite_false, if_true, if_false, reduceCtorEq, List.append_nil, List.cons_append, List.getElem?_cons_succ, List.getElem?_cons_zero, List.length_cons, List.length_nil, List.map_cons, List.map_nil, List.nil_append, List.replicate_succ, List.replicate_zero, List.reverse_cons, List.reverse_nil, List.set_cons_succ, List.set_cons_zero, f_41_b2, f_41_s2, f_41_s3, h1, en, h4, gt_ii, Int.reduceAdd, sz1_s, decide_true, decide_false]
    · by_cases h4 : c.b1 < d.b1
      · obtain ⟨i, h5, h6⟩ := tb h4
        have bb := br i h5 h6
        simp only [dnx, e_lend, disowns, sz1_s, decide_true, decide_false, eq_self, kVl, kT, kLs, kW, kBl, kNt, kNg, kOp2, kCp2, kSb2, kIs, kBi, kMd2, kRv, kSl3, kMk, kGv, kLc, kPr, kPo, kRt, kNxt, kExS, kStO, kAp, kSb3, gC, kSc3, kEx1, kOp, kCp, kCh1, kCh, kSb, kMd, kSl2, kSl, kCl, kTe2, kTn, turnC, kCm, kCns, kCnp, kCno, kSeqS, kStT, kPrS, kTb, turnS, kFo, kS2, kC2, kEn, kZp2, kZp, dT, dT.dTs, setR, disown, wipeR, scalar, kFc2, kFc, kFs, seqD, kCk, kCk2, kIn2, kIn3, Nat.reduceAdd, Nat.reduceSub, Nat.reduceLT, Nat.reduceLeDiff, ite_true, ite_false, if_true, if_false, reduceCtorEq, List.append_nil, List.cons_append, List.getElem?_cons_succ, List.getElem?_cons_zero, List.length_cons, List.length_nil, List.map_cons, List.map_nil, List.nil_append, List.replicate_succ, List.replicate_zero, List.reverse_cons, List.reverse_nil, List.set_cons_succ, List.set_cons_zero, f_41_b2, f_41_s2, f_41_s3, h1, en, h4, bb, gt_ii, Int.reduceAdd, sz1_s, decide_true, decide_false]
      · simp only [dnx, e_lend, disowns, sz1_s, decide_true, decide_false, eq_self, kVl, kT, kLs, kW, kBl, kNt, kNg, kOp2, kCp2, kSb2, kIs, kBi, kMd2, kRv, kSl3, kMk, kGv, kLc, kPr, kPo, kRt, kNxt, kExS, kStO, kAp, kSb3, gC, kSc3, kEx1, kOp, kCp, kCh1, kCh, kSb, kMd, kSl2, kSl, kCl, kTe2, kTn, turnC, kCm, kCns, kCnp, kCno, kSeqS, kStT, kPrS, kTb, turnS, kFo, kS2, kC2, kEn, kZp2, kZp, dT, dT.dTs, setR, disown, wipeR, scalar, kFc2, kFc, kFs, seqD, kCk, kCk2, kIn2, kIn3, Nat.reduceAdd, Nat.reduceSub, Nat.reduceLT, Nat.reduceLeDiff, ite_true, ite_false, if_true, if_false, reduceCtorEq, List.append_nil, List.cons_append, List.getElem?_cons_succ, List.getElem?_cons_zero, List.length_cons, List.length_nil, List.map_cons, List.map_nil, List.nil_append, List.replicate_succ, List.replicate_zero, List.reverse_cons, List.reverse_nil, List.set_cons_succ, List.set_cons_zero, f_41_b2, f_41_s2, f_41_s3, h1, en, h4, gt_ii, Int.reduceAdd, sz1_s, decide_true, decide_false]
theorem ev_turn (L : LOk p q r s) (C : COk p q r s c) {e : Ev} (he : EvOk e) (hc : canM p c e = true) (k : Nat) (x0 x1 x3 x4 x6 x7 x8 x9 x10 x11 : Option (D × Bool)) (μ : Mu) :
    turnS T (dCall T fs (k + 8)) (.tName 3) f_41_b3 (evD e) [x0, x1, some (lk p q r s, false), x3, x4, some (co c, false), x6, x7, x8, x9, x10, x11] μ =
      some (.nx [x0, x1, some (lk p q r s, false), some (evD e, false), some (co (stepM q r s c e).1, false), some (co c, false), x6, x7, x8, x9, x10, some (.int 1, false)] μ) := by
  have e1 := behind_pub L C he hc k μ
  have e2 := bit_turn L C he hc (.inl rfl) k x0 x1 x6 x7 x8 x9 x10 x11 μ
  have e3 := bit_turn L C he hc (.inr rfl) k x0 x1 x6 x7 x8 x9 x10 (some (.int 0, false)) μ
  have lp : foldS (turnS T (dCall T fs (k + 8)) (.tName 11) f_41_b2) (rngL 2 0) [x0, x1, some (lk p q r s, false), some (evD e, false), some (co (stepM q r s c e).1, false), some (co c, false), x6, x7, x8, x9, x10, x11] μ = some (.nx [x0, x1, some (lk p q r s, false), some (evD e, false), some (co (stepM q r s c e).1, false), some (co c, false), x6, x7, x8, x9, x10, some (.int 1, false)] μ) := by
    show foldS _ [.int 0, .int 1] _ _ = _
    rw [fs_cons, e2, bT_n]
    show foldS _ _ _ _ = _
    rw [fs_cons, e3, bT_n]
    rfl
  have hr : Int.toNat 2 = 2 := rfl
  simp only [dnx, e_lend, disowns, sz1_s, decide_true, decide_false, eq_self, kVl, kT, kLs, kW, kBl, kNt, kNg, kOp2, kCp2, kSb2, kIs, kBi, kMd2, kRv, kSl3, kMk, kGv, kLc, kPr, kPo, kRt, kNxt, kExS, kStO, kAp, kSb3, gC, kSc3, kEx1, kOp, kCp, kCh1, kCh, kSb, kMd, kSl2, kSl, kCl, kTe2, kTn, turnC, kCm, kCns, kCnp, kCno, kSeqS, kStT, kPrS, kTb, turnS, kFo, kS2, kC2, kEn, kZp2, kZp, dT, dT.dTs, setR, disown, wipeR, scalar, kFc2, kFc, kFs, seqD, kCk, kCk2, kIn2, kIn3, Nat.reduceAdd, Nat.reduceSub, Nat.reduceLT, Nat.reduceLeDiff, ite_true, ite_false, if_true, if_false, reduceCtorEq, List.append_nil, List.cons_append, List.getElem?_cons_succ, List.getElem?_cons_zero, List.length_cons, List.length_nil, List.map_cons, List.map_nil, List.nil_append, List.replicate_succ, List.replicate_zero, List.reverse_cons, List.reverse_nil, List.set_cons_succ, List.set_cons_zero, f_41_b3, e1, hr, lp, rng_1, Int.reduceLE, Int.reduceNeg]
theorem ev_loop (L : LOk p q r s) (C : COk p q r s c) (k : Nat) (x0 x1 x6 x7 x8 x9 x10 : Option (D × Bool)) (μ : Mu) : ∀ (es : List Ev) (x3 x4 x11 : Option (D × Bool)), (∀ e ∈ es, EvOk e ∧ canM p c e = true) →
    ∃ x3' x4' x11', foldS (turnS T (dCall T fs (k + 8)) (.tName 3) f_41_b3) (es.map evD) [x0, x1, some (lk p q r s, false), x3, x4, some (co c, false), x6, x7, x8, x9, x10, x11] μ =
      some (.nx [x0, x1, some (lk p q r s, false), x3', x4', some (co c, false), x6, x7, x8, x9, x10, x11'] μ)
  | [], x3, x4, x11, _ => ⟨x3, x4, x11, rfl⟩
  | e :: es, x3, x4, x11, h => by
    obtain ⟨h1, h2⟩ := h e List.mem_cons_self
    have e1 := ev_turn L C h1 h2 k x0 x1 x3 x4 x6 x7 x8 x9 x10 x11 μ
    obtain ⟨z3, z4, z11, e2⟩ := ev_loop L C k x0 x1 x6 x7 x8 x9 x10 μ es (some (evD e, false)) (some (co (stepM q r s c e).1, false)) (some (.int 1, false)) fun e' h' => h e' (List.mem_cons_of_mem _ h')
    refine ⟨z3, z4, z11, ?_⟩
    rw [List.map_cons, fs_cons, e1, bT_n]
    exact e2
end ZL
end

section
set_option Elab.async false
set_option linter.all false
set_option maxRecDepth 100000
set_option maxHeartbeats 4000000
set_option exponentiation.threshold 4000
-- d0534236dbe494031fafb92080ca9e24
namespace ZL
open PySem PySem.Spec Z
variable {p q r s : Int} {c c' : Co}
theorem show3 (L : LOk p q r s) (C : COk p q r s c) (C' : COk p q r s c') : ∃ x, biD .repr [.lst [lk p q r s, co c, co c']] = some (.str x, false) :=
  ⟨_, rp (d := .lst [lk p q r s, co c, co c']) (by simp only [smL, smD, and_true]; exact ⟨lk_sm L, co_sm L C, co_sm L C'⟩) (by
    obtain ⟨sb, sh, rb, l, d, t0, t1, t2, b0, b1⟩ := c
    obtain ⟨sb', sh', rb', l', d', t0', t1', t2', b0', b1'⟩ := c'
    rcases l with _ | ⟨_ | _, n⟩ <;> rcases l' with _ | ⟨_ | _, n'⟩ <;> kernel_rfl)⟩
theorem right (k n : Nat) (M m : Int) (μ : Mu) (g : GS μ n m) (hm : m + 10000 < 2 ^ 60) (hM : 1 ≤ M) (hM2 : M < 2 ^ 140) :
    ∃ μ', dCall T fs (k + 9) 41 [.cell n, .int M] μ = some (.bl true, false, μ') ∧ GS μ' n (m + 5000) := by
  have big : (2 : Int) ^ 140 < 2 ^ 150 := by decide
  have big2 : (2 : Int) ^ 140 < 2 ^ 190 := by decide
  obtain ⟨p, q, r, s, μ1, e1, ⟨p0, p1⟩, ⟨q0, q1⟩, ⟨r0, r1⟩, ⟨s0, s1⟩, g1⟩ := link (k + 4) μ n m M g (by omega) hM (by omega)
  have L : LOk p q r s := ⟨p0, by omega, q0, by omega, r0, by omega, s0, by omega⟩
  obtain ⟨c, μ2, e2, C, g2⟩ := contents (k + 3) n p q r s _ μ1 L g1 (by omega)
  obtain ⟨c', μ3, e3, C', g3⟩ := contents (k + 3) n p q r s _ μ2 L g2 (by omega)
  obtain ⟨x, hx⟩ := show3 L C C'
  have ev := lev_all (k + 7) μ3
  obtain ⟨ys, x3, x9, l1, hy⟩ := gather L C k (some (.cell n, false)) (some (.int M, false)) none (some (co c', false)) (some (.str x, false)) none none μ3 evL [c, c'] none none evL_ok (fun d hd => by
    simp only [List.mem_cons, List.not_mem_nil, or_false] at hd
    rcases hd with rfl | rfl
    · exact C
    · exact C') (show 2 + evL.length < 900 by decide)
  obtain ⟨y3, y4, y9, y10, l2⟩ := due_loop L C k (some (.cell n, false)) (some (.int M, false)) (some (co c', false)) (some (.str x, false)) (some (.lst (ys.map co), false)) none μ3 ys x3 none x9 none hy
  obtain ⟨z3, z4, z11, l3⟩ := ev_loop L C k (some (.cell n, false)) (some (.int M, false)) (some (co c', false)) (some (.str x, false)) (some (.lst (ys.map co), false)) y9 y10 μ3 (evP.filter (canM p c)) y3 y4 none fun e he => ⟨evP_ok e (List.mem_filter.mp he).1, (List.mem_filter.mp he).2⟩
  have po := possible_pub L C (k + 1) μ3
  have l1' : foldS (turnS T (dCall T fs (k + 8)) (.tName 3) f_41_b0) (evL.map evD) [some (.cell n, false), some (.int M, false), some (lk p q r s, false), none, none, some (co c, false), some (co c', false), some (.str x, false), some (.lst [co c, co c'], true), none, none, none] μ3 = _ := l1
  have hs1 : dS T (dCall T fs (k + 8)) f_41_s1 [some (.cell n, false), some (.int M, false), some (lk p q r s, false), y3, y4, some (co c, false), some (co c', false), some (.str x, false), some (.lst (ys.map co), false), y9, y10, none] μ3 =
      some (.nx [some (.cell n, false), some (.int M, false), some (lk p q r s, false), y3, y4, some (co c, false), some (co c', false), some (.str x, false), some (.lst (ys.map co), false), y9, y10, none] μ3) := by
    have ts := C.ts
    rw [co_tup c]
    by_cases h1 : 0 < c.t0
    · have h2 : ¬ p ≤ c.t1 + c.t2 := by omega
      simp only [dnx, e_lend, disowns, sz1_s, decide_true, decide_false, eq_self, kVl, kT, kLs, kW, kBl, kNt, kNg, kOp2, kCp2, kSb2, kIs, kBi, kMd2, kRv, kSl3, kMk, kGv, kLc, kPr, kPo, kRt, kNxt, kExS, kStO, kAp, kSb3, gC, kSc3, kEx1, kOp, kCp, kCh1, kCh, kSb, kMd, kSl2, kSl, kCl, kTe2, kTn, turnC, kCm, kCns, kCnp, kCno, kSeqS, kStT, kPrS, kTb, turnS, kFo, kS2, kC2, kEn, kZp2, kZp, dT, dT.dTs, setR, disown, wipeR, scalar, kFc2, kFc, kFs, seqD, kCk, kCk2, kIn2, kIn3, Nat.reduceAdd, Nat.reduceSub, Nat.reduceLT, Nat.reduceLeDiff, ite_true, ite_false, if_true, if_false, reduceCtorEq, List.append_nil, List.cons_append, List.getElem?_cons_succ, List.getElem?_cons_zero, List.length_cons, List.length_nil, List.map_cons, List.map_nil, List.nil_append, List.replicate_succ, List.replicate_zero, List.reverse_cons, List.reverse_nil, List.set_cons_succ, List.set_cons_zero, f_41_s1, lk, gt_ii, h1, h2, sz1_s, decide_true, decide_false]
    · simp only [dnx, e_lend, disowns, sz1_s, decide_true, decide_false, eq_self, kVl, kT, kLs, kW, kBl, kNt, kNg, kOp2, kCp2, kSb2, kIs, kBi, kMd2, kRv, kSl3, kMk, kGv, kLc, kPr, kPo, kRt, kNxt, kExS, kStO, kAp, kSb3, gC, kSc3, kEx1, kOp, kCp, kCh1, kCh, kSb, kMd, kSl2, kSl, kCl, kTe2, kTn, turnC, kCm, kCns, kCnp, kCno, kSeqS, kStT, kPrS, kTb, turnS, kFo, kS2, kC2, kEn, kZp2, kZp, dT, dT.dTs, setR, disown, wipeR, scalar, kFc2, kFc, kFs, seqD, kCk, kCk2, kIn2, kIn3, Nat.reduceAdd, Nat.reduceSub, Nat.reduceLT, Nat.reduceLeDiff, ite_true, ite_false, if_true, if_false, reduceCtorEq, List.append_nil, List.cons_append, List.getElem?_cons_succ, List.getElem?_cons_zero, List.length_cons, List.length_nil, List.map_cons, List.map_nil, List.nil_append, List.replicate_succ, List.replicate_zero, List.reverse_cons, List.reverse_nil, List.set_cons_succ, List.set_cons_zero, f_41_s1, lk, gt_ii, h1, sz1_s, decide_true, decide_false]
  refine ⟨μ3, ?_, g3.mono (by omega)⟩
  generalize hZ : (evP.filter (canM p c)).map evD = Zs at *
  generalize hY : ys.map co = Ys at *
  generalize hE : evL.map evD = Es at *
  rw [dCall_eq at_41 rfl]
  simp only [f_41]
  simp only [dnx, e_lend, disowns, sz1_s, decide_true, decide_false, eq_self, kVl, kT, kLs, kW, kBl, kNt, kNg, kOp2, kCp2, kSb2, kIs, kBi, kMd2, kRv, kSl3, kMk, kGv, kLc, kPr, kPo, kRt, kNxt, kExS, kStO, kAp, kSb3, gC, kSc3, kEx1, kOp, kCp, kCh1, kCh, kSb, kMd, kSl2, kSl, kCl, kTe2, kTn, turnC, kCm, kCns, kCnp, kCno, kSeqS, kStT, kPrS, kTb, turnS, kFo, kS2, kC2, kEn, kZp2, kZp, dT, dT.dTs, setR, disown, wipeR, scalar, kFc2, kFc, kFs, seqD, kCk, kCk2, kIn2, kIn3, Nat.reduceAdd, Nat.reduceSub, Nat.reduceLT, Nat.reduceLeDiff, ite_true, ite_false, if_true, if_false, reduceCtorEq, List.append_nil, List.cons_append, List.getElem?_cons_succ, List.getElem?_cons_zero, List.length_cons, List.length_nil, List.map_cons, List.map_nil, List.nil_append, List.replicate_succ, List.replicate_zero, List.reverse_cons, List.reverse_nil, List.set_cons_succ, List.set_cons_zero, e1, e2, e3, hx, ev, l1', l2, hs1, po, l3]
end ZL
end

section
set_option Elab.async false
set_option linter.all false
set_option maxRecDepth 100000
set_option maxHeartbeats 4000000
set_option exponentiation.threshold 4000
-- 2248b29d1db9bf4eca3a699462733fc7
namespace ZL
open PySem PySem.Spec Z
variable {p q r s : Int} {c c' : Co}
theorem pw28 : opD .pow (.int 10) (.int 28) = some (.int (10 ^ 28), false) := by kernel_rfl
theorem law_inner (k n : Nat) (x0 x1 x4 x5 x6 x7 : Option (D × Bool)) : ∀ (Ms : List Int) (m : Int) (x3 : Option (D × Bool)) (μ : Mu), (∀ M ∈ Ms, 1 ≤ M ∧ M < 2 ^ 140) → GS μ n m → m + 5000 * Ms.length + 10000 < 2 ^ 60 →
    ∃ x3' μ', foldS (turnS T (dCall T fs (k + 9)) (.tName 3) f_42_b0) (Ms.map .int) [x0, x1, some (.cell n, false), x3, x4, x5, x6, x7] μ = some (.nx [x0, x1, some (.cell n, false), x3', x4, x5, x6, x7] μ') ∧ GS μ' n (m + 5000 * Ms.length)
  | [], m, x3, μ, _, g, _ => ⟨x3, μ, rfl, g.mono (by show m ≤ m + 5000 * ((0 : Nat) : Int); omega)⟩
  | M :: Ms, m, x3, μ, h, g, hm => by
    have hl : ((M :: Ms).length : Int) = (Ms.length : Int) + 1 := by rw [List.length_cons]; omega
    obtain ⟨h1, h2⟩ := h M List.mem_cons_self
    obtain ⟨μ1, e1, g1⟩ := right k n M m μ g (by omega) h1 h2
    obtain ⟨y3, μ2, e2, g2⟩ := law_inner k n x0 x1 x4 x5 x6 x7 Ms (m + 5000) (some (.int M, false)) μ1 (fun M' h' => h M' (List.mem_cons_of_mem _ h')) g1 (by omega)
    have e3 : turnS T (dCall T fs (k + 9)) (.tName 3) f_42_b0 (.int M) [x0, x1, some (.cell n, false), x3, x4, x5, x6, x7] μ = some (.nx [x0, x1, some (.cell n, false), some (.int M, false), x4, x5, x6, x7] μ1) := by
      simp only [dnx, e_lend, disowns, sz1_s, decide_true, decide_false, eq_self, kVl, kT, kLs, kW, kBl, kNt, kNg, kOp2, kCp2, kSb2, kIs, kBi, kMd2, kRv, kSl3, kMk, kGv, kLc, kPr, kPo, kRt, kNxt, kExS, kStO, kAp, kSb3, gC, kSc3, kEx1, kOp, kCp, kCh1, kCh, kSb, kMd, kSl2, kSl, kCl, kTe2, kTn, turnC, kCm, kCns, kCnp, kCno, kSeqS, kStT, kPrS, kTb, turnS, kFo, kS2, kC2, kEn, kZp2, kZp, dT, dT.dTs, setR, disown, wipeR, scalar, kFc2, kFc, kFs, seqD, kCk, kCk2, kIn2, kIn3, Nat.reduceAdd, Nat.reduceSub, Nat.reduceLT, Nat.reduceLeDiff, ite_true, ite_false, if_true, if_false, reduceCtorEq, List.append_nil, List.cons_append, List.getElem?_cons_succ, List.getElem?_cons_zero, List.length_cons, List.length_nil, List.map_cons, List.map_nil, List.nil_append, List.replicate_succ, List.replicate_zero, List.reverse_cons, List.reverse_nil, List.set_cons_succ, List.set_cons_zero, f_42_b0, e1]
    refine ⟨y3, μ2, ?_, g2.mono (by omega)⟩
    rw [List.map_cons, fs_cons, e3, bT_n]
    exact e2
theorem law_turn (k : Nat) (ns : List Int) (i : Nat) (hi : i < 1000) (x1 x2 x3 x4 x5 x6 x7 : Option (D × Bool)) (μ : Mu) (hs : μ.all scalL = true) :
    ∃ x2' x3' μ', turnS T (dCall T fs (k + 9)) (.tName 1) f_42_b1 (.int i) [some (.lst (ns.map .int), false), x1, x2, x3, x4, x5, x6, x7] μ = some (.nx [some (.lst (ns.map .int), false), some (.int i, false), x2', x3', x4, x5, x6, x7] μ') ∧ μ'.all scalL = true := by
  obtain ⟨a, b, e, h0⟩ := lgen (k + 7) ns i hi μ
  have g0 := gs_new a b (1000 * i) (1000 * i) μ h0 (by omega) (Int.le_refl _) hs
  obtain ⟨y3, μ1, e1, g1⟩ := law_inner k μ.length (some (.lst (ns.map .int), false)) (some (.int i, false)) x4 x5 x6 x7 [2, 3, 3, 10 ^ 28] _ x3 _ (fun M hM => by
    simp only [List.mem_cons, List.not_mem_nil, or_false] at hM
    rcases hM with rfl | rfl | rfl | rfl <;> exact ⟨by decide, by decide⟩) g0 (by show (1000 * (i : Int)) + 5000 * ((4 : Nat) : Int) + 10000 < 2 ^ 60; omega)
  have e1' : foldS (turnS T (dCall T fs (k + 9)) (.tName 3) f_42_b0) [.int 2, .int 3, .int 3, .int (10 ^ 28)] [some (.lst (ns.map .int), false), some (.int i, false), some (.cell μ.length, false), x3, x4, x5, x6, x7] (μ ++ [[.int a, .int b, .int (1000 * i)]]) = some (.nx [some (.lst (ns.map .int), false), some (.int i, false), some (.cell μ.length, false), y3, x4, x5, x6, x7] μ1) := e1
  refine ⟨some (.cell μ.length, false), y3, μ1, ?_, g1.scal⟩
  simp only [dnx, e_lend, disowns, sz1_s, decide_true, decide_false, eq_self, kVl, kT, kLs, kW, kBl, kNt, kNg, kOp2, kCp2, kSb2, kIs, kBi, kMd2, kRv, kSl3, kMk, kGv, kLc, kPr, kPo, kRt, kNxt, kExS, kStO, kAp, kSb3, gC, kSc3, kEx1, kOp, kCp, kCh1, kCh, kSb, kMd, kSl2, kSl, kCl, kTe2, kTn, turnC, kCm, kCns, kCnp, kCno, kSeqS, kStT, kPrS, kTb, turnS, kFo, kS2, kC2, kEn, kZp2, kZp, dT, dT.dTs, setR, disown, wipeR, scalar, kFc2, kFc, kFs, seqD, kCk, kCk2, kIn2, kIn3, Nat.reduceAdd, Nat.reduceSub, Nat.reduceLT, Nat.reduceLeDiff, ite_true, ite_false, if_true, if_false, reduceCtorEq, List.append_nil, List.cons_append, List.getElem?_cons_succ, List.getElem?_cons_zero, List.length_cons, List.length_nil, List.map_cons, List.map_nil, List.nil_append, List.replicate_succ, List.replicate_zero, List.reverse_cons, List.reverse_nil, List.set_cons_succ, List.set_cons_zero, f_42_b1, e, pw28, sz1_s, e1']
theorem law_loop (k : Nat) (ns : List Int) (x4 x5 x6 x7 : Option (D × Bool)) : ∀ (j i : Nat) (x1 x2 x3 : Option (D × Bool)) (μ : Mu), i + j < 1000 → μ.all scalL = true →
    ∃ x1' x2' x3' μ', foldS (turnS T (dCall T fs (k + 9)) (.tName 1) f_42_b1) (rngL j (i : Int)) [some (.lst (ns.map .int), false), x1, x2, x3, x4, x5, x6, x7] μ = some (.nx [some (.lst (ns.map .int), false), x1', x2', x3', x4, x5, x6, x7] μ')
  | 0, i, x1, x2, x3, μ, _, _ => ⟨x1, x2, x3, μ, rfl⟩
  | j + 1, i, x1, x2, x3, μ, h, hs => by
    obtain ⟨y2, y3, μ1, e1, hs1⟩ := law_turn k ns i (by omega) x1 x2 x3 x4 x5 x6 x7 μ hs
    obtain ⟨z1, z2, z3, μ2, e2⟩ := law_loop k ns x4 x5 x6 x7 j (i + 1) (some (.int i, false)) y2 y3 μ1 (by omega) hs1
    refine ⟨z1, z2, z3, μ2, ?_⟩
    show foldS _ (.int i :: rngL j ((i : Int) + 1)) _ _ = _
    rw [fs_cons, e1, bT_n]
    exact e2
def start : Co := ⟨0, 0, 1, none, false, 0, 0, 0, 0, 0⟩
def later : Co := ⟨0, 0, 1, none, false, 1, 0, 0, 0, 0⟩
def full : Co := ⟨0, 0, 0, none, true, 1, 0, 0, 1, 0⟩
def fullo : Co := ⟨0, 0, 0, none, true, 0, 0, 0, 1, 0⟩
theorem L2121 : LOk 2 1 2 1 := ⟨by decide, by decide, by decide, by decide, by decide, by decide, by decide, by decide⟩
theorem start_ok : COk 2 1 2 1 start := ⟨.inl rfl, by decide, by decide, .inr rfl, (fun b n h => nomatch h), by decide, by decide, by decide, by decide, by decide, by decide, by decide⟩
theorem later_ok : COk 2 1 2 1 later := ⟨.inl rfl, by decide, by decide, .inr rfl, (fun b n h => nomatch h), by decide, by decide, by decide, by decide, by decide, by decide, by decide⟩
theorem full_ok : COk 2 1 2 1 full := ⟨.inl rfl, by decide, by decide, .inl rfl, (fun b n h => nomatch h), by decide, by decide, by decide, by decide, by decide, by decide, by decide⟩
theorem fullo_ok : COk 2 1 2 1 fullo := ⟨.inl rfl, by decide, by decide, .inl rfl, (fun b n h => nomatch h), by decide, by decide, by decide, by decide, by decide, by decide, by decide⟩
theorem plain (ns : List Int) (h1 : ns.length ≤ 63) (h2 : ∀ z ∈ ns, Builtin.Int.intBits z ≤ 1048576) : ∃ o μ', dCall T fs 14 42 [.lst (ns.map .int)] [] = some (.bl true, o, μ') := by
  obtain ⟨x1, x2, x3, μ, lp⟩ := law_loop 4 ns none none none none 3 0 none none none [] (by decide) rfl
  have lp' : foldS (turnS T (dCall T fs 13) (.tName 1) f_42_b1) (rngL 3 0) [some (.lst (ns.map .int), false), none, none, none, none, none, none, none] [] = some (.nx [some (.lst (ns.map .int), false), x1, x2, x3, none, none, none, none] μ) := lp
  have lkE : lk 2 1 2 1 = .tup [.int 2, .int 1, .int 2, .int 1] := rfl
  have stE : co start = .tup [.tup [.int 0, .int 0], .tup [.int 1, .non, .bl false], .tup [.int 0, .int 0, .int 0], .tup [.int 0, .int 0]] := rfl
  have laE : co later = .tup [.tup [.int 0, .int 0], .tup [.int 1, .non, .bl false], .tup [.int 1, .int 0, .int 0], .tup [.int 0, .int 0]] := rfl
  have fuE : co full = .tup [.tup [.int 0, .int 0], .tup [.int 0, .non, .bl true], .tup [.int 1, .int 0, .int 0], .tup [.int 1, .int 0]] := rfl
  have foE : co fullo = .tup [.tup [.int 0, .int 0], .tup [.int 0, .non, .bl true], .tup [.int 0, .int 0, .int 0], .tup [.int 1, .int 0]] := rfl
  have e1 : dCall T fs 13 23 [lk 2 1 2 1, co start, .tup [.str "send"]] μ = some (co later, false, μ) := behind_pub L2121 start_ok (e := .send) trivial (by decide) 5 μ
  have e2 := leading L2121 later_ok start_ok 6 μ
  have e3 := leading L2121 full_ok fullo_ok 6 μ
  have v2 : (evP.filter fun e => canM 2 later e && ceq (stepM 1 2 1 later e).1 start).map evD = [.tup [.str "drop", .str "new"]] := by kernel_rfl
  have v3 : (evP.filter fun e => canM 2 full e && ceq (stepM 1 2 1 full e).1 fullo).map evD = [.tup [.str "bring", .str "new"], .tup [.str "drop", .str "new"]] := by kernel_rfl
  rw [v2] at e2
  rw [v3] at e3
  rw [lkE, stE, laE] at e1 e2
  rw [lkE, fuE, foE] at e3
  have q2 : cpD .eq (.lst [.tup [.str "drop", .str "new"]]) (.lst [.tup [.str "drop", .str "new"]]) = some true := by kernel_rfl
  have q3 : cpD .eq (.lst [.tup [.str "bring", .str "new"], .tup [.str "drop", .str "new"]]) (.lst [.tup [.str "bring", .str "new"], .tup [.str "drop", .str "new"]]) = some true := by kernel_rfl
  have hr : Int.toNat 3 = 3 := rfl
  refine ⟨false, μ, ?_⟩
  rw [dCall_eq at_42 rfl]
  simp only [f_42]
  simp only [dnx, e_lend, disowns, sz1_s, decide_true, decide_false, eq_self, kVl, kT, kLs, kW, kBl, kNt, kNg, kOp2, kCp2, kSb2, kIs, kBi, kMd2, kRv, kSl3, kMk, kGv, kLc, kPr, kPo, kRt, kNxt, kExS, kStO, kAp, kSb3, gC, kSc3, kEx1, kOp, kCp, kCh1, kCh, kSb, kMd, kSl2, kSl, kCl, kTe2, kTn, turnC, kCm, kCns, kCnp, kCno, kSeqS, kStT, kPrS, kTb, turnS, kFo, kS2, kC2, kEn, kZp2, kZp, dT, dT.dTs, setR, disown, wipeR, scalar, kFc2, kFc, kFs, seqD, kCk, kCk2, kIn2, kIn3, Nat.reduceAdd, Nat.reduceSub, Nat.reduceLT, Nat.reduceLeDiff, ite_true, ite_false, if_true, if_false, reduceCtorEq, List.append_nil, List.cons_append, List.getElem?_cons_succ, List.getElem?_cons_zero, List.length_cons, List.length_nil, List.map_cons, List.map_nil, List.nil_append, List.replicate_succ, List.replicate_zero, List.reverse_cons, List.reverse_nil, List.set_cons_succ, List.set_cons_zero, hr, lp', rng_1, Int.reduceLE, Int.reduceNeg, e1, e2, e3, q2, q3]
end ZL
end

section
set_option Elab.async false
set_option linter.all false
set_option maxRecDepth 100000
set_option maxHeartbeats 0
namespace ZL
open PySem PySem.Spec PyProof.Rows L2 Z
def bl : List Str := ((["len", "sum", "max", "min", "abs", "int", "tuple", "list", "repr", "str", "bool", "isinstance", "range", "enumerate", "zip", "dict", "sorted"] : List Str))
def G : Pg := ⟨fs, cs.map (·.1), bl, []⟩
def top (i : Nat) : Stmt := PySem.Challenge.pw_healwires_k11_whole_back_and_forth.main.body.getD i (.Pass ⟨0, 0, 0, 0⟩)
def dd (F : Def) (i : Nat) : He.DefD := ⟨(F.name, none), F.name, F.name, defArgs (top i), defBody (top i), defScope (top i), [], []⟩
def fn : List He.DefD := [dd f_0 7, dd f_1 8, dd f_2 9, dd f_3 10, dd f_4 11, dd f_5 12, dd f_6 13, dd f_7 14, dd f_8 15, dd f_9 16, dd f_10 17, dd f_11 18, dd f_12 22, dd f_13 23, dd f_14 24, dd f_15 25, dd f_16 26, dd f_17 27, dd f_18 28, dd f_19 29, dd f_20 30, dd f_21 31, dd f_22 32, dd f_23 33, dd f_24 34, dd f_25 35, dd f_26 37, dd f_27 38, dd f_28 39, dd f_29 40, dd f_30 41, dd f_31 42, dd f_32 43, dd f_33 44, dd f_34 45, dd f_35 46, dd f_36 47, dd f_37 48, dd f_38 49, dd f_39 50, dd f_40 51, dd f_41 52, dd f_42 53]
theorem all_ok : allOk G fs fn = true := by kernel_rfl
abbrev R : PySem.W.OpenRow := PySem.W.OpenLaw.row PySem.Challenge.rw_healwires_k11_whole_back_and_forth
abbrev hk : PySem.W.Hook := hookZ 4 (facts G bl) fn cs
def ob (s : PySem.W.SharedT) : He.AlD × Bool := obsZ 4 (facts G bl) fn cs (HandSHeadRun.getT s)
theorem ob_eq (s : PySem.W.SharedT) : ob s = hk.obs s.abs := obsZ_eq (HandSHeadRun.getT_eq s)
def loose : List Str := ((["WireError", "InvalidLink", "InvalidContents", "InvalidEvent", "COPIES", "is_whole", "is_between", "link_fits", "check_link", "bit_fits", "copy_fits", "counts_fit", "lot_fits", "hosts_fit", "contents_fit", "check_contents", "event_fits", "BROUGHT", "EVENTS", "changed", "possible_in", "lot_behind", "brought", "next_turn", "told_answer", "behind_in", "events_in", "ends_in", "check_possible", "possible_events"] : List Str) ++ (["behind", "ends_turn", "leading_to", "_law_hash", "_law_random", "_law_cell", "_law_generator", "_law_number", "_law_link", "_law_share", "_law_contents", "_law_more", "_law_events", "_law_bring", "_law_step", "_law_played", "_law_run", "_law_bears", "_law_right"] : List Str))
theorem run (w : World) : HandSHeadRun.RunEq R (PySem.W.view R.prog [53]) hk ob 12000 loose w := by
  intro os
  kernel_rfl
end ZL
open PySem PySem.W PySem.Calls PyProof.Rows
theorem PySem.Challenge.cw_healwires_k11_whole_back_and_forth_holds : PySem.Challenge.rw_healwires_k11_whole_back_and_forth.Holds := by
  w_on; o_law
  refine HandSHeadRun.head_any (r := OpenLaw.row PySem.Challenge.rw_healwires_k11_whole_back_and_forth) (q := view (OpenLaw.row PySem.Challenge.rw_healwires_k11_whole_back_and_forth).prog [53]) (H := ZL.hk) (ob := ZL.ob) (M := 12000) (loose := ZL.loose) (d := HandSHeadRun.topDef (OpenLaw.row PySem.Challenge.rw_healwires_k11_whole_back_and_forth).prog 53) (kwd := []) ZL.ob_eq
    (by kernel_rfl) (fun s => by kernel_rfl) ZL.run (by kernel_rfl) (by kernel_rfl) (by kernel_rfl) (by rfl) (by first | assumption | decide +kernel) (by decide +kernel) ⟨rfl, rfl, rfl, rfl, rfl, by decide +kernel⟩ ?hw ?hc
  case hw => w_witness2
  case hc =>
    refine Z.walkG (l := PySem.Challenge.rw_healwires_k11_whole_back_and_forth) (n := 63) (k := 14) (x := "_law_script") rfl (by decide) (by kernel_rfl) ⟨rfl, by decide, by decide⟩ ?F
    intro w mg fa h Y N hm0
    obtain ⟨K, KX, c, cc⟩ := Y
    have hm : mg ("law" : PySem.Str) = some (.ref fa) := by
      have e : (HandSHeadRun.topDef (OpenLaw.row PySem.Challenge.rw_healwires_k11_whole_back_and_forth).prog 53).name = ("law" : PySem.Str) := by kernel_rfl
      rw [← e]
      exact hm0
    exact Z.law_of (T := ZL.T) (G := ZL.G) (i := 42) (F := ZL.f_42) KX N c cc rfl rfl ZL.all_ok rfl rfl rfl hm ZL.plain
end
