import PyProof.Rows.All
import HandS.ForMost
import HandS.Wide
import HandS.Defaults
import PyProof.ReprRoads
import HandS.TupAny
import HandS.Deep
import HandS.Style
import HandS.WideBits
import HandS.IsInst
import KE.KTupSum
import HandS.SortRule
import HandS.SortInts
import KE.KSortTupAny
import KE.SortCalls
import HandS.RaiseMore
import PyProof.ReprLen
import PyProof.SeqIndex
import HandS.Strs
import HandS.Zip
import PyProof.EnumMake
import KE.GoesEnumKw
import HandS.TryOnly
import HandS.ExcInit
import HandS.NestedK
import KE.KExcSuper
import KE.KSuper
import HandS.ExcValue
import HandS.ExcField
import HandS.Exc
import HandS.More
import HandS.Head0
import HandS.Head1
import HandS.Head2
import HandS.HeadEnd
import HandS.HeadHook1
import HandS.HeadHook2
import HandS.EndBits
import PySem.Challenge.RW_healwires_k39_whole_mendings
section
set_option Elab.async false
set_option linter.all false
set_option maxRecDepth 100000
/-! Values as trees, programs as small terms, and what they come to. -/
namespace Z
open PySem

inductive D where
  | non | bl (b : Bool) | int (i : Int) | str (x : Str) | tup (xs : List D) | lst (xs : List D) | dct (kvs : List (L2.Key × D)) | cell (n : Nat) | fn (n : Nat) | exn (c : Nat) (v : D)
  deriving Inhabited

mutual
/-- the data that a tree is -/
def py : D → PyData
  | .non => .none
  | .bl b => .bool b
  | .int i => .int i
  | .str x => .str x
  | .tup xs => .tuple (pyL xs)
  | .lst xs => .list (pyL xs)
  | .dct kvs => .dict (pyK kvs)
  | .cell _ => .none
  | .fn _ => .none
  | .exn _ _ => .none
def pyL : List D → List PyData
  | [] => []
  | d :: ds => py d :: pyL ds
def pyK : List (L2.Key × D) → List (PyData × PyData)
  | [] => []
  | (.inl i, d) :: r => (.int i, py d) :: pyK r
  | (.inr x, d) :: r => (.str x, py d) :: pyK r
end
mutual
/-- no dict, no cell, no def in it -/
def pl : D → Bool
  | .non => true
  | .bl _ => true
  | .int _ => true
  | .str _ => true
  | .tup xs => plL xs
  | .lst xs => plL xs
  | .dct _ => false
  | .cell _ => false
  | .fn _ => false
  | .exn _ _ => false
def plL : List D → Bool
  | [] => true
  | d :: ds => pl d && plL ds
end
mutual
/-- shown by repr: no dict but {}, no cell, no def in it -/
def plx : D → Bool
  | .non => true
  | .bl _ => true
  | .int _ => true
  | .str _ => true
  | .tup xs => plxL xs
  | .lst xs => plxL xs
  | .dct kvs => kvs.isEmpty
  | .cell _ => false
  | .fn _ => false
  | .exn _ _ => false
def plxL : List D → Bool
  | [] => true
  | d :: ds => plx d && plxL ds
end
/-- compared by == -/
def eqOk (d : D) : Bool := pl d && SeqAt.shaped (py d)
def eqD (d e : D) : Bool := PyData.eqv (py d) (py e)

mutual
/-- at least as long as the text that repr gives -/
def sz : D → Nat
  | .non => 4
  | .bl _ => 5
  | .int _ => 1921
  | .str x => (reprText x).length
  | .tup xs => szL xs + 3
  | .lst xs => szL xs + 3
  | .dct _ => 2
  | .cell _ => 0
  | .fn _ => 0
  | .exn _ _ => 0
def szL : List D → Nat
  | [] => 0
  | d :: ds => sz d + 2 + szL ds
end
def showOk (d : D) : Bool := plx d && (py d).showable && decide (sz d ≤ sizeLine) && decide ((py d).depth ≤ 60)

/-! ### operators -/
inductive Op where
  | add | sub | mul | fdiv | mod | pow
  deriving DecidableEq
inductive Cp where
  | eq | ne | lt | le | gt | ge | is_ | isNot | in_ | notIn
  deriving DecidableEq
inductive Bi where
  | len | sum | max | min | abs | int | tuple | list | repr | str | bool | sorted
  deriving DecidableEq
inductive Md where
  | indexL | indexT | bits
  deriving DecidableEq

def mulOk (i j : Int) : Bool := decide (-(2 ^ 64) < i ∧ i < 2 ^ 64) || decide (-(2 ^ 64) < j ∧ j < 2 ^ 64) || decide (i.natAbs < 2 ^ 40000 ∧ j.natAbs < 2 ^ 40000)
def powOk (i j : Int) : Bool := decide (0 ≤ j ∧ (Builtin.Int.intBits i : Int) * j ≤ 2 ^ 27)
def divOk (j : Int) : Bool := decide (0 < j ∧ j.natAbs < 2 ^ 8999)

def opD : Op → D → D → Option (D × Bool)
  | .add, .int i, .int j => some (.int (i + j), false)
  | .add, .str x, .str y => if x.length + y.length ≤ sizeLine then some (.str (x ++ y), false) else none
  | .add, .lst xs, .lst ys => if xs.length + ys.length ≤ sizeLine then some (.lst (xs ++ ys), true) else none
  | .add, .tup xs, .tup ys => if xs.length + ys.length ≤ sizeLine then some (.tup (xs ++ ys), false) else none
  | .sub, .int i, .int j => some (.int (i - j), false)
  | .mul, .int i, .int j => if mulOk i j then some (.int (i * j), false) else none
  | .mul, .lst xs, .int k => if 0 ≤ k ∧ k ≤ 100000 ∧ xs.length * k.toNat ≤ sizeLine then some (.lst (List.replicate k.toNat xs).flatten, true) else none
  | .fdiv, .int i, .int j => if divOk j then some (.int (i / j), false) else none
  | .mod, .int i, .int j => if 0 < j then some (.int (i % j), false) else none
  | .pow, .int i, .int j => if powOk i j then some (.int (i ^ j.toNat), false) else none
  | _, _, _ => none

def scalar : D → Bool
  | .non => true
  | .bl _ => true
  | .int _ => true
  | .str _ => true
  | _ => false
def memD (d : D) : List D → Bool
  | [] => false
  | e :: r => eqD e d || memD d r
/-- two texts -/
def strEq : D → D → Option Bool
  | .str x, .str y => some (decide (x = y))
  | _, _ => none
/-- lists of other lengths, whatever lies in them -/
def lenEq : D → D → Option Bool
  | .lst xs, .lst ys => if xs.length = ys.length then none else some false
  | _, _ => none
def cpD : Cp → D → D → Option Bool
  | .eq, d, e => (match strEq d e with
    | some b => some b
    | none => if eqOk d && eqOk e then some (eqD d e) else lenEq d e)
  | .ne, d, e => (match strEq d e with
    | some b => some (!b)
    | none => if eqOk d && eqOk e then some (!eqD d e) else (match lenEq d e with
      | some b => some (!b)
      | none => none))
  | .lt, .int i, .int j => some (decide (i < j))
  | .le, .int i, .int j => some (decide (i ≤ j))
  | .gt, .int i, .int j => some (decide (j < i))
  | .ge, .int i, .int j => some (decide (j ≤ i))
  | .is_, d, .non => some (match d with | .non => true | _ => false)
  | .isNot, d, .non => some (match d with | .non => false | _ => true)
  | .is_, .bl a, .bl b => some (a == b)
  | .isNot, .bl a, .bl b => some (!(a == b))
  | .in_, d, .lst es => if eqOk d && eqOk (.lst es) then some (memD d es) else none
  | .notIn, d, .lst es => if eqOk d && eqOk (.lst es) then some (!memD d es) else none
  | .in_, d, .tup es => if eqOk d && eqOk (.tup es) then some (memD d es) else none
  | .notIn, d, .tup es => if eqOk d && eqOk (.tup es) then some (!memD d es) else none
  | _, _, _ => none

def intsD : List D → Option (List Int)
  | [] => some []
  | .int i :: r => (intsD r).map (i :: ·)
  | _ => none
def maxL : Int → List Int → Int
  | m, [] => m
  | m, i :: r => maxL (if m < i then i else m) r
def minL : Int → List Int → Int
  | m, [] => m
  | m, i :: r => minL (if i < m then i else m) r
def sumL : List Int → Int
  | [] => 0
  | i :: r => i + sumL r
/-! ### sorted: ints, or tuples of ints and texts -/
def itK : D → Option (Int ⊕ List Nat)
  | .int i => some (.inl i)
  | .str x => some (.inr x.cps.toList)
  | _ => none
def itKs : List D → Option (List (Int ⊕ List Nat))
  | [] => some []
  | d :: r => (match itK d with
    | some x => (match itKs r with
      | some xs => some (x :: xs)
      | none => none)
    | none => none)
def keyD : D → Option (List (Int ⊕ List Nat))
  | .tup (x :: xs) => itKs (x :: xs)
  | _ => none
def keyDs : List D → Option (List (List (Int ⊕ List Nat)))
  | [] => some []
  | d :: r => (match keyD d with
    | some x => (match keyDs r with
      | some xs => some (x :: xs)
      | none => none)
    | none => none)
/-- ints by ints, texts by texts, up to the first that differ -/
def alikeK : List (Int ⊕ List Nat) → List (Int ⊕ List Nat) → Bool
  | .inl i :: r, .inl j :: t => if i = j then alikeK r t else true
  | .inr x :: r, .inr y :: t => if x = y then alikeK r t else true
  | .inl _ :: _, .inr _ :: _ => false
  | .inr _ :: _, .inl _ :: _ => false
  | _, _ => true
def ltKs : List (Int ⊕ List Nat) → List (Int ⊕ List Nat) → Bool
  | .inl i :: r, .inl j :: t => if i = j then ltKs r t else decide (i < j)
  | .inr x :: r, .inr y :: t => if x = y then ltKs r t else decide (x < y)
  | .inl _ :: _, .inr _ :: _ => true
  | .inr _ :: _, .inl _ :: _ => false
  | [], [] => false
  | [], _ :: _ => true
  | _ :: _, [] => false
def strsD : List D → Option (List Str)
  | [] => some []
  | .str x :: r => (strsD r).map (x :: ·)
  | _ :: _ => none
def wrapK : List Str → List (Int ⊕ List Nat)
  | [] => [.inl 0]
  | x :: r => .inl 1 :: .inr x.cps.toList :: wrapK r
/-- lists of texts -/
def lssOk : List D → Bool
  | [] => true
  | .lst xs :: r => (strsD xs).isSome && lssOk r
  | _ :: _ => false
def keyOf (d : D) : List (Int ⊕ List Nat) := match d with
  | .int i => [.inl i]
  | .lst xs => wrapK ((strsD xs).getD [])
  | d => (keyD d).getD []
def ltD (d e : D) : Bool := ltKs (keyOf d) (keyOf e)
def insD (d : D) : List D → List D
  | [] => [d]
  | e :: r => if ltD e d then e :: insD d r else d :: e :: r
def isortD : List D → List D
  | [] => []
  | d :: r => insD d (isortD r)
def srtOk (xs : List D) : Bool := ((intsD xs).isSome || (match keyDs xs with
  | some ks => ks.all fun x => ks.all fun y => alikeK x y
  | none => false)) || lssOk xs
def biD : Bi → List D → Option (D × Bool)
  | .len, [.lst xs] => some (.int xs.length, false)
  | .len, [.tup xs] => some (.int xs.length, false)
  | .len, [.str x] => if x.length ≤ sizeLine then some (.int x.length, false) else none
  | .sum, [.lst xs] => (intsD xs).map fun ns => (.int (sumL ns), false)
  | .sum, [.tup xs] => (intsD xs).map fun ns => (.int (sumL ns), false)
  | .max, [.int i, .int j] => some (.int (if j > i then j else i), false)
  | .min, [.int i, .int j] => some (.int (if j < i then j else i), false)
  | .max, [.lst (.int i :: xs)] => (intsD xs).map fun ns => (.int (maxL i ns), false)
  | .min, [.lst (.int i :: xs)] => (intsD xs).map fun ns => (.int (minL i ns), false)
  | .abs, [.int i] => some (.int (if i < 0 then -i else i), false)
  | .int, [.int i] => some (.int i, false)
  | .int, [.bl b] => some (.int (if b then 1 else 0), false)
  | .bool, [.bl b] => some (.bl b, false)
  | .tuple, [.lst xs] => some (.tup xs, false)
  | .tuple, [.tup xs] => some (.tup xs, false)
  | .list, [.lst xs] => some (.lst xs, true)
  | .list, [.tup xs] => some (.lst xs, true)
  | .repr, [d] => if showOk d then some (.str (py d).shown, false) else none
  | .str, [.int i] => if i.natAbs.log2 < 1920 then some (.str (toString i), false) else none
  | .sorted, [.lst xs] => if srtOk xs then some (.lst (isortD xs), true) else none
  | _, _ => none

def idxD (d : D) : List D → Nat → Option Nat
  | [], _ => none
  | e :: r, n => if eqD e d then some n else idxD d r (n + 1)
def mdD : Md → D → List D → Option (D × Bool)
  | .indexL, .lst es, [d] => if eqOk d && eqOk (.lst es) then (match idxD d es 0 with
    | some n => some (.int n, false)
    | none => none) else none
  | .indexT, .tup es, [d] => if eqOk d && eqOk (.tup es) then (match idxD d es 0 with
    | some n => some (.int n, false)
    | none => none) else none
  | .bits, .int i, [] => some (.int (Builtin.Int.intBits i), false)
  | _, _, _ => none

def isT : String → D → Bool
  | "int", .int _ => true
  | "int", .bl _ => true
  | "bool", .bl _ => true
  | "str", .str _ => true
  | "tuple", .tup _ => true
  | "list", .lst _ => true
  | "list", .cell _ => true
  | "dict", .dct _ => true
  | _, _ => false

def plain1 : D → Bool
  | .fn _ => false
  | .exn _ _ => false
  | _ => true

def subD : D → D → Option D
  | .lst xs, .int i => L2.atI xs i
  | .tup xs, .int i => L2.atI xs i
  | _, _ => none
def cutD (xs : List D) (lo hi : Option Int) : List D := (xs.drop (HT.sIx xs.length 0 lo)).take (HT.sIx xs.length xs.length hi - HT.sIx xs.length 0 lo)
def slcD : D → Option Int → Option Int → Option (D × Bool)
  | .lst xs, lo, hi => some (.lst (cutD xs lo hi), true)
  | .tup xs, lo, hi => some (.tup (cutD xs lo hi), false)
  | _, _, _ => none
def revD : D → Option (D × Bool)
  | .lst xs => some (.lst xs.reverse, true)
  | .tup xs => some (.tup xs.reverse, false)
  | _ => none

/-! ### terms -/
inductive X where
  | var (i : Nat) | pv (i : Nat) | cst (d : D) | con (j : Nat)
  | tup (es : X) | lst (es : X)
  | bin (o : Op) (a b : X) | neg (a : X) | not (a : X)
  | and (a r : X) | or (a r : X) | one (a : X)
  | cmp (c : Cp) (a b : X) | chn (c c' : Cp) (a b e : X)
  | ite (c a b : X)
  | call (f : Nat) (es : X) | callk (f : Nat) (pm : List Nat) (es ks : X)
  | bi (b : Bi) (es : X) | md (m : Md) (o es : X) | isi (a : X) (t : String)
  | dnew | sub (a i : X) | slc (a lo hi : X) | rev (a : X) | noX
  | comp (e t it c : X) (own : List Nat)
  | mk (a : X) | giv (a : X) | lend (is : List Nat) (a : X)
  | fnv (f : Nat) | callv (a es : X) | att (a : X) | isx (a : X) (c : Nat)
  | nil | cons (a r : X)
  | iEx (a : X) | iRng (es : X) | iEnum (a : X) | iZip (a b : X) | iZipS (a b : X)
  | tName (i : Nat) | tTup (ts : X)
  | sSet (t e : X) | sSetO (i : Nat) (e : X) | sPar (is : List Nat) (es : X)
  | sRet (e : X) | sRetN | sIf (c a b : X) | sFor (t it b : X) | sWh (n : Nat) (c b : X) | sEx (e : X)
  | sApp (i : Nat) (e : X) | sAppC (i : Nat) (e : X) | sIns (i : Nat) (k e : X) | sSub (i : Nat) (k e : X) | sSubC (i : Nat) (k e : X)
  | sDis (i : Nat) (s : X) | sPass | sBk | sCt | sNo
  | sRaise (c : Nat) (e : X) | sTry (s : X) (i c j : Nat)
  deriving Inhabited

abbrev Mu := List (List D)
abbrev Rho := List (Option (D × Bool))
abbrev RE := Option (D × Bool × Mu)
abbrev CallT := Nat → List D → Mu → RE
inductive SR where
  | nx (ρ : Rho) (μ : Mu) | rt (d : D) (o : Bool) (μ : Mu) | bk (ρ : Rho) (μ : Mu) | ct (ρ : Rho) (μ : Mu)

/-- the module's constants; how a call with keywords puts its arguments: the def, the places of the positional and the keywords' values -/
structure Tab where
  cons : List D
  kws : List (Nat × Nat × List Nat)
  subs : List (List Bool)
/-- whether the class c is under the class d -/
def Tab.sub (T : Tab) (c d : Nat) : Option Bool := (T.subs[c]?).bind fun l => l[d]?
/-- from here on the numbers of what defs raise -/
def RB : Nat := 1000000

def wipeR (ρ : Rho) : List Nat → Rho
  | [] => ρ
  | v :: vs => (wipeR ρ vs).set v none
def setR (ρ : Rho) : List Nat → List (D × Bool) → Option Rho
  | [], [] => some ρ
  | i :: is, d :: ds => if i < ρ.length then setR (ρ.set i (some d)) is ds else none
  | _, _ => none
def disown (ρ : Rho) (i : Nat) : Rho := match ρ[i]? with
  | some (some (d, _)) => ρ.set i (some (d, false))
  | _ => ρ
def foldC (f : D → Mu → Option (Option D × Mu)) : List D → Mu → Option (List D × Mu)
  | [], μ => some ([], μ)
  | d :: ds, μ => match f d μ with
    | none => none
    | some (r, μ1) => match foldC f ds μ1 with
      | none => none
      | some (ys, μ2) => some ((match r with
        | some y => y :: ys
        | none => ys), μ2)
def foldS (f : D → Rho → Mu → Option SR) : List D → Rho → Mu → Option SR
  | [], ρ, μ => some (.nx ρ μ)
  | d :: ds, ρ, μ => match f d ρ μ with
    | none => none
    | some (.nx ρ1 μ1) => foldS f ds ρ1 μ1
    | some (.ct ρ1 μ1) => foldS f ds ρ1 μ1
    | some (.bk ρ1 μ1) => some (.nx ρ1 μ1)
    | some (.rt d o μ1) => some (.rt d o μ1)
def whileS (c : Rho → Mu → Option (Bool × Mu)) (f : Rho → Mu → Option SR) : Nat → Rho → Mu → Option SR
  | 0, _, _ => none
  | n + 1, ρ, μ => match c ρ μ with
    | none => none
    | some (false, μ1) => some (.nx ρ μ1)
    | some (true, μ1) => match f ρ μ1 with
      | none => none
      | some (.nx ρ2 μ2) => whileS c f n ρ2 μ2
      | some (.ct ρ2 μ2) => whileS c f n ρ2 μ2
      | some (.bk ρ2 μ2) => some (.nx ρ2 μ2)
      | some (.rt d o μ2) => some (.rt d o μ2)
def rngL : Nat → Int → List D
  | 0, _ => []
  | n + 1, lo => .int lo :: rngL n (lo + 1)
def enumL : List D → Int → List D
  | [], _ => []
  | d :: ds, i => .tup [.int i, d] :: enumL ds (i + 1)
def zipL : List D → List D → List D
  | x :: xs, y :: ys => .tup [x, y] :: zipL xs ys
  | _, _ => []
def seqD : D → Option (List D)
  | .lst xs => some xs
  | .tup xs => some xs
  | _ => none

def zipD : D → D → Option (List D)
  | .lst xs, .lst ys => some (zipL xs ys)
  | .tup xs, .tup ys => some (zipL xs ys)
  | _, _ => none
/-- zip(.., .., strict=True): what is of one length -/
def zipSD : D → D → Option (List D)
  | .lst xs, .lst ys => if xs.length = ys.length then some (zipL xs ys) else none
  | .tup xs, .tup ys => if xs.length = ys.length then some (zipL xs ys) else none
  | .lst xs, .tup ys => if xs.length = ys.length then some (zipL xs ys) else none
  | .tup xs, .lst ys => if xs.length = ys.length then some (zipL xs ys) else none
  | _, _ => none

/-- targets -/
def dT : X → D → Rho → Option Rho
  | .tName i, d, ρ => if i < ρ.length then some (ρ.set i (some (d, false))) else none
  | .tTup ts, d, ρ => match d with
    | .tup ds => dTs ts ds ρ
    | .lst ds => dTs ts ds ρ
    | _ => none
  | _, _, _ => none
where dTs : X → List D → Rho → Option Rho
  | .nil, [], ρ => some ρ
  | .cons t r, d :: ds, ρ => match dT t d ρ with
    | none => none
    | some ρ1 => dTs r ds ρ1
  | _, _, _ => none

def subC (μ : Mu) (x y : D) : Option D := match x with
  | .cell n => (match μ[n]?, y with
    | some xs, .int k => L2.atI xs k
    | _, _ => none)
  | x => subD x y
/-- the keywords' values in the parameters' order -/
def pmL {α : Type} (pm : List Nat) (ws : List α) : List α := pm.filterMap fun i => ws[i]?
/-- a slot's value, whatever its mark -/
def peekD (ρ : Rho) (i : Nat) : Option D := match ρ[i]? with
  | some (some (d, _)) => some d
  | _ => none
def scalL : List D → Bool
  | [] => true
  | d :: ds => scalar d && scalL ds
def disowns (ρ : Rho) : List Nat → Rho
  | [] => ρ
  | i :: is => disowns (disown ρ i) is

/-- an operand: a name may stand for a list of one's own here -/
def pkR (a : X) (ρ : Rho) (μ : Mu) (r : RE) : Option (D × Mu) := match a with
  | .pv i => (match peekD ρ i with
    | some d => some (d, μ)
    | none => none)
  | _ => (match r with
    | some (d, _, μ1) => some (d, μ1)
    | none => none)
def pkB (pk : Bool) (a : X) (ρ : Rho) (μ : Mu) (r : RE) : Option (D × Mu) := match pk with
  | true => pkR a ρ μ r
  | false => (match r with
    | some (d, _, μ1) => some (d, μ1)
    | none => none)
/-- an end of a slice -/
def opO (a : X) (μ : Mu) (r : RE) : Option (Option Int × Mu) := match a with
  | .noX => some (none, μ)
  | _ => (match r with
    | some (.int i, _, μ1) => some (some i, μ1)
    | _ => none)

variable (T : Tab) (call : CallT)
mutual
/-- an expression: its value, whether it is a new list of nobody else's, the cells behind it -/
def dE : X → Rho → Mu → RE
  | .var i, ρ, μ => match ρ[i]? with
    | some (some (d, false)) => some (d, false, μ)
    | _ => none
  | .cst d, _, μ => if scalar d then some (d, false, μ) else none
  | .con j, _, μ => match T.cons[j]? with
    | some d => some (d, false, μ)
    | none => none
  | .dnew, _, μ => some (.dct [], false, μ)
  | .tup es, ρ, μ => match dEs es ρ μ with
    | some (ds, μ1) => if ds.length ≤ sizeLine then some (.tup ds, false, μ1) else none
    | none => none
  | .lst es, ρ, μ => match dEs es ρ μ with
    | some (ds, μ1) => if ds.length ≤ sizeLine then some (.lst ds, true, μ1) else none
    | none => none
  | .bin o a b, ρ, μ => match pkR a ρ μ (dE a ρ μ) with
    | some (x, μ1) => (match pkR b ρ μ1 (dE b ρ μ1) with
      | some (y, μ2) => (match opD o x y with
        | some (z, w) => some (z, w, μ2)
        | none => none)
      | none => none)
    | none => none
  | .neg a, ρ, μ => match dE a ρ μ with
    | some (.int i, _, μ1) => some (.int (-i), false, μ1)
    | _ => none
  | .not a, ρ, μ => match dE a ρ μ with
    | some (.bl b, _, μ1) => some (.bl (!b), false, μ1)
    | _ => none
  | .and a r, ρ, μ => match dE a ρ μ with
    | some (.bl true, _, μ1) => dE r ρ μ1
    | some (.bl false, _, μ1) => some (.bl false, false, μ1)
    | _ => none
  | .or a r, ρ, μ => match dE a ρ μ with
    | some (.bl true, _, μ1) => some (.bl true, false, μ1)
    | some (.bl false, _, μ1) => dE r ρ μ1
    | _ => none
  | .one a, ρ, μ => dE a ρ μ
  | .cmp c a b, ρ, μ => match pkR a ρ μ (dE a ρ μ) with
    | some (x, μ1) => (match pkR b ρ μ1 (dE b ρ μ1) with
      | some (y, μ2) => (match cpD c x y with
        | some k => some (.bl k, false, μ2)
        | none => none)
      | none => none)
    | none => none
  | .chn c c' a b e, ρ, μ => match pkR a ρ μ (dE a ρ μ) with
    | some (x, μ1) => (match pkR b ρ μ1 (dE b ρ μ1) with
      | some (y, μ2) => (match cpD c x y with
        | some true => (match pkR e ρ μ2 (dE e ρ μ2) with
          | some (z, μ3) => (match cpD c' y z with
            | some k => some (.bl k, false, μ3)
            | none => none)
          | none => none)
        | some false => some (.bl false, false, μ2)
        | none => none)
      | none => none)
    | none => none
  | .ite c a b, ρ, μ => match dE c ρ μ with
    | some (.bl true, _, μ1) => dE a ρ μ1
    | some (.bl false, _, μ1) => dE b ρ μ1
    | _ => none
  | .call f es, ρ, μ => match dEs es ρ μ with
    | some (ds, μ1) => call f ds μ1
    | none => none
  | .callk f pm es ks, ρ, μ => match dEs es ρ μ with
    | some (ds, μ1) => (match dEs ks ρ μ1 with
      | some (ds2, μ2) => call f (ds ++ pmL pm ds2) μ2
      | none => none)
    | none => none
  | .bi b es, ρ, μ => match dPs es ρ μ with
    | some (ds, μ1) => (match biD b ds with
      | some (z, w) => some (z, w, μ1)
      | none => none)
    | none => none
  | .md m o es, ρ, μ => match pkR o ρ μ (dE o ρ μ) with
    | some (x, μ1) => (match dPs es ρ μ1 with
      | some (ds, μ2) => (match mdD m x ds with
        | some (z, w) => some (z, w, μ2)
        | none => none)
      | none => none)
    | none => none
  | .isi a t, ρ, μ => match pkR a ρ μ (dE a ρ μ) with
    | some (x, μ1) => if plain1 x then some (.bl (isT t x), false, μ1) else none
    | none => none
  | .sub a i, ρ, μ => match pkR a ρ μ (dE a ρ μ) with
    | some (x, μ1) => (match pkR i ρ μ1 (dE i ρ μ1) with
      | some (y, μ2) => (match subC μ2 x y with
        | some d => some (d, false, μ2)
        | none => none)
      | none => none)
    | none => none
  | .slc a lo hi, ρ, μ => match pkR a ρ μ (dE a ρ μ) with
    | some (x, μ1) => (match opO lo μ1 (dE lo ρ μ1) with
      | some (l, μ2) => (match opO hi μ2 (dE hi ρ μ2) with
        | some (h, μ3) => (match slcD x l h with
          | some (z, w) => some (z, w, μ3)
          | none => none)
        | none => none)
      | none => none)
    | none => none
  | .rev a, ρ, μ => match pkR a ρ μ (dE a ρ μ) with
    | some (x, μ1) => (match revD x with
      | some (z, w) => some (z, w, μ1)
      | none => none)
    | none => none
  | .comp e t it c own, ρ, μ => match dI true it ρ μ with
    | some (ds, μ1) => if ds.length ≤ sizeLine then (match foldC (fun d μ2 => match dT t d (wipeR ρ own) with
        | none => none
        | some ρ2 => (match dE c ρ2 μ2 with
          | some (.bl true, _, μ3) => (match dE e ρ2 μ3 with
            | some (y, _, μ4) => some (some y, μ4)
            | none => none)
          | some (.bl false, _, μ3) => some (none, μ3)
          | _ => none)) ds μ1 with
      | some (ys, μ5) => some (.lst ys, true, μ5)
      | none => none) else none
    | none => none
  | .mk a, ρ, μ => match dE a ρ μ with
    | some (.lst ds, true, μ1) => some (.cell μ1.length, false, μ1 ++ [ds])
    | _ => none
  | .giv a, ρ, μ => match dE a ρ μ with
    | some (d, _, μ1) => some (d, false, μ1)
    | none => none
  | .lend is a, ρ, μ => match dE a (disowns ρ is) μ with
    | some (d, _, μ1) => if scalar d && μ1.all scalL then some (d, false, μ1) else none
    | none => none
  | .fnv f, _, μ => some (.fn f, false, μ)
  | .callv a es, ρ, μ => match dE a ρ μ with
    | some (.fn f, _, μ1) => (match dEs es ρ μ1 with
      | some (ds, μ2) => call f ds μ2
      | none => none)
    | _ => none
  | .att a, ρ, μ => match dE a ρ μ with
    | some (.exn _ v, _, μ1) => some (v, false, μ1)
    | _ => none
  | .isx a c, ρ, μ => match dE a ρ μ with
    | some (.exn k _, _, μ1) => (match T.sub k c with
      | some b => some (.bl b, false, μ1)
      | none => none)
    | some (.non, _, μ1) => some (.bl false, false, μ1)
    | _ => none
  | _, _, _ => none
def dEs : X → Rho → Mu → Option (List D × Mu)
  | .nil, _, μ => some ([], μ)
  | .cons a r, ρ, μ => match dE a ρ μ with
    | some (d, _, μ1) => (match dEs r ρ μ1 with
      | some (ds, μ2) => some (d :: ds, μ2)
      | none => none)
    | none => none
  | _, _, _ => none
def dPs : X → Rho → Mu → Option (List D × Mu)
  | .nil, _, μ => some ([], μ)
  | .cons a r, ρ, μ => match pkR a ρ μ (dE a ρ μ) with
    | some (d, μ1) => (match dPs r ρ μ1 with
      | some (ds, μ2) => some (d :: ds, μ2)
      | none => none)
    | none => none
  | _, _, _ => none
/-- what a loop walks -/
def dI : Bool → X → Rho → Mu → Option (List D × Mu)
  | pk, .iEx a, ρ, μ => match pkB pk a ρ μ (dE a ρ μ) with
    | some (x, μ1) => (match seqD x with
      | some ds => some (ds, μ1)
      | none => none)
    | none => none
  | _, .iRng es, ρ, μ => match dPs es ρ μ with
    | some ([.int n], μ1) => if -(2 ^ 62) ≤ n ∧ n ≤ sizeLine then some (rngL n.toNat 0, μ1) else none
    | some ([.int a, .int b], μ1) => if -(2 ^ 62) ≤ a ∧ a < 2 ^ 62 ∧ -(2 ^ 62) ≤ b ∧ b < 2 ^ 62 ∧ b - a ≤ sizeLine then some (rngL (b - a).toNat a, μ1) else none
    | _ => none
  | pk, .iEnum a, ρ, μ => match pkB pk a ρ μ (dE a ρ μ) with
    | some (x, μ1) => (match x with
      | .lst ds => some (enumL ds 0, μ1)
      | .tup ds => some (enumL ds 0, μ1)
      | _ => none)
    | none => none
  | pk, .iZip a b, ρ, μ => match pkB pk a ρ μ (dE a ρ μ) with
    | some (x, μ1) => (match pkB pk b ρ μ1 (dE b ρ μ1) with
      | some (y, μ2) => (match zipD x y with
        | some ds => some (ds, μ2)
        | none => none)
      | none => none)
    | none => none
  | pk, .iZipS a b, ρ, μ => match pkB pk a ρ μ (dE a ρ μ) with
    | some (x, μ1) => (match pkB pk b ρ μ1 (dE b ρ μ1) with
      | some (y, μ2) => (match zipSD x y with
        | some ds => some (ds, μ2)
        | none => none)
      | none => none)
    | none => none
  | _, _, _, _ => none
end

/-- values, with their marks -/
def dOs : X → Rho → Mu → Option (List (D × Bool) × Mu)
  | .nil, _, μ => some ([], μ)
  | .cons a r, ρ, μ => match dE T call a ρ μ with
    | some (d, o, μ1) => (match dOs r ρ μ1 with
      | some (ds, μ2) => some ((d, o) :: ds, μ2)
      | none => none)
    | none => none
  | _, _, _ => none
/-- what an expression raises -/
def qE : X → Rho → Mu → RE
  | .call f es, ρ, μ => match dEs T call es ρ μ with
    | some (ds, μ1) => call (RB + f) ds μ1
    | none => none
  | .callk f pm es ks, ρ, μ => match dEs T call es ρ μ with
    | some (ds, μ1) => (match dEs T call ks ρ μ1 with
      | some (ds2, μ2) => call (RB + f) (ds ++ pmL pm ds2) μ2
      | none => none)
    | none => none
  | .callv a es, ρ, μ => match dE T call a ρ μ with
    | some (.fn f, _, μ1) => (match dEs T call es ρ μ1 with
      | some (ds, μ2) => call (RB + f) ds μ2
      | none => none)
    | _ => none
  | .sub a _, ρ, μ => qE a ρ μ
  | _, _, _ => none
/-- statements -/
def dS : X → Rho → Mu → Option SR
  | .nil, ρ, μ => some (.nx ρ μ)
  | .cons s r, ρ, μ => match dS s ρ μ with
    | some (.nx ρ1 μ1) => dS r ρ1 μ1
    | o => o
  | .sSet t e, ρ, μ => match dE T call e ρ μ with
    | some (d, _, μ1) => (match dT t d ρ with
      | some ρ1 => some (.nx ρ1 μ1)
      | none => none)
    | none => none
  | .sSetO i e, ρ, μ => match dE T call e ρ μ with
    | some (.lst ds, true, μ1) => if i < ρ.length then some (.nx (ρ.set i (some (.lst ds, true))) μ1) else none
    | some (d, false, μ1) => if i < ρ.length then some (.nx (ρ.set i (some (d, false))) μ1) else none
    | _ => none
  | .sPar is es, ρ, μ => match dOs T call es ρ μ with
    | some (ds, μ1) => (match setR ρ is ds with
      | some ρ1 => some (.nx ρ1 μ1)
      | none => none)
    | none => none
  | .sRet e, ρ, μ => match e with
    | .pv i => (match ρ[i]? with
      | some (some (d, o)) => some (.rt d o μ)
      | _ => none)
    | e => (match dE T call e ρ μ with
      | some (d, o, μ1) => some (.rt d o μ1)
      | none => none)
  | .sRetN, _, μ => some (.rt .non false μ)
  | .sIf c a b, ρ, μ => match dE T call c ρ μ with
    | some (.bl true, _, μ1) => dS a ρ μ1
    | some (.bl false, _, μ1) => dS b ρ μ1
    | _ => none
  | .sFor t it b, ρ, μ => match dI T call false it ρ μ with
    | some (ds, μ1) => foldS (fun d ρ2 μ2 => match dT t d ρ2 with
        | some ρ3 => dS b ρ3 μ2
        | none => none) ds ρ μ1
    | none => none
  | .sWh n c b, ρ, μ => whileS (fun ρ1 μ1 => match dE T call c ρ1 μ1 with
      | some (.bl k, _, μ2) => some (k, μ2)
      | _ => none) (fun ρ1 μ1 => dS b ρ1 μ1) n ρ μ
  | .sEx e, ρ, μ => match dE T call e ρ μ with
    | some (_, _, μ1) => some (.nx ρ μ1)
    | none => none
  | .sApp i e, ρ, μ => match dE T call e ρ μ with
    | some (d, _, μ1) => (match ρ[i]? with
      | some (some (.lst ds, true)) => if ds.length < sizeLine then some (.nx (ρ.set i (some (.lst (ds ++ [d]), true))) μ1) else none
      | _ => none)
    | none => none
  | .sIns i k e, ρ, μ => match dE T call k ρ μ with
    | some (.int z, _, μ1) => (match dE T call e ρ μ1 with
      | some (d, _, μ2) => (match ρ[i]? with
        | some (some (.lst ds, true)) => if 0 ≤ z ∧ z < 2 ^ 62 ∧ ds.length < sizeLine then some (.nx (ρ.set i (some (.lst (ds.take z.toNat ++ [d] ++ ds.drop z.toNat), true))) μ2) else none
        | _ => none)
      | none => none)
    | _ => none
  | .sAppC i e, ρ, μ => match dE T call e ρ μ with
    | some (d, _, μ1) => (match ρ[i]? with
      | some (some (.cell n, false)) => (match μ1[n]? with
        | some ds => if ds.length < sizeLine then some (.nx ρ (μ1.set n (ds ++ [d]))) else none
        | none => none)
      | _ => none)
    | none => none
  | .sSub i k e, ρ, μ => match dE T call e ρ μ with
    | some (d, _, μ1) => (match dE T call k ρ μ1 with
      | some (.int z, _, μ2) => (match ρ[i]? with
        | some (some (.lst ds, true)) => (match L2.ixN ds.length z with
          | some j => some (.nx (ρ.set i (some (.lst (ds.set j d), true))) μ2)
          | none => none)
        | _ => none)
      | _ => none)
    | none => none
  | .sSubC i k e, ρ, μ => match dE T call e ρ μ with
    | some (d, _, μ1) => (match dE T call k ρ μ1 with
      | some (.int z, _, μ2) => (match ρ[i]? with
        | some (some (.cell n, false)) => (match μ2[n]? with
          | some ds => (match L2.ixN ds.length z with
            | some j => some (.nx ρ (μ2.set n (ds.set j d)))
            | none => none)
          | none => none)
        | _ => none)
      | _ => none)
    | none => none
  | .sDis i s, ρ, μ => dS s (disown ρ i) μ
  | .sTry s i c j, ρ, μ => match s with
    | .sEx e => (match dE T call e ρ μ with
      | some (_, _, μ1) => some (.nx ρ μ1)
      | none => (match qE T call e ρ μ with
        | some (.exn k v, _, μ1) => (match T.sub k c with
          | some true => if i < ρ.length ∧ j < ρ.length ∧ i ≠ j then some (.nx ((ρ.set j (some (.exn k v, false))).set i none) μ1) else none
          | _ => none)
        | _ => none))
    | _ => none
  | .sPass, ρ, μ => some (.nx ρ μ)
  | .sBk, ρ, μ => some (.bk ρ μ)
  | .sCt, ρ, μ => some (.ct ρ μ)
  | _, _, _ => none

/-- what statements raise -/
def qS : X → Rho → Mu → RE
  | .cons s r, ρ, μ => match dS T call s ρ μ with
    | some (.nx ρ1 μ1) => qS r ρ1 μ1
    | _ => qS s ρ μ
  | .sIf c a b, ρ, μ => match dE T call c ρ μ with
    | some (.bl true, _, μ1) => qS a ρ μ1
    | some (.bl false, _, μ1) => qS b ρ μ1
    | _ => none
  | .sEx e, ρ, μ => qE T call e ρ μ
  | .sRet e, ρ, μ => qE T call e ρ μ
  | .sSet _ e, ρ, μ => qE T call e ρ μ
  | .sRaise c e, ρ, μ => match dE T call e ρ μ with
    | some (d, _, μ1) => (match call (RB + RB) [] μ1 with
      | some _ => some (.exn c d, false, μ1)
      | none => none)
    | none => none
  | _, _, _ => none
/-- a def: its name, its parameters, all its names (parameters first), its body -/
structure Def where
  name : Str
  ps : List Str
  ns : List Str
  body : X
/-- a def's call, k calls deep -/
def dCall (Δ : List Def) : Nat → CallT
  | 0, _, _, _ => none
  | k + 1, f, ds, μ => match Δ[f]? with
    | none => if RB ≤ f then (match Δ[f - RB]? with
      | none => if f = RB + RB ∧ 1 ≤ k then some (.non, false, μ) else none
      | some F => if ds.length = F.ps.length then qS T (dCall Δ k) F.body (ds.map (fun d => some (d, false)) ++ List.replicate (F.ns.length - F.ps.length) none) μ else none) else none
    | some F => if ds.length = F.ps.length then (match dS T (dCall Δ k) F.body (ds.map (fun d => some (d, false)) ++ List.replicate (F.ns.length - F.ps.length) none) μ with
      | some (.rt d o μ1) => some (d, o, μ1)
      | some (.nx _ μ1) => some (.non, false, μ1)
      | _ => none) else none
end Z
end

section
set_option Elab.async false
set_option autoImplicit false
set_option linter.all false
set_option maxRecDepth 100000
/-! How trees lie in the heap. -/
namespace Z
open PySem PySem.Spec L2

/-- the written part, and where the defs stand -/
structure En where
  K : PySem.W.Frag
  F : Nat → Option Addr
  C : Nat → Option Addr

/-- a tuple of the written part -/
def KTs (K : PySem.W.Frag) (a : Addr) (vs : List V) : Prop := ∃ (its : List Value) (n : Nat), K.lookup a = some { cls := .type "tuple", data := .seq its.toArray n } ∧ its.length ≤ sizeLine ∧ Vals vs its
/-- a list of the written part -/
def KLs (K : PySem.W.Frag) (a : Addr) (vs : List V) : Prop := ∃ (its : List Value) (n : Nat), K.lookup a = some { cls := .type "list", data := .seq its.toArray n } ∧ its.length ≤ sizeLine ∧ Vals vs its

/-- at a: an exception of the class at C, its dict at d -/
def ExH (a C d : Addr) : HO := .ext fun h => ∃ (oe : Obj) (vs : Array Value), h.get? a = some oe ∧ oe.cls = .ref C ∧ oe.dict = some d ∧ oe.data = .fields vs
mutual
/-- v is the tree d: As are the cells' places, bad what may still be changed -/
inductive Rep (E : En) (As : List Addr) (H : Hp) (bad : Addr → Prop) : V → D → Prop
  | non : Rep E As H bad .non .non
  | bl (b : Bool) : Rep E As H bad (.bl b) (.bl b)
  | int (i : Int) : Rep E As H bad (.int i) (.int i)
  | str (x : Str) : Rep E As H bad (.str x) (.str x)
  | lst {a : Addr} {vs : List V} {ds : List D} : Rd H a (.lst vs) → ¬ bad a → Reps E As H bad vs ds → Rep E As H bad (.ref a) (.lst ds)
  | lstK {a : Addr} {vs : List V} {ds : List D} : KLs E.K a vs → Reps E As H bad vs ds → Rep E As H bad (.ref a) (.lst ds)
  | tup {a : Addr} {vs : List V} {ds : List D} : Rd H a (.tup vs) → ¬ bad a → Reps E As H bad vs ds → Rep E As H bad (.ref a) (.tup ds)
  | tupK {a : Addr} {vs : List V} {ds : List D} : KTs E.K a vs → Reps E As H bad vs ds → Rep E As H bad (.ref a) (.tup ds)
  | dct {a : Addr} {kvs : List (Key × V)} {kds : List (Key × D)} : Rd H a (.dK kvs) → ¬ bad a → RepK E As H bad kvs kds → Rep E As H bad (.ref a) (.dct kds)
  | cell {a : Addr} {n : Nat} : As[n]? = some a → Rep E As H bad (.ref a) (.cell n)
  | fn {a : Addr} {n : Nat} : E.F n = some a → Rep E As H bad (.ref a) (.fn n)
  | exn {a C d : Addr} {c : Nat} {v : V} {x : D} : H a = some (ExH a C d) → ¬ bad a → H d = some (.xd [("value", v)]) → ¬ bad d → E.C c = some C → Rep E As H bad v x → Rep E As H bad (.ref a) (.exn c x)
inductive Reps (E : En) (As : List Addr) (H : Hp) (bad : Addr → Prop) : List V → List D → Prop
  | nil : Reps E As H bad [] []
  | cons {v : V} {vs : List V} {d : D} {ds : List D} : Rep E As H bad v d → Reps E As H bad vs ds → Reps E As H bad (v :: vs) (d :: ds)
inductive RepK (E : En) (As : List Addr) (H : Hp) (bad : Addr → Prop) : List (Key × V) → List (Key × D) → Prop
  | nil : RepK E As H bad [] []
  | cons {k : Key} {v : V} {vs : List (Key × V)} {d : D} {ds : List (Key × D)} : Rep E As H bad v d → RepK E As H bad vs ds → RepK E As H bad ((k, v) :: vs) ((k, d) :: ds)
end

/-- from one heap to a later one -/
structure Ext (As : List Addr) (bad : Addr → Prop) (H : Hp) (As' : List Addr) (bad' : Addr → Prop) (H' : Hp) : Prop where
  sub : ∀ a ∈ As, bad a
  pre : ∃ e, As' = As ++ e
  fr : ∀ a, a ∈ As' → a ∉ As → H a = none
  all : ∀ a o, H a = some o → a ∉ As → H' a = some o
  nb : ∀ a o, H a = some o → ¬ bad a → ¬ bad' a
  bb : ∀ a, bad a → bad' a
/-- the same where lists of one's own may have changed -/
structure SExt (As : List Addr) (bad : Addr → Prop) (H : Hp) (As' : List Addr) (bad' : Addr → Prop) (H' : Hp) : Prop where
  pre : ∃ e, As' = As ++ e
  keep : ∀ a o, H a = some o → ¬ bad a → H' a = some o ∧ ¬ bad' a

section
variable {E : En} {As As' As2 : List Addr} {H H' H2 : Hp} {bad bad' bad2 : Addr → Prop}
theorem pre_get {As As' : List Addr} (h : ∃ e, As' = As ++ e) {n : Nat} {a : Addr} (q : As[n]? = some a) : As'[n]? = some a := by
  obtain ⟨e, rfl⟩ := h
  have hl : n < As.length := (List.getElem?_eq_some_iff.mp q).1
  rw [List.getElem?_append_left hl]
  exact q
theorem rd_keep {a : Addr} {u : HO} (r : Rd H a u) (k : ∀ o, H a = some o → H' a = some o) : Rd H' a u := by
  rcases r with h | ⟨o, h⟩
  · exact .inl (k _ h)
  · exact .inr ⟨o, k _ h⟩
theorem rd_there {a : Addr} {u : HO} (r : Rd H a u) : ∃ o, H a = some o := by
  rcases r with h | ⟨o, h⟩
  · exact ⟨_, h⟩
  · exact ⟨_, h⟩
mutual
theorem Rep.sx (x : SExt As bad H As' bad' H') : ∀ {v : V} {d : D}, Rep E As H bad v d → Rep E As' H' bad' v d
  | _, _, .non => .non
  | _, _, .bl b => .bl b
  | _, _, .int i => .int i
  | _, _, .str s => .str s
  | _, _, .lst r n q => by
    obtain ⟨o, ho⟩ := rd_there r
    exact .lst (rd_keep r fun o h => (x.keep _ o h n).1) (x.keep _ o ho n).2 (Reps.sx x q)
  | _, _, .lstK r q => .lstK r (Reps.sx x q)
  | _, _, .tup r n q => by
    obtain ⟨o, ho⟩ := rd_there r
    exact .tup (rd_keep r fun o h => (x.keep _ o h n).1) (x.keep _ o ho n).2 (Reps.sx x q)
  | _, _, .tupK r q => .tupK r (Reps.sx x q)
  | _, _, .dct r n q => by
    obtain ⟨o, ho⟩ := rd_there r
    exact .dct (rd_keep r fun o h => (x.keep _ o h n).1) (x.keep _ o ho n).2 (RepK.sx x q)
  | _, _, .cell h => .cell (pre_get x.pre h)
  | _, _, .fn h => .fn h
  | _, _, .exn h1 n1 h2 n2 h3 q => .exn (x.keep _ _ h1 n1).1 (x.keep _ _ h1 n1).2 (x.keep _ _ h2 n2).1 (x.keep _ _ h2 n2).2 h3 (Rep.sx x q)
theorem Reps.sx (x : SExt As bad H As' bad' H') : ∀ {vs : List V} {ds : List D}, Reps E As H bad vs ds → Reps E As' H' bad' vs ds
  | _, _, .nil => .nil
  | _, _, .cons r q => .cons (Rep.sx x r) (Reps.sx x q)
theorem RepK.sx (x : SExt As bad H As' bad' H') : ∀ {vs : List (Key × V)} {ds : List (Key × D)}, RepK E As H bad vs ds → RepK E As' H' bad' vs ds
  | _, _, .nil => .nil
  | _, _, .cons r q => .cons (Rep.sx x r) (RepK.sx x q)
end
theorem SExt.refl : SExt As bad H As bad H := ⟨⟨[], by simp⟩, fun _ _ h n => ⟨h, n⟩⟩
theorem SExt.trans (x : SExt As bad H As' bad' H') (y : SExt As' bad' H' As2 bad2 H2) : SExt As bad H As2 bad2 H2 := by
  refine ⟨?_, fun a o h n => ?_⟩
  · obtain ⟨e, rfl⟩ := x.pre
    obtain ⟨f, rfl⟩ := y.pre
    exact ⟨e ++ f, by simp⟩
  · obtain ⟨h1, n1⟩ := x.keep a o h n
    exact y.keep a o h1 n1

theorem Ext.refl (s : ∀ a ∈ As, bad a) : Ext As bad H As bad H := ⟨s, ⟨[], by simp⟩, fun _ h n => absurd h n, fun _ _ h _ => h, fun _ _ _ n => n, fun _ b => b⟩
theorem Ext.trans (x : Ext As bad H As' bad' H') (y : Ext As' bad' H' As2 bad2 H2) : Ext As bad H As2 bad2 H2 := by
  have nx : ∀ a o, H a = some o → a ∉ As → a ∉ As' := fun a o h n m => by
    have := x.fr a m n
    rw [h] at this
    cases this
  refine ⟨x.sub, ?_, fun a m n => ?_, fun a o h n => y.all a o (x.all a o h n) (nx a o h n), fun a o h n => ?_, fun a b => y.bb a (x.bb a b)⟩
  · obtain ⟨e, rfl⟩ := x.pre
    obtain ⟨f, rfl⟩ := y.pre
    exact ⟨e ++ f, by simp⟩
  · by_cases q : a ∈ As'
    · exact x.fr a q n
    · cases e : H a with
      | none => rfl
      | some o =>
        have := y.fr a m q
        rw [x.all a o e n] at this
        cases this
  · have q : a ∉ As := fun q => n (x.sub a q)
    exact y.nb a o (x.all a o h q) (x.nb a o h n)
theorem Ext.sx (x : Ext As bad H As' bad' H') : SExt As bad H As' bad' H' :=
  ⟨x.pre, fun a o h n => ⟨x.all a o h fun q => n (x.sub a q), x.nb a o h n⟩⟩
theorem Rep.ext (x : Ext As bad H As' bad' H') {v : V} {d : D} (r : Rep E As H bad v d) : Rep E As' H' bad' v d := r.sx x.sx
theorem Reps.ext (x : Ext As bad H As' bad' H') {vs : List V} {ds : List D} (r : Reps E As H bad vs ds) : Reps E As' H' bad' vs ds := r.sx x.sx
/-- less may be changed -/
theorem SExt.less (h : ∀ a, bad' a → bad a) : SExt As bad H As bad' H := ⟨⟨[], by simp⟩, fun _ _ e n => ⟨e, fun b => n (h _ b)⟩⟩

theorem Reps.length : ∀ {vs : List V} {ds : List D}, Reps E As H bad vs ds → vs.length = ds.length
  | _, _, .nil => rfl
  | _, _, .cons _ q => by rw [List.length_cons, List.length_cons, Reps.length q]
theorem Reps.append : ∀ {vs ws : List V} {ds es : List D}, Reps E As H bad vs ds → Reps E As H bad ws es → Reps E As H bad (vs ++ ws) (ds ++ es)
  | _, _, _, _, .nil, q => q
  | _, _, _, _, .cons r p, q => .cons r (Reps.append p q)
theorem Reps.get : ∀ {vs : List V} {ds : List D} {i : Nat} {d : D}, Reps E As H bad vs ds → ds[i]? = some d → ∃ v, vs[i]? = some v ∧ Rep E As H bad v d
  | _, _, _, _, .nil, e => by simp at e
  | _, _, 0, _, .cons r _, e => by
    simp at e
    subst e
    exact ⟨_, rfl, r⟩
  | _, _, i + 1, _, .cons _ q, e => by
    obtain ⟨v, h1, h2⟩ := Reps.get (i := i) q (by simpa using e)
    exact ⟨v, by simpa using h1, h2⟩
theorem Reps.getV : ∀ {vs : List V} {ds : List D} {i : Nat} {v : V}, Reps E As H bad vs ds → vs[i]? = some v → ∃ d, ds[i]? = some d ∧ Rep E As H bad v d
  | _, _, _, _, .nil, e => by simp at e
  | _, _, 0, _, .cons r _, e => by
    simp at e
    subst e
    exact ⟨_, rfl, r⟩
  | _, _, i + 1, _, .cons _ q, e => by
    obtain ⟨v, h1, h2⟩ := Reps.getV (i := i) q (by simpa using e)
    exact ⟨v, by simpa using h1, h2⟩
theorem Reps.take : ∀ {vs : List V} {ds : List D} (n : Nat), Reps E As H bad vs ds → Reps E As H bad (vs.take n) (ds.take n)
  | _, _, 0, _ => .nil
  | _, _, _ + 1, .nil => .nil
  | _, _, n + 1, .cons r q => .cons r (Reps.take n q)
theorem Reps.drop : ∀ {vs : List V} {ds : List D} (n : Nat), Reps E As H bad vs ds → Reps E As H bad (vs.drop n) (ds.drop n)
  | _, _, 0, q => q
  | _, _, _ + 1, .nil => .nil
  | _, _, n + 1, .cons _ q => Reps.drop n q
theorem Reps.set : ∀ {vs : List V} {ds : List D} (n : Nat) {v : V} {d : D}, Reps E As H bad vs ds → Rep E As H bad v d → Reps E As H bad (vs.set n v) (ds.set n d)
  | _, _, _, _, _, .nil, _ => .nil
  | _, _, 0, _, _, .cons _ q, r => .cons r q
  | _, _, n + 1, _, _, .cons p q, r => .cons p (Reps.set n q r)
theorem Reps.reverse : ∀ {vs : List V} {ds : List D}, Reps E As H bad vs ds → Reps E As H bad vs.reverse ds.reverse
  | _, _, .nil => .nil
  | _, _, .cons r q => by
    rw [List.reverse_cons, List.reverse_cons]
    exact Reps.append (Reps.reverse q) (.cons r .nil)
theorem Reps.flat {vs : List V} {ds : List D} (q : Reps E As H bad vs ds) : ∀ n : Nat, Reps E As H bad (List.replicate n vs).flatten (List.replicate n ds).flatten
  | 0 => .nil
  | n + 1 => by
    rw [List.replicate_succ, List.replicate_succ, List.flatten_cons, List.flatten_cons]
    exact Reps.append q (Reps.flat q n)

/-- the cells -/
structure CRel (E : En) (As : List Addr) (bad : Addr → Prop) (H : Hp) (μ : Mu) : Prop where
  nd : As.Nodup
  sub : ∀ a ∈ As, bad a
  lists : ∀ a, bad a → ∃ vs, H a = some (.lst vs)
  len : As.length = μ.length
  cel : ∀ (n : Nat) (a : Addr) (ds : List D), As[n]? = some a → μ[n]? = some ds → ∃ vs, H a = some (.lst vs) ∧ Reps E As H bad vs ds
/-- the slots -/
structure SRel (E : En) (H0 : Hp) (As : List Addr) (bad : Addr → Prop) (H : Hp) (σ : St) (ρ : Rho) : Prop where
  len : ρ.length = σ.length
  val : ∀ (i : Nat) (d : D), ρ[i]? = some (some (d, false)) → ∃ v, σ[i]? = some (some v) ∧ Rep E As H bad v d
  own : ∀ (i : Nat) (d : D), ρ[i]? = some (some (d, true)) → ∃ a vs ds, d = .lst ds ∧ σ[i]? = some (some (.ref a)) ∧ H a = some (.lst vs) ∧ Reps E As H bad vs ds ∧ bad a ∧ a ∉ As ∧ H0 a = none
  dis : ∀ (i j : Nat) (d e : D) (a : Addr), ρ[i]? = some (some (d, true)) → ρ[j]? = some (some (e, true)) → σ[i]? = some (some (.ref a)) → σ[j]? = some (some (.ref a)) → i = j

theorem CRel.ext0 {μ : Mu} (c : CRel E As bad H μ) : Ext As bad H As bad H := Ext.refl c.sub
theorem CRel.nbad {μ : Mu} (c : CRel E As bad H μ) {p : Addr} (h : H p = none) : ¬ bad p := fun b => by
  obtain ⟨vs, e⟩ := c.lists p b
  rw [h] at e
  cases e
theorem SRel.ext {H0 : Hp} {σ : St} {ρ : Rho} (s : SRel E H0 As bad H σ ρ) (x : Ext As bad H As' bad' H') : SRel E H0 As' bad' H' σ ρ := by
  refine ⟨s.len, fun i d h => ?_, fun i d h => ?_, s.dis⟩
  · obtain ⟨v, h1, h2⟩ := s.val i d h
    exact ⟨v, h1, h2.ext x⟩
  · obtain ⟨a, vs, ds, e, h1, h2, h3, h4, h5, h6⟩ := s.own i d h
    refine ⟨a, vs, ds, e, h1, x.all _ _ h2 h5, h3.ext x, x.bb a h4, fun m => ?_, h6⟩
    have := x.fr a m h5
    rw [h2] at this
    cases this

/-- a new object -/
theorem new_ext {μ : Mu} (c : CRel E As bad H μ) {p : Addr} (hp : H p = none) (o : HO) : Ext As bad H As bad (upd H p o) :=
  ⟨c.sub, ⟨[], by simp⟩, fun _ m n => absurd m n, fun a u h _ => by rw [upd_ne (ne_of_none h hp)]; exact h, fun _ _ _ n => n, fun _ b => b⟩
theorem new_rel {μ : Mu} (c : CRel E As bad H μ) {p : Addr} (hp : H p = none) (o : HO) : CRel E As bad (upd H p o) μ := by
  have x := new_ext c hp o
  have ne : ∀ a vs, H a = some (.lst vs) → upd H p o a = some (.lst vs) := fun a vs h => by rw [upd_ne (ne_of_none h hp)]; exact h
  refine ⟨c.nd, c.sub, fun a b => ?_, c.len, fun n a ds h1 h2 => ?_⟩
  · obtain ⟨vs, e⟩ := c.lists a b
    exact ⟨vs, ne a vs e⟩
  · obtain ⟨vs, e, r⟩ := c.cel n a ds h1 h2
    exact ⟨vs, ne a vs e, r.ext x⟩
/-- a new list of one's own -/
theorem own_ext {μ : Mu} (c : CRel E As bad H μ) {p : Addr} (hp : H p = none) (o : HO) : Ext As bad H As (fun a => bad a ∨ a = p) (upd H p o) :=
  ⟨c.sub, ⟨[], by simp⟩, fun _ m n => absurd m n, fun a u h _ => by rw [upd_ne (ne_of_none h hp)]; exact h, fun a u h n z => z.elim n (fun e => by rw [e, hp] at h; cases h), fun _ b => .inl b⟩
theorem own_rel {μ : Mu} (c : CRel E As bad H μ) {p : Addr} (hp : H p = none) (xs : List V) : CRel E As (fun a => bad a ∨ a = p) (upd H p (.lst xs)) μ := by
  have x := own_ext c hp (.lst xs)
  have ne : ∀ a vs, H a = some (.lst vs) → upd H p (.lst xs) a = some (.lst vs) := fun a vs h => by rw [upd_ne (ne_of_none h hp)]; exact h
  refine ⟨c.nd, fun a m => .inl (c.sub a m), fun a b => ?_, c.len, fun n a ds h1 h2 => ?_⟩
  · rcases b with b | rfl
    · obtain ⟨vs, e⟩ := c.lists a b
      exact ⟨vs, ne a vs e⟩
    · exact ⟨xs, upd_same⟩
  · obtain ⟨vs, e, r⟩ := c.cel n a ds h1 h2
    exact ⟨vs, ne a vs e, r.ext x⟩

/-- what an expression leaves -/
def RepO (E : En) (H : Hp) (As' : List Addr) (bad' : Addr → Prop) (H' : Hp) (v : V) (d : D) : Bool → Prop
  | false => Rep E As' H' bad' v d
  | true => ∃ a vs ds, v = .ref a ∧ d = .lst ds ∧ H' a = some (.lst vs) ∧ Reps E As' H' bad' vs ds ∧ bad' a ∧ a ∉ As' ∧ H a = none
/-- a list of one's own is handed on -/
theorem give {μ μ' : Mu} {v : V} {d : D} (c : CRel E As bad H μ) (c' : CRel E As' bad' H' μ') (x : Ext As bad H As' bad' H') : ∀ {o : Bool}, RepO E H As' bad' H' v d o →
    ∃ bad2, CRel E As' bad2 H' μ' ∧ Ext As bad H As' bad2 H' ∧ Rep E As' H' bad2 v d
  | false, r => ⟨bad', c', x, r⟩
  | true, r => by
    obtain ⟨a, vs, ds, rfl, rfl, h1, h2, h3, h4, h5⟩ := r
    have le : SExt As' bad' H' As' (fun b => bad' b ∧ b ≠ a) H' := SExt.less fun b z => z.1
    refine ⟨fun b => bad' b ∧ b ≠ a, ⟨c'.nd, fun b m => ⟨c'.sub b m, fun e => h4 (e ▸ m)⟩, fun b z => c'.lists b z.1, c'.len, fun n b es e1 e2 => ?_⟩, ⟨x.sub, x.pre, x.fr, x.all, fun b o e n z => x.nb b o e n z.1, fun b z => ⟨x.bb b z, fun e => ?_⟩⟩, ?_⟩
    · obtain ⟨ws, q1, q2⟩ := c'.cel n b es e1 e2
      exact ⟨ws, q1, q2.sx le⟩
    · obtain ⟨ws, q⟩ := c.lists b z
      rw [e, h5] at q
      cases q
    · exact .lst (.inl h1) (fun z => z.2 rfl) (h2.sx le)
end
end Z
end

section
set_option Elab.async false
set_option autoImplicit false
set_option linter.all false
set_option maxRecDepth 100000
/-! Calls of defs where no text is being written (for repr), and their ends. -/
namespace Z
open PySem PySem.Spec PyProof.Rows L2

structure FnG (P : Program) (w : World) (K : PySem.W.Frag) (mg : Str → Option Value) (base : Heap) (CX : CXT) (k : Nat) (f : Addr) (fd : FuncData) (ps : List Str) (sp : Sp) : Prop where
  len : ∀ vs H Q E, sp vs H Q E → vs.length = ps.length
  run : ∀ (A : Around) (out : List Env) (s : Shared) (H : Hp) (ar : Args) (us : List Value) (vs : List V) (Q : VK) (E : XK), Room k A → A.guards = some [] →
    Env0 P w K mg base A out s H → BindsTo s fd ar (ps.zip us) → Vals vs us → sp vs H Q E → codeAny (model P w) A (.call (.ref f) ar) (CR CX out P w H s Q E) s
section
variable {P : Program} {w : World} {K : PySem.W.Frag} {mg : Str → Option Value} {base : Heap} {CX : CXT}
theorem FnG.more {j k : Nat} {f : Addr} {fd : FuncData} {ps : List Str} {sp : Sp} (F : FnG P w K mg base CX j f fd ps sp) (h : j ≤ k) : FnG P w K mg base CX k f fd ps sp :=
  ⟨F.len, fun A out s H ar us vs Q E hr => F.run A out s H ar us vs Q E (hr.mono h)⟩
/-- a def by its body -/
theorem FunD.okG {x qual : Str} {params : Arguments} {body : List Stmt} {scope : Scope} {dvs : List V} {kws : List (Str × V)} {f : Addr} {fd : FuncData} {N ps : List Str} {k : Nat} {sp : Sp}
    (F : FunD K x qual params body scope dvs kws f fd) (S : FnScope N ps scope) (len : ∀ vs H Q E, sp vs H Q E → vs.length = ps.length)
    (hb : ∀ (cdv : Value) (A : Around) (out : List Env) (s : Shared) (H : Hp) (vs : List V) (Q : VK) (E : XK), Room k (A.deeper (envOfC qual scope s.heap.objs.size f cdv)) → A.guards = some [] → sp vs H Q E →
      ∃ t, PSs (cxOf CX P w K mg base N qual scope f cdv A out s H E) body t ∧ t { nx := fun _ H' => Q .non H', rt := Q } (start N vs) H) : FnG P w K mg base CX (k + 1) f fd ps sp := by
  obtain ⟨oc, od, dV, kV, doc, pm, an, cdv, ct, osl, rfl, lk, hcd, _, _⟩ := F.ex
  refine ⟨len, fun A out s H ar us vs Q E hr hg e0 bnd rv hsp => ?_⟩
  have kx : K.In s.heap := e0.mod.kin.keeps fun b o h => (e0.bs b o h).1
  have nolim : s.heap.NoLimit := e0.mod.nolimit.keeps fun b o h => (e0.bs b o h).1
  have kinds : ∀ y ∈ ps.zip us, scope.names.lookup y.1 = some .local ∨ (scope.names.lookup y.1 = some .cell ∧ ((cellsFrom (s.heap.objs.size + 1) scope.names []).lookup y.1).isSome = true) := by
    rintro ⟨n, v⟩ hy
    rcases S.par n (List.of_mem_zip hy).1 with q | q
    · left
      exact q
    · right
      exact ⟨q, PySem.W.cellsFrom_some _ _ _ (.inl q)⟩
  refine codeAny_call_function hr.depth (kx _ _ lk) rfl S.co S.gen rfl (PySem.W.codeRec_of kx hcd) (bnd _ _ _ _ ?_)
  refine wpAny_newFunctionEnv_cells S.kind kinds fun env henv s1 inc => ?_
  subst henv
  refine ⟨nolim.keeps inc.toInCall.keep, codeAny_func ?_⟩
  obtain ⟨t, ht, hq⟩ := hb cdv A out s H vs Q E (hr.deeper _) hg hsp
  have I0 : Inv (cxOf CX P w K mg base N qual scope f cdv A out s H E) [] (start N vs) H s1 := inv_start S hr.hd e0 (len _ _ _ _ hsp) rv inc
  have done : ∀ {σ2 : L2.St} {H2 : Hp} {v : V} {u : Value} {s2 : Shared}, Inv (cxOf CX P w K mg base N qual scope f cdv A out s H E) [] σ2 H2 s2 → RelV v u → Q v H2 → CE out P w H s Q u s2 := by
    intro σ2 H2 v u s2 J r q
    exact ⟨v, H2, J.os, J.bare, J.base, J.hok, r, q⟩
  refine wpAny_mono (ht.run [] s1 (start N vs) H _ I0 hq) (fun fl s2 hs => ?_) fun _ _ h => h
  cases fl with
  | next =>
    obtain ⟨_, _, J, q⟩ := hs
    exact done (v := V.non) (u := Value.none) J rfl q
  | ret u =>
    obtain ⟨_, _, _, J, r, q⟩ := hs
    exact done J r q
  | brk =>
    obtain ⟨_, _, _, q⟩ := hs
    exact q.elim
  | cont =>
    obtain ⟨_, _, _, q⟩ := hs
    exact q.elim
end
section
variable {X : Cx} {CX : CXT} {k : Nat} {f : Addr} {fd : FuncData} {ps ks : List Str} {sp : Sp} {x : Str} {p pos : Pos} {e : Expr} {es : List Expr} {kws : List Keyword} {t tk : TA}
/-- the end of a call that lets nothing out -/
theorem end_call {pins : List (Addr × Obj)} {σ : L2.St} {H : Hp} {s : Shared} {Q : VK} {ar : List Value} {kw : List (Str × Value)} (I : Inv X pins σ H s)
    (h : codeAny (model X.prog X.w) X.A (.call (.ref f) ⟨ar, kw⟩) (CR CX0 X.stack X.prog X.w H s Q E0) s) : wpAny (model X.prog X.w) X.A (call (.ref f) ar kw) (EP X pins σ Q) X.xe s := by
  refine wpAny_call (codeAny_mono h fun r s2 q => ?_)
  cases r with
  | error e => exact False.elim q
  | ok fl => cases fl with
    | ret u => exact I.after q
    | next => exact False.elim q
    | brk => exact False.elim q
    | cont => exact False.elim q
theorem run_G {pins : List (Addr × Obj)} {σ : L2.St} {H : Hp} {s : Shared} {Q : VK} {us : List Value} {vs : List V} (F : FnG X.prog X.w X.K X.mg X.base CX0 k f fd ps sp) (hr : Room k X.A) (hg : X.A.guards = some []) (hb : Binds X.K fd ps [])
    (I : Inv X pins σ H s) (r : Vals vs us) (h : sp vs H Q E0) : wpAny (model X.prog X.w) X.A (call (.ref f) us) (EP X pins σ Q) X.xe s := by
  have hl : (us ++ []).length = ps.length := by
    rw [List.append_nil, ← r.length]
    exact F.len _ _ _ _ h
  have bnd := hb s us I.kIn hl
  rw [List.append_nil] at bnd
  exact end_call I (F.run X.A X.stack s H ⟨us, []⟩ us vs Q E0 hr hg I.env0 bnd r h)
theorem vals_pm {zs : List V} {ws : List Value} (r : Vals zs ws) : ∀ pm : List Nat, Vals (pmL pm zs) (pmL pm ws)
  | [] => .nil
  | i :: pm => by
    unfold pmL
    rw [List.filterMap_cons, List.filterMap_cons]
    cases h : zs[i]? with
    | none =>
      have h2 : ws[i]? = none := by
        rw [List.getElem?_eq_none_iff] at h ⊢
        rw [← r.length]
        exact h
      rw [h2]
      exact vals_pm r pm
    | some z =>
      have : ∃ u, ws[i]? = some u ∧ RelV z u := by
        clear vals_pm
        induction r generalizing i with
        | nil => cases h
        | cons r1 _ ih =>
          cases i with
          | zero =>
            cases h
            exact ⟨_, rfl, r1⟩
          | succ i => exact ih i (by simpa using h)
      obtain ⟨u, h2, h3⟩ := this
      rw [h2]
      exact .cons h3 (vals_pm r pm)
theorem kw_names {env : Env} : ∀ (kws : List Keyword), (backToKw pos (keywordEach kws env)).map (·.1) = kws.map (·.arg)
  | [] => rfl
  | ⟨n, v, p⟩ :: kws => by
    show n :: (backToKw pos (keywordEach kws env)).map (·.1) = n :: kws.map (·.arg)
    rw [kw_names kws]
theorem kw_all {env : Env} (h : kws.all (·.arg.isSome) = true) : (backToKw pos (keywordEach kws env)).all (·.1.isSome) = true := by
  have e := congrArg (fun l => l.all Option.isSome) (kw_names (pos := pos) (env := env) kws)
  simp only [List.all_map] at e
  exact e.trans h
theorem kw_any {env : Env} (h : kws.all (·.arg.isSome) = true) : (backToKw pos (keywordEach kws env)).any (·.1.isNone) = false := by
  have e := congrArg (fun l => l.any Option.isNone) (kw_names (pos := pos) (env := env) kws)
  simp only [List.any_map] at e
  refine e.trans ?_
  rw [List.any_eq_false]
  intro x hx
  have := List.all_eq_true.mp h x hx
  cases q : x.arg with
  | none =>
    rw [q] at this
    cases this
  | some _ =>
    show ¬ (Option.isNone x.arg) = true
    rw [q]
    exact Bool.false_ne_true
theorem kw_ks {env : Env} : (backToKw pos (keywordEach kws env)).filterMap (·.1) = kws.filterMap (·.arg) := by
  have e := congrArg (fun l => l.filterMap id) (kw_names (pos := pos) (env := env) kws)
  simp only [List.filterMap_map] at e
  exact e
theorem run_GK {pins : List (Addr × Obj)} {σ : L2.St} {H : Hp} {s : Shared} {Q : VK} {us ws : List Value} {vs zs : List V} {n : Nat} {pm : List Nat} (F : FnG X.prog X.w X.K X.mg X.base CX0 k f fd ps sp) (hr : Room k X.A) (hg : X.A.guards = some [])
    (hb : ∀ (s : Shared) (us ws : List Value), us.length = n → ws.length = ks.length → BindsTo s fd ⟨us, ks.zip ws⟩ (ps.zip (us ++ pmL pm ws)))
    (I : Inv X pins σ H s) (r : Vals vs us) (rz : Vals zs ws) (l1 : vs.length = n) (l2 : zs.length = ks.length) (h : sp (vs ++ pmL pm zs) H Q E0) : wpAny (model X.prog X.w) X.A (call (.ref f) us (ks.zip ws)) (EP X pins σ Q) X.xe s :=
  end_call I (F.run X.A X.stack s H ⟨us, ks.zip ws⟩ (us ++ pmL pm ws) (vs ++ pmL pm zs) Q E0 hr hg I.env0 (hb s us ws (by rw [← r.length]; exact l1) (by rw [← rz.length]; exact l2)) (r.append (vals_pm rz pm)) h)
theorem pe_GK {n : Nat} {pm : List Nat} (F : FnG X.prog X.w X.K X.mg X.base CX0 k f fd ps sp) (hr : Room k X.A) (hG : X.A.guards = some []) (hg : Gl X x) (hm : X.mg x = some (.ref f)) (hk : PySem.W.keepIn X.K (.ref f) = true)
    (hb : ∀ (s : Shared) (us ws : List Value), us.length = n → ws.length = ks.length → BindsTo s fd ⟨us, ks.zip ws⟩ (ps.zip (us ++ pmL pm ws)))
    (ha : PA X (e :: es) t) (hkw : PK X kws tk) (hall : kws.all (·.arg.isSome) = true) (hks : kws.filterMap (·.arg) = ks)
    (hdb : (x == ("__debug__" : Str)) = false) (he : starEach (e :: es) X.env = (false, eval e X.env) :: starEach es X.env) (hpl : (backTo pos (starEach es X.env)).any (·.1) = false) :
    PE X (.Call (.Name x p) (e :: es) kws pos) (fun σ H Q => t σ H fun vs H1 => tk σ H1 fun zs H2 => vs.length = n ∧ zs.length = ks.length ∧ sp (vs ++ pmL pm zs) H2 Q E0) := by
  refine ⟨fun pins s σ H Q I h => wpAny_Call_Name_kw (ld_glob I hg hm ?_ hdb)⟩
  refine PySem.W.callWith_KW (h₀ := X.base) I.ok.mod.kin hk (kw_all hall) (thn (ha.run pos pins s σ H _ I h) fun us s1 ⟨vs, H1, I1, r, q⟩ => ?_) ?_ he
  · refine thn (hkw.run pos pins s1 σ H1 _ I1 q) fun ws s2 ⟨zs, H2, I2, rz, l1, l2, q2⟩ => ⟨I2.kIn, ?_⟩
    rw [kw_ks, hks]
    exact run_GK F hr hG hb I2 r rz l1 l2 q2
  · rw [he]
    show ((false || (backTo pos (starEach es X.env)).any (·.1)) || _) = false
    rw [hpl, kw_any hall]
    rfl
theorem pe_GK0 {pm : List Nat} (F : FnG X.prog X.w X.K X.mg X.base CX0 k f fd ps sp) (hr : Room k X.A) (hG : X.A.guards = some []) (hg : Gl X x) (hm : X.mg x = some (.ref f)) (hk : PySem.W.keepIn X.K (.ref f) = true)
    (hb : ∀ (s : Shared) (us ws : List Value), us.length = 0 → ws.length = ks.length → BindsTo s fd ⟨us, ks.zip ws⟩ (ps.zip (us ++ pmL pm ws)))
    (hkw : PK X kws tk) (hall : kws.all (·.arg.isSome) = true) (hks : kws.filterMap (·.arg) = ks) (hdb : (x == ("__debug__" : Str)) = false) :
    PE X (.Call (.Name x p) [] kws pos) (fun σ H Q => tk σ H fun zs H2 => zs.length = ks.length ∧ sp (pmL pm zs) H2 Q E0) := by
  refine ⟨fun pins s σ H Q I h => wpAny_Call_Name_kw (ld_glob I hg hm ?_ hdb)⟩
  refine PySem.W.callWith_KW0 (h₀ := X.base) I.ok.mod.kin hk (kw_all hall) ?_ ?_
  · refine thn (hkw.run pos pins s σ H _ I h) fun ws s2 ⟨zs, H2, I2, rz, l2, q2⟩ => ⟨I2.kIn, ?_⟩
    rw [kw_ks, hks]
    exact run_GK (us := []) F hr hG hb I2 .nil rz rfl l2 q2
  · show (false || _) = false
    rw [kw_any hall]
    rfl
theorem pe_G (F : FnG X.prog X.w X.K X.mg X.base CX0 k f fd ps sp) (hr : Room k X.A) (hG : X.A.guards = some []) (hg : Gl X x) (hm : X.mg x = some (.ref f)) (hk : PySem.W.keepIn X.K (.ref f) = true) (hb : Binds X.K fd ps [])
    (ha : PA X (e :: es) t) (hdb : (x == ("__debug__" : Str)) = false) (he : starEach (e :: es) X.env = (false, eval e X.env) :: starEach es X.env) (hpl : (backTo pos (starEach es X.env)).any (·.1) = false) :
    PE X (.Call (.Name x p) (e :: es) [] pos) (fun σ H Q => t σ H fun vs H1 => sp vs H1 Q E0) := by
  refine ⟨fun pins s σ H Q I h => wpAny_Call_Name_kw (ld_glob I hg hm ?_ hdb)⟩
  refine PySem.W.callWith_K (h₀ := X.base) I.ok.mod.kin hk (thn (ha.run pos pins s σ H _ I h) ?_) he hpl
  rintro us s1 ⟨vs, H1, J, r, q⟩
  exact ⟨J.kIn, run_G F hr hG hb J r q⟩
theorem pe_G0 (F : FnG X.prog X.w X.K X.mg X.base CX0 k f fd ps sp) (hr : Room k X.A) (hG : X.A.guards = some []) (hg : Gl X x) (hm : X.mg x = some (.ref f)) (hk : PySem.W.keepIn X.K (.ref f) = true) (hb : Binds X.K fd ps [])
    (hdb : (x == ("__debug__" : Str)) = false) : PE X (.Call (.Name x p) [] [] pos) (fun σ H Q => sp [] H Q E0) := by
  refine ⟨fun pins s σ H Q I h => wpAny_Call_Name_kw (ld_glob I hg hm ?_ hdb)⟩
  exact PySem.W.callWith_K0 I.kIn hk (run_G (us := []) F hr hG hb I .nil h)
end
end Z
end

section
set_option Elab.async false
set_option autoImplicit false
set_option linter.all false
set_option maxRecDepth 100000
set_option maxHeartbeats 1000000
/-! Operators over trees. -/
namespace Z
open PySem PySem.Spec PyProof.Rows L2

section
variable {K : PySem.W.Frag} {H : Hp} {a : Addr} {vs : List V}
theorem KLs.sq (h : KLs K a vs) : SqL K H a vs := by
  obtain ⟨its, n, h1, h2, h3⟩ := h
  exact .inr ⟨_, its.toArray, n, h1, rfl, rfl, rfl, by simpa using h2, by simpa using h3⟩
/-- a list that is read, with its very object -/
def LX (K : PySem.W.Frag) (H : Hp) (a : Addr) (vs : List V) : Prop := Rd H a (.lst vs) ∨ KLs K a vs
theorem LX.sq (h : LX K H a vs) : SqL K H a vs := h.elim .inl KLs.sq
theorem KTs.sq (h : KTs K a vs) : SqT K H a vs := by
  obtain ⟨its, n, h1, h2, h3⟩ := h
  exact .inr ⟨_, its.toArray, n, h1, rfl, rfl, by simpa using h2, by simpa using h3⟩
end

/-- a value that may be a list of one's own -/
def RepP (E : En) (As : List Addr) (H : Hp) (bad : Addr → Prop) (v : V) (d : D) : Prop :=
  Rep E As H bad v d ∨ ∃ a vs ds, v = .ref a ∧ d = .lst ds ∧ H a = some (.lst vs) ∧ Reps E As H bad vs ds ∧ a ∉ As
section
variable {E : En} {As As' : List Addr} {H H' : Hp} {bad bad' : Addr → Prop} {v : V}
theorem RepP.ext {d : D} (r : RepP E As H bad v d) (x : Ext As bad H As' bad' H') : RepP E As' H' bad' v d := by
  rcases r with r | ⟨a, vs, ds, h1, h2, h3, h4, h5⟩
  · exact .inl (r.ext x)
  · refine .inr ⟨a, vs, ds, h1, h2, x.all _ _ h3 h5, h4.ext x, fun m => ?_⟩
    have := x.fr a m h5
    rw [h3] at this
    cases this
theorem RepP.lst {ds : List D} (r : RepP E As H bad v (.lst ds)) : ∃ a vs, v = .ref a ∧ LX E.K H a vs ∧ Reps E As H bad vs ds := by
  rcases r with r | ⟨a, vs, es, h1, h2, h3, h4, h5⟩
  · cases r with
    | lst r n q => exact ⟨_, _, rfl, .inl r, q⟩
    | lstK r q => exact ⟨_, _, rfl, .inr r, q⟩
  · cases h2
    exact ⟨a, vs, h1, .inl (.inl h3), h4⟩
theorem RepP.tup {ds : List D} (r : RepP E As H bad v (.tup ds)) : ∃ a vs, v = .ref a ∧ SqT E.K H a vs ∧ Reps E As H bad vs ds := by
  rcases r with r | ⟨a, vs, es, h1, h2, h3, h4, h5⟩
  · cases r with
    | tup r n q => exact ⟨_, _, rfl, .inl r, q⟩
    | tupK r q => exact ⟨_, _, rfl, r.sq, q⟩
  · cases h2
theorem RepP.int {i : Int} (r : RepP E As H bad v (.int i)) : v = .int i := by
  rcases r with r | ⟨a, vs, es, h1, h2, h3, h4, h5⟩
  · cases r
    rfl
  · cases h2
theorem RepP.str {x : Str} (r : RepP E As H bad v (.str x)) : v = .str x := by
  rcases r with r | ⟨a, vs, es, h1, h2, h3, h4, h5⟩
  · cases r
    rfl
  · cases h2
theorem RepP.bl {b : Bool} (r : RepP E As H bad v (.bl b)) : v = .bl b := by
  rcases r with r | ⟨a, vs, es, h1, h2, h3, h4, h5⟩
  · cases r
    rfl
  · cases h2
mutual
theorem Rep.dp : ∀ {v : V} {d : D}, Rep E As H bad v d → pl d = true → Dp E.K H v (py d)
  | _, _, .non, _ => .non
  | _, _, .bl b, _ => .bl b
  | _, _, .int i, _ => .int i
  | _, _, .str s, _ => .str s
  | _, _, .lst r n q, h => .lst (.inl r) (Reps.dp q h)
  | _, _, .lstK r q, h => .lst r.sq (Reps.dp q h)
  | _, _, .tup r n q, h => .tup (.inl r) (Reps.dp q h)
  | _, _, .tupK r q, h => .tup r.sq (Reps.dp q h)
  | _, _, .dct r n q, h => by cases h
  | _, _, .cell q, h => by cases h
  | _, _, .fn q, h => by cases h
  | _, _, .exn _ _ _ _ _ _, h => by cases h
theorem Reps.dp : ∀ {vs : List V} {ds : List D}, Reps E As H bad vs ds → plL ds = true → DpAll E.K H vs (pyL ds)
  | _, _, .nil, _ => .nil
  | _, _, .cons r q, h => by
    obtain ⟨h1, h2⟩ := Bool.and_eq_true_iff.mp (show (pl _ && plL _) = true from h)
    exact .cons (Rep.dp r h1) (Reps.dp q h2)
end
theorem RepP.dp {d : D} (r : RepP E As H bad v d) (h : pl d = true) : Dp E.K H v (py d) := by
  rcases r with r | ⟨a, vs, ds, rfl, rfl, h3, h4, h5⟩
  · exact r.dp h
  · exact .lst (.inl (.inl h3)) (h4.dp h)

/-- what an operator leaves: no cell is touched -/
def Fin (E : En) (As : List Addr) (bad : Addr → Prop) (H : Hp) (μ : Mu) (z : D) (w : Bool) (Q : VK) : Prop :=
  ∀ v H' bad', CRel E As bad' H' μ → Ext As bad H As bad' H' → RepO E H As bad' H' v z w → Q v H'
variable {μ : Mu} {Q : VK}
theorem Fin.same {z : D} (f : Fin E As bad H μ z false Q) (c : CRel E As bad H μ) {v : V} (r : Rep E As H bad v z) : Q v H := f v H bad c c.ext0 r
theorem Fin.tup {ds : List D} (f : Fin E As bad H μ (.tup ds) false Q) (c : CRel E As bad H μ) {vs : List V} (r : Reps E As H bad vs ds) : ∀ p, H p = none → Q (.ref p) (upd H p (.tup vs)) := fun p hp => by
  have x := new_ext c hp (.tup vs)
  exact f _ _ bad (new_rel c hp _) x (.tup (.inl upd_same) (c.nbad hp) (r.ext x))
theorem Fin.lst {ds : List D} (f : Fin E As bad H μ (.lst ds) true Q) (c : CRel E As bad H μ) {vs : List V} (r : Reps E As H bad vs ds) : ∀ p, H p = none → Q (.ref p) (upd H p (.lst vs)) := fun p hp => by
  have x := own_ext c hp (.lst vs)
  exact f _ _ _ (own_rel c hp _) x ⟨p, vs, ds, rfl, rfl, upd_same, r.ext x, .inr rfl, fun m => c.nbad hp (c.sub p m), hp⟩
end

/-- an operator on trees, by values -/
def rZ (E : En) (f : D → D → Option (D × Bool)) : R2 := fun vx vy H Q => ∃ As bad μ x y z w, CRel E As bad H μ ∧ RepP E As H bad vx x ∧ RepP E As H bad vy y ∧ f x y = some (z, w) ∧ Fin E As bad H μ z w Q

section
variable {X : Cx} {pins : List (Addr × Obj)} {σ : L2.St} {H : Hp} {s : Shared}
theorem lx_obj (I : Inv X pins σ H s) {a : Addr} {xs : List V} (h : LX X.K H a xs) : ∃ (its : List Value) (n : Nat), Vals xs its ∧ s.heap.get? a = some { cls := .type "list", data := .seq its.toArray n } ∧ xs.length ≤ sizeLine := by
  rcases h with h | ⟨its, n, h1, h2, h3⟩
  · obtain ⟨z, its, n, r, e⟩ := h.ok I.hok
    exact ⟨its, n, r, e, z⟩
  · exact ⟨its, n, h3, I.kIn a _ h1, by rw [h3.length]; exact h2⟩
theorem long_no {n : Nat} (h : n ≤ sizeLine) : Builtin.List.listTooLong n = false := notLongL h
/-- list + list, whatever lists -/
theorem cat_any {l b : Addr} {xs zs : List V} {Q : VK} (I : Inv X pins σ H s) (h1 : LX X.K H l xs) (h2 : LX X.K H b zs) (hz : xs.length + zs.length ≤ sizeLine)
    (q : ∀ p, H p = none → Q (.ref p) (upd H p (.lst (xs ++ zs)))) : wpAny (model X.prog X.w) X.A (binaryOp .Add (.ref l) (.ref b)) (EP X pins σ Q) X.xe s := by
  obtain ⟨its, n, r, e, _⟩ := lx_obj I h1
  obtain ⟨its2, n2, r2, e2, _⟩ := lx_obj I h2
  have hl := r.length
  have hl2 := r2.length
  refine PySem.P.add_list e e2 ?_ (by rw [List.size_toArray, List.size_toArray, ← hl, ← hl2]; exact hz)
  rw [show its.toArray ++ its2.toArray = (its ++ its2).toArray by simp]
  refine ⟨.ref _, _, I.lnew (t' := s.toks) (r.append r2) ?_, rfl, q _ I.fresh⟩
  rw [List.length_append]
  exact hz
/-- list * int -/
theorem rep_any {l : Addr} {xs : List V} {k : Int} {t : Tok} {Q : VK} (I : Inv X pins σ H s) (h1 : LX X.K H l xs) (k0 : 0 ≤ k) (k1 : k ≤ 100000) (hz : xs.length * k.toNat ≤ sizeLine)
    (q : ∀ p, H p = none → Q (.ref p) (upd H p (.lst (List.replicate k.toNat xs).flatten))) : wpAny (model X.prog X.w) X.A (binaryOp .Mult (.ref l) (.int k t)) (EP X pins σ Q) X.xe s := by
  obtain ⟨its, n, r, e, _⟩ := lx_obj I h1
  have hlen : its.toArray.size * k.toNat ≤ sizeLine := by
    rw [List.size_toArray, ← r.length]
    exact hz
  have hcap : ¬ its.toArray.size * k.toNat > (2 ^ 63 - 1) / 8 := by
    have h9 : (sizeLine : Nat) ≤ (2 ^ 63 - 1) / 8 := by decide
    exact Nat.not_lt.mpr (Nat.le_trans hlen h9)
  have hfit : ¬ (!Builtin.List.listFitsIndex k) = true := by
    rw [fitsIndex_both (by omega) (by omega)]
    exact Bool.false_ne_true
  have hlong : ¬ Builtin.List.listTooLong (its.toArray.size * k.toNat) = true := by
    rw [long_no hlen]
    exact Bool.false_ne_true
  have hnew : List.foldl (fun x1 x2 => x1 ++ x2) #[] (List.replicate (if its.toArray.isEmpty = true then 0 else k.toNat) its.toArray) = (List.replicate k.toNat its).flatten.toArray := by
    have all : ∀ m : Nat, List.foldl (fun x1 x2 => x1 ++ x2) #[] (List.replicate m its.toArray) = (List.replicate m its).flatten.toArray := by
      intro m
      have z := foldl_rep its m []
      rwa [List.nil_append] at z
    rw [all]
    cases its with
    | nil => simp
    | cons a r' => rw [if_neg (by simp)]
  refine wpAny_binaryOp_repeat_ref (T := "list") (U := "int") (by decide) ⟨_, e, rfl⟩ (fun s' => typeIs_int s' k t) noFill_list_mul F.fills_int_mul F.slot_int_rmul repeat_list F.slot_int_index.lookup ?_
  refine call_meets F.slot_int_rmul (typeIs_int s k t) F.entry_int_rmul (F.args_int_rmul_2 _ _) (int___rmul___int_list k t l its.toArray n) ⟨e, rfl, ⟨_, e, rfl⟩, ?_⟩
  refine call_meets F.slot_list_mul ⟨_, e, rfl⟩ F.entry_list_mul (F.args_list_mul_2 _ _) (AutoListH.list___mul___list_int_3 l its.toArray n k t hfit hcap hlong) ⟨e, ?_⟩
  rw [hnew]
  refine ⟨.ref _, _, I.lnew (t' := s.toks) (r.rep k.toNat) ?_, rfl, q _ I.fresh⟩
  rw [PyProof.Rows.lm_len_rep_flat, Nat.mul_comm]
  exact hz
end

section
variable {X : Cx} {E : En} (hK : X.K = E.K)
include hK
theorem mul_ok {i j : Int} (h : mulOk i j = true) : CMul i j ∨ CMulW i j := by
  unfold mulOk at h
  simp only [Bool.or_eq_true, decide_eq_true_eq] at h
  rcases h with (h | h) | ⟨h1, h2⟩
  · exact .inl (.inl h)
  · exact .inl (.inr h)
  · exact .inr (wide_mul h1 h2 (by decide) (by decide) (by decide))
theorem op_ok (o : Op) : OpR X (binaryOp (match o with
  | .add => .Add
  | .sub => .Sub
  | .mul => .Mult
  | .fdiv => .FloorDiv
  | .mod => .Mod
  | .pow => .Pow)) (rZ E (opD o)) := by
  intro pins s σ H vx vy v u Q I rx ry h
  obtain ⟨As, bad, μ, x, y, z, w, c, px, py, e, f⟩ := h
  cases o with
  | add =>
    cases x <;> cases y <;> simp only [opD] at e <;> first
      | (cases e; done)
      | skip
    · cases e
      rw [px.int] at rx
      rw [py.int] at ry
      exact op_add pins s σ H _ _ v u Q I rx ry ⟨_, _, rfl, rfl, f.same c (.int _)⟩
    · split at e
      · rename_i hz
        cases e
        rw [px.str] at rx
        rw [py.str] at ry
        exact op_add_str pins s σ H _ _ v u Q I rx ry ⟨_, _, rfl, rfl, hz, f.same c (.str _)⟩
      · cases e
    · split at e
      · rename_i hz
        cases e
        obtain ⟨a, xs, rfl, l1, r1⟩ := px.tup
        obtain ⟨b, ys, rfl, l2, r2⟩ := py.tup
        have n1 := r1.length
        have n2 := r2.length
        rw [← hK] at l1 l2
        refine op_catA pins s σ H _ _ v u Q I rx ry ⟨a, b, xs, ys, rfl, rfl, l1, l2, by omega, fun z => ?_, fun z z2 => ?_, fun _ _ => f.tup c (r1.append r2)⟩
        · subst z
          cases r1
          have p2 := py
          rcases py with r | ⟨_, _, _, _, q, _⟩
          · exact f.same c r
          · cases q
        · subst z2
          cases r2
          rcases px with r | ⟨_, _, _, _, q, _⟩
          · exact f.same c (by rw [List.append_nil]; exact r)
          · cases q
      · cases e
    · split at e
      · rename_i hz
        cases e
        obtain ⟨a, xs, rfl, l1, r1⟩ := px.lst
        obtain ⟨b, ys, rfl, l2, r2⟩ := py.lst
        have n1 := r1.length
        have n2 := r2.length
        rw [← hK] at l1 l2
        cases rx
        cases ry
        exact cat_any I l1 l2 (by omega) (f.lst c (r1.append r2))
      · cases e
  | sub =>
    cases x <;> cases y <;> simp only [opD] at e <;> first
      | (cases e; done)
      | skip
    cases e
    rw [px.int] at rx
    rw [py.int] at ry
    exact op_sub pins s σ H _ _ v u Q I rx ry ⟨_, _, rfl, rfl, f.same c (.int _)⟩
  | mul =>
    cases x <;> cases y <;> simp only [opD] at e <;> first
      | (cases e; done)
      | skip
    · split at e
      · rename_i hz
        cases e
        rw [px.int] at rx
        rw [py.int] at ry
        rcases mul_ok hK hz with hm | hm
        · exact op_mul pins s σ H _ _ v u Q I rx ry ⟨_, _, rfl, rfl, hm, f.same c (.int _)⟩
        · exact op_mulW pins s σ H _ _ v u Q I rx ry ⟨_, _, rfl, rfl, hm, f.same c (.int _)⟩
      · cases e
    · split at e
      · rename_i hz
        obtain ⟨h0, h1, h2⟩ := hz
        cases e
        obtain ⟨a, xs, rfl, l1, r1⟩ := px.lst
        have n1 := r1.length
        rw [← hK] at l1
        rw [py.int] at ry
        obtain ⟨t, rfl⟩ := ry
        cases rx
        exact rep_any I l1 h0 h1 (by rw [n1]; exact h2) (f.lst c (r1.flat _))
      · cases e
  | fdiv =>
    cases x <;> cases y <;> simp only [opD] at e <;> first
      | (cases e; done)
      | skip
    split at e
    · rename_i hz
      cases e
      rw [px.int] at rx
      rw [py.int] at ry
      obtain ⟨h1, h2⟩ := of_decide_eq_true hz
      exact op_fdivW pins s σ H _ _ v u Q I rx ry ⟨_, _, rfl, rfl, wide_div h1 h2 (by decide) (by decide), f.same c (.int _)⟩
    · cases e
  | mod =>
    cases x <;> cases y <;> simp only [opD] at e <;> first
      | (cases e; done)
      | skip
    split at e
    · rename_i hz
      cases e
      rw [px.int] at rx
      rw [py.int] at ry
      exact op_mod pins s σ H _ _ v u Q I rx ry ⟨_, _, rfl, rfl, hz, f.same c (.int _)⟩
    · cases e
  | pow =>
    cases x <;> cases y <;> simp only [opD] at e <;> first
      | (cases e; done)
      | skip
    split at e
    · rename_i hz
      cases e
      rw [px.int] at rx
      rw [py.int] at ry
      obtain ⟨h1, h2⟩ := of_decide_eq_true hz
      obtain ⟨t, rfl⟩ := rx
      obtain ⟨t2, rfl⟩ := ry
      exact pow_int h1 h2 ⟨.int _, H, I.tok _, ⟨_, rfl⟩, f.same c (.int _)⟩
    · cases e
end
end Z
end

section
set_option Elab.async false
set_option autoImplicit false
set_option linter.all false
set_option maxRecDepth 100000
set_option maxHeartbeats 1000000
/-! Comparisons, built-ins, methods, subscripts over trees. -/
namespace Z
open PySem PySem.Spec PyProof.Rows L2
theorem memD_any (d : D) : ∀ es : List D, (pyL es).any (fun z => PyData.eqv z (py d)) = memD d es
  | [] => rfl
  | e :: r => by
    show (PyData.eqv (py e) (py d) || (pyL r).any fun z => PyData.eqv z (py d)) = (eqD e d || memD d r)
    rw [memD_any d r]
    rfl
def cpOf : Cp → CmpOp
  | .eq => .Eq
  | .ne => .NotEq
  | .lt => .Lt
  | .le => .LtE
  | .gt => .Gt
  | .ge => .GtE
  | .is_ => .Is
  | .isNot => .IsNot
  | .in_ => .In
  | .notIn => .NotIn
def cpF (c : Cp) (x y : D) : Option (D × Bool) := match cpD c x y with
  | some k => some (.bl k, false)
  | none => none
theorem cpF_of {c : Cp} {x y z : D} {w : Bool} (h : cpF c x y = some (z, w)) : ∃ k, cpD c x y = some k ∧ z = .bl k ∧ w = false := by
  unfold cpF at h
  split at h
  · rename_i k e
    cases h
    exact ⟨k, e, rfl, rfl⟩
  · cases h
section
variable {E : En} {As : List Addr} {H : Hp} {bad : Addr → Prop}
/-- whether it is None -/
def isNon : D → Bool
  | .non => true
  | _ => false
theorem RepP.nonV {v : V} {d : D} (r : RepP E As H bad v d) : decide (v = .non) = isNon d := by
  rcases r with r | ⟨a, vs, ds, rfl, rfl, _⟩
  · cases r <;> rfl
  · rfl
theorem RepP.isnon {v : V} (r : RepP E As H bad v .non) : v = .non := by
  rcases r with r | ⟨a, vs, ds, _, h, _⟩
  · cases r
    rfl
  · cases h
end
theorem isD (d : D) : cpD .is_ d .non = some (isNon d) := by cases d <;> rfl
theorem isNotD (d : D) : cpD .isNot d .non = some (!isNon d) := by cases d <;> rfl
section
variable {X : Cx} {E : En} (hK : X.K = E.K) (hu : X.A.units + 65 < cLine)
include hK hu
omit hK hu in
theorem isList_of {E : En} {As : List Addr} {H : Hp} {bad : Addr → Prop} {pins : List (Addr × Obj)} {σ : L2.St} {s : Shared} (hK : X.K = E.K) (I : Inv X pins σ H s) {v : V} {u : Value} {ds : List D} (p : RepP E As H bad v (.lst ds)) (r : RelV v u) : ∃ a its, u = .ref a ∧ s.heap.IsList a its ∧ its.size = ds.length := by
  obtain ⟨a, vs, rfl, hl, q⟩ := p.lst
  cases r
  rw [← hK] at hl
  obtain ⟨its, n, rv, ho, _⟩ := lx_obj I hl
  refine ⟨a, its.toArray, rfl, ⟨_, ho, rfl, n, rfl⟩, ?_⟩
  rw [List.size_toArray, ← rv.length, q.length]
theorem len_eq {As : List Addr} {H : Hp} {bad : Addr → Prop} {pins : List (Addr × Obj)} {σ : L2.St} {s : Shared} {v1 v2 : V} {u1 u2 : Value} {x y : D} {b : Bool} {Q : VK} (I : Inv X pins σ H s) (p1 : RepP E As H bad v1 x) (p2 : RepP E As H bad v2 y) (r1 : RelV v1 u1) (r2 : RelV v2 u2)
    (e : lenEq x y = some b) (f : Q (.bl b) H) : wpAny (model X.prog X.w) X.A (compareOp .Eq u1 u2) (EP X pins σ Q) X.xe s := by
  cases x <;> try (cases e; done)
  cases y <;> try (cases e; done)
  unfold lenEq at e
  dsimp only at e
  split at e
  · cases e
  · rename_i hne
    cases e
    obtain ⟨a, i1, rfl, l1, z1⟩ := isList_of hK I p1 r1
    obtain ⟨c, i2, rfl, l2, z2⟩ := isList_of hK I p2 r2
    exact SeqAt.RcAt.lists_lengths l1 l2 (by rw [z1, z2]; simpa using hne) (by omega) _ _ _ _ ⟨.bl _, H, I, rfl, f⟩
theorem len_ne {As : List Addr} {H : Hp} {bad : Addr → Prop} {pins : List (Addr × Obj)} {σ : L2.St} {s : Shared} {v1 v2 : V} {u1 u2 : Value} {x y : D} {b : Bool} {Q : VK} (I : Inv X pins σ H s) (p1 : RepP E As H bad v1 x) (p2 : RepP E As H bad v2 y) (r1 : RelV v1 u1) (r2 : RelV v2 u2)
    (e : lenEq x y = some b) (f : Q (.bl (!b)) H) : wpAny (model X.prog X.w) X.A (compareOp .NotEq u1 u2) (EP X pins σ Q) X.xe s := by
  cases x <;> try (cases e; done)
  cases y <;> try (cases e; done)
  unfold lenEq at e
  dsimp only at e
  split at e
  · cases e
  · rename_i hne
    cases e
    obtain ⟨a, i1, rfl, l1, z1⟩ := isList_of hK I p1 r1
    obtain ⟨c, i2, rfl, l2, z2⟩ := isList_of hK I p2 r2
    exact SeqAt.RcNeAt.lists_lengths l1 l2 (by rw [z1, z2]; simpa using hne) (by omega) _ _ _ _ ⟨.bl _, H, I, rfl, f⟩
theorem cp_ok (cc : Cp) : OpR X (compareOp (cpOf cc)) (rZ E (cpF cc)) := by
  intro pins s σ H vx vy v u Q I rx ry h
  obtain ⟨As, bad, μ, x, y, z, w, c, px, py', e0, f⟩ := h
  obtain ⟨k, e, rfl, rfl⟩ := cpF_of e0
  clear e0
  have fq : Q (.bl k) H := f.same c (.bl k)
  cases cc with
  | eq =>
    unfold cpD at e
    dsimp only at e
    split at e
    · rename_i b hz
      cases e
      cases x with
      | str sx => cases y with
        | str sy =>
          cases hz
          rw [px.str] at rx
          rw [py'.str] at ry
          refine op_eq pins s σ H _ _ v u Q I rx ry ⟨rfl, ?_⟩
          have e2 : decide (V.str sx = V.str sy) = decide (sx = sy) := by
            by_cases q : sx = sy
            · rw [decide_eq_true q, decide_eq_true (by rw [q])]
            · rw [decide_eq_false q, decide_eq_false fun z => q (V.str.inj z)]
          rw [e2]
          exact fq
        | _ => cases hz
      | _ => cases y <;> cases hz
    split at e
    · rename_i hz
      obtain ⟨h1, h2⟩ := Bool.and_eq_true_iff.mp hz
      obtain ⟨a1, a2⟩ := Bool.and_eq_true_iff.mp h1
      obtain ⟨b1, b2⟩ := Bool.and_eq_true_iff.mp h2
      cases e
      refine op_eqD (by omega) pins s σ H _ _ v u Q I rx ry ⟨py x, py y, ?_, ?_, a2, b2, fq⟩
      · rw [hK]
        exact px.dp a1
      · rw [hK]
        exact py'.dp b1
    · exact len_eq hK hu I px py' rx ry e fq
  | ne =>
    unfold cpD at e
    dsimp only at e
    split at e
    · rename_i b hz
      cases e
      cases x with
      | str sx => cases y with
        | str sy =>
          cases hz
          rw [px.str] at rx
          rw [py'.str] at ry
          refine op_ne pins s σ H _ _ v u Q I rx ry ⟨rfl, ?_⟩
          have e2 : decide (V.str sx = V.str sy) = decide (sx = sy) := by
            by_cases q : sx = sy
            · rw [decide_eq_true q, decide_eq_true (by rw [q])]
            · rw [decide_eq_false q, decide_eq_false fun z => q (V.str.inj z)]
          rw [e2]
          exact fq
        | _ => cases hz
      | _ => cases y <;> cases hz
    split at e
    · rename_i hz
      obtain ⟨h1, h2⟩ := Bool.and_eq_true_iff.mp hz
      obtain ⟨a1, a2⟩ := Bool.and_eq_true_iff.mp h1
      obtain ⟨b1, b2⟩ := Bool.and_eq_true_iff.mp h2
      cases e
      refine op_neD (by omega) pins s σ H _ _ v u Q I rx ry ⟨py x, py y, ?_, ?_, a2, b2, fq⟩
      · rw [hK]
        exact px.dp a1
      · rw [hK]
        exact py'.dp b1
    · split at e
      · rename_i b hl
        cases e
        exact len_ne hK hu I px py' rx ry hl fq
      · cases e
  | lt =>
    cases x <;> cases y <;> (unfold cpD at e; dsimp only at e) <;> first
      | (cases e; done)
      | skip
    cases e
    rw [px.int] at rx
    rw [py'.int] at ry
    exact op_lt pins s σ H _ _ v u Q I rx ry ⟨_, _, rfl, rfl, fq⟩
  | le =>
    cases x <;> cases y <;> (unfold cpD at e; dsimp only at e) <;> first
      | (cases e; done)
      | skip
    cases e
    rw [px.int] at rx
    rw [py'.int] at ry
    exact op_le pins s σ H _ _ v u Q I rx ry ⟨_, _, rfl, rfl, fq⟩
  | gt =>
    cases x <;> cases y <;> (unfold cpD at e; dsimp only at e) <;> first
      | (cases e; done)
      | skip
    cases e
    rw [px.int] at rx
    rw [py'.int] at ry
    exact op_gt pins s σ H _ _ v u Q I rx ry ⟨_, _, rfl, rfl, fq⟩
  | ge =>
    cases x <;> cases y <;> (unfold cpD at e; dsimp only at e) <;> first
      | (cases e; done)
      | skip
    cases e
    rw [px.int] at rx
    rw [py'.int] at ry
    exact op_ge pins s σ H _ _ v u Q I rx ry ⟨_, _, rfl, rfl, fq⟩
  | is_ =>
    cases y with
    | non =>
      rw [isD] at e
      cases e
      rw [py'.isnon] at ry
      exact op_isN pins s σ H _ _ v u Q I rx ry ⟨rfl, by rw [px.nonV]; exact fq⟩
    | bl b =>
      cases x <;> (unfold cpD at e; dsimp only at e) <;> first
        | (cases e; done)
        | skip
      cases e
      rw [px.bl] at rx
      rw [py'.bl] at ry
      exact op_isBl pins s σ H _ _ v u Q I rx ry ⟨_, _, rfl, rfl, by rw [← Bool.beq_eq_decide_eq]; exact fq⟩
    | _ => cases x <;> (unfold cpD at e; dsimp only at e) <;> cases e
  | isNot =>
    cases y with
    | non =>
      rw [isNotD] at e
      cases e
      rw [py'.isnon] at ry
      exact op_notN pins s σ H _ _ v u Q I rx ry ⟨rfl, by rw [px.nonV]; exact fq⟩
    | bl b =>
      cases x <;> (unfold cpD at e; dsimp only at e) <;> first
        | (cases e; done)
        | skip
      cases e
      rw [px.bl] at rx
      rw [py'.bl] at ry
      exact op_notBl pins s σ H _ _ v u Q I rx ry ⟨_, _, rfl, rfl, by rw [← Bool.beq_eq_decide_eq]; exact fq⟩
    | _ => cases x <;> (unfold cpD at e; dsimp only at e) <;> cases e
  | in_ =>
    cases y <;> (unfold cpD at e; dsimp only at e) <;> first
      | (cases e; done)
      | skip
    · rename_i es
      split at e
      · rename_i hz
        obtain ⟨h1, h2⟩ := Bool.and_eq_true_iff.mp hz
        obtain ⟨a1, a2⟩ := Bool.and_eq_true_iff.mp h1
        obtain ⟨b1, b2⟩ := Bool.and_eq_true_iff.mp h2
        cases e
        obtain ⟨as, r1⟩ := Dp.reads I (py x) _ v (by rw [hK]; exact px.dp a1) rx
        obtain ⟨bs, r2⟩ := Dp.reads I (.tuple (pyL es)) _ u (by rw [hK]; exact py'.dp b1) ry
        exact SeqAt.in_tuple_reads r2 r1 (SeqAt.canLay_of_shaped b2) (SeqAt.canLay_of_shaped a2) (room_in_shaped a2 hu) ⟨.bl _, H, I, rfl, by rw [memD_any]; exact fq⟩
      · cases e
    · rename_i es
      split at e
      · rename_i hz
        obtain ⟨h1, h2⟩ := Bool.and_eq_true_iff.mp hz
        obtain ⟨a1, a2⟩ := Bool.and_eq_true_iff.mp h1
        obtain ⟨b1, b2⟩ := Bool.and_eq_true_iff.mp h2
        cases e
        refine op_inD hu pins s σ H _ _ v u Q I rx ry ⟨py x, pyL es, ?_, ?_, a2, b2, by rw [memD_any]; exact fq⟩
        · rw [hK]
          exact px.dp a1
        · rw [hK]
          exact py'.dp b1
      · cases e
  | notIn =>
    cases y <;> (unfold cpD at e; dsimp only at e) <;> first
      | (cases e; done)
      | skip
    · rename_i es
      split at e
      · rename_i hz
        obtain ⟨h1, h2⟩ := Bool.and_eq_true_iff.mp hz
        obtain ⟨a1, a2⟩ := Bool.and_eq_true_iff.mp h1
        obtain ⟨b1, b2⟩ := Bool.and_eq_true_iff.mp h2
        cases e
        obtain ⟨as, r1⟩ := Dp.reads I (py x) _ v (by rw [hK]; exact px.dp a1) rx
        obtain ⟨bs, r2⟩ := Dp.reads I (.tuple (pyL es)) _ u (by rw [hK]; exact py'.dp b1) ry
        exact SeqAt.notIn_tuple_reads r2 r1 (SeqAt.canLay_of_shaped b2) (SeqAt.canLay_of_shaped a2) (room_in_shaped a2 hu) ⟨.bl _, H, I, rfl, by rw [memD_any]; exact fq⟩
      · cases e
    · rename_i es
      split at e
      · rename_i hz
        obtain ⟨h1, h2⟩ := Bool.and_eq_true_iff.mp hz
        obtain ⟨a1, a2⟩ := Bool.and_eq_true_iff.mp h1
        obtain ⟨b1, b2⟩ := Bool.and_eq_true_iff.mp h2
        cases e
        refine op_notInD hu pins s σ H _ _ v u Q I rx ry ⟨py x, pyL es, ?_, ?_, a2, b2, by rw [memD_any]; exact fq⟩
        · rw [hK]
          exact px.dp a1
        · rw [hK]
          exact py'.dp b1
      · cases e
end
end Z
end

section
set_option Elab.async false
set_option autoImplicit false
set_option linter.all false
set_option maxRecDepth 100000
set_option maxHeartbeats 1000000
/-! sorted: ints, or tuples of ints and texts, over trees. -/
namespace Z.Sr
open PySem PySem.Spec PyProof.Rows L2

abbrev It := Int ⊕ List Nat
/-! ### the order -/
theorem lt_nats {x y : List Nat} (h : ¬ x = y) : strKind.blt x y = decide (x < y) := rfl
theorem ltKs_eq : ∀ xs ys : List It, ltKs xs ys = lexLt itemOrd xs ys
  | [], [] => rfl
  | [], _ :: _ => rfl
  | .inl _ :: _, [] => rfl
  | .inr _ :: _, [] => rfl
  | .inl i :: r, .inl j :: t => by
    show (if i = j then ltKs r t else decide (i < j)) = _
    by_cases e : i = j
    · subst e
      rw [if_pos rfl, lex_self (O := itemOrd), ltKs_eq r t]
    · rw [if_neg e, lex_diff (O := itemOrd) fun q => e (Sum.inl.inj q)]
      rfl
  | .inr i :: r, .inr j :: t => by
    show (if i = j then ltKs r t else decide (i < j)) = _
    by_cases e : i = j
    · subst e
      rw [if_pos rfl, lex_self (O := itemOrd), ltKs_eq r t]
    · rw [if_neg e, lex_diff (O := itemOrd) fun q => e (Sum.inr.inj q)]
      rfl
  | .inl i :: r, .inr j :: t => by
    rw [lex_diff (O := itemOrd) (by intro q; cases q)]
    rfl
  | .inr i :: r, .inl j :: t => by
    rw [lex_diff (O := itemOrd) (by intro q; cases q)]
    rfl
theorem swoK {α : Type} (k : α → List It) : SrtO.Swo fun x y => ltKs (k x) (k y) := by
  refine ⟨fun x y h => ?_, fun x y z h1 h2 => ?_⟩
  · rw [ltKs_eq] at h ⊢
    cases q : lexLt itemOrd (k y) (k x) with
    | false => rfl
    | true =>
      have := lex_trans (O := itemOrd) _ _ _ h q
      rw [lex_irrefl] at this
      cases this
  · rw [ltKs_eq] at h1 h2 ⊢
    cases q : lexLt itemOrd (k z) (k x) with
    | false => rfl
    | true =>
      rcases lex_negTrans (O := itemOrd) _ (k y) _ q with h | h
      · rw [h2] at h
        cases h
      · rw [h1] at h
        cases h
theorem ltKs_tot {xs ys : List It} (h1 : ltKs xs ys = false) (h2 : ltKs ys xs = false) : xs = ys := by
  rw [ltKs_eq] at h1 h2
  exact lex_total (O := itemOrd) _ _ h1 h2

/-! ### the sorting of trees -/
theorem swoD : SrtO.Swo ltD := swoK keyOf
theorem ins_perm (d : D) : ∀ l : List D, (insD d l).Perm (d :: l)
  | [] => List.Perm.refl _
  | e :: r => by
    show (if ltD e d = true then e :: insD d r else d :: e :: r).Perm (d :: e :: r)
    split
    · exact ((ins_perm d r).cons e).trans (List.Perm.swap ..)
    · exact List.Perm.refl _
theorem isort_perm : ∀ l : List D, (isortD l).Perm l
  | [] => List.Perm.refl _
  | d :: r => (ins_perm d (isortD r)).trans ((isort_perm r).cons d)
theorem ins_srt (d : D) : ∀ l : List D, SrtO.Srtd ltD l → SrtO.Srtd ltD (insD d l)
  | [], _ => List.pairwise_singleton _ _
  | e :: r, h => by
    obtain ⟨h1, h2⟩ := List.pairwise_cons.mp h
    show SrtO.Srtd ltD (if ltD e d = true then e :: insD d r else d :: e :: r)
    split
    · rename_i q
      refine List.pairwise_cons.mpr ⟨fun y hy => ?_, ins_srt d r h2⟩
      rcases List.mem_cons.mp ((ins_perm d r).mem_iff.mp hy) with e1 | hy
      · subst e1
        exact swoD.asym _ _ q
      · exact h1 y hy
    · rename_i q
      have q' : ltD e d = false := by simpa using q
      refine List.pairwise_cons.mpr ⟨fun y hy => ?_, h⟩
      rcases List.mem_cons.mp hy with e1 | hy
      · subst e1
        exact q'
      · exact swoD.tr d e y q' (h1 y hy)
theorem isort_srt : ∀ l : List D, SrtO.Srtd ltD (isortD l)
  | [] => List.Pairwise.nil
  | d :: r => ins_srt d _ (isort_srt r)
/-- sorted lists of the same items are one, where keys tell them apart -/
theorem srt_uniq : ∀ {l m : List D}, (∀ x ∈ l, ∀ y ∈ l, keyOf x = keyOf y → x = y) → l.Perm m → SrtO.Srtd ltD l → SrtO.Srtd ltD m → l = m
  | [], m, _, p, _, _ => (List.Perm.eq_nil p.symm).symm
  | x :: l, [], _, p, _, _ => absurd p.length_eq (by simp)
  | x :: l, y :: m, k, p, hl, hm => by
    have hy : y ∈ x :: l := p.mem_iff.mpr List.mem_cons_self
    have h1 : ltD x y = false := by
      rcases List.mem_cons.mp (p.mem_iff.mp (List.mem_cons_self (a := x) (l := l))) with e | hx
      · rw [e]
        exact swoD.refl y
      · exact SrtO.srtd_head hm x hx
    have h2 : ltD y x = false := by
      rcases List.mem_cons.mp hy with e | hy
      · rw [e]
        exact swoD.refl x
      · exact SrtO.srtd_head hl y hy
    have e : x = y := k x List.mem_cons_self y hy (ltKs_tot h1 h2)
    subst e
    rw [srt_uniq (fun a ha b hb => k a (List.mem_cons_of_mem _ ha) b (List.mem_cons_of_mem _ hb)) p.cons_inv (List.pairwise_cons.mp hl).2 (List.pairwise_cons.mp hm).2]

/-! ### ints -/
theorem ints_isort {ns ms : List Int} (p : ms.Perm ns) (h : ms.Pairwise (· ≤ ·)) : ms.map D.int = isortD (ns.map D.int) := by
  refine srt_uniq (fun x hx y hy e => ?_) ?_ ?_ (isort_srt _)
  · obtain ⟨i, _, rfl⟩ := List.mem_map.mp hx
    obtain ⟨j, _, rfl⟩ := List.mem_map.mp hy
    have e' : [(Sum.inl i : It)] = [Sum.inl j] := e
    cases e'
    rfl
  · exact (p.map D.int).trans (isort_perm _).symm
  · refine List.pairwise_map.mpr (h.imp fun {a b} q => ?_)
    show (if b = a then ltKs [] [] else decide (b < a)) = false
    split
    · rfl
    · exact decide_eq_false (by omega)
theorem intsD_map : ∀ {xs : List D} {ns : List Int}, intsD xs = some ns → xs = ns.map D.int
  | [], ns, e => by
    cases e
    rfl
  | d :: ds, ns, e => by
    cases d with
    | int i =>
      rw [show intsD (.int i :: ds) = (intsD ds).map (i :: ·) from rfl] at e
      cases q : intsD ds with
      | none =>
        rw [q] at e
        cases e
      | some ms =>
        rw [q] at e
        cases e
        rw [intsD_map q]
        rfl
    | _ => exact nomatch e

/-! ### tuples -/
theorem cps_eq {x y : Str} : x = y ↔ x.cps.toList = y.cps.toList := by
  refine ⟨fun e => by rw [e], fun e => ?_⟩
  cases x
  cases y
  simp_all
theorem itK_inj {x y : D} {a : It} (h1 : itK x = some a) (h2 : itK y = some a) : x = y := by
  cases x with
  | int i =>
    cases h1
    cases y with
    | int j =>
      cases h2
      rfl
    | str _ => exact nomatch (Option.some.inj h2)
    | _ => cases h2
  | str u =>
    cases h1
    cases y with
    | int j => exact nomatch (Option.some.inj h2)
    | str v =>
      have q := Sum.inr.inj (Option.some.inj h2)
      rw [cps_eq.mpr q]
    | _ => cases h2
  | _ => cases h1
theorem itKs_inj : ∀ {xs ys : List D} {ks : List It}, itKs xs = some ks → itKs ys = some ks → xs = ys
  | [], [], _, _, _ => rfl
  | [], y :: ys, ks, h1, h2 => by
    cases h1
    rw [itKs] at h2
    split at h2
    · split at h2 <;> cases h2
    · cases h2
  | x :: xs, [], ks, h1, h2 => by
    cases h2
    rw [itKs] at h1
    split at h1
    · split at h1 <;> cases h1
    · cases h1
  | x :: xs, y :: ys, ks, h1, h2 => by
    rw [itKs] at h1 h2
    split at h1
    · rename_i a ea
      split at h1
      · rename_i as eas
        cases h1
        split at h2
        · rename_i b eb
          split at h2
          · rename_i bs ebs
            cases h2
            rw [itKs_inj eas ebs]
            rw [itK_inj ea eb]
          · cases h2
        · cases h2
      · cases h1
    · cases h1
theorem keyD_inj {d e : D} {k : List It} (h1 : keyD d = some k) (h2 : keyD e = some k) : d = e := by
  cases d with
  | tup xs => cases xs with
    | nil => cases h1
    | cons x xs => cases e with
      | tup ys => cases ys with
        | nil => cases h2
        | cons y ys => rw [itKs_inj (show itKs (x :: xs) = some k from h1) h2]
      | _ => cases h2
  | _ => cases h1
theorem keyDs_all : ∀ {xs : List D} {ks : List (List It)}, keyDs xs = some ks → ∀ d ∈ xs, ∃ k ∈ ks, keyD d = some k
  | [], _, _, d, h => absurd h (by simp)
  | x :: xs, ks, e, d, h => by
    rw [keyDs] at e
    split at e
    · rename_i a ea
      split at e
      · rename_i as eas
        cases e
        rcases List.mem_cons.mp h with q | h
        · subst q
          exact ⟨a, List.mem_cons_self, ea⟩
        · obtain ⟨k, hk, e⟩ := keyDs_all eas d h
          exact ⟨k, List.mem_cons_of_mem _ hk, e⟩
      · cases e
    · cases e
theorem keyOf_of {d : D} {k : List It} (h : keyD d = some k) : keyOf d = k := by
  cases d with
  | tup xs =>
    show (keyD (.tup xs)).getD [] = k
    rw [h]
    rfl
  | _ => cases h

/-- an item of a tuple -/
inductive ItV : List Value → List It → Prop
  | nil : ItV [] []
  | int (i : Int) (t : Tok) {vs : List Value} {ks : List It} : ItV vs ks → ItV (.int i t :: vs) (.inl i :: ks)
  | str (x : Str) (t : Tok) {vs : List Value} {ks : List It} : ItV vs ks → ItV (.str x t :: vs) (.inr x.cps.toList :: ks)
/-- a tuple with such items -/
def FT (h : Heap) (u : Value) (k : List It) : Prop := ∃ a o its n, u = .ref a ∧ h.get? a = some o ∧ o.cls = .type "tuple" ∧ o.data = .seq (List.toArray its) n ∧ ItV its k ∧ k ≠ []
theorem FT.keeps {h h' : Heap} {v : Value} {k : List It} (p : FT h v k) (q : ∀ b o, h.get? b = some o → o.cls = .type "tuple" → h'.get? b = some o) : FT h' v k := by
  obtain ⟨a, o, its, n, e, ho, hc, hd, r, ne⟩ := p
  exact ⟨a, o, its, n, e, q _ _ ho hc, hc, hd, r, ne⟩
def itV : Value → It
  | .int i _ => .inl i
  | .str x _ => .inr x.cps.toList
  | _ => .inl 0
/-- the key that a heap gives -/
def keyV (h : Heap) : Value → List It
  | .ref a => (match h.get? a with
    | some o => (match o.data with
      | .seq xs _ => xs.toList.map itV
      | _ => [])
    | none => [])
  | _ => []
theorem itV_map : ∀ {vs : List Value} {ks : List It}, ItV vs ks → vs.map itV = ks
  | _, _, .nil => rfl
  | _, _, .int i t r => by
    rw [List.map_cons, itV_map r]
    rfl
  | _, _, .str x t r => by
    rw [List.map_cons, itV_map r]
    rfl
theorem FT.key {h : Heap} {u : Value} {k : List It} (f : FT h u k) : keyV h u = k := by
  obtain ⟨a, o, its, n, rfl, ho, hc, hd, r, ne⟩ := f
  show (match h.get? a with
    | some o => (match o.data with
      | .seq xs _ => xs.toList.map itV
      | _ => [])
    | none => []) = k
  rw [ho]
  show (match o.data with
      | .seq xs _ => xs.toList.map itV
      | _ => []) = k
  rw [hd]
  exact itV_map r

section
variable {prog : Program} {w : World} {A : Around} {E : Value → Shared → Prop} {s : Shared}
theorem lex_run {b fin : Bool} {Q : Bool → Shared → Prop} : ∀ {ps qs : List Value} {as bs : List It} (i : Nat), ItV ps as → ItV qs bs → alikeK as bs = true → fin = decide (ps.length < qs.length) → Q (ltKs as bs) s →
    PySem.W.KatLex prog w A b fin Q (ps.zip qs) i s
  | _, _, _, _, i, .nil, .nil, _, e, h => by
    subst e
    exact PySem.W.kat_nil h
  | _, _, _, _, i, .nil, .int _ _ r, _, e, h => by
    subst e
    exact PySem.W.kat_nil h
  | _, _, _, _, i, .nil, .str _ _ r, _, e, h => by
    subst e
    exact PySem.W.kat_nil h
  | _, _, _, _, i, .int _ _ r, .nil, _, e, h => by
    subst e
    exact PySem.W.kat_nil h
  | _, _, _, _, i, .str _ _ r, .nil, _, e, h => by
    subst e
    exact PySem.W.kat_nil h
  | _, _, _, _, i, .int x t r, .int y u q, k, e, h => by
    rw [List.zip_cons_cons]
    refine PySem.W.kat_cons (SeqAt.EqAt.int_int x t y u prog w _ _ ?_)
    have k' : (if x = y then alikeK _ _ else true) = true := k
    refine PySem.W.kat_go (fun e1 => ?_) (fun e1 => ?_)
    · have ex : x = y := by simpa using e1
      rw [if_pos ex] at k'
      have h' : Q (if x = y then ltKs _ _ else decide (x < y)) s := h
      rw [if_pos ex] at h'
      refine PySem.W.kat_yes (lex_run (i + 1) r q k' ?_ h')
      rw [e, List.length_cons, List.length_cons]
      exact decide_eq_decide.mpr (by omega)
    · have ex : ¬ x = y := by simpa using e1
      have h' : Q (if x = y then ltKs _ _ else decide (x < y)) s := h
      rw [if_neg ex] at h'
      exact PySem.W.kat_no (oneLt_any_int h')
  | _, _, _, _, i, .str x t r, .str y u q, k, e, h => by
    rw [List.zip_cons_cons]
    refine PySem.W.kat_cons (SeqAt.EqAt.str_str x t y u prog w _ _ ?_)
    have k' : (if x.cps.toList = y.cps.toList then alikeK _ _ else true) = true := k
    have h' : Q (if x.cps.toList = y.cps.toList then ltKs _ _ else decide (x.cps.toList < y.cps.toList)) s := h
    refine PySem.W.kat_go (fun e1 => ?_) (fun e1 => ?_)
    · have ex : x = y := by simpa using e1
      rw [if_pos (cps_eq.mp ex)] at k' h'
      refine PySem.W.kat_yes (lex_run (i + 1) r q k' ?_ h')
      rw [e, List.length_cons, List.length_cons]
      exact decide_eq_decide.mpr (by omega)
    · have ex : ¬ x = y := by simpa using e1
      rw [if_neg fun q => ex (cps_eq.mpr q)] at h'
      exact PySem.W.kat_no (oneLt_any_str h')
  | _, _, _, _, i, .int x t r, .str y u q, k, e, h => by cases k
  | _, _, _, _, i, .str x t r, .int y u q, k, e, h => by cases k

theorem ft_cmp {h : Heap} {vs : List Value} {b : Bool} (hp : ∀ v ∈ vs, ∃ k, FT s.heap v k ∧ keyV h v = k) (hk : ∀ v ∈ vs, ∀ u ∈ vs, alikeK (keyV h v) (keyV h u) = true) :
    SrtO.Cmp prog w A s (tuples' b) (fun p => p.1 ∈ vs) (SrtO.lt2 fun v u => ltKs (keyV h v) (keyV h u)) := by
  intro p q hm hm'
  have kk := hk _ hm _ hm'
  obtain ⟨k1, f1, e1⟩ := hp _ hm
  obtain ⟨k2, f2, e2⟩ := hp _ hm'
  show wpAny (model prog w) A (keyLt' (tuples' b) p.1 q.1) (fun r s' => s' = s ∧ r = ltKs (keyV h p.1) (keyV h q.1)) (fun _ _ => False) s
  rw [e1, e2] at kk ⊢
  obtain ⟨a, o, its, n, e, ho, hc, hd, r, _⟩ := f1
  obtain ⟨a', o', its', n', e', ho', hc', hd', r', _⟩ := f2
  rw [e, e']
  refine PySem.W.kat_lt ho hd ho' hd' ?_
  refine lex_run 0 r r' kk ?_ ⟨rfl, rfl⟩
  simp

theorem fts_firsts {h : Heap} {b : Bool} : ∀ {vs : List Value}, (∀ v ∈ vs, ∃ k x, FT h v (x :: k) ∧ x.isLeft = b) → ∃ fs : List Value, PySem.W.KatTups h vs fs ∧ fs.length = vs.length ∧ ∀ f ∈ fs, if b then ∃ x t, f = Value.int x t else ∃ x t, f = Value.str x t
  | [], _ => ⟨[], PySem.W.KatTups.nil, rfl, fun _ hm => by simp at hm⟩
  | v :: vs, hp => by
    obtain ⟨fs, h1, h2, h3⟩ := fts_firsts (vs := vs) fun v' hm => hp v' (List.mem_cons_of_mem _ hm)
    obtain ⟨k, x, ⟨a, o, its, n, e, ho, hc, hd, r, _⟩, eb⟩ := hp v (List.mem_cons_self ..)
    subst e
    cases r with
    | int i t r =>
      cases eb
      refine ⟨.int i t :: fs, PySem.W.KatTups.cons ho hc hd rfl h1, by rw [List.length_cons, List.length_cons, h2], fun f hm => ?_⟩
      rcases List.mem_cons.mp hm with rfl | hm
      · exact ⟨i, t, rfl⟩
      · exact h3 f hm
    | str i t r =>
      cases eb
      refine ⟨.str i t :: fs, PySem.W.KatTups.cons ho hc hd rfl h1, by rw [List.length_cons, List.length_cons, h2], fun f hm => ?_⟩
      rcases List.mem_cons.mp hm with rfl | hm
      · exact ⟨i, t, rfl⟩
      · exact h3 f hm
theorem head_alike {x y : It} {r t : List It} (h : alikeK (x :: r) (y :: t) = true) : x.isLeft = y.isLeft := by
  cases x <;> cases y <;> first | rfl | cases h

theorem ft_sortable {a : Addr} {vs : List Value} (h0 : 0 < vs.length) (hp : ∀ v ∈ vs, ∃ k, FT s.heap v k) (h : Heap) (hh : ∀ v ∈ vs, ∀ k, FT s.heap v k → keyV h v = k)
    (hk : ∀ v ∈ vs, ∀ u ∈ vs, alikeK (keyV h v) (keyV h u) = true) (ha : ∀ o, s.heap.get? a = some o → o.cls ≠ .type "tuple") : SrtO.SortableO prog w A s a vs fun v u => ltKs (keyV h v) (keyV h u) := by
  intro h' keep
  have kp : ∀ v ∈ vs, ∀ k, FT s.heap v k → FT h' v k := fun v hm k f => f.keeps fun b o e c => keep b o (fun z => by subst z; exact ha o e c) e
  obtain ⟨v0, vr, rfl⟩ : ∃ v0 vr, vs = v0 :: vr := by
    match vs, h0 with
    | v0 :: vr, _ => exact ⟨v0, vr, rfl⟩
  obtain ⟨k0, f0⟩ := hp v0 List.mem_cons_self
  have hx : ∃ x r, k0 = x :: r := by
    obtain ⟨_, _, _, _, _, _, _, _, _, ne⟩ := f0
    cases k0 with
    | nil => exact absurd rfl ne
    | cons x r => exact ⟨x, r, rfl⟩
  obtain ⟨x0, r0, rfl⟩ := hx
  have e0 := hh v0 List.mem_cons_self _ f0
  have all : ∀ v ∈ v0 :: vr, ∃ k x, FT h' v (x :: k) ∧ x.isLeft = x0.isLeft := fun v hm => by
    obtain ⟨k, f⟩ := hp v hm
    have ev := hh v hm _ f
    have al := hk v0 List.mem_cons_self v hm
    rw [e0, ev] at al
    have f' := f
    obtain ⟨_, _, _, _, _, _, _, _, _, ne⟩ := f
    cases k with
    | nil => exact absurd rfl ne
    | cons x r => exact ⟨r, x, kp v hm _ f', (head_alike al).symm⟩
  obtain ⟨fs, h1, h2, h3⟩ := fts_firsts all
  refine ⟨tuples' true, fun Q E hq => ?_, ft_cmp (h := h) (fun v hm => ?_) hk⟩
  · cases x0 with
    | inl i =>
      refine PySem.W.kat_kind (T := .type "int") h1 (by omega) (fun f hm => ?_) (by rfl) ?_
      · obtain ⟨x, t, rfl⟩ := h3 f hm
        exact PySem.W.Looks.now
      · have e : (Value.type "int" != Value.type "tuple") = true := by first | decide +kernel | rfl | decide
        rw [e]
        exact hq
    | inr i =>
      refine PySem.W.kat_kind (T := .type "str") h1 (by omega) (fun f hm => ?_) (by rfl) ?_
      · obtain ⟨x, t, rfl⟩ := h3 f hm
        exact PySem.W.Looks.now
      · have e : (Value.type "str" != Value.type "tuple") = true := by first | decide +kernel | rfl | decide
        rw [e]
        exact hq
  · obtain ⟨k, f⟩ := hp v hm
    exact ⟨k, kp v hm k f, hh v hm k f⟩

/-- sorted(l) of tuples of ints and texts -/
theorem sorted_ft {l : Addr} {vs : List Value} {Q : Value → Shared → Prop} (hl : s.heap.IsList l vs.toArray) (hz : vs.length ≤ sizeLine) (hp : ∀ v ∈ vs, ∃ k, FT s.heap v k)
    (hk : ∀ v ∈ vs, ∀ u ∈ vs, alikeK (keyV s.heap v) (keyV s.heap u) = true)
    (h : ∀ (h' : Heap) (d : Addr) (out : List Value), SrtO.Srtd (fun v u => ltKs (keyV s.heap v) (keyV s.heap u)) out → out.Perm vs → (∀ b o, s.heap.get? b = some o → h'.get? b = some o) → s.heap.objs.size ≤ d → (∃ n, h'.get? d = some (seqObj "list" out.toArray n)) → Q (.ref d) { s with heap := h' }) :
    wpAny (model prog w) A (call (.builtin "sorted") [.ref l]) Q E s := by
  refine SrtO.sorted_ord (swoK (keyV s.heap)) hl hz (fun h2 h₁ a ha kk => ?_) fun out hs hb => ?_
  · have kp : ∀ v k, FT s.heap v k → FT h₁ v k := fun v k f => f.keeps fun b o e _ => (kk b o e).2
    refine ft_sortable (s := { s with heap := h₁ }) (by omega) (fun v hm => ?_) s.heap (fun v hm k f => ?_) hk fun o e => ?_
    · obtain ⟨k, f⟩ := hp v hm
      exact ⟨k, kp v k f⟩
    · obtain ⟨k', f'⟩ := hp v hm
      have g := kp v k' f'
      rw [f'.key, ← g.key]
      exact f.key
    · have e' : some o = some (seqObj "list" vs.toArray 0) := e.symm.trans ha
      cases e'
      intro c
      exact absurd (Value.type.inj c) (by decide)
  · exact h _ _ out hs hb.perm (fun b o e => sortedAll_old e) (Nat.le_succ _) (sortedAll_at s.heap vs out.toArray)
end

/-! ### as a rule over trees -/
section
variable {E : En} {As : List Addr} {H : Hp} {bad : Addr → Prop}
theorem its_of : ∀ {vs : List V} {ds : List D} {us : List Value} {ks : List It}, Reps E As H bad vs ds → Vals vs us → itKs ds = some ks → ItV us ks
  | _, _, _, ks, .nil, .nil, e => by
    cases e
    exact .nil
  | _, _, _, ks, .cons (d := d) a t, .cons r q, e => by
    rw [itKs] at e
    split at e
    · rename_i x ex
      split at e
      · rename_i xs exs
        cases e
        have ih := its_of t q exs
        cases d with
        | int i =>
          cases ex
          cases a
          obtain ⟨t, rfl⟩ := r
          exact .int i t ih
        | str y =>
          cases ex
          cases a
          obtain ⟨t, rfl⟩ := r
          exact .str y t ih
        | _ => cases ex
      · cases e
    · cases e
theorem reps_perm {vs ws : List V} (p : vs.Perm ws) : ∀ {ds : List D}, Reps E As H bad vs ds → ∃ es, Reps E As H bad ws es ∧ es.Perm ds := by
  induction p with
  | nil => exact fun r => ⟨_, r, List.Perm.refl _⟩
  | cons x _ ih =>
    intro ds r
    cases r with
    | cons a t =>
      obtain ⟨es, r, q⟩ := ih t
      exact ⟨_, .cons a r, q.cons _⟩
  | swap x y l =>
    intro ds r
    cases r with
    | cons a t =>
      cases t with
      | cons b t => exact ⟨_, .cons b (.cons a t), List.Perm.swap ..⟩
  | trans _ _ ih1 ih2 =>
    intro ds r
    obtain ⟨es, r, q⟩ := ih1 r
    obtain ⟨fs, r, q'⟩ := ih2 r
    exact ⟨fs, r, q'.trans q⟩
variable {X : Cx} {pins : List (Addr × Obj)} {σ : L2.St} {s : Shared}
theorem ft_of (hK : X.K = E.K) (I : Inv X pins σ H s) {v : V} {d : D} {k : List It} (r : Rep E As H bad v d) (e : keyD d = some k) : ∃ a, v = .ref a ∧ FT s.heap (.ref a) k := by
  cases d with
  | tup xs => cases xs with
    | nil => cases e
    | cons x xs =>
      have ne : k ≠ [] := by
        intro q
        subst q
        have e' : itKs (x :: xs) = some [] := e
        rw [itKs] at e'
        split at e'
        · split at e' <;> cases e'
        · cases e'
      have r' : RepP E As H bad v (.tup (x :: xs)) := .inl r
      obtain ⟨a, ws, rfl, l, q⟩ := r'.tup
      rw [← hK] at l
      obtain ⟨its, rv, p, _⟩ := I.tuple l
      obtain ⟨o, ho, hc, n, hd⟩ := p
      exact ⟨a, rfl, a, o, its, n, rfl, ho, hc, hd, its_of q rv e, ne⟩
  | _ => cases e
theorem fts_of (hK : X.K = E.K) (I : Inv X pins σ H s) : ∀ {vs : List V} {ds : List D} {ks : List (List It)}, Reps E As H bad vs ds → (∀ d ∈ ds, ∃ k ∈ ks, keyD d = some k) →
    (∀ v ∈ vs, ∃ a, v = V.ref a) ∧ ∀ v ∈ vs, ∀ a, v = V.ref a → ∃ k ∈ ks, FT s.heap (.ref a) k
  | _, _, ks, .nil, _ => ⟨fun v h => absurd h (by simp), fun v h => absurd h (by simp)⟩
  | _, _, ks, .cons a t, h => by
    obtain ⟨h1, h2⟩ := fts_of hK I t fun d hd => h d (List.mem_cons_of_mem _ hd)
    obtain ⟨k, hk, e⟩ := h _ List.mem_cons_self
    obtain ⟨b, rfl, f⟩ := ft_of hK I a e
    refine ⟨fun v hv => ?_, fun v hv b' e' => ?_⟩
    · rcases List.mem_cons.mp hv with q | hv
      · exact ⟨b, q⟩
      · exact h1 v hv
    · rcases List.mem_cons.mp hv with q | hv
      · subst q
        cases e'
        exact ⟨k, hk, f⟩
      · exact h2 v hv b' e'
/-- the keys that the heap gives are those of the trees -/
theorem srt_of (hK : X.K = E.K) (I : Inv X pins σ H s) : ∀ {us : List Value} {ds : List D}, Reps E As H bad (us.map backV) ds → (∀ d ∈ ds, ∃ k, keyD d = some k) → (∀ u ∈ us, ∃ a, u = Value.ref a) →
    Paired (fun u d => keyV s.heap u = keyOf d) us ds
  | [], _, r, _, _ => by
    cases r
    exact .nil
  | u :: us, _, r, h, hu => by
    cases r with
    | cons a t =>
      obtain ⟨k, e⟩ := h _ List.mem_cons_self
      obtain ⟨b, rfl⟩ := hu u List.mem_cons_self
      obtain ⟨b', q, f⟩ := ft_of hK I a e
      cases q
      exact .cons (by rw [f.key, keyOf_of e]) (srt_of hK I t (fun d hd => h d (List.mem_cons_of_mem _ hd)) fun u hm => hu u (List.mem_cons_of_mem _ hm))
theorem paired_mem {α β : Type} {R : α → β → Prop} : ∀ {us : List α} {ds : List β}, Paired R us ds → ∀ d ∈ ds, ∃ u ∈ us, R u d
  | _, _, .nil, d, h => absurd h (by simp)
  | _, _, .cons r t, d, h => by
    rcases List.mem_cons.mp h with q | h
    · subst q
      exact ⟨_, List.mem_cons_self, r⟩
    · obtain ⟨u, hu, q⟩ := paired_mem t d h
      exact ⟨u, List.mem_cons_of_mem _ hu, q⟩
theorem srtd_pair {h : Heap} : ∀ {us : List Value} {ds : List D}, Paired (fun u d => keyV h u = keyOf d) us ds → SrtO.Srtd (fun v u => ltKs (keyV h v) (keyV h u)) us → SrtO.Srtd ltD ds
  | _, _, .nil, _ => List.Pairwise.nil
  | _, _, .cons r t, q => by
    obtain ⟨q1, q2⟩ := List.pairwise_cons.mp q
    refine List.pairwise_cons.mpr ⟨fun d hd => ?_, srtd_pair t q2⟩
    obtain ⟨u, hu, e⟩ := paired_mem t d hd
    have z : ltKs (keyV h u) (keyV h _) = false := q1 u hu
    rw [e, r] at z
    exact z
theorem sorted_tups (hK : X.K = E.K) (I : Inv X pins σ H s) {l : Addr} {ws : List V} {ds : List D} {ks : List (List It)} {Q : VK} (hl : SqL X.K H l ws) (g : Reps E As H bad ws ds) (e : keyDs ds = some ks) (al : (ks.all fun x => ks.all fun y => alikeK x y) = true)
    (q : ∀ (vs : List V), Reps E As H bad vs (isortD ds) → ∀ p, H p = none → Q (.ref p) (upd H p (.lst vs))) :
    wpAny (model X.prog X.w) X.A (call (.builtin "sorted") [.ref l]) (EP X pins σ Q) X.xe s := by
  obtain ⟨its, rv, hl', hz⟩ := I.list hl
  have hks := keyDs_all e
  obtain ⟨hr, hf⟩ := fts_of hK I g hks
  obtain ⟨e1, e2⟩ := refs_back rv hr
  have ft : ∀ v ∈ its, ∃ k ∈ ks, FT s.heap v k := fun v hv => by
    obtain ⟨t, rfl⟩ := e2 v hv
    exact hf (.ref t) (by rw [e1]; exact List.mem_map.mpr ⟨_, hv, rfl⟩) t rfl
  refine sorted_ft hl'.isList (by rw [← rv.length]; exact hz) (fun v hv => ?_) (fun v hv u hu => ?_) fun h' d out h1 h2 kp hd hn => ?_
  · obtain ⟨k, _, f⟩ := ft v hv
    exact ⟨k, f⟩
  · obtain ⟨k, m, f⟩ := ft v hv
    obtain ⟨k', m', f'⟩ := ft u hu
    rw [f.key, f'.key]
    exact List.all_eq_true.mp (List.all_eq_true.mp al k m) k' m'
  · have h3 : ∀ u ∈ out, ∃ a, u = Value.ref a := fun u hu => e2 u (h2.mem_iff.mp hu)
    obtain ⟨n, hn⟩ := hn
    have pw : ws.Perm (out.map backV) := by
      rw [e1]
      exact (h2.map backV).symm
    obtain ⟨es, re, pe⟩ := reps_perm pw g
    have kes : ∀ d ∈ es, ∃ k, keyD d = some k := fun d hd => by
      obtain ⟨k, _, e⟩ := hks d (pe.mem_iff.mp hd)
      exact ⟨k, e⟩
    have se := srtd_pair (srt_of hK I re kes h3) h1
    have ee : es = isortD ds := by
      refine srt_uniq (fun x hx y hy q => ?_) (pe.trans (isort_perm ds).symm) se (isort_srt ds)
      obtain ⟨k, ek⟩ := kes x hx
      obtain ⟨k', ek'⟩ := kes y hy
      rw [keyOf_of ek, keyOf_of ek'] at q
      subst q
      exact keyD_inj ek ek'
    rw [ee] at re
    refine ⟨.ref d, upd H d (.lst (out.map backV)), I.laid (t' := s.toks) kp hd ⟨?_, out, n, vals_back h3, hn⟩, rfl, q _ re d (I.hok.fresh hd)⟩
    rw [← pw.length_eq]
    exact hz
end
/-! ### lists of texts -/
inductive StrV : List Value → List Str → Prop
  | nil : StrV [] []
  | cons (x : Str) (t : Tok) {vs : List Value} {ks : List Str} : StrV vs ks → StrV (.str x t :: vs) (x :: ks)
def LT (h : Heap) (u : Value) (k : List Str) : Prop := ∃ a o its n, u = .ref a ∧ h.get? a = some o ∧ o.cls = .type "list" ∧ o.data = .seq (List.toArray its) n ∧ StrV its k
theorem strV_reads {h : Heap} : ∀ {vs : List Value} {ks : List Str}, StrV vs ks → ReadsAll h vs (ks.map PyData.str) []
  | _, _, .nil => .nil
  | _, _, .cons x t r => .cons (as := []) (.str x t) (strV_reads r)
theorem LT.reads {h : Heap} {u : Value} {k : List Str} (f : LT h u k) : ∃ as, Reads h u (.list (k.map PyData.str)) as := by
  obtain ⟨a, o, its, n, rfl, ho, hc, hd, r⟩ := f
  exact ⟨_, .list ho hc hd (by simpa using strV_reads r)⟩
theorem alikeS : ∀ a b : List Str, PySem.W.alikeAll (a.map PyData.str) (b.map PyData.str) = true
  | [], _ => by rw [List.map_nil, PySem.W.alikeAll]
  | _ :: _, [] => by rw [List.map_nil, List.map_cons, PySem.W.alikeAll]
  | x :: a, y :: b => by
    rw [List.map_cons, List.map_cons, PySem.W.alikeAll, alikeS a b]
    rfl
theorem toksS : ∀ k : List Str, PySem.W.keyToksAll (k.map PyData.str) = wrapK k
  | [] => by
    rw [List.map_nil, PySem.W.keyToksAll]
    rfl
  | x :: k => by
    rw [List.map_cons, PySem.W.keyToksAll, toksS k, PySem.W.keyToks]
    rfl
theorem depthS : ∀ k : List Str, PyData.depthAll (k.map PyData.str) = 0
  | [] => by rw [List.map_nil, PyData.depthAll]
  | x :: k => by
    rw [List.map_cons, PyData.depthAll, depthS k, PyData.depth]
    rfl
def strV : Value → Str
  | .str x _ => x
  | _ => Str.ofString ""
def keyL (h : Heap) : Value → List It
  | .ref a => (match h.get? a with
    | some o => (match o.data with
      | .seq xs _ => wrapK (xs.toList.map strV)
      | _ => [])
    | none => [])
  | _ => []
theorem strV_map : ∀ {vs : List Value} {ks : List Str}, StrV vs ks → vs.map strV = ks
  | _, _, .nil => rfl
  | _, _, .cons x t r => by
    rw [List.map_cons, strV_map r]
    rfl
theorem LT.key {h : Heap} {u : Value} {k : List Str} (f : LT h u k) : keyL h u = wrapK k := by
  obtain ⟨a, o, its, n, rfl, ho, hc, hd, r⟩ := f
  show (match h.get? a with
    | some o => (match o.data with
      | .seq xs _ => wrapK (xs.toList.map strV)
      | _ => [])
    | none => []) = _
  rw [ho]
  show (match o.data with
      | .seq xs _ => wrapK (xs.toList.map strV)
      | _ => []) = _
  rw [hd]
  show wrapK (its.map strV) = _
  rw [strV_map r]
theorem wrap_inj : ∀ {a b : List Str}, wrapK a = wrapK b → a = b
  | [], [], _ => rfl
  | [], _ :: _, h => by
    have := (List.cons.inj h).1
    cases this
  | _ :: _, [], h => by
    have := (List.cons.inj h).1
    cases this
  | x :: a, y :: b, h => by
    obtain ⟨h1, h2⟩ := List.cons.inj (List.cons.inj h).2
    rw [wrap_inj h2, cps_eq.mpr (Sum.inr.inj h1)]
section
variable {prog : Program} {w : World} {A : Around} {E : Value → Shared → Prop} {s : Shared}
theorem lt_sortable {a : Addr} {vs : List Value} (h2 : 2 ≤ vs.length) (hp : ∀ v ∈ vs, ∃ k, LT s.heap v k) (kv : Value → List It) (hk : ∀ v ∈ vs, ∀ k, LT s.heap v k → kv v = wrapK k)
    (ha : ∀ v ∈ vs, v ≠ .ref a) (hu : A.units + 1 < cLine) : SrtO.SortableO prog w A s a vs fun v u => ltKs (kv v) (kv u) := by
  intro h' keep
  have kp : ∀ v ∈ vs, ∀ k, LT s.heap v k → LT h' v k := by
    rintro v hv k ⟨b, o, its, n, rfl, ho, r⟩
    exact ⟨b, o, its, n, rfl, keep b o (fun e => ha _ hv (by rw [e])) ho, r⟩
  refine ⟨oneType', fun Q E hq => ?_, fun p q hm hm' => ?_⟩
  · refine PySem.W.kas_kind (T := .type "list") h2 (fun v hv => ?_) (by first | decide +kernel | rfl | decide) (by first | decide +kernel | rfl | decide) hq
    obtain ⟨k, f⟩ := hp v hv
    obtain ⟨as, r⟩ := (kp v hv k f).reads
    exact PySem.W.looks_reads r
  · obtain ⟨k1, f1⟩ := hp _ hm
    obtain ⟨k2, f2⟩ := hp _ hm'
    obtain ⟨as, r1⟩ := (kp _ hm _ f1).reads
    obtain ⟨bs, r2⟩ := (kp _ hm' _ f2).reads
    have e1 := hk _ hm _ f1
    have e2 := hk _ hm' _ f2
    rw [keyLt'_oneType]
    refine PySem.W.oneLt_alike (by intro _ xs e; cases e) r1 r2 (by rw [PySem.W.alike]; exact alikeS k1 k2) (by intro e; cases e) ?_ ⟨rfl, ?_⟩
    · rw [PyData.depth, PyData.depth, depthS, depthS]
      exact hu
    · show _ = ltKs (kv p.1) (kv q.1)
      rw [e1, e2, PySem.W.dataLt_list, toksS, toksS, ltKs_eq]
end
section
variable {E : En} {As : List Addr} {H : Hp} {bad : Addr → Prop} {X : Cx} {pins : List (Addr × Obj)} {σ : L2.St} {s : Shared}
theorem strs_of : ∀ {vs : List V} {ds : List D} {us : List Value} {ks : List Str}, Reps E As H bad vs ds → Vals vs us → strsD ds = some ks → StrV us ks
  | _, _, _, ks, .nil, .nil, e => by
    cases e
    exact .nil
  | _, _, _, ks, .cons (d := d) a t, .cons r q, e => by
    cases d with
    | str y =>
      rw [strsD] at e
      cases z : strsD _ with
      | none =>
        rw [z] at e
        cases e
      | some xs =>
        rw [z] at e
        cases e
        cases a
        obtain ⟨t', rfl⟩ := r
        exact .cons y t' (strs_of t q z)
    | _ => cases e
theorem lss_all : ∀ {xs : List D}, lssOk xs = true → ∀ d ∈ xs, ∃ ys ks, d = .lst ys ∧ strsD ys = some ks
  | [], _, d, h => absurd h (by simp)
  | x :: xs, e, d, h => by
    cases x with
    | lst ys =>
      obtain ⟨e1, e2⟩ := Bool.and_eq_true_iff.mp (show ((strsD ys).isSome && lssOk xs) = true from e)
      rcases List.mem_cons.mp h with q | h
      · subst q
        obtain ⟨ks, z⟩ := Option.isSome_iff_exists.mp e1
        exact ⟨ys, ks, rfl, z⟩
      · exact lss_all e2 d h
    | _ => cases e
theorem srtd_pairG {kf : Value → List It} : ∀ {us : List Value} {ds : List D}, Paired (fun u d => kf u = keyOf d) us ds → SrtO.Srtd (fun v u => ltKs (kf v) (kf u)) us → SrtO.Srtd ltD ds
  | _, _, .nil, _ => List.Pairwise.nil
  | _, _, .cons r t, q => by
    obtain ⟨q1, q2⟩ := List.pairwise_cons.mp q
    refine List.pairwise_cons.mpr ⟨fun d hd => ?_, srtd_pairG t q2⟩
    obtain ⟨u, hu, e⟩ := paired_mem t d hd
    have z : ltKs (kf u) (kf _) = false := q1 u hu
    rw [e, r] at z
    exact z
theorem lt_of (hK : X.K = E.K) (I : Inv X pins σ H s) {v : V} {ys : List D} {k : List Str} (r : Rep E As H bad v (.lst ys)) (e : strsD ys = some k) : ∃ a, v = .ref a ∧ LT s.heap (.ref a) k := by
  have r' : RepP E As H bad v (.lst ys) := .inl r
  obtain ⟨a, ws, rfl, l, q⟩ := r'.lst
  have l' := l.sq
  rw [← hK] at l'
  obtain ⟨its, rv, p, _⟩ := I.list l'
  obtain ⟨o, ho, hc, n, hd⟩ := p.isList
  exact ⟨a, rfl, a, o, its, n, rfl, ho, hc, hd, strs_of q rv e⟩
theorem lts_of (hK : X.K = E.K) (I : Inv X pins σ H s) : ∀ {vs : List V} {ds : List D}, Reps E As H bad vs ds → (∀ d ∈ ds, ∃ ys ks, d = .lst ys ∧ strsD ys = some ks) →
    (∀ v ∈ vs, ∃ a, v = V.ref a) ∧ ∀ v ∈ vs, ∀ a, v = V.ref a → ∃ k, LT s.heap (.ref a) k
  | _, _, .nil, _ => ⟨fun v h => absurd h (by simp), fun v h => absurd h (by simp)⟩
  | _, _, .cons a t, h => by
    obtain ⟨h1, h2⟩ := lts_of hK I t fun d hd => h d (List.mem_cons_of_mem _ hd)
    obtain ⟨ys, k, rfl, e⟩ := h _ List.mem_cons_self
    obtain ⟨b, rfl, f⟩ := lt_of hK I a e
    refine ⟨fun v hv => ?_, fun v hv b' e' => ?_⟩
    · rcases List.mem_cons.mp hv with q | hv
      · exact ⟨b, q⟩
      · exact h1 v hv
    · rcases List.mem_cons.mp hv with q | hv
      · subst q
        cases e'
        exact ⟨k, f⟩
      · exact h2 v hv b' e'
theorem srtL_of (hK : X.K = E.K) (I : Inv X pins σ H s) : ∀ {us : List Value} {ds : List D}, Reps E As H bad (us.map backV) ds → (∀ d ∈ ds, ∃ ys ks, d = .lst ys ∧ strsD ys = some ks) → (∀ u ∈ us, ∃ a, u = Value.ref a) →
    Paired (fun u d => keyL s.heap u = keyOf d) us ds
  | [], _, r, _, _ => by
    cases r
    exact .nil
  | u :: us, _, r, h, hu => by
    cases r with
    | cons a t =>
      obtain ⟨ys, k, rfl, e⟩ := h _ List.mem_cons_self
      obtain ⟨b, rfl⟩ := hu u List.mem_cons_self
      obtain ⟨b', q, f⟩ := lt_of hK I a e
      cases q
      refine .cons ?_ (srtL_of hK I t (fun d hd => h d (List.mem_cons_of_mem _ hd)) fun u hm => hu u (List.mem_cons_of_mem _ hm))
      rw [f.key]
      show wrapK k = wrapK ((strsD ys).getD [])
      rw [e]
      rfl
theorem strs_inj : ∀ {xs ys : List D} {k : List Str}, strsD xs = some k → strsD ys = some k → xs = ys
  | [], [], _, _, _ => rfl
  | [], y :: ys, k, h1, h2 => by
    cases h1
    cases y with
    | str x =>
      rw [strsD] at h2
      cases z : strsD ys <;> (rw [z] at h2; cases h2)
    | _ => cases h2
  | x :: xs, [], k, h1, h2 => by
    cases h2
    cases x with
    | str x =>
      rw [strsD] at h1
      cases z : strsD xs <;> (rw [z] at h1; cases h1)
    | _ => cases h1
  | x :: xs, y :: ys, k, h1, h2 => by
    cases x with
    | str x =>
      cases y with
      | str y =>
        rw [strsD] at h1 h2
        cases z : strsD xs with
        | none =>
          rw [z] at h1
          cases h1
        | some a =>
          cases z' : strsD ys with
          | none =>
            rw [z'] at h2
            cases h2
          | some b =>
            rw [z] at h1
            rw [z'] at h2
            cases h1
            cases h2
            rw [strs_inj z z']
      | _ => cases h2
    | _ => cases h1
theorem sorted_lss (hK : X.K = E.K) (hu : X.A.units + 100 < cLine) (I : Inv X pins σ H s) {l : Addr} {ws : List V} {ds : List D} {Q : VK} (hl : SqL X.K H l ws) (g : Reps E As H bad ws ds) (e : lssOk ds = true)
    (q : ∀ (vs : List V), Reps E As H bad vs (isortD ds) → ∀ p, H p = none → Q (.ref p) (upd H p (.lst vs))) :
    wpAny (model X.prog X.w) X.A (call (.builtin "sorted") [.ref l]) (EP X pins σ Q) X.xe s := by
  obtain ⟨its, rv, hl', hz⟩ := I.list hl
  have hks := lss_all e
  obtain ⟨hr, hf⟩ := lts_of hK I g hks
  obtain ⟨e1, e2⟩ := refs_back rv hr
  have ft : ∀ v ∈ its, ∃ k, LT s.heap v k := fun v hv => by
    obtain ⟨t, rfl⟩ := e2 v hv
    exact hf (.ref t) (by rw [e1]; exact List.mem_map.mpr ⟨_, hv, rfl⟩) t rfl
  refine SrtO.sorted_ord (swoK (keyL s.heap)) hl'.isList (by rw [← rv.length]; exact hz) (fun h2 h₁ a ha kk => ?_) fun out h1 hb => ?_
  · have kp : ∀ v k, LT s.heap v k → LT h₁ v k := fun v k ⟨b, o, i, n, z, ho, r⟩ => ⟨b, o, i, n, z, (kk b o ho).2, r⟩
    refine lt_sortable (s := { s with heap := h₁ }) h2 (fun v hm => ?_) (keyL s.heap) (fun v hm k f => ?_) (fun v hm => ?_) ?_
    · obtain ⟨k, f⟩ := ft v hm
      exact ⟨k, kp v k f⟩
    · obtain ⟨k', f'⟩ := ft v hm
      have g := kp v k' f'
      rw [f'.key, ← g.key]
      exact f.key
    · obtain ⟨k, b, o, i, n, rfl, ho, _⟩ := ft v hm
      intro z
      cases z
      exact (kk _ o ho).1 rfl
    · show X.A.units + 1 + 1 + 1 < _
      omega
  · have h2 := hb.perm
    have h3 : ∀ u ∈ out, ∃ a, u = Value.ref a := fun u hu => e2 u (h2.mem_iff.mp hu)
    obtain ⟨n, hn⟩ := sortedAll_at s.heap its out.toArray
    have pw : ws.Perm (out.map backV) := by
      rw [e1]
      exact (h2.map backV).symm
    obtain ⟨es, re, pe⟩ := reps_perm pw g
    have kes : ∀ d ∈ es, ∃ ys ks, d = .lst ys ∧ strsD ys = some ks := fun d hd => hks d (pe.mem_iff.mp hd)
    have se := srtd_pairG (srtL_of hK I re kes h3) h1
    have ee : es = isortD ds := by
      refine srt_uniq (fun x hx y hy q => ?_) (pe.trans (isort_perm ds).symm) se (isort_srt ds)
      obtain ⟨xs, k, rfl, ek⟩ := kes x hx
      obtain ⟨ys, k', rfl, ek'⟩ := kes y hy
      have q' : wrapK ((strsD xs).getD []) = wrapK ((strsD ys).getD []) := q
      rw [ek, ek'] at q'
      have z := wrap_inj q'
      rw [strs_inj ek (ek'.trans (congrArg some (Eq.symm z)))]
    rw [ee] at re
    refine ⟨.ref _, upd H _ (.lst (out.map backV)), I.laid (t' := s.toks) (fun b o e => sortedAll_old e) (Nat.le_succ _) ⟨?_, out, n, vals_back h3, hn⟩, rfl, q _ re _ (I.hok.fresh (Nat.le_succ _))⟩
    rw [← pw.length_eq]
    exact hz
end
theorem reps_ints {E : En} {As : List Addr} {H : Hp} {bad : Addr → Prop} : ∀ ns : List Int, Reps E As H bad (ns.map V.int) (ns.map D.int)
  | [] => .nil
  | n :: ns => .cons (.int n) (reps_ints ns)
end Z.Sr
end

section
set_option Elab.async false
set_option autoImplicit false
set_option linter.all false
set_option maxRecDepth 100000
set_option maxHeartbeats 1000000
/-! Built-ins, methods, subscripts over trees. -/
namespace Z
open PySem PySem.Spec PyProof.Rows L2

/-! ### how long a text of repr is -/
mutual
theorem shown_le : ∀ d : D, plx d = true → (py d).showable = true → ((py d).shown).length ≤ sz d
  | .non, _, _ => by show (Str.ofString "None").length ≤ 4; decide +kernel
  | .bl b, _, _ => by cases b <;> (show (Str.ofString _).length ≤ 5; decide +kernel)
  | .int i, _, h => int_text_len_1921 (of_decide_eq_true (show decide (i.natAbs.log2 < 1920) = true from h))
  | .str x, _, _ => Nat.le_refl _
  | .tup xs, h, g => by
    have q := shownL_le xs h g
    have z := tupleText_len_le (PyData.shownAll (pyL xs))
    show (tupleText (PyData.shownAll (pyL xs))).length ≤ szL xs + 3
    omega
  | .lst xs, h, g => by
    have q := shownL_le xs h g
    have z := listText_len_le (PyData.shownAll (pyL xs))
    show (listText (PyData.shownAll (pyL xs))).length ≤ szL xs + 3
    omega
  | .dct [], _, _ => by decide +kernel
  | .dct (_ :: _), h, _ => by cases h
  | .cell _, h, _ => by cases h
  | .fn _, h, _ => by cases h
  | .exn _ _, h, _ => by cases h
theorem shownL_le : ∀ ds : List D, plxL ds = true → PyData.showableAll (pyL ds) = true → ((PyData.shownAll (pyL ds)).map (·.length)).sum + 2 * (PyData.shownAll (pyL ds)).length ≤ szL ds
  | [], _, _ => Nat.le_refl _
  | d :: ds, h, g => by
    obtain ⟨h1, h2⟩ := Bool.and_eq_true_iff.mp (show (plx d && plxL ds) = true from h)
    obtain ⟨g1, g2⟩ := Bool.and_eq_true_iff.mp (show ((py d).showable && PyData.showableAll (pyL ds)) = true from g)
    have q := shown_le d h1 g1
    have r := shownL_le ds h2 g2
    show (((py d).shown :: PyData.shownAll (pyL ds)).map (·.length)).sum + 2 * ((py d).shown :: PyData.shownAll (pyL ds)).length ≤ sz d + 2 + szL ds
    rw [List.map_cons, List.sum_cons, List.length_cons]
    omega
end
/-- where sys.modules stands is a dict of the written part -/
def SysK (K : PySem.W.Frag) : Prop := ∃ o, K.lookup sysModules = some o ∧ o.cls = .type "dict"
section
variable {X : Cx} {E : En} {As : List Addr} {H : Hp} {bad : Addr → Prop} {pins : List (Addr × Obj)} {σ : L2.St} {s : Shared} (hK : X.K = E.K) (hS : SysK X.K) (I : Inv X pins σ H s)
include hS I
theorem no_sys {a : Addr} {o : Obj} (h : s.heap.get? a = some o) (hc : o.cls = .type "list") : a ≠ sysModules := by
  rintro rfl
  obtain ⟨o', h1, h2⟩ := hS
  have := I.kIn _ _ h1
  rw [h] at this
  cases this
  rw [hc] at h2
  exact absurd (Value.type.inj h2) (by decide)
include hK
mutual
theorem reads_d : ∀ (d : D) (v : V) (u : Value), Rep E As H bad v d → plx d = true → RelV v u → ∃ as, Reads s.heap u (py d) as ∧ sysModules ∉ as
  | .non, _, _, q, _, r => by
    cases q
    cases r
    exact ⟨[], .none, by simp⟩
  | .bl b, _, _, q, _, r => by
    cases q
    cases r
    exact ⟨[], .bool b, by simp⟩
  | .int i, _, _, q, _, r => by
    cases q
    obtain ⟨t, rfl⟩ := r
    exact ⟨[], .int i t, by simp⟩
  | .str x, _, _, q, _, r => by
    cases q
    obtain ⟨t, rfl⟩ := r
    exact ⟨[], .str x t, by simp⟩
  | .lst xs, _, _, q, h, r => by
    obtain ⟨a, vs, rfl, hl, q⟩ := RepP.lst (.inl q)
    cases r
    rw [← hK] at hl
    obtain ⟨its, n, rv, ho, _⟩ := lx_obj I hl
    obtain ⟨as, ra, hn⟩ := reads_ds xs vs its q h rv
    exact ⟨a :: as, .list ho rfl rfl (by simpa using ra), fun m => by
      rcases List.mem_cons.mp m with m | m
      · exact no_sys hS I ho rfl m.symm
      · exact hn m⟩
  | .tup xs, _, _, q, h, r => by
    obtain ⟨a, vs, rfl, hl, q⟩ := RepP.tup (.inl q)
    cases r
    rw [← hK] at hl
    obtain ⟨its, rv, ⟨o, ho, hc, n, hd⟩, _⟩ := I.tuple hl
    obtain ⟨as, ra, hn⟩ := reads_ds xs vs its q h rv
    exact ⟨as, .tuple ho hc hd (by simpa using ra), hn⟩
  | .dct (_ :: _), _, _, _, h, _ => by cases h
  | .dct [], _, _, q, h, r => by
    cases q with
    | dct q1 q2 q3 =>
      cases q3
      cases r
      rename_i a
      obtain ⟨_, hs, vs, kv, o, es, ep, ho, hx, hd, _, he, _⟩ := q1.ok I.hok
      cases kv
      have e0 : es = #[] := by
        obtain ⟨l⟩ := es
        have he' : Pairs _ l [] := he
        cases he'
        rfl
      subst e0
      refine ⟨a :: [] ++ [], .dict (kvs := []) ho hx.1 hd .nil .nil, fun m => ?_⟩
      have m' : sysModules = a := by simpa using m
      rw [m'] at hs
      simp at hs
  | .cell _, _, _, _, h, _ => by cases h
  | .fn _, _, _, _, h, _ => by cases h
  | .exn _ _, _, _, _, h, _ => by cases h
theorem reads_ds : ∀ (ds : List D) (vs : List V) (us : List Value), Reps E As H bad vs ds → plxL ds = true → Vals vs us → ∃ as, ReadsAll s.heap us (pyL ds) as ∧ sysModules ∉ as
  | [], _, _, q, _, r => by
    cases q
    cases r
    exact ⟨[], .nil, by simp⟩
  | d :: ds, _, _, q, h, r => by
    cases q with
    | cons q1 q2 =>
      cases r with
      | cons r1 r2 =>
        obtain ⟨h1, h2⟩ := Bool.and_eq_true_iff.mp (show (plx d && plxL ds) = true from h)
        obtain ⟨as, a1, a2⟩ := reads_d d _ _ q1 h1 r1
        obtain ⟨bs, b1, b2⟩ := reads_ds ds _ _ q2 h2 r2
        exact ⟨as ++ bs, .cons a1 b1, fun m => (List.mem_append.mp m).elim a2 b2⟩
end
theorem RepP.reads {v : V} {d : D} {u : Value} (r : RepP E As H bad v d) (h : plx d = true) (rv : RelV v u) : ∃ as, Reads s.heap u (py d) as ∧ sysModules ∉ as := by
  rcases r with r | ⟨a, vs, ds, rfl, rfl, h3, h4, h5⟩
  · exact reads_d hK hS I _ _ _ r h rv
  · cases rv
    obtain ⟨its, n, rv, ho, _⟩ := lx_obj I (.inl (.inl h3))
    obtain ⟨as, ra, hn⟩ := reads_ds hK hS I _ _ _ h4 h rv
    exact ⟨a :: as, .list ho rfl rfl (by simpa using ra), fun m => by
      rcases List.mem_cons.mp m with m | m
      · exact no_sys hS I ho rfl m.symm
      · exact hn m⟩
end

/-- several operands -/
abbrev RepsP (E : En) (As : List Addr) (H : Hp) (bad : Addr → Prop) : List V → List D → Prop := Paired (RepP E As H bad)
def rB (E : En) (f : List D → Option (D × Bool)) : List V → Hp → VK → Prop := fun vs H Q => ∃ As bad μ ds z w, CRel E As bad H μ ∧ RepsP E As H bad vs ds ∧ f ds = some (z, w) ∧ Fin E As bad H μ z w Q
def biV : Bi → Value
  | .len => .builtin "len"
  | .sum => .builtin "sum"
  | .max => .builtin "max"
  | .min => .builtin "min"
  | .abs => .builtin "abs"
  | .int => .type "int"
  | .tuple => .type "tuple"
  | .list => .type "list"
  | .repr => .builtin "repr"
  | .str => .type "str"
  | .bool => .type "bool"
  | .sorted => .builtin "sorted"
section
variable {E : En} {As : List Addr} {H : Hp} {bad : Addr → Prop}
theorem repsP1 {vs : List V} {d : D} (r : RepsP E As H bad vs [d]) : ∃ v, vs = [v] ∧ RepP E As H bad v d := by
  cases r with
  | cons a t =>
    cases t
    exact ⟨_, rfl, a⟩
theorem repsP2 {vs : List V} {d e : D} (r : RepsP E As H bad vs [d, e]) : ∃ v w, vs = [v, w] ∧ RepP E As H bad v d ∧ RepP E As H bad w e := by
  cases r with
  | cons a t =>
    cases t with
    | cons b t =>
      cases t
      exact ⟨_, _, rfl, a, b⟩
theorem ints_of : ∀ {vs : List V} {ds : List D} {ns : List Int}, Reps E As H bad vs ds → intsD ds = some ns → vs = ns.map V.int
  | _, [], _, r, e => by
    cases e
    cases r
    rfl
  | _, d :: ds, ns, r, e => by
    cases r with
    | cons a t =>
      cases d with
      | int i =>
        cases q : intsD ds with
        | none =>
          rw [show intsD (.int i :: ds) = (intsD ds).map (i :: ·) from rfl, q] at e
          cases e
        | some ms =>
          rw [show intsD (.int i :: ds) = (intsD ds).map (i :: ·) from rfl, q] at e
          cases e
          cases a
          rw [ints_of t q]
          rfl
      | _ => exact nomatch e
end
theorem sumL_eq : ∀ ns : List Int, sumL ns = ns.sum
  | [] => rfl
  | n :: ns => by
    rw [List.sum_cons, ← sumL_eq ns]
    rfl
theorem maxL_top : ∀ (ns : List Int) (m : Int), maxL m ns ∈ m :: ns ∧ ∀ y ∈ m :: ns, y ≤ maxL m ns
  | [], m => ⟨by simp [maxL], fun y h => by
    rw [List.mem_singleton] at h
    subst h
    exact Int.le_refl _⟩
  | n :: ns, m => by
    obtain ⟨h1, h2⟩ := maxL_top ns (if m < n then n else m)
    show maxL (if m < n then n else m) ns ∈ m :: n :: ns ∧ ∀ y ∈ m :: n :: ns, y ≤ maxL (if m < n then n else m) ns
    have hb := h2 (if m < n then n else m) (by simp)
    refine ⟨?_, fun y hy => ?_⟩
    · rcases List.mem_cons.mp h1 with q | q
      · rw [q]
        split <;> simp
      · exact List.mem_cons_of_mem _ (List.mem_cons_of_mem _ q)
    · rcases List.mem_cons.mp hy with q | q
      · subst q
        refine Int.le_trans ?_ hb
        split <;> omega
      · rcases List.mem_cons.mp q with q | q
        · subst q
          refine Int.le_trans ?_ hb
          split <;> omega
        · exact h2 y (List.mem_cons_of_mem _ q)
theorem minL_top : ∀ (ns : List Int) (m : Int), minL m ns ∈ m :: ns ∧ ∀ y ∈ m :: ns, minL m ns ≤ y
  | [], m => ⟨by simp [minL], fun y h => by
    rw [List.mem_singleton] at h
    subst h
    exact Int.le_refl _⟩
  | n :: ns, m => by
    obtain ⟨h1, h2⟩ := minL_top ns (if n < m then n else m)
    show minL (if n < m then n else m) ns ∈ m :: n :: ns ∧ ∀ y ∈ m :: n :: ns, minL (if n < m then n else m) ns ≤ y
    have hb := h2 (if n < m then n else m) (by simp)
    refine ⟨?_, fun y hy => ?_⟩
    · rcases List.mem_cons.mp h1 with q | q
      · rw [q]
        split <;> simp
      · exact List.mem_cons_of_mem _ (List.mem_cons_of_mem _ q)
    · rcases List.mem_cons.mp hy with q | q
      · subst q
        refine Int.le_trans hb ?_
        split <;> omega
      · rcases List.mem_cons.mp q with q | q
        · subst q
          refine Int.le_trans hb ?_
          split <;> omega
        · exact h2 y (List.mem_cons_of_mem _ q)
section
variable {X : Cx} {E : En} (hK : X.K = E.K) (hc : X.calm = true) (hu : X.A.units + 100 < cLine) (hG : X.A.guards = some []) (hS : SysK X.K)
include hK hc hu hG hS
omit hS in
theorem sum_tup {pins : List (Addr × Obj)} {σ : L2.St} {H : Hp} {s : Shared} {a : Addr} {ns : List Int} {Q : VK} (I : Inv X pins σ H s) (h : SqT X.K H a (ns.map V.int)) (q : Q (.int ns.sum) H) :
    wpAny (model X.prog X.w) X.A (call (.builtin "sum") [.ref a]) (EP X pins σ Q) X.xe s := by
  obtain ⟨its, rv, p, _⟩ := I.tuple h
  have hi : IntsAre its.toArray.toList ns := by simpa using intsAre_of rv
  obtain ⟨xs, hx⟩ := hi.allInts.items
  have hn : numsOf its.toArray.toList = ns := hi.numsOf
  have hx' : its.toArray = intItems xs := by simpa using hx
  have pt : s.heap.IsTuple a its.toArray := p
  rw [hx'] at pt hn
  rw [nums_intItems] at hn
  refine PySem.W.ktm_sumG (I.ok.hd hc) pt fun h' tk t' hk => ?_
  rw [preSum_eq, List.take_of_length_le (by simp), hn]
  exact ⟨.int _, H, I.kept hk, ⟨_, rfl⟩, q⟩
theorem repr_ok : CallR X (.builtin "repr") (rB E (biD .repr)) := by
  intro pins s σ H vs us Q I r h
  obtain ⟨As, bad, μ, ds, z, w, c, ps, e, f⟩ := h
  match ds, e with
  | [d], e =>
    unfold biD at e
    dsimp only at e
    split at e
    · rename_i hz
      cases e
      obtain ⟨v, rfl, pv'⟩ := repsP1 ps
      unfold showOk at hz
      simp only [Bool.and_eq_true, decide_eq_true_eq] at hz
      obtain ⟨⟨⟨h1, h2⟩, h3⟩, h4⟩ := hz
      obtain ⟨u, rfl, ru⟩ := vals1 r
      obtain ⟨as, rd, hns⟩ := pv'.reads hK hS I h1 ru
      have hsz : (py d).shown.length ≤ sizeLine := Nat.le_trans (shown_le d h1 h2) h3
      have fq : Q (.str (py d).shown) H := f.same c (.str _)
      cases d with
      | non =>
        rw [show u = Value.none by rw [pv'.isnon] at ru; exact ru]
        exact P.repr_of_none ⟨.str _, H, I.tok _, ⟨_, rfl⟩, fq⟩
      | bl b =>
        rw [show u = Value.bool b by rw [pv'.bl] at ru; exact ru]
        exact P.repr_of_bool ⟨.str _, H, I.tok _, ⟨_, by cases b <;> rfl⟩, fq⟩
      | int i =>
        rw [pv'.int] at ru
        obtain ⟨t, rfl⟩ := ru
        exact P.repr_of_int (of_decide_eq_true h2) ⟨.str _, H, I.tok _, ⟨_, rfl⟩, fq⟩
      | str x =>
        rw [pv'.str] at ru
        obtain ⟨t, rfl⟩ := ru
        exact P.repr_of_str ⟨.str _, H, I.tok _, ⟨_, rfl⟩, fq⟩ hsz
      | tup xs =>
        obtain ⟨a, ws, rfl, _, _⟩ := pv'.tup
        cases ru
        exact repr_of_reads' rd h2 (fun _ => hns) hG (by omega) (fun _ _ q => q) (fun h' u tk hk => ⟨.str _, H, I.kept hk, ⟨_, rfl⟩, fq⟩) hsz
      | lst xs =>
        obtain ⟨a, ws, rfl, _, _⟩ := pv'.lst
        cases ru
        exact repr_of_reads' rd h2 (fun _ => hns) hG (by omega) (fun _ _ q => q) (fun h' u tk hk => ⟨.str _, H, I.kept hk, ⟨_, rfl⟩, fq⟩) hsz
      | dct kvs =>
        cases kvs with
        | cons _ _ => cases h1
        | nil =>
          rcases pv' with q | ⟨a, vs, ds, _, q, _⟩
          · cases q with
            | dct q1 q2 q3 =>
              cases ru
              exact repr_of_reads' rd h2 (fun _ => hns) hG (by omega) (fun _ _ q => q) (fun h' u tk hk => ⟨.str _, H, I.kept hk, ⟨_, rfl⟩, fq⟩) hsz
          · cases q
      | cell _ => cases h1
      | fn _ => cases h1
      | exn _ _ => cases h1
    · cases e
  | [], e => cases e
  | _ :: _ :: _, e => exact nomatch e
theorem bi_ok (b : Bi) : CallR X (biV b) (rB E (biD b)) := by
  by_cases hb : b = .repr
  · subst hb
    exact repr_ok hK hc hu hG hS
  intro pins s σ H vs us Q I r h
  obtain ⟨As, bad, μ, ds, z, w, c, ps, e, f⟩ := h
  cases b with
  | repr => exact absurd rfl hb
  | len =>
    cases ds with
    | nil => exact nomatch e
    | cons x t => cases t with
      | cons _ _ => cases x <;> exact nomatch e
      | nil => cases x with
        | lst xs =>
          cases e
          obtain ⟨v, rfl, p⟩ := repsP1 ps
          obtain ⟨a, ws, rfl, l, q⟩ := p.lst
          have l' := l.sq
          rw [← hK] at l'
          exact call_len_seq pins s σ H _ us Q I r ⟨a, ws, rfl, .inl l', by rw [q.length]; exact f.same c (.int _)⟩
        | tup xs =>
          cases e
          obtain ⟨v, rfl, p⟩ := repsP1 ps
          obtain ⟨a, ws, rfl, l, q⟩ := p.tup
          rw [← hK] at l
          exact call_len_seq pins s σ H _ us Q I r ⟨a, ws, rfl, .inr l, by rw [q.length]; exact f.same c (.int _)⟩
        | str x =>
          unfold biD at e
          dsimp only at e
          split at e
          · rename_i hz
            cases e
            obtain ⟨v, rfl, p⟩ := repsP1 ps
            rw [p.str] at r
            exact call_len_str pins s σ H _ us Q I r ⟨x, rfl, hz, f.same c (.int _)⟩
          · cases e
        | _ => exact nomatch e
  | sum =>
    cases ds with
    | nil => exact nomatch e
    | cons x t => cases t with
      | cons _ _ => cases x <;> exact nomatch e
      | nil => cases x with
        | lst xs =>
          have e' : (intsD xs).map (fun ns => ((D.int (sumL ns)), false)) = some (z, w) := e
          cases q : intsD xs with
          | none =>
            rw [q] at e'
            cases e'
          | some ns =>
            rw [q] at e'
            cases e'
            obtain ⟨v, rfl, p⟩ := repsP1 ps
            obtain ⟨a, ws, rfl, l, g⟩ := p.lst
            have l' := l.sq
            rw [← hK, ints_of g q] at l'
            exact cr_sum hc pins s σ H _ us Q I r ⟨a, ns, rfl, l', by rw [← sumL_eq]; exact f.same c (.int _)⟩
        | tup xs =>
          have e' : (intsD xs).map (fun ns => ((D.int (sumL ns)), false)) = some (z, w) := e
          cases q : intsD xs with
          | none =>
            rw [q] at e'
            cases e'
          | some ns =>
            rw [q] at e'
            cases e'
            obtain ⟨v, rfl, p⟩ := repsP1 ps
            obtain ⟨a, ws, rfl, l, g⟩ := p.tup
            rw [← hK, ints_of g q] at l
            rw [Vals.ref1 r]
            exact sum_tup hK hc hu hG I l (by rw [← sumL_eq]; exact f.same c (.int _))
        | _ => exact nomatch e
  | max =>
    cases ds with
    | nil => exact nomatch e
    | cons x t => cases t with
      | cons y t2 => cases t2 with
        | cons _ _ => cases x with
          | lst l0 => cases l0 with
            | nil => exact nomatch e
            | cons x0 _ => cases x0 <;> exact nomatch e
          | _ => cases y <;> exact nomatch e
        | nil => cases x with
          | int i => cases y with
            | int j =>
              cases e
              obtain ⟨v, v2, rfl, p, p2⟩ := repsP2 ps
              rw [p.int, p2.int] at r
              exact call_max2 hc pins s σ H _ us Q I r ⟨i, j, rfl, f.same c (.int _)⟩
            | _ => exact nomatch e
          | lst l0 => cases l0 with
            | nil => exact nomatch e
            | cons x0 _ => cases x0 <;> exact nomatch e
          | _ => cases y <;> exact nomatch e
      | nil => cases x with
        | lst l0 => cases l0 with
          | nil => exact nomatch e
          | cons x0 xs => cases x0 with
            | int i =>
              have e' : (intsD xs).map (fun ns => ((D.int (maxL i ns)), false)) = some (z, w) := e
              cases q : intsD xs with
              | none =>
                rw [q] at e'
                cases e'
              | some ns =>
                rw [q] at e'
                cases e'
                obtain ⟨v, rfl, p⟩ := repsP1 ps
                obtain ⟨a, ws, rfl, l, g⟩ := p.lst
                have l' := l.sq
                have q2 : intsD (.int i :: xs) = some (i :: ns) := by
                  show (intsD xs).map (i :: ·) = _
                  rw [q]
                  rfl
                rw [← hK, ints_of g q2] at l'
                refine cr_max hc pins s σ H _ us Q I r ⟨a, i :: ns, rfl, l', by simp, fun m h1 h2 => ?_⟩
                obtain ⟨t1, t2⟩ := maxL_top ns i
                rw [show m = maxL i ns from Int.le_antisymm (t2 m h1) (h2 _ t1)]
                exact f.same c (.int _)
            | _ => exact nomatch e
        | _ => exact nomatch e
  | min =>
    cases ds with
    | nil => exact nomatch e
    | cons x t => cases t with
      | cons y t2 => cases t2 with
        | cons _ _ => cases x with
          | lst l0 => cases l0 with
            | nil => exact nomatch e
            | cons x0 _ => cases x0 <;> exact nomatch e
          | _ => cases y <;> exact nomatch e
        | nil => cases x with
          | int i => cases y with
            | int j =>
              cases e
              obtain ⟨v, v2, rfl, p, p2⟩ := repsP2 ps
              rw [p.int, p2.int] at r
              exact call_min2 hc pins s σ H _ us Q I r ⟨i, j, rfl, f.same c (.int _)⟩
            | _ => exact nomatch e
          | lst l0 => cases l0 with
            | nil => exact nomatch e
            | cons x0 _ => cases x0 <;> exact nomatch e
          | _ => cases y <;> exact nomatch e
      | nil => cases x with
        | lst l0 => cases l0 with
          | nil => exact nomatch e
          | cons x0 xs => cases x0 with
            | int i =>
              have e' : (intsD xs).map (fun ns => ((D.int (minL i ns)), false)) = some (z, w) := e
              cases q : intsD xs with
              | none =>
                rw [q] at e'
                cases e'
              | some ns =>
                rw [q] at e'
                cases e'
                obtain ⟨v, rfl, p⟩ := repsP1 ps
                obtain ⟨a, ws, rfl, l, g⟩ := p.lst
                have l' := l.sq
                have q2 : intsD (.int i :: xs) = some (i :: ns) := by
                  show (intsD xs).map (i :: ·) = _
                  rw [q]
                  rfl
                rw [← hK, ints_of g q2] at l'
                refine cr_min hc pins s σ H _ us Q I r ⟨a, i :: ns, rfl, l', by simp, fun m h1 h2 => ?_⟩
                obtain ⟨t1, t2⟩ := minL_top ns i
                rw [show m = minL i ns from Int.le_antisymm (h2 _ t1) (t2 m h1)]
                exact f.same c (.int _)
            | _ => exact nomatch e
        | _ => exact nomatch e
  | abs =>
    cases ds with
    | nil => exact nomatch e
    | cons x t => cases t with
      | cons _ _ => cases x <;> exact nomatch e
      | nil => cases x with
        | int i =>
          cases e
          obtain ⟨v, rfl, p⟩ := repsP1 ps
          rw [p.int] at r
          exact call_abs pins s σ H _ us Q I r ⟨i, rfl, f.same c (.int _)⟩
        | _ => exact nomatch e
  | int =>
    cases ds with
    | nil => exact nomatch e
    | cons x t => cases t with
      | cons _ _ => cases x <;> exact nomatch e
      | nil => cases x with
        | int i =>
          cases e
          obtain ⟨v, rfl, p⟩ := repsP1 ps
          rw [p.int] at r
          exact call_int1 pins s σ H _ us Q I r (.inl ⟨i, rfl, f.same c (.int _)⟩)
        | bl b =>
          cases e
          obtain ⟨v, rfl, p⟩ := repsP1 ps
          rw [p.bl] at r
          exact call_int1 pins s σ H _ us Q I r (.inr ⟨b, rfl, f.same c (.int _)⟩)
        | _ => exact nomatch e
  | bool =>
    cases ds with
    | nil => exact nomatch e
    | cons x t => cases t with
      | cons _ _ => cases x <;> exact nomatch e
      | nil => cases x with
        | bl b =>
          cases e
          obtain ⟨v, rfl, p⟩ := repsP1 ps
          rw [p.bl] at r
          exact call_bool1 pins s σ H _ us Q I r (.inr ⟨b, rfl, f.same c (.bl _)⟩)
        | _ => exact nomatch e
  | tuple =>
    cases ds with
    | nil => exact nomatch e
    | cons x t => cases t with
      | cons _ _ => cases x <;> exact nomatch e
      | nil => cases x with
        | lst xs =>
          cases e
          obtain ⟨v, rfl, p⟩ := repsP1 ps
          obtain ⟨a, ws, rfl, l, q⟩ := p.lst
          have l' := l.sq
          rw [← hK] at l'
          exact call_tuple_of pins s σ H _ us Q I r ⟨a, ws, rfl, .inl ⟨l', f.tup c q⟩⟩
        | tup xs =>
          cases e
          obtain ⟨v, rfl, p⟩ := repsP1 ps
          rcases p with p | ⟨_, _, _, _, q, _⟩
          · have p2 : RepP E As H bad v (.tup xs) := .inl p
            obtain ⟨a, ws, rfl, l, q⟩ := p2.tup
            rw [← hK] at l
            exact call_tupleT pins s σ H _ us Q I r ⟨a, ws, rfl, l, f.same c p⟩
          · cases q
        | _ => exact nomatch e
  | list =>
    cases ds with
    | nil => exact nomatch e
    | cons x t => cases t with
      | cons _ _ => cases x <;> exact nomatch e
      | nil => cases x with
        | lst xs =>
          cases e
          obtain ⟨v, rfl, p⟩ := repsP1 ps
          obtain ⟨a, ws, rfl, l, q⟩ := p.lst
          have l' := l.sq
          rw [← hK] at l'
          exact call_list_of pins s σ H _ us Q I r ⟨a, ws, rfl, .inl l', f.lst c q⟩
        | tup xs =>
          cases e
          obtain ⟨v, rfl, p⟩ := repsP1 ps
          obtain ⟨a, ws, rfl, l, q⟩ := p.tup
          rw [← hK] at l
          exact call_list_of pins s σ H _ us Q I r ⟨a, ws, rfl, .inr l, f.lst c q⟩
        | _ => exact nomatch e
  | str =>
    cases ds with
    | nil => exact nomatch e
    | cons x t => cases t with
      | cons _ _ => cases x <;> exact nomatch e
      | nil => cases x with
        | int i =>
          unfold biD at e
          dsimp only at e
          split at e
          · rename_i hz
            cases e
            obtain ⟨v, rfl, p⟩ := repsP1 ps
            rw [p.int] at r
            exact call_str_int pins s σ H _ us Q I r ⟨i, rfl, hz, f.same c (.str _)⟩
          · cases e
        | _ => exact nomatch e
  | sorted =>
    cases ds with
    | nil => exact nomatch e
    | cons x t => cases t with
      | cons _ _ => cases x <;> exact nomatch e
      | nil => cases x with
        | lst xs =>
          unfold biD at e
          dsimp only at e
          split at e
          · rename_i hz
            cases e
            obtain ⟨v, rfl, p⟩ := repsP1 ps
            obtain ⟨a, ws, rfl, l, g⟩ := p.lst
            have l' := l.sq
            rw [← hK] at l'
            cases q : intsD xs with
            | some ns =>
              rw [ints_of g q] at l'
              refine L2.cr_sortedI pins s σ H _ us Q I r ⟨a, ns, rfl, l', fun ns' p h1 h2 hp => ?_⟩
              have e1 := Sr.ints_isort h1 h2
              rw [← Sr.intsD_map q] at e1
              refine f.lst c ?_ p hp
              rw [← e1]
              exact Sr.reps_ints _
            | none =>
              cases zl : lssOk xs with
              | true =>
                rw [Vals.ref1 r]
                exact Sr.sorted_lss hK hu I l' g zl fun vs rv p hp => f.lst c rv p hp
              | false =>
              cases q2 : keyDs xs with
              | none =>
                unfold srtOk at hz
                rw [q, q2, zl] at hz
                cases hz
              | some ks =>
                have al : (ks.all fun x => ks.all fun y => alikeK x y) = true := by
                  unfold srtOk at hz
                  rw [q, q2, zl] at hz
                  simpa using hz
                rw [Vals.ref1 r]
                exact Sr.sorted_tups hK I l' g q2 al fun vs rv p hp => f.lst c rv p hp
          · cases e
        | _ => exact nomatch e
end
end Z
end

section
set_option Elab.async false
set_option autoImplicit false
set_option linter.all false
set_option maxRecDepth 100000
set_option maxHeartbeats 1000000
/-! Subscripts, slices, methods, isinstance over trees. -/
namespace Z
open PySem PySem.Spec PyProof.Rows L2

theorem rev_adjust (n : Nat) : Builtin.Slice.sliceAdjust none none (-1) (n : Int) = ((n : Int) - 1, -1) := by
  unfold Builtin.Slice.sliceAdjust
  simp
theorem rev_places (n : Nat) : Builtin.Slice.slicePlaces ((n : Int) - 1) (-1) (-1) = n := by
  unfold Builtin.Slice.slicePlaces
  have h1 : ¬ ((-1 : Int) > 0) := by omega
  rw [if_neg h1]
  by_cases h : (n : Int) - 1 > -1
  · rw [if_pos h]
    have : ((n : Int) - 1 - -1 - 1) / - -1 = (n : Int) - 1 := by
      rw [show (- -1 : Int) = 1 from rfl, Int.ediv_one]
      omega
    rw [this]
    omega
  · rw [if_neg h]
    omega
theorem fmc {α β : Type} {f g : α → Option β} : ∀ {l : List α}, (∀ x ∈ l, f x = g x) → l.filterMap f = l.filterMap g
  | [], _ => rfl
  | x :: l, h => by
    rw [List.filterMap_cons, List.filterMap_cons, h x (List.mem_cons_self), fmc fun y hy => h y (List.mem_cons_of_mem _ hy)]
theorem rev_fm : ∀ (xs : List Value) (k : Nat), k ≤ xs.length → ((List.range k).filterMap fun (m : Nat) => xs.toArray[(((k : Int) - 1) + (m : Int) * (-1)).toNat]?) = (xs.take k).reverse := by
  intro xs k hk
  have e : ((List.range k).filterMap fun (m : Nat) => xs.toArray[(((k : Int) - 1) + (m : Int) * (-1)).toNat]?) = ((List.range k).filterMap fun (m : Nat) => (xs.take k).reverse[m]?) := by
    apply fmc
    intro m hm
    have hm' : m < k := List.mem_range.mp hm
    have e1 : (((k : Int) - 1) + (m : Int) * (-1)).toNat = k - 1 - m := by omega
    rw [e1, List.getElem?_toArray, List.getElem?_reverse (by rw [List.length_take]; omega), List.length_take, Nat.min_eq_left hk, List.getElem?_take_of_lt (by omega)]
  rw [e]
  have g : ∀ ys : List Value, ((List.range ys.length).filterMap fun (m : Nat) => ys[m]?) = ys := by
    intro ys
    induction ys with
    | nil => rfl
    | cons y ys ih =>
      rw [List.length_cons, List.range_succ_eq_map, List.filterMap_cons]
      show y :: _ = y :: ys
      rw [List.filterMap_map]
      congr 1
  have := g (xs.take k).reverse
  rw [List.length_reverse, List.length_take, Nat.min_eq_left hk] at this
  exact this
section
variable {prog : Program} {w : World} {A : Around} {E : Value → Shared → Prop} {s : Shared}
theorem getItem_tuple_rev {t sl : Addr} {items : List Value} {vl vu vs : Value} {Q : Value → Shared → Prop} (ht : IsTup s.heap t items.toArray) (hs : s.heap.IsSliceOf sl vl vu vs) (pl : IsPart vl none) (pu : IsPart vu none) (ps : IsPart vs (some (-1)))
    (h : Q (.ref s.heap.objs.size) { s with heap := s.heap.push { cls := .type "tuple", data := .seq items.reverse.toArray } })
    (hsz : items.length ≤ sizeLine) : wpAny (model prog w) A (getItem (.ref t) (.ref sl)) Q E s := by
  have htake : sizeOk (.seq items.reverse.toArray) := by
    show items.reverse.toArray.size ≤ sizeLine
    rw [List.size_toArray, List.length_reverse]
    exact hsz
  obtain ⟨os, hos, hcs, hds⟩ := id hs
  have hTs : s.TypeIs (.ref sl) "slice" := ⟨os, hos, hcs⟩
  unfold getItem
  try with_reducible refine wpAny_holding ?_
  first | refine wpAny_bind (wpAny_pure ?_) | skip
  refine wpAny_bind (wpAny_sequenceKey ht.typeIs (by decide) ?_)
  refine wpAny_bind (wpAny_callSpecial?_slot (name := Str.ofString "__getitem__") ht.typeIs PyProof.Rows.slot_tuple_getitem
    (wpAny_call_entry PyProof.Rows.slot_tuple_getitem ht.typeIs entry_tuple_getitem ?_ (args_tuple_getitem _ _)))
  show wpAny _ _ (Builtin.Tuple.tupleItemsOf (.ref t) >>= _) _ _ s
  refine wpAny_bind (tupleItemsOf_ ht ?_)
  refine wpAny_bind (wpAny_typeOf hTs ?_)
  rw [if_pos (by decide)]
  refine wpAny_bind ?_
  unfold Builtin.Slice.sliceApplied Builtin.Slice.sliceFields
  refine wpAny_bind (wpAny_bind (wpAny_field hos hds (x := vl) rfl (wpAny_bind (wpAny_field hos hds (x := vu) rfl (wpAny_bind (wpAny_field hos hds (x := vs) rfl (wpAny_pure ?_)))))))
  refine wpAny_bind (HT.slicePart_ ps ?_)
  show wpAny _ _ (if ((-1 : Int) == 0) = true then _ else _) _ _ s
  rw [if_neg (by decide)]
  refine wpAny_bind (HT.slicePart_ pl (wpAny_bind (HT.slicePart_ pu (wpAny_bind (wpAny_pure ?_)))))
  show wpAny _ _ (match Builtin.Slice.sliceAdjust none none (-1) (items.toArray.size : Int) with | (lo, hi) => pure (lo, (-1 : Int), Builtin.Slice.slicePlaces lo hi (-1))) _ _ s
  rw [rev_adjust]
  show wpAny _ _ (pure (((items.toArray.size : Int) - 1), (-1 : Int), Builtin.Slice.slicePlaces ((items.toArray.size : Int) - 1) (-1) (-1))) _ _ s
  rw [rev_places]
  refine wpAny_pure ?_
  have hno : ¬ ((((items.toArray.size : Int) - 1) == 0 && (-1 : Int) == 1 && items.toArray.size == items.toArray.size) = true) := by
    intro q
    rw [Bool.and_eq_true, Bool.and_eq_true] at q
    exact absurd (eq_of_beq q.1.2) (by decide)
  show wpAny _ _ (if ((((items.toArray.size : Int) - 1) == 0 && (-1 : Int) == 1 && items.toArray.size == items.toArray.size) = true) then _ else _) _ _ s
  have hp : ((List.range items.toArray.size).filterMap fun (m : Nat) => items.toArray[(((items.toArray.size : Int) - 1) + (m : Int) * (-1)).toNat]?).toArray = items.reverse.toArray := by
    rw [List.size_toArray, rev_fm items items.length (Nat.le_refl _), List.take_length]
  rw [if_neg hno, hp]
  first
    | exact wpAny_bind (m := Builtin.Tuple.tupleExact _) (wpAny_newObj_type (wpAny_pure ⟨_, rfl, wpAny_pure h⟩) htake)
    | exact wpAny_bind (m := Builtin.Tuple.tupleExact _) (wpAny_newObj_type (wpAny_bind (wpAny_pure (wpAny_pure ⟨_, rfl, wpAny_pure h⟩))) htake)
    | exact wpAny_bind (wpAny_bind (m := Builtin.Tuple.tupleExact _) (wpAny_newObj_type (wpAny_pure (wpAny_pure ⟨_, rfl, wpAny_pure h⟩)) htake))
    | exact wpAny_bind (wpAny_bind (m := Builtin.Tuple.tupleExact _) (wpAny_newObj_type (wpAny_pure ⟨_, rfl, wpAny_pure h⟩) htake))
end
theorem atI_len {α β : Type} {xs : List α} {ys : List β} (h : xs.length = ys.length) {i : Int} {y : β} (e : atI ys i = some y) : ∃ j, ixN xs.length i = some j ∧ ys[j]? = some y := by
  unfold atI at e
  rw [h]
  cases q : ixN ys.length i with
  | none =>
    rw [q] at e
    cases e
  | some j =>
    rw [q] at e
    exact ⟨j, rfl, e⟩
section
variable {E : En} {As : List Addr} {H : Hp} {bad : Addr → Prop}
theorem Reps.atI {vs : List V} {ds : List D} {i : Int} {d : D} (r : Reps E As H bad vs ds) (e : L2.atI ds i = some d) : ∃ v, L2.atI vs i = some v ∧ Rep E As H bad v d := by
  obtain ⟨j, h1, h2⟩ := atI_len r.length e
  obtain ⟨v, h3, h4⟩ := r.get h2
  refine ⟨v, ?_, h4⟩
  unfold L2.atI
  rw [h1]
  exact h3
end
def subF (μ : Mu) (x y : D) : Option (D × Bool) := match subC μ x y with
  | some d => some (d, false)
  | none => none
/-- a subscript by values -/
def rS (E : En) : R2 := fun vx vy H Q => ∃ As bad μ x y z, CRel E As bad H μ ∧ RepP E As H bad vx x ∧ RepP E As H bad vy y ∧ subC μ x y = some z ∧ Fin E As bad H μ z false Q
/-- a slice by values -/
def rC (E : En) : V → Option Int → Option Int → Hp → VK → Prop := fun vx lo hi H Q => ∃ As bad μ x z w, CRel E As bad H μ ∧ RepP E As H bad vx x ∧ slcD x lo hi = some (z, w) ∧ Fin E As bad H μ z w Q
theorem cut_reps {E : En} {As : List Addr} {H : Hp} {bad : Addr → Prop} {vs : List V} {ds : List D} (r : Reps E As H bad vs ds) (lo hi : Option Int) : Reps E As H bad (cutV vs lo hi) (cutD ds lo hi) := by
  unfold cutV cutD
  rw [r.length]
  exact (r.drop _).take _
section
variable {X : Cx} {E : En} (hK : X.K = E.K)
include hK
theorem sub_ok : IxR X (rS E) := by
  intro value slice pins s σ H vx vy v u Q I rx ry h hs
  obtain ⟨As, bad, μ, x, y, z, c, px, py', e, f⟩ := h
  cases x with
  | lst xs => cases y with
    | int i =>
      have e' : L2.atI xs i = some z := e
      obtain ⟨a, vs, rfl, l, r⟩ := px.lst
      obtain ⟨w, h1, h2⟩ := r.atI e'
      have l' := l.sq
      rw [← hK] at l'
      rw [py'.int] at ry
      exact ix_list value slice pins s σ H _ _ v u Q I rx ry ⟨a, vs, i, w, rfl, rfl, l', h1, f.same c h2⟩ hs
    | _ => exact nomatch e
  | tup xs => cases y with
    | int i =>
      have e' : L2.atI xs i = some z := e
      obtain ⟨a, vs, rfl, l, r⟩ := px.tup
      obtain ⟨w, h1, h2⟩ := r.atI e'
      rw [← hK] at l
      rw [py'.int] at ry
      exact ix_tup value slice pins s σ H _ _ v u Q I rx ry ⟨a, vs, i, w, rfl, rfl, l, h1, f.same c h2⟩ hs
    | _ => exact nomatch e
  | cell n =>
    cases q : μ[n]? with
    | none =>
      unfold subC at e
      dsimp only at e
      rw [q] at e
      cases e
    | some ds => cases y with
      | int i =>
        unfold subC at e
        dsimp only at e
        rw [q] at e
        have e' : L2.atI ds i = some z := e
        rcases px with px | ⟨_, _, _, _, z2, _⟩
        · cases px with
          | cell hn =>
            rename_i a
            obtain ⟨vs, h1, r⟩ := c.cel n a ds hn q
            obtain ⟨w, h2, h3⟩ := r.atI e'
            rw [py'.int] at ry
            exact ix_list value slice pins s σ H _ _ v u Q I rx ry ⟨a, vs, i, w, rfl, rfl, .inl (.inl h1), h2, f.same c h3⟩ hs
        · cases z2
      | _ =>
        unfold subC at e
        dsimp only at e
        rw [q] at e
        exact nomatch e
  | _ => cases y <;> exact nomatch e
theorem slc_ok : SlR X (rC E) := by
  intro pins s σ H vx v vl vu lo hi sl Q I rx hs pl pu h
  obtain ⟨As, bad, μ, x, z, w, c, px, e, f⟩ := h
  cases x with
  | lst xs =>
    cases e
    obtain ⟨a, vs, rfl, l, r⟩ := px.lst
    have l' := l.sq
    rw [← hK] at l'
    exact sl_list pins s σ H _ v vl vu lo hi sl Q I rx hs pl pu ⟨a, vs, rfl, l', f.lst c (cut_reps r lo hi)⟩
  | tup xs =>
    cases e
    obtain ⟨a, vs, rfl, l, r⟩ := px.tup
    rw [← hK] at l
    refine sl_tupA pins s σ H _ v vl vu lo hi sl Q I rx hs pl pu ⟨a, vs, rfl, l, fun hw => ?_, fun _ => f.tup c (cut_reps r lo hi)⟩
    rcases px with p | ⟨_, _, _, _, q, _⟩
    · refine f.same c ?_
      have e1 : cutD xs lo hi = xs := by
        unfold cutD
        rw [← r.length, hw.1, hw.2, List.drop_zero, Nat.sub_zero, r.length, List.take_length]
      rw [e1]
      exact p
    · cases q
  | _ => exact nomatch e
/-- list[::-1] by values -/
theorem rev_ok {e : Expr} {te : TE} {k : Nat} {p1 p2 p3 pos : Pos} (he : PE X e te) :
    PE X (.Subscript e (.Slice none none (some (.UnaryOp .USub (.Constant (.int 1) k p1) p2)) p3) pos)
      (fun σ H Q => te σ H fun x H1 => ∃ As bad μ d z w, CRel E As bad H1 μ ∧ RepP E As H1 bad x d ∧ revD d = some (z, w) ∧ Fin E As bad H1 μ z w Q) := by
  refine ⟨fun pins s σ H Q I h => ?_⟩
  refine Subscript_ (thn (he.run pins s σ H _ I h) fun v s1 ⟨x, H1, I1, r1, q1⟩ => ?_)
  obtain ⟨As, bad, μ, d, z, w, c, px, er, f⟩ := q1
  have hst : PO X (some (.UnaryOp .USub (.Constant (.int 1) k p1) p2)) (tPart (tUn (rU fun i => .int (-i)) (tC (.int 1)))) := po_some (pe_un un_neg pe_int)
  refine wpAny_Slice (thn (po_none.run pins s1 σ H1 (fun o H2 => o = none ∧ H2 = H1) I1 ⟨rfl, rfl⟩) fun vl s2 ⟨l, H2, I2, pl, el, e2⟩ => ?_)
  subst el e2
  refine thn (po_none.run pins s2 σ H2 (fun o H3 => o = none ∧ H3 = H2) I2 ⟨rfl, rfl⟩) fun vu s3 ⟨u, H3, I3, pu, eu, e3⟩ => ?_
  subst eu e3
  refine thn (hst.run pins s3 σ H3 (fun o H4 => o = some (-1) ∧ H4 = H3) I3 ⟨1, rfl, -1, rfl, rfl, rfl⟩) fun vst s4 ⟨o, H4, I4, ps, eo, e4⟩ => ?_
  subst eo e4
  have I5 : Inv X pins σ H4 { s4 with heap := s4.heap.push { cls := .type "slice", data := .fields #[vl, vu, vst] } } := I4.kept (t' := s4.toks) fun b ob q => Heap.get?_push_of_some _ q
  cases d with
  | lst xs =>
    cases er
    obtain ⟨a, vs, rfl, l, r⟩ := px.lst
    have l' := l.sq
    rw [← hK] at l'
    cases r1
    obtain ⟨its, rv, ht, hz⟩ := I5.list l'
    have hlen := rv.length
    refine tail_any (ops := [.ref a, .ref s4.heap.objs.size]) ht.isList.typeIs (PySem.slot_list_getitem.lookup) ?_ (by with_unfolding_all rfl)
    refine wpAny_getItem_list_slice ht.isList (Heap.IsSliceOf.new _ vl vu vst) pl pu ps (by decide) ?_ (by rw [List.size_toArray]; omega)
    rw [PySem.W.krv_pick]
    refine ⟨.ref _, _, I5.laid (t' := s4.toks) (o := .lst vs.reverse) (fun b ob q => Heap.get?_push_of_some _ q) (Nat.le_refl _) ?_, rfl, f.lst c r.reverse _ (I5.hok.fresh (Nat.le_refl _))⟩
    exact ⟨by rw [List.length_reverse]; exact hz, _, 0, rv.reverse, Heap.get?_push_size _ rfl⟩
  | tup xs =>
    cases er
    obtain ⟨a, vs, rfl, l, r⟩ := px.tup
    rw [← hK] at l
    cases r1
    obtain ⟨its, rv, ht, hz⟩ := I5.tuple l
    refine tail_any (ops := [.ref a, .ref s4.heap.objs.size]) ht.typeIs (PyProof.Rows.slot_tuple_getitem.lookup) ?_ (by with_unfolding_all rfl)
    refine getItem_tuple_rev ht (Heap.IsSliceOf.new _ vl vu vst) pl pu ps ?_ (by rw [← rv.length]; exact hz)
    refine ⟨.ref _, _, I5.laid (t' := s4.toks) (o := .tup vs.reverse) (fun b ob q => Heap.get?_push_of_some _ q) (Nat.le_refl _) ?_, rfl, f.tup c r.reverse _ (I5.hok.fresh (Nat.le_refl _))⟩
    exact ⟨by rw [List.length_reverse]; exact hz, _, rv.reverse, IsTup.new _ _⟩
  | _ => exact nomatch er
end
end Z
end

section
set_option Elab.async false
set_option autoImplicit false
set_option linter.all false
set_option maxRecDepth 100000
set_option maxHeartbeats 1000000
/-! Methods and isinstance over trees. -/
namespace Z
open PySem PySem.Spec PyProof.Rows L2

theorem pyL_get : ∀ (ds : List D) (i : Nat), (pyL ds)[i]? = (ds[i]?).map py
  | [], i => by simp [pyL]
  | d :: ds, 0 => by simp [pyL]
  | d :: ds, i + 1 => by simpa [pyL] using pyL_get ds i
theorem idxD_spec (d : D) : ∀ (ds : List D) (k n : Nat), idxD d ds k = some n → ∃ j z, n = k + j ∧ ds[j]? = some z ∧ eqD z d = true ∧ ∀ m z', m < j → ds[m]? = some z' → eqD z' d = false
  | [], _, _, h => by cases h
  | e :: r, k, n, h => by
    unfold idxD at h
    split at h
    · rename_i q
      cases h
      refine ⟨0, e, rfl, rfl, q, fun m _ hm => absurd hm (Nat.not_lt_zero m)⟩
    · rename_i q
      obtain ⟨j, z, h1, h2, h3, h4⟩ := idxD_spec d r (k + 1) n h
      refine ⟨j + 1, z, by omega, by simpa using h2, h3, fun m z' hm hz => ?_⟩
      cases m with
      | zero =>
        simp at hz
        subst hz
        simpa using q
      | succ m => exact h4 m z' (by omega) (by simpa using hz)
/-- the same of data -/
theorem idx_py {d : D} {ds : List D} {n : Nat} (h : idxD d ds 0 = some n) : ∃ z, (pyL ds)[n]? = some z ∧ PyData.eqv z (py d) = true ∧ ∀ (m : Nat) (z' : PyData), m < n → (pyL ds)[m]? = some z' → PyData.eqv z' (py d) = false := by
  obtain ⟨j, z, h1, h2, h3, h4⟩ := idxD_spec d ds 0 n h
  have e : n = j := by omega
  subst e
  refine ⟨py z, by rw [pyL_get, h2]; rfl, h3, fun m z' hm hz => ?_⟩
  rw [pyL_get] at hz
  cases q : ds[m]? with
  | none =>
    rw [q] at hz
    cases hz
  | some y =>
    rw [q] at hz
    cases hz
    exact h4 m y hm q
/-- a method by values -/
def rM (E : En) (f : D → List D → Option (D × Bool)) : V → List V → Hp → VK → Prop := fun vx vs H Q => ∃ As bad μ x ds z w, CRel E As bad H μ ∧ RepP E As H bad vx x ∧ RepsP E As H bad vs ds ∧ f x ds = some (z, w) ∧ Fin E As bad H μ z w Q
/-- .. of a tuple of the written part -/
def rMT (E : En) (xs : List D) : V → List V → Hp → VK → Prop := fun vx vs H Q => ∃ As bad μ a ws d n, vx = .ref a ∧ KTs E.K a ws ∧ CRel E As bad H μ ∧ Reps E As H bad ws xs ∧ RepsP E As H bad vs [d] ∧ eqOk d = true ∧ eqOk (.tup xs) = true ∧ idxD d xs 0 = some n ∧ Fin E As bad H μ (.int n) false Q
section
variable {X : Cx} {E : En} (hK : X.K = E.K) (hu : X.A.units + 65 < cLine)
include hK hu
theorem mt_indexL : MtR X "list.index" (rM E (mdD .indexL)) := by
  intro pins s σ H vx vs v us Q I rx rs h
  obtain ⟨As, bad, μ, x, ds, z, w, c, px, ps, e, f⟩ := h
  cases x with
  | lst xs =>
    cases ds with
    | nil => cases e
    | cons d r =>
      cases r with
      | cons _ _ => cases e
      | nil =>
        unfold mdD at e
        dsimp only at e
        split at e
        · rename_i hz
          cases q : idxD d xs 0 with
          | none =>
            rw [q] at e
            cases e
          | some n =>
            rw [q] at e
            cases e
            obtain ⟨h1, h2⟩ := Bool.and_eq_true_iff.mp hz
            obtain ⟨a1, a2⟩ := Bool.and_eq_true_iff.mp h1
            obtain ⟨b1, b2⟩ := Bool.and_eq_true_iff.mp h2
            obtain ⟨y, rfl, ry⟩ := repsP1 ps
            obtain ⟨a, ws, rfl, l, rr⟩ := px.lst
            obtain ⟨zz, k1, k2, k3⟩ := idx_py q
            refine mt_indexD (by omega) pins s σ H _ _ v us Q I rx rs ⟨a, y, py d, pyL xs, n, zz, rfl, rfl, ?_, ?_, b2, a2, k1, k2, k3, f.same c (.int _)⟩
            · rw [hK]
              exact px.dp b1
            · rw [hK]
              exact ry.dp a1
        · cases e
  | _ => cases ds <;> exact nomatch e
theorem mt_indexT (xs : List D) : MtR X "tuple.index" (rMT E xs) := by
  intro pins s σ H vx vs v us Q I rx rs h
  obtain ⟨As, bad, μ, a, ws, d, n, rfl, l, c, rr, ps, h1, h2, q, f⟩ := h
  obtain ⟨y, rfl, ry⟩ := repsP1 ps
  obtain ⟨a1, a2⟩ := Bool.and_eq_true_iff.mp h1
  obtain ⟨b1, b2⟩ := Bool.and_eq_true_iff.mp h2
  obtain ⟨z, hz, hzj, hno⟩ := idx_py q
  obtain ⟨uy, rfl, ruy⟩ := vals1 rs
  cases rx
  have dy : Dp X.K H y (py d) := by
    rw [hK]
    exact ry.dp a1
  have da : DpAll X.K H ws (pyL xs) := by
    rw [hK]
    exact rr.dp b1
  obtain ⟨bs, r1⟩ := Dp.reads I (py d) y uy dy ruy
  have hxs : PyData.canLayAll0 (pyL xs) = true := SeqAt.canLay_of_shaped b2
  have hroom : X.A.units + 1 + min (PyData.depthAll (pyL xs)) (py d).depth < cLine := room_in_shaped a2 hu
  obtain ⟨its, m, hk, hl, rv⟩ := l
  rw [← hK] at hk
  have ho := I.kIn _ _ hk
  obtain ⟨as, h4⟩ := Dp.readsAll I (pyL xs) _ its da rv
  have hn : its.length = (pyL xs).length := SeqAt.ReadsAll.length (pyL xs) its as h4
  have hmap : its.map (SeqAt.readOf s.heap) = pyL xs := SeqAt.readsAll_map (pyL xs) its as hxs h4
  have hvl := rv.length
  obtain ⟨hjd, _⟩ := List.getElem?_eq_some_iff.mp hz
  have hjl : n < its.length := by omega
  have hj : n < its.toArray.size := by simpa using hjl
  have at_ : ∀ (m : Nat) (hm : m < its.toArray.size) (z' : PyData), (pyL xs)[m]? = some z' → SeqAt.readOf s.heap its.toArray[m] = z' := by
    intro m hm z' hz'
    have hml : m < its.length := by simpa using hm
    rw [← hmap, List.getElem?_map, List.getElem?_eq_getElem hml] at hz'
    have e1 : SeqAt.readOf s.heap its[m] = z' := Option.some.inj (show some (SeqAt.readOf s.heap its[m]) = some z' from hz')
    simpa using e1
  refine call_meets PySem.F.slot_tuple_index ⟨_, ho, rfl⟩ PySem.F.entry_tuple_index (PySem.F.args_tuple_index_2 _ _)
    (TI.tuple_indexAt a its.toArray m none #[] uy (fun u => PyData.eqv (SeqAt.readOf s.heap u) (py d)) n hj ?_ ?_) ⟨ho, SeqAt.items_eqAt (vs := its.toArray) (show ReadsAll s.heap its.toArray.toList (pyL xs) as from h4) r1 hxs (SeqAt.canLay_of_shaped a2) hroom, ?_⟩
  · show PyData.eqv (SeqAt.readOf s.heap its.toArray[n]) (py d) = true
    rw [at_ n hj z hz]
    exact hzj
  · intro m' hm hmj
    have hmd : m' < (pyL xs).length := by omega
    have hz' : (pyL xs)[m']? = some (pyL xs)[m'] := List.getElem?_eq_getElem hmd
    show PyData.eqv (SeqAt.readOf s.heap its.toArray[m']) (py d) = false
    rw [at_ m' hm _ hz']
    exact hno m' _ hmj hz'
  · exact ⟨.int (n : Nat), H, I.tok _, ⟨_, rfl⟩, f.same c (.int _)⟩
end
/-- isinstance by values -/
def rT (E : En) (t : String) : List V → Hp → VK → Prop := fun vs H Q => ∃ As bad μ v x, vs = [v, .ty t] ∧ CRel E As bad H μ ∧ RepP E As H bad v x ∧ plain1 x = true ∧ Fin E As bad H μ (.bl (isT t x)) false Q
def tyD : D → String
  | .non => "NoneType"
  | .bl _ => "bool"
  | .int _ => "int"
  | .str _ => "str"
  | .tup _ => "tuple"
  | .dct _ => "dict"
  | _ => "list"
theorem RepP.ty {E : En} {As : List Addr} {H : Hp} {bad : Addr → Prop} {μ : Mu} {v : V} {d : D} (c : CRel E As bad H μ) (r : RepP E As H bad v d) (h : plain1 d = true) : TyX E.K H v (.type (tyD d)) := by
  rcases r with r | ⟨a, vs, ds, rfl, rfl, h3, h4, h5⟩
  · cases r with
    | non => exact .base .non
    | bl b => exact .base (.bl b)
    | int i => exact .base (.int i)
    | str x => exact .base (.str x)
    | lst r n q =>
      rcases r with r | ⟨o, r⟩
      · exact .base (.lst r)
      · exact .base (.frz r)
    | lstK r q =>
      obtain ⟨its, n, h1, h2, h3⟩ := r
      exact .kList h1 rfl
    | tup r n q =>
      rcases r with r | ⟨o, r⟩
      · exact .base (.tup r)
      · exact .fTuple r
    | tupK r q =>
      obtain ⟨its, n, h1, h2, h3⟩ := r
      exact .kTuple h1 rfl
    | dct r n q =>
      rcases r with r | ⟨o, r⟩
      · exact .base (.dK r)
      · exact .fDict r
    | cell q =>
      rename_i n
      have hn : n < μ.length := by
        rw [← c.len]
        exact (List.getElem?_eq_some_iff.mp q).1
      obtain ⟨vs, h1, _⟩ := c.cel n _ _ q (List.getElem?_eq_getElem hn)
      exact .base (.lst h1)
    | fn q => cases h
    | exn _ _ _ _ _ _ => cases h
  · exact .base (.lst h3)
/-- the classes that are asked for -/
def tyOk (t : String) : Bool := t == "int" || t == "bool" || t == "str" || t == "tuple" || t == "list" || t == "dict"
theorem ty_ans {t : String} (h : tyOk t = true) (d : D) (hd : plain1 d = true) : kitB (tyD d) t = some (isT t d) := by
  have h' : t = "int" ∨ t = "bool" ∨ t = "str" ∨ t = "tuple" ∨ t = "list" ∨ t = "dict" := by
    simpa [tyOk, or_assoc] using h
  rcases h' with rfl | rfl | rfl | rfl | rfl | rfl <;> cases d
  · exact (by decide +kernel : kitB "NoneType" "int" = some false)
  · exact (by decide +kernel : kitB "bool" "int" = some true)
  · exact (by decide +kernel : kitB "int" "int" = some true)
  · exact (by decide +kernel : kitB "str" "int" = some false)
  · exact (by decide +kernel : kitB "tuple" "int" = some false)
  · exact (by decide +kernel : kitB "list" "int" = some false)
  · exact (by decide +kernel : kitB "dict" "int" = some false)
  · exact (by decide +kernel : kitB "list" "int" = some false)
  · cases hd
  · cases hd
  · exact (by decide +kernel : kitB "NoneType" "bool" = some false)
  · exact (by decide +kernel : kitB "bool" "bool" = some true)
  · exact (by decide +kernel : kitB "int" "bool" = some false)
  · exact (by decide +kernel : kitB "str" "bool" = some false)
  · exact (by decide +kernel : kitB "tuple" "bool" = some false)
  · exact (by decide +kernel : kitB "list" "bool" = some false)
  · exact (by decide +kernel : kitB "dict" "bool" = some false)
  · exact (by decide +kernel : kitB "list" "bool" = some false)
  · cases hd
  · cases hd
  · exact (by decide +kernel : kitB "NoneType" "str" = some false)
  · exact (by decide +kernel : kitB "bool" "str" = some false)
  · exact (by decide +kernel : kitB "int" "str" = some false)
  · exact (by decide +kernel : kitB "str" "str" = some true)
  · exact (by decide +kernel : kitB "tuple" "str" = some false)
  · exact (by decide +kernel : kitB "list" "str" = some false)
  · exact (by decide +kernel : kitB "dict" "str" = some false)
  · exact (by decide +kernel : kitB "list" "str" = some false)
  · cases hd
  · cases hd
  · exact (by decide +kernel : kitB "NoneType" "tuple" = some false)
  · exact (by decide +kernel : kitB "bool" "tuple" = some false)
  · exact (by decide +kernel : kitB "int" "tuple" = some false)
  · exact (by decide +kernel : kitB "str" "tuple" = some false)
  · exact (by decide +kernel : kitB "tuple" "tuple" = some true)
  · exact (by decide +kernel : kitB "list" "tuple" = some false)
  · exact (by decide +kernel : kitB "dict" "tuple" = some false)
  · exact (by decide +kernel : kitB "list" "tuple" = some false)
  · cases hd
  · cases hd
  · exact (by decide +kernel : kitB "NoneType" "list" = some false)
  · exact (by decide +kernel : kitB "bool" "list" = some false)
  · exact (by decide +kernel : kitB "int" "list" = some false)
  · exact (by decide +kernel : kitB "str" "list" = some false)
  · exact (by decide +kernel : kitB "tuple" "list" = some false)
  · exact (by decide +kernel : kitB "list" "list" = some true)
  · exact (by decide +kernel : kitB "dict" "list" = some false)
  · exact (by decide +kernel : kitB "list" "list" = some true)
  · cases hd
  · cases hd
  · exact (by decide +kernel : kitB "NoneType" "dict" = some false)
  · exact (by decide +kernel : kitB "bool" "dict" = some false)
  · exact (by decide +kernel : kitB "int" "dict" = some false)
  · exact (by decide +kernel : kitB "str" "dict" = some false)
  · exact (by decide +kernel : kitB "tuple" "dict" = some false)
  · exact (by decide +kernel : kitB "list" "dict" = some false)
  · exact (by decide +kernel : kitB "dict" "dict" = some true)
  · exact (by decide +kernel : kitB "list" "dict" = some false)
  · cases hd
  · cases hd
section
variable {X : Cx} {E : En} (hK : X.K = E.K)
include hK
theorem isi_ok {t : String} (h : tyOk t = true) : CallR X (.builtin "isinstance") (rT E t) := by
  intro pins s σ H vs us Q I r q
  obtain ⟨As, bad, μ, v, x, rfl, c, px, hp, f⟩ := q
  refine call_isi pins s σ H _ us Q I r ⟨v, .ty t, _, .type t, isT t x, rfl, .ty t, ?_, kit_ty (ty_ans h x hp), f.same c (.bl _)⟩
  rw [hK]
  exact px.ty c hp
end
end Z
end

section
set_option Elab.async false
set_option autoImplicit false
set_option linter.all false
set_option maxRecDepth 100000
set_option maxHeartbeats 2000000
/-! enumerate(tuple), as the library has it of lists. -/
namespace Z.Et
open PySem PySem.Spec PyProof.Rows L2
open PySem.Sem (wp)
open AutoSeq1 (wpAny_loadPart')
section
variable {prog : Program} {w : World} {A : Around} {E : Value → Shared → Prop} {s : Shared}
theorem next_item {e it l : Addr} {i : Nat} {xs : Array Value} {x old : Value} {Q : Value → Shared → Prop} (he : IsEnum s.heap e it i old) (ht : s.heap.IsTupleIter it l i) (hl : s.heap.IsTuple l xs) (hx : xs[i]? = some x) (ne : e ≠ it)
    (hQ : ∀ h', IsEnumOut h' e it ((i : Int) + 1) x s.heap.objs.size → h'.IsTupleIter it l (i + 1) → h'.get? s.heap.objs.size = some { cls := .type "tuple", data := .seq #[.int i s.toks, x] } →
      h'.objs.size = s.heap.objs.size + 1 → (∀ b o, b ≠ e → b ≠ it → s.heap.get? b = some o → h'.get? b = some o) → Q (.ref s.heap.objs.size) { s with heap := h', toks := s.toks + 1 }) :
    wpAny (model prog w) A (Builtin.«enumerate.__next__» ⟨[.ref e], []⟩) (fun fin s' => ∃ v, fin = .done (.ret v) ∧ Q v s') E s := by
  obtain ⟨h0, gs, dr, tk, os⟩ := s
  show wpAny _ _ (field (.ref e) 2 >>= _) _ _ _
  refine wpAny_bind (wpAny_field he rfl (x := .ref it) rfl (wpAny_bind (RZ.nextOf_tuple_item ht hl hx fun h1 t1 b1 => ?_)))
  replace b1 : Heap.SameBut it h0 h1 := b1
  have e1 : IsEnum h1 e it i old := (b1.2 e ne).trans he
  show wpAny _ _ (field (.ref e) 3 >>= _) _ _ ⟨h1, gs, dr, tk, os⟩
  refine wpAny_bind (wpAny_field e1 rfl (x := rawInt i) rfl ?_)
  show wpAny _ _ (field (.ref e) 4 >>= _) _ _ ⟨h1, gs, dr, tk, os⟩
  refine wpAny_bind (wpAny_field e1 rfl (x := .none) rfl ?_)
  show wpAny _ _ (mkInt i >>= _) _ _ ⟨h1, gs, dr, tk, os⟩
  refine wpAny_bind (wpAny_mkInt ?_)
  show wpAny _ _ (setField (.ref e) 3 (rawInt ((i : Int) + 1)) >>= _) _ _ ⟨h1, gs, dr, tk + 1, os⟩
  refine wpAny_bind (wpAny_setField_rec e1 (by simp) fun h2 e2 b2 => ?_)
  replace b2 : Heap.SameBut e h1 h2 := b2
  replace e2 : IsEnum h2 e it ((i : Int) + 1) old := e2
  show wpAny _ _ (setField (.ref e) 4 .none >>= _) _ _ ⟨h2, gs, dr, tk + 1, os⟩
  refine wpAny_bind (wpAny_setField_rec e2 (by simp) fun h3 e3 b3 => ?_)
  replace b3 : Heap.SameBut e h2 h3 := b3
  replace e3 : IsEnum h3 e it ((i : Int) + 1) old := e3
  show wpAny _ _ (newTuple [.int i tk, x] >>= _) _ _ ⟨h3, gs, dr, tk + 1, os⟩
  refine wpAny_bind (wpAny_newTuple ?_)
  have e4 : IsEnum (h3.push { cls := .type "tuple", data := .seq #[.int i tk, x] }) e it ((i : Int) + 1) old := Heap.get?_push_of_some _ e3
  generalize q4 : h3.push { cls := .type "tuple", data := .seq #[.int i tk, x] } = h4 at e4
  have z3 : h3.objs.size = h0.objs.size := by rw [b3.1, b2.1, b1.1]
  have lte : e < h0.objs.size := Heap.lt_size he
  have nt4 : h4.get? h0.objs.size = some { cls := .type "tuple", data := .seq #[.int i tk, x] } := by
    rw [← q4, ← z3]
    exact Heap.get?_push_size _ rfl
  have z4 : h4.objs.size = h0.objs.size + 1 := by rw [← q4, Heap.size_push, z3]
  have k4 : ∀ b o, b ≠ e → b ≠ it → h0.get? b = some o → h4.get? b = some o := fun b o n1 n2 hb => by
    rw [← q4]
    exact Heap.get?_push_of_some _ (b3.extBut b o n1 (b2.extBut b o n1 (b1.extBut b o n2 hb)))
  have ti4 : h4.IsTupleIter it l (i + 1) := by
    rw [← q4]
    obtain ⟨o, ho, r⟩ := (t1.extBut b2.extBut (Ne.symm ne)).extBut b3.extBut (Ne.symm ne)
    exact ⟨o, Heap.get?_push_of_some _ ho, r⟩
  show wpAny _ _ (Builtin.SmallTypes.ownedTupleIsFree (.ref e) >>= _) _ _ ⟨h4, gs, dr, tk + 1, os⟩
  rw [z3]
  clear q4 e3 b3 e2 b2 e1 b1 t1 z3 h3 h2 h1
  refine wpAny_bind ?_
  unfold Builtin.SmallTypes.ownedTupleIsFree
  refine wpAny_bind (wpAny_field e4 rfl (x := .none) rfl (wpAny_pure ?_))
  simp only [if_true]
  refine wpAny_bind (wpAny_rule (wpAny_bind (wpAny_field e4 rfl (x := old) rfl (wpAny_bind (wpAny_setField_rec e4 (by simp) fun h5 e5 b5 => ?_)))))
  replace b5 : Heap.SameBut e h4 h5 := b5
  replace e5 : IsEnum h5 e it ((i : Int) + 1) x := e5
  show wpAny _ _ (Builtin.SmallTypes.ownedTupleHandOut (.ref e) (.ref h0.objs.size) >>= _) _ _ ⟨h5, gs, dr, tk + 1, os⟩
  refine wpAny_bind ?_
  unfold Builtin.SmallTypes.ownedTupleHandOut
  refine wpAny_bind (wpAny_setField_rec e5 (by simp) fun h6 e6 b6 => ?_)
  replace b6 : Heap.SameBut e h5 h6 := b6
  replace e6 : IsEnumOut h6 e it ((i : Int) + 1) x h0.objs.size := e6
  refine wpAny_setField_rec e6 (by simp) fun h7 e7 b7 => ?_
  replace b7 : Heap.SameBut e h6 h7 := b7
  replace e7 : IsEnumOut h7 e it ((i : Int) + 1) x h0.objs.size := e7
  refine wpAny_bind (wpAny_letGo (wpAny_pure ⟨_, rfl, hQ h7 e7 ?_ ?_ ?_ ?_⟩))
  · exact ((ti4.extBut b5.extBut (Ne.symm ne)).extBut b6.extBut (Ne.symm ne)).extBut b7.extBut (Ne.symm ne)
  · exact b7.extBut _ _ (Nat.ne_of_gt lte) (b6.extBut _ _ (Nat.ne_of_gt lte) (b5.extBut _ _ (Nat.ne_of_gt lte) nt4))
  · rw [b7.1, b6.1, b5.1, z4]
  · exact fun b o n1 n2 hb => b7.extBut b o n1 (b6.extBut b o n1 (b5.extBut b o n1 (k4 b o n1 n2 hb)))
theorem py_item {e it l : Addr} {i : Nat} {xs : Array Value} {x old : Value} {Q : Option Value → Shared → Prop} (he : IsEnum s.heap e it i old) (ht : s.heap.IsTupleIter it l i) (hl : s.heap.IsTuple l xs) (hx : xs[i]? = some x) (ne : e ≠ it)
    (hQ : ∀ h', IsEnumOut h' e it ((i : Int) + 1) x s.heap.objs.size → h'.IsTupleIter it l (i + 1) → h'.get? s.heap.objs.size = some { cls := .type "tuple", data := .seq #[.int i s.toks, x] } →
      h'.objs.size = s.heap.objs.size + 1 → (∀ b o, b ≠ e → b ≠ it → s.heap.get? b = some o → h'.get? b = some o) → Q (some (.ref s.heap.objs.size)) { s with heap := h', toks := s.toks + 1 }) :
    wpAny (model prog w) A (pyNext (.ref e)) Q E s := by
  have ty : s.TypeIs (.ref e) "enumerate" := ⟨_, he, rfl⟩
  unfold pyNext
  exact wpAny_bind (wpAny_attempt (wpAny_callSpecial?_slot (name := Str.ofString "__next__") ty F.slot_enumerate_next (wpAny_call_entry F.slot_enumerate_next ty F.entry_enumerate_next
    (next_item he ht hl hx ne fun h' a b c d k => wpAny_pure (hQ h' a b c d k)) (F.args_enumerate_next_1 _))))
theorem py_end {e it l : Addr} {i : Nat} {xs : Array Value} {old : Value} {Q : Option Value → Shared → Prop} (hh : A.handled = none) (he : IsEnum s.heap e it i old) (ht : s.heap.IsTupleIter it l i) (hl : s.heap.IsTuple l xs) (hx : xs[i]? = none)
    (hQ : ∀ h', Heap.ExtBut it s.heap h' → Q none { s with heap := h' }) : wpAny (model prog w) A (pyNext (.ref e)) Q E s := by
  have ty : s.TypeIs (.ref e) "enumerate" := ⟨_, he, rfl⟩
  unfold pyNext
  refine wpAny_bind (wpAny_attempt (wpAny_callSpecial?_slot (name := Str.ofString "__next__") ty F.slot_enumerate_next (wpAny_call_entry F.slot_enumerate_next ty F.entry_enumerate_next ?_ (F.args_enumerate_next_1 _))))
  show wpAny _ _ (field (.ref e) 2 >>= _) _ _ _
  refine wpAny_bind (wpAny_field he rfl (x := .ref it) rfl (wpAny_bind (RZ.nextOf_tuple_end hh ht hl hx fun h' x b' hx' => ?_)))
  obtain ⟨o, ho, hc⟩ := hx'
  exact wpAny_bind (wpAny_isInstance (T := "StopIteration") (b := true) ⟨o, ho, hc⟩ isSubtype_stop (wpAny_pure (hQ _ b')))
end
theorem meets_newT (l : Addr) (xs : Array Value) (n : Nat) (dc : Option Addr) (sl : Array (Option Value)) :
    Meets (Builtin.«enumerate.__new__» ⟨[.type "enumerate", .ref l], []⟩) (fun _ R s => s.heap.get? l = some { cls := .type "tuple", dict := dc, data := .seq xs n, slots := sl } ∧
      R (.ok (.ret (.ref (s.heap.push { cls := .type "tuple_iterator", data := .fields #[.ref l, .int 0 0] }).objs.size)))
        { s with heap := (s.heap.push { cls := .type "tuple_iterator", data := .fields #[.ref l, .int 0 0] }).push { cls := .type "enumerate", data := .fields #[.none, .bool false, .ref s.heap.objs.size, rawInt 0, .none, .none] } }) :=
  .of_wp fun prog w A R s h => by
    obtain ⟨h0, gs, dr, tk, os⟩ := s
    obtain ⟨hl, h⟩ := h
    have sub := sub_enumerate
    have ht : Heap.IsTuple (Shared.heap ⟨h0, gs, dr, tk, os⟩) l xs := ⟨_, hl, rfl, n, rfl⟩
    wp_walk using wpAny_loadPart' hl
    refine wpAny_stack_any fun st => wpAny_pure ?_
    split
    · rename_i c _ _ _ _ _
      cases (c == Value.type "enumerate")
      · wp_walk using wpAny_loadPart' hl, wpAny_pyIter_tuple ht
        exact ⟨_, rfl, h⟩
      · wp_walk using wpAny_loadPart' hl, wpAny_pyIter_tuple ht
        exact ⟨_, rfl, h⟩
    · wp_walk using wpAny_loadPart' hl, wpAny_pyIter_tuple ht
      exact ⟨_, rfl, h⟩
section
variable {prog : Program} {w : World} {A : Around} {E : Value → Shared → Prop} {s : Shared}
theorem call_T {l : Addr} {xs : Array Value} {Q : Value → Shared → Prop} (hT : s.heap.IsTuple l xs)
    (h : ∀ h', IsEnum h' (s.heap.objs.size + 1) s.heap.objs.size 0 .none → h'.IsTupleIter s.heap.objs.size l 0 → h'.objs.size = s.heap.objs.size + 2 → (∀ b o, s.heap.get? b = some o → h'.get? b = some o) → Q (.ref (s.heap.objs.size + 1)) { s with heap := h' }) :
    wpAny (model prog w) A (call (.type "enumerate") [.ref l]) Q E s := by
  obtain ⟨⟨c, dct, dt, sl⟩, hl, hc, n, hd⟩ := hT
  replace hc : c = .type "tuple" := hc
  replace hd : dt = .seq xs n := hd
  subst hc hd
  refine callType_new F.called_enumerate (by decide) (F.typeCall_enumerate_1 _) (F.newCall_enumerate_1 _) (fun obj => F.args_object_init_2 obj _) F.entry_enumerate_new (meets_newT l xs n dct sl) ⟨hl, ?_⟩
  have hz : (s.heap.push { cls := .type "tuple_iterator", data := .fields #[.ref l, .int 0 0] }).objs.size = s.heap.objs.size + 1 := Heap.size_push ..
  show _ ∧ _
  rw [hz]
  have he : IsEnum ((s.heap.push { cls := .type "tuple_iterator", data := .fields #[.ref l, .int 0 0] }).push { cls := .type "enumerate", data := .fields #[.none, .bool false, .ref s.heap.objs.size, rawInt 0, .none, .none] }) (s.heap.objs.size + 1) s.heap.objs.size 0 .none := by
    have := Heap.get?_push_size (s.heap.push { cls := .type "tuple_iterator", data := .fields #[.ref l, .int 0 0] }) (o := { cls := .type "enumerate", data := .fields #[.none, .bool false, .ref s.heap.objs.size, rawInt 0, .none, .none] }) rfl
    rw [hz] at this
    exact this
  exact ⟨⟨_, he, rfl⟩, h _ he ⟨_, Heap.get?_push_of_some _ (Heap.get?_push_size _ rfl), rfl, rfl⟩ (by rw [Heap.size_push, hz]) fun b o x => Heap.get?_push_of_some _ (Heap.get?_push_of_some _ x)⟩
end
/-- the tuple at a, each item in a new pair -/
def IteT (K : PySem.W.Frag) (a : Addr) : It :=
  ⟨fun i H => ∃ (xs : List V) (x : V), SqT K H a xs ∧ xs[i]? = some x, fun i H v H' => ∃ T x, v = .ref T ∧ H T = none ∧ H' = upd H T (.tup [.int (i : Nat), x]) ∧ ∀ xs, SqT K H a xs → xs[i]? = some x, fun i H => ∃ xs : List V, SqT K H a xs ∧ xs.length ≤ i⟩
theorem turn_T {P : Program} {w : World} {K : PySem.W.Frag} {elts : List Expr} {kk : Nat} {tpos : Pos} (a e it : Addr) :
    Turn P w K (.Tuple elts kk tpos) (IteT K a) [e, it] e (fun i h => (∃ old, IsEnum h e it ((i : Nat) : Int) old) ∧ h.IsTupleIter it a i ∧ e ≠ it) where
  mem := by simp
  obj := fun i h st b hb => by
    obtain ⟨⟨old, he⟩, ⟨o, ho, hc, hd⟩, _⟩ := st
    rcases (show b = e ∨ b = it by simpa using hb) with z | z
    · rw [z]
      exact ⟨_, he, fun v q => nomatch q⟩
    · rw [z]
      exact ⟨o, ho, fun v q => by rw [hd] at q; cases q⟩
  keep := fun i h h' st k => let ⟨⟨old, he⟩, hi, hne⟩ := st; ⟨⟨old, k e (by simp) _ he⟩, hi.at fun o q => k it (by simp) o q, hne⟩
  item := by
    intro X hP hw hK hc i pins s σ H E I hf st hg
    subst hP hw hK
    obtain ⟨⟨old, he⟩, hit, hne⟩ := st
    obtain ⟨xs, x, hq, hx⟩ := hg
    obtain ⟨its, rv, p, hz⟩ := I.tuple hq
    obtain ⟨u, hu, ru⟩ := rv.get hx
    have lte : e < s.heap.objs.size := Heap.lt_size he
    have lti : it < s.heap.objs.size := by
      obtain ⟨_, q, _⟩ := hit
      exact Heap.lt_size q
    refine py_item he hit p (x := u) (by simpa using hu) hne fun h' ho hit' hT hsz hk => ⟨_, rfl, wpAny_letOwnedTupleGo_enum (s := { s with heap := h', toks := s.toks + 1 }) ho fun h'' he' sb => ?_⟩
    have hT2 : h''.get? s.heap.objs.size = some { cls := .type "tuple", data := .seq #[.int i s.toks, u] } := (sb.2 _ (Nat.ne_of_gt lte)).trans hT
    have new : ObjOk X.prog X.w (upd H s.heap.objs.size (.tup [.int (i : Nat), x])) h'' s.heap.objs.size (.tup [.int (i : Nat), x]) :=
      ⟨by show 2 ≤ sizeLine; decide, [.int i s.toks, u], .cons ⟨_, rfl⟩ (.cons ru .nil), ⟨_, hT2, rfl, _, rfl⟩⟩
    have I1 : Inv X pins σ (upd H s.heap.objs.size (.tup [.int (i : Nat), x])) { s with heap := h'', toks := s.toks + 1 } :=
      I.turnedNew (ch := [e, it]) (fun b ob hb q => (sb.2 b (fun z => hb (by simp [z]))).trans (hk b ob (fun z => hb (by simp [z])) (fun z => hb (by simp [z])) q)) hf (Nat.le_refl _) new
    refine ⟨.ref s.heap.objs.size, _, I1, rfl, ⟨_, x, rfl, I.hok.fresh (Nat.le_refl _), rfl, fun ys hy => by rw [I.tuple_inj hy hq]; exact hx⟩, ⟨⟨u, ?_⟩, hit'.at fun o q => (sb.2 it (Ne.symm hne)).trans q, hne⟩, fun b hb => ?_⟩
    · rw [show ((i + 1 : Nat) : Int) = (i : Int) + 1 by omega]
      exact he'
    · have hb' : b < s.heap.objs.size := by
        rcases (show b = e ∨ b = it by simpa using hb) with z | z
        · rw [z]
          exact lte
        · rw [z]
          exact lti
      rw [upd_ne (Nat.ne_of_lt hb')]
      exact (hf b hb).1
  done := by
    intro X hP hw hK hc i pins s σ H E I hf st hg
    subst hP hw hK
    obtain ⟨⟨old, he⟩, hit, hne⟩ := st
    obtain ⟨xs, hq, hx⟩ := hg
    obtain ⟨its, rv, p, hz⟩ := I.tuple hq
    obtain ⟨f0, f1, f2, f3, f4, f5⟩ := hf it (by simp)
    have hl := rv.length
    exact py_end (I.ok.hd hc) he hit p (by simp; omega) fun h' eb => ⟨rfl, I.turned (t' := s.toks) (fun b o hb q => eb b o hb q) f0 f1 f3 f4 f5⟩
  self := fun A i s Q E st h => let ⟨⟨_, he⟩, _⟩ := st; wpAny_pyIter_enum he h
def iEnumA (K : PySem.W.Frag) (ta : TA) : TI := fun σ H R => ta σ H fun vs H1 => ∃ a xs, vs = [.ref a] ∧ ((SqL K H1 a xs ∧ R (Ite K a) H1) ∨ (SqT K H1 a xs ∧ R (IteT K a) H1))
theorem pi_enumA {X : Cx} {e : Expr} {ta : TA} {p pos tpos : Pos} {elts : List Expr} {kk : Nat} (hg : Gl X "enumerate") (hm : X.mg "enumerate" = none) (ha : PA X [e] ta) (hs : starEach [e] X.env = [(false, eval e X.env)]) :
    PI X (.Tuple elts kk tpos) (.Call (.Name "enumerate" p) [e] [] pos) (iEnumA X.K ta) := by
  refine ⟨fun pins s σ H R I h => ?_⟩
  refine Call_ (ld_blt I hg hm boot_enumerate (PyProof.Rows.callWith_type1 (thn (ha.run pos pins s σ H _ I h) fun us s1 ⟨vs, H1, I1, r1, q1⟩ => ?_) hs rfl))
  obtain ⟨a, xs, ex, q1⟩ := q1
  subst ex
  cases r1 with
  | cons r rr =>
    cases rr
    cases r
    have fr : ∀ b, b ∈ [s1.heap.objs.size + 1, s1.heap.objs.size] → FpOk X pins H1 b := fun b hb => by
      have hle : s1.heap.objs.size ≤ b := by
        rcases (show b = s1.heap.objs.size + 1 ∨ b = s1.heap.objs.size by simpa using hb) with z | z <;> omega
      exact I1.fpOk hle (I1.hok.fresh hle)
    rcases q1 with ⟨hq, q⟩ | ⟨hq, q⟩
    · obtain ⟨its, rv, p', hz⟩ := I1.list hq
      refine call_enumerate_list p'.isList fun h' he hit hsz hk => wpAny_pyIter_enum he ?_
      have I2 : Inv X pins σ H1 { s1 with heap := h' } := I1.kept (t' := s1.toks) hk
      exact ⟨s1.heap.objs.size + 1, [s1.heap.objs.size + 1, s1.heap.objs.size], _, _, H1, rfl, I2, turn_enum a (s1.heap.objs.size + 1) s1.heap.objs.size, ⟨⟨.none, he⟩, hit, Nat.succ_ne_self _⟩, fr, q⟩
    · obtain ⟨its, rv, p', hz⟩ := I1.tuple hq
      refine call_T p' fun h' he hit hsz hk => wpAny_pyIter_enum he ?_
      have I2 : Inv X pins σ H1 { s1 with heap := h' } := I1.kept (t' := s1.toks) hk
      exact ⟨s1.heap.objs.size + 1, [s1.heap.objs.size + 1, s1.heap.objs.size], _, _, H1, rfl, I2, turn_T a (s1.heap.objs.size + 1) s1.heap.objs.size, ⟨⟨.none, he⟩, hit, Nat.succ_ne_self _⟩, fr, q⟩
end Z.Et
end

section
set_option Elab.async false
set_option autoImplicit false
set_option linter.all false
set_option maxRecDepth 100000
set_option maxHeartbeats 4000000
/-! zip(.., .., strict=True) of lists and tuples, as the library has zip of lists. -/
namespace Z.Zs
open PySem PySem.Spec PyProof.Rows L2
open PySem.Sem (wp)
/-- an iterator of a tuple (true), of a list (false) -/
def SIt (t : Bool) (h : Heap) (it l : Addr) (k : Nat) : Prop := match t with
  | true => h.IsTupleIter it l k
  | false => h.IsListIter it l k
def SSq (t : Bool) (h : Heap) (l : Addr) (xs : Array Value) : Prop := match t with
  | true => h.IsTuple l xs
  | false => h.IsList l xs
theorem SIt.extBut {t : Bool} {h h' : Heap} {a b l : Addr} {i : Nat} (x : SIt t h a l i) (hs : Heap.ExtBut b h h') (ne : a ≠ b) : SIt t h' a l i := by
  cases t
  · exact Heap.IsListIter.extBut x hs ne
  · exact Heap.IsTupleIter.extBut x hs ne
theorem SSq.extBut {t : Bool} {h h' : Heap} {a b : Addr} {xs : Array Value} (x : SSq t h a xs) (hs : Heap.ExtBut b h h') (ne : a ≠ b) : SSq t h' a xs := by
  cases t
  · exact Heap.IsList.extBut x hs ne
  · exact Heap.IsTuple.extBut x hs ne
theorem SIt.at_ {t : Bool} {h h' : Heap} {a l : Addr} {i : Nat} (x : SIt t h a l i) (e : ∀ o, h.get? a = some o → h'.get? a = some o) : SIt t h' a l i := by
  cases t
  · exact Heap.IsListIter.at x e
  · exact Heap.IsTupleIter.at x e
theorem SIt.some {t : Bool} {h : Heap} {a l : Addr} {i : Nat} (x : SIt t h a l i) : ∃ o c, h.get? a = some o ∧ o.data = .fields c := by
  cases t
  · obtain ⟨o, ho, hc, hd⟩ := (show h.IsListIter a l i from x)
    exact ⟨o, _, ho, hd⟩
  · obtain ⟨o, ho, hc, hd⟩ := (show h.IsTupleIter a l i from x)
    exact ⟨o, _, ho, hd⟩
abbrev IsZ (h : Heap) (z TI TO : Addr) (f0 : Value) : Prop :=
  h.get? z = some { cls := .type "zip", dict := none, data := .fields #[f0, .bool false, .bool true, .ref TI, .ref TO], slots := #[] }
section
variable {prog : Program} {w : World} {A : Around} {E : Value → Shared → Prop} {s : Shared}
theorem nx_item {t : Bool} {it l : Addr} {i : Nat} {items : Array Value} {x : Value} {Q : Option Value → Shared → Prop} (hit : SIt t s.heap it l i) (hl : SSq t s.heap l items) (hx : items[i]? = some x)
    (hQ : ∀ h', SIt t h' it l (i + 1) → Heap.SameBut it s.heap h' → Q (some x) { s with heap := h' }) : wpAny (model prog w) A (Builtin.SmallTypes.nextOrEnd (.ref it)) Q E s := by
  unfold Builtin.SmallTypes.nextOrEnd
  cases t
  · exact wpAny_bind (wpAny_attempt (wpAny_nextOf_list_item hit hl hx fun h' a b => wpAny_pure (hQ h' a b)))
  · exact wpAny_bind (wpAny_attempt (RZ.nextOf_tuple_item hit hl hx fun h' a b => wpAny_pure (hQ h' a b)))
theorem nx_end {t : Bool} {it l : Addr} {i : Nat} {items : Array Value} {Q : Option Value → Shared → Prop} (hh : A.handled = none) (hit : SIt t s.heap it l i) (hl : SSq t s.heap l items) (hx : items[i]? = none)
    (hQ : ∀ h', Heap.ExtBut it s.heap h' → Q none { s with heap := h' }) : wpAny (model prog w) A (Builtin.SmallTypes.nextOrEnd (.ref it)) Q E s := by
  unfold Builtin.SmallTypes.nextOrEnd
  cases t
  · refine wpAny_bind (wpAny_attempt (wpAny_nextOf_list_end hh hit hl hx fun h' e b he => ?_))
    obtain ⟨o, ho, hc⟩ := he
    refine wpAny_bind (wpAny_isInstance (T := "StopIteration") (b := true) ⟨o, ho, hc⟩ isSubtype_stop ?_)
    exact wpAny_pure (hQ _ b)
  · refine wpAny_bind (wpAny_attempt (RZ.nextOf_tuple_end hh hit hl hx fun h' e b he => ?_))
    obtain ⟨o, ho, hc⟩ := he
    refine wpAny_bind (wpAny_isInstance (T := "StopIteration") (b := true) ⟨o, ho, hc⟩ isSubtype_stop ?_)
    exact wpAny_pure (hQ _ b)
theorem next_item {ta tb : Bool} {z TI TO i1 i2 l1 l2 : Addr} {k1 k2 : Nat} {xs ys : Array Value} {x y a b : Value} {Q : Value → Shared → Prop} (D : ZipApart z TI TO i1 i2 l1 l2)
    (hz : IsZ s.heap z TI TO .none) (hTI : IsPair s.heap TI (.ref i1) (.ref i2)) (hTO : IsPair s.heap TO a b)
    (h1 : SIt ta s.heap i1 l1 k1) (h2 : SIt tb s.heap i2 l2 k2) (hl1 : SSq ta s.heap l1 xs) (hl2 : SSq tb s.heap l2 ys) (hx : xs[k1]? = some x) (hy : ys[k2]? = some y)
    (hQ : ∀ h', IsZ h' z TI TO (rawInt s.heap.objs.size) → IsPair h' TO x y → SIt ta h' i1 l1 (k1 + 1) → SIt tb h' i2 l2 (k2 + 1) → IsPair h' s.heap.objs.size x y → h'.objs.size = s.heap.objs.size + 1 →
      (∀ c o, c ≠ z → c ≠ TO → c ≠ i1 → c ≠ i2 → s.heap.get? c = some o → h'.get? c = some o) → Q (.ref s.heap.objs.size) { s with heap := h' }) :
    wpAny (model prog w) A (Builtin.«zip.__next__» ⟨[.ref z], []⟩) (fun fin s' => ∃ v, fin = .done (.ret v) ∧ Q v s') E s := by
  show wpAny _ _ (field (.ref z) 2 >>= _) _ _ _
  refine wpAny_bind (wpAny_field hz rfl (x := .bool true) rfl ?_)
  show wpAny _ _ (field (.ref z) 3 >>= _) _ _ _
  refine wpAny_bind (wpAny_field hz rfl (x := .ref TI) rfl ?_)
  refine wpAny_bind (wpAny_seqItems hTI rfl ?_)
  show wpAny _ _ (Builtin.SmallTypes.ownedTupleIsFree (.ref z) >>= _) _ _ _
  refine wpAny_bind ?_
  unfold Builtin.SmallTypes.ownedTupleIsFree
  refine wpAny_bind (wpAny_field hz rfl (x := .none) rfl (wpAny_pure ?_))
  simp only [if_true]
  refine wpAny_bind (wpAny_rule ?_)
  refine wpAny_bind (wpAny_field hz rfl (x := .ref TO) rfl ?_)
  refine wpAny_bind (wpAny_setField_rec hz (by simp) fun h₁ hz₁ hs₁ => ?_)
  replace hz₁ : IsZ h₁ z TI TO .ellipsis := hz₁
  refine wpAny_bind ?_
  simp only [List.zipIdx_cons, List.zipIdx_nil, List.forIn_cons, List.forIn_nil]
  refine wpAny_bind (wpAny_bind (wpAny_onRaise ?_))
  show wpAny _ _ (Builtin.SmallTypes.nextOrEnd (.ref i1)) _ _ _
  refine nx_item (h1.extBut hs₁.extBut D.i1z) (hl1.extBut hs₁.extBut D.l1z) hx fun h₂ h1₂ hs₂ => ?_
  have hTO₂ : IsPair h₂ TO a b := hs₂.extBut _ _ D.TOi1 (hs₁.extBut _ _ D.TOz hTO)
  refine wpAny_bind (wpAny_seqItems hTO₂ rfl ?_)
  refine wpAny_bind (wpAny_updateSeq_pair hTO₂ fun h₃ hTO₃ hs₃ => ?_)
  replace hTO₃ : IsPair h₃ TO x b := hTO₃
  refine wpAny_bind (wpAny_letGo (wpAny_pure ?_))
  refine wpAny_bind (wpAny_bind (wpAny_onRaise ?_))
  show wpAny _ _ (Builtin.SmallTypes.nextOrEnd (.ref i2)) _ _ _
  refine nx_item (((h2.extBut hs₁.extBut D.i2z).extBut hs₂.extBut D.i12.symm).extBut hs₃.extBut D.TOi2.symm)
    (((hl2.extBut hs₁.extBut D.l2z).extBut hs₂.extBut D.l2i1).extBut hs₃.extBut D.l2TO) hy fun h₄ h2₄ hs₄ => ?_
  have hTO₄ : IsPair h₄ TO x b := hs₄.extBut _ _ D.TOi2 hTO₃
  refine wpAny_bind (wpAny_seqItems hTO₄ rfl ?_)
  refine wpAny_bind (wpAny_updateSeq_pair hTO₄ fun h₅ hTO₅ hs₅ => ?_)
  replace hTO₅ : IsPair h₅ TO x y := hTO₅
  refine wpAny_bind (wpAny_letGo (wpAny_pure (wpAny_pure ?_)))
  refine wpAny_bind (wpAny_seqItems hTO₅ rfl ?_)
  refine wpAny_bind (wpAny_newTuple ?_)
  have hsz : h₅.objs.size = s.heap.objs.size := by rw [hs₅.1, hs₄.1, hs₃.1, hs₂.1, hs₁.1]
  have hz₅ : IsZ h₅ z TI TO .ellipsis := hs₅.extBut _ _ D.TOz.symm (hs₄.extBut _ _ D.i2z.symm (hs₃.extBut _ _ D.TOz.symm (hs₂.extBut _ _ D.i1z.symm hz₁)))
  have hk₅ : ∀ c o, c ≠ z → c ≠ TO → c ≠ i1 → c ≠ i2 → s.heap.get? c = some o → h₅.get? c = some o := fun c o c1 c2 c3 c4 e =>
    hs₅.extBut _ _ c2 (hs₄.extBut _ _ c4 (hs₃.extBut _ _ c2 (hs₂.extBut _ _ c3 (hs₁.extBut _ _ c1 e))))
  have h1₅ : SIt ta h₅ i1 l1 (k1 + 1) := ((h1₂.extBut hs₃.extBut D.TOi1.symm).extBut hs₄.extBut D.i12).extBut hs₅.extBut D.TOi1.symm
  have h2₅ : SIt tb h₅ i2 l2 (k2 + 1) := h2₄.extBut hs₅.extBut D.TOi2.symm
  have hzlt : z < h₅.objs.size := Heap.lt_size hz₅
  have hTOlt : TO < h₅.objs.size := Heap.lt_size hTO₅
  show wpAny _ _ (Builtin.SmallTypes.ownedTupleHandOut (.ref z) (.ref h₅.objs.size) >>= _) _ _ _
  refine wpAny_bind ?_
  unfold Builtin.SmallTypes.ownedTupleHandOut
  have hz₆ : IsZ (h₅.push { cls := .type "tuple", data := .seq #[x, y] }) z TI TO .ellipsis := Heap.get?_push_of_some _ hz₅
  refine wpAny_bind (wpAny_setField_rec hz₆ (by simp) fun h₇ hz₇ hs₇ => ?_)
  replace hz₇ : IsZ h₇ z TI TO (rawInt h₅.objs.size) := hz₇
  refine wpAny_setField_rec hz₇ (by simp) fun h₈ hz₈ hs₈ => ?_
  replace hz₈ : IsZ h₈ z TI TO (rawInt h₅.objs.size) := hz₈
  have up : ∀ c o, c ≠ z → h₅.get? c = some o → h₈.get? c = some o := fun c o c1 e => hs₈.extBut _ _ c1 (hs₇.extBut _ _ c1 (Heap.get?_push_of_some _ e))
  have hT₈ : IsPair h₈ h₅.objs.size x y := hs₈.extBut _ _ (Nat.ne_of_gt hzlt) (hs₇.extBut _ _ (Nat.ne_of_gt hzlt) (Heap.get?_push_size _ rfl))
  have hz8 : h₈.objs.size = h₅.objs.size + 1 := by rw [hs₈.1, hs₇.1, Heap.size_push]
  rw [hsz] at hz₈ hT₈ hz8
  refine wpAny_pure ⟨_, rfl, ?_⟩
  show Q (.ref h₅.objs.size) _
  rw [hsz]
  exact hQ h₈ hz₈ (up _ _ D.TOz hTO₅) (h1₅.at_ fun o e => up _ o D.i1z e) (h2₅.at_ fun o e => up _ o D.i2z e) hT₈ hz8 fun c o c1 c2 c3 c4 e => up c o c1 (hk₅ c o c1 c2 c3 c4 e)
theorem next_end {ta tb : Bool} {z TI TO i1 i2 l1 l2 : Addr} {k1 k2 : Nat} {xs ys : Array Value} {a b : Value} {Q : PySem.Fin → Shared → Prop} (hh : A.handled = none) (D : ZipApart z TI TO i1 i2 l1 l2)
    (hz : IsZ s.heap z TI TO .none) (hTI : IsPair s.heap TI (.ref i1) (.ref i2)) (hTO : IsPair s.heap TO a b)
    (h1 : SIt ta s.heap i1 l1 k1) (h2 : SIt tb s.heap i2 l2 k2) (hl1 : SSq ta s.heap l1 xs) (hl2 : SSq tb s.heap l2 ys) (hx : xs[k1]? = none) (hy : ys[k2]? = none)
    (hE : ∀ h' e, (∀ c o, c ≠ z → c ≠ TO → c ≠ i1 → c ≠ i2 → s.heap.get? c = some o → h'.get? c = some o) → (∃ o, h'.get? e = some o ∧ o.cls = .type "StopIteration") → E (.ref e) { s with heap := h' }) :
    wpAny (model prog w) A (Builtin.«zip.__next__» ⟨[.ref z], []⟩) Q E s := by
  show wpAny _ _ (field (.ref z) 2 >>= _) _ _ _
  refine wpAny_bind (wpAny_field hz rfl (x := .bool true) rfl ?_)
  show wpAny _ _ (field (.ref z) 3 >>= _) _ _ _
  refine wpAny_bind (wpAny_field hz rfl (x := .ref TI) rfl ?_)
  refine wpAny_bind (wpAny_seqItems hTI rfl ?_)
  show wpAny _ _ (Builtin.SmallTypes.ownedTupleIsFree (.ref z) >>= _) _ _ _
  refine wpAny_bind ?_
  unfold Builtin.SmallTypes.ownedTupleIsFree
  refine wpAny_bind (wpAny_field hz rfl (x := .none) rfl (wpAny_pure ?_))
  simp only [if_true]
  refine wpAny_bind (wpAny_rule ?_)
  refine wpAny_bind (wpAny_field hz rfl (x := .ref TO) rfl ?_)
  refine wpAny_bind (wpAny_setField_rec hz (by simp) fun h₁ hz₁ hs₁ => ?_)
  replace hz₁ : IsZ h₁ z TI TO .ellipsis := hz₁
  refine wpAny_bind ?_
  simp only [List.zipIdx_cons, List.zipIdx_nil, List.forIn_cons, List.forIn_nil]
  refine wpAny_bind (wpAny_bind (wpAny_onRaise ?_))
  show wpAny _ _ (Builtin.SmallTypes.nextOrEnd (.ref i1)) _ _ _
  refine nx_end hh (h1.extBut hs₁.extBut D.i1z) (hl1.extBut hs₁.extBut D.l1z) hx fun h₂ b₂ => ?_
  have hz₂ : IsZ h₂ z TI TO .ellipsis := b₂ _ _ D.i1z.symm hz₁
  refine wpAny_bind (wpAny_setField_rec hz₂ (by simp) fun h₃ hz₃ hs₃ => ?_)
  refine wpAny_bind ?_
  have h2₃ : SIt tb h₃ i2 l2 k2 := ((h2.extBut hs₁.extBut D.i2z).extBut b₂ D.i12.symm).extBut hs₃.extBut D.i2z
  have hl₃ : SSq tb h₃ l2 ys := ((hl2.extBut hs₁.extBut D.l2z).extBut b₂ D.l2i1).extBut hs₃.extBut D.l2z
  have k₃ : ∀ c o, c ≠ z → c ≠ i1 → s.heap.get? c = some o → h₃.get? c = some o := fun c o c1 c3 x => hs₃.extBut _ _ c1 (b₂ _ _ c3 (hs₁.extBut _ _ c1 x))
  show wpAny _ _ (forIn [(Value.ref i2, 1)] PUnit.unit _ >>= _) _ _ _
  refine wpAny_bind ?_
  simp only [List.forIn_cons, List.forIn_nil]
  refine wpAny_bind (wpAny_bind (nx_end hh h2₃ hl₃ hy fun h₄ b₄ => ?_))
  simp only [Option.isSome_none, Bool.false_eq_true, if_false]
  refine wpAny_pure (wpAny_pure (wpAny_bind (wpAny_rule ?_)))
  show wpAny _ _ (newExc (.type "StopIteration") [] >>= _) _ _ _
  refine wpAny_bind ?_
  simp only [newExc, newTuple]
  refine wpAny_bind (wpAny_newObj_type ?_ (by size_fits))
  refine wpAny_bind (m := firstArgMember _ _) (wpAny_of_eq (a := Value.none) (by first | rfl | (simp only [firstArgMember]; rfl)) ?_)
  refine wpAny_newObj_type ?_ (by size_fits)
  simp only [raiseNew]
  refine wpAny_bind (wpAny_handled ?_)
  first | rw [show A.in1.handled = none from hh] | rw [hh]
  refine wpAny_bind (wpAny_pure (wpAny_throw ?_))
  exact hE _ _ (fun c o c1 c2 c3 c4 e => Heap.get?_push_of_some _ (Heap.get?_push_of_some _ (b₄ _ _ c4 (k₃ c o c1 c3 e)))) ⟨_, Heap.get?_push_size _ rfl, rfl⟩
theorem py_item {ta tb : Bool} {z TI TO i1 i2 l1 l2 : Addr} {k1 k2 : Nat} {xs ys : Array Value} {x y a b : Value} {Q : Option Value → Shared → Prop} (D : ZipApart z TI TO i1 i2 l1 l2)
    (hz : IsZ s.heap z TI TO .none) (hTI : IsPair s.heap TI (.ref i1) (.ref i2)) (hTO : IsPair s.heap TO a b)
    (h1 : SIt ta s.heap i1 l1 k1) (h2 : SIt tb s.heap i2 l2 k2) (hl1 : SSq ta s.heap l1 xs) (hl2 : SSq tb s.heap l2 ys) (hx : xs[k1]? = some x) (hy : ys[k2]? = some y)
    (hQ : ∀ h', IsZ h' z TI TO (rawInt s.heap.objs.size) → IsPair h' TO x y → SIt ta h' i1 l1 (k1 + 1) → SIt tb h' i2 l2 (k2 + 1) → IsPair h' s.heap.objs.size x y → h'.objs.size = s.heap.objs.size + 1 →
      (∀ c o, c ≠ z → c ≠ TO → c ≠ i1 → c ≠ i2 → s.heap.get? c = some o → h'.get? c = some o) → Q (some (.ref s.heap.objs.size)) { s with heap := h' }) :
    wpAny (model prog w) A (pyNext (.ref z)) Q E s := by
  have hT : s.TypeIs (.ref z) "zip" := ⟨_, hz, rfl⟩
  unfold pyNext
  exact wpAny_bind (wpAny_attempt (wpAny_callSpecial?_slot (name := Str.ofString "__next__") hT F.slot_zip_next
    (wpAny_call_entry F.slot_zip_next hT F.entry_zip_next
      (next_item D hz hTI hTO h1 h2 hl1 hl2 hx hy fun h' a1 a2 a3 a4 a5 a6 a7 => wpAny_pure (hQ h' a1 a2 a3 a4 a5 a6 a7)) (F.args_zip_next_1 _))))
theorem py_end {ta tb : Bool} {z TI TO i1 i2 l1 l2 : Addr} {k1 k2 : Nat} {xs ys : Array Value} {a b : Value} {Q : Option Value → Shared → Prop} (hh : A.handled = none) (D : ZipApart z TI TO i1 i2 l1 l2)
    (hz : IsZ s.heap z TI TO .none) (hTI : IsPair s.heap TI (.ref i1) (.ref i2)) (hTO : IsPair s.heap TO a b)
    (h1 : SIt ta s.heap i1 l1 k1) (h2 : SIt tb s.heap i2 l2 k2) (hl1 : SSq ta s.heap l1 xs) (hl2 : SSq tb s.heap l2 ys) (hx : xs[k1]? = none) (hy : ys[k2]? = none)
    (hQ : ∀ h', (∀ c o, c ≠ z → c ≠ TO → c ≠ i1 → c ≠ i2 → s.heap.get? c = some o → h'.get? c = some o) → Q none { s with heap := h' }) : wpAny (model prog w) A (pyNext (.ref z)) Q E s := by
  have hT : s.TypeIs (.ref z) "zip" := ⟨_, hz, rfl⟩
  unfold pyNext
  refine wpAny_bind (wpAny_attempt (wpAny_callSpecial?_slot (name := Str.ofString "__next__") hT F.slot_zip_next
    (wpAny_call_entry F.slot_zip_next hT F.entry_zip_next (next_end hh D hz hTI hTO h1 h2 hl1 hl2 hx hy fun h' e hk he => ?_) (F.args_zip_next_1 _))))
  obtain ⟨o, ho, hc⟩ := he
  refine wpAny_bind (wpAny_isInstance (T := "StopIteration") (b := true) ⟨o, ho, hc⟩ isSubtype_stop ?_)
  exact wpAny_pure (hQ _ hk)
theorem let_go {elts : List Expr} {x1 : Nat} {pos : Pos} {z TI TO T : Addr} {Q : Unit → Shared → Prop} (hz : IsZ s.heap z TI TO (rawInt T))
    (hQ : ∀ h', IsZ h' z TI TO .none → Heap.SameBut z s.heap h' → Q () { s with heap := h' }) :
    wpAny (model prog w) A (letOwnedTupleGo (.Tuple elts x1 pos) (.ref z) (.ref T)) Q E s := by
  unfold letOwnedTupleGo
  refine wpAny_bind (wpAny_load hz ?_)
  show wpAny _ _ (if (["enumerate", "zip", "dict_itemiterator", "dict_reverseitemiterator", "odict_iterator", "itertools.zip_longest", "itertools.pairwise"].contains "zip" &&
      (#[rawInt T, .bool false, .bool true, .ref TI, .ref TO] : Array Value)[0]? == some (rawInt T)) = true then _ else _) Q E s
  rw [if_pos (by simp)]
  refine wpAny_bind (wpAny_rule ?_)
  show wpAny _ _ (setField (.ref z) 0 .none) Q E s
  exact wpAny_setField_rec hz (by simp) fun h' hz' hs' => hQ h' hz' hs'
theorem py_iter {z TI TO : Addr} {f0 : Value} {Q : Value → Shared → Prop} (hz : IsZ s.heap z TI TO f0) (h : Q (.ref z) s) : wpAny (model prog w) A (pyIter (.ref z)) Q E s := by
  have hT : s.TypeIs (.ref z) "zip" := ⟨_, hz, rfl⟩
  refine wpAny_pyIter_slot hT F.slot_zip_iter (wpAny_call_entry F.slot_zip_iter hT F.entry_zip_iter ?_ (F.args_zip_iter_1 _))
  show wpAny _ _ (ret (.ref z)) _ _ s
  exact wpAny_pure ⟨_, rfl, "zip", _, hT, F.slot_zip_next.lookup, h⟩
end
/-! ### its making -/
def itO (t : Bool) (l : Addr) : Obj := { cls := .type (if t then "tuple_iterator" else "list_iterator"), data := .fields #[.ref l, .int 0 0] }
abbrev zH1 (ta : Bool) (h : Heap) (l1 : Addr) : Heap := h.push (itO ta l1)
abbrev zH2 (ta tb : Bool) (h : Heap) (l1 l2 : Addr) : Heap := (zH1 ta h l1).push (itO tb l2)
abbrev zH3 (ta tb : Bool) (h : Heap) (l1 l2 : Addr) : Heap := (zH2 ta tb h l1 l2).push { cls := .type "tuple", data := .seq #[.ref h.objs.size, .ref (zH1 ta h l1).objs.size] }
abbrev zH4 (ta tb : Bool) (h : Heap) (l1 l2 : Addr) : Heap := (zH3 ta tb h l1 l2).push { cls := .type "tuple", data := .seq #[.none, .none] }
abbrev zH5 (ta tb : Bool) (h : Heap) (l1 l2 : Addr) : Heap := (zH4 ta tb h l1 l2).push { cls := .type "zip", data := .fields #[.none, .bool false, .bool true, .ref (zH2 ta tb h l1 l2).objs.size, .ref (zH3 ta tb h l1 l2).objs.size] }
theorem typeCall_s (a b c : Value) : checkTypeCall "zip" ⟨[a, b], [(Str.ofString "strict", c)]⟩ = pure () := by kernel_rfl
theorem newCall_s (a b c : Value) : checkBuiltinCall "zip.__new__" ⟨[.type "zip", a, b], [(Str.ofString "strict", c)]⟩ = pure () := by kernel_rfl
theorem args_s (obj a b c : Value) : argsOk "object.__init__" ⟨[obj, a, b], [(Str.ofString "strict", c)]⟩ := by unfold argsOk; kernel_rfl
theorem SSq.push {t : Bool} {h : Heap} {a : Addr} {xs : Array Value} (x : SSq t h a xs) (o : Obj) : SSq t (h.push o) a xs := by
  cases t
  · exact Heap.IsList.push x o
  · exact Heap.IsTuple.push x o
theorem iter_of {t : Bool} {prog : Program} {w : World} {A : Around} {E : Value → Shared → Prop} {s : Shared} {l : Addr} {xs : Array Value} {Q : Value → Shared → Prop} (hl : SSq t s.heap l xs)
    (h : Q (.ref s.heap.objs.size) { s with heap := s.heap.push (itO t l) }) : wpAny (model prog w) A (pyIter (.ref l)) Q E s := by
  cases t
  · exact wpAny_pyIter_list (show s.heap.IsList l xs from hl) h
  · exact wpAny_pyIter_tuple (show s.heap.IsTuple l xs from hl) h
theorem meets_new (ta tb : Bool) (l1 l2 : Addr) (xs ys : Array Value) :
    Meets (Builtin.«zip.__new__» ⟨[.type "zip", .ref l1, .ref l2], [(Str.ofString "strict", .bool true)]⟩) (fun _ R s => SSq ta s.heap l1 xs ∧ SSq tb s.heap l2 ys ∧
      R (.ok (.ret (.ref (zH4 ta tb s.heap l1 l2).objs.size))) { s with heap := zH5 ta tb s.heap l1 l2 }) :=
  .of_wp fun prog w A R s h => by
    obtain ⟨hp, g, d, tk, os⟩ := s; obtain ⟨hl1, hl2, h⟩ := h
    have hsub := sub_zip
    have hL1 : SSq ta (Shared.heap ⟨hp, g, d, tk, os⟩) l1 xs := hl1
    have hL2 : SSq tb (Shared.heap ⟨hp.push (itO ta l1), g, d, tk, os⟩) l2 ys := SSq.push hl2 _
    have e1 : (Str.ofString "strict" != ("strict" : Str)) = false := by decide +kernel
    wp_walk using iter_of hL1, iter_of hL2
    exact ⟨_, rfl, h⟩
end Z.Zs
namespace Z.Zs
open PySem PySem.Spec PyProof.Rows L2
section
variable {prog : Program} {w : World} {A : Around} {E : Value → Shared → Prop} {s : Shared}
theorem call_s {ta tb : Bool} {l1 l2 : Addr} {xs ys : Array Value} {Q : Value → Shared → Prop} (hl1 : SSq ta s.heap l1 xs) (hl2 : SSq tb s.heap l2 ys)
    (h : ∀ h', IsZ h' (s.heap.objs.size + 4) (s.heap.objs.size + 2) (s.heap.objs.size + 3) .none → IsPair h' (s.heap.objs.size + 2) (.ref s.heap.objs.size) (.ref (s.heap.objs.size + 1)) →
      IsPair h' (s.heap.objs.size + 3) .none .none → SIt ta h' s.heap.objs.size l1 0 → SIt tb h' (s.heap.objs.size + 1) l2 0 → h'.objs.size = s.heap.objs.size + 5 →
      (∀ c o, s.heap.get? c = some o → h'.get? c = some o) → Q (.ref (s.heap.objs.size + 4)) { s with heap := h' }) :
    wpAny (model prog w) A (call (.type "zip") [.ref l1, .ref l2] [(Str.ofString "strict", .bool true)]) Q E s := by
  refine callType_newKw F.called_zip (by decide) (typeCall_s _ _ _) (newCall_s _ _ _) (fun obj => args_s obj _ _ _) F.entry_zip_new
    (meets_new ta tb l1 l2 xs ys) ⟨hl1, hl2, ?_⟩
  have z1 : (zH1 ta s.heap l1).objs.size = s.heap.objs.size + 1 := Heap.size_push ..
  have z2 : (zH2 ta tb s.heap l1 l2).objs.size = s.heap.objs.size + 2 := by rw [Heap.size_push, z1]
  have z3 : (zH3 ta tb s.heap l1 l2).objs.size = s.heap.objs.size + 3 := by rw [Heap.size_push, z2]
  have z4 : (zH4 ta tb s.heap l1 l2).objs.size = s.heap.objs.size + 4 := by rw [Heap.size_push, z3]
  have z5 : (zH5 ta tb s.heap l1 l2).objs.size = s.heap.objs.size + 5 := by rw [Heap.size_push, z4]
  have ff : ∀ (t : Bool) (l : Addr), (itO t l).isFreed = false := fun t l => by cases t <;> rfl
  have g5 : (zH5 ta tb s.heap l1 l2).get? (zH4 ta tb s.heap l1 l2).objs.size = some _ := Heap.get?_push_size _ rfl
  have g4 : (zH5 ta tb s.heap l1 l2).get? (zH3 ta tb s.heap l1 l2).objs.size = some _ := Heap.get?_push_of_some _ (Heap.get?_push_size _ rfl)
  have g3 : (zH5 ta tb s.heap l1 l2).get? (zH2 ta tb s.heap l1 l2).objs.size = some _ := Heap.get?_push_of_some _ (Heap.get?_push_of_some _ (Heap.get?_push_size _ rfl))
  have g2 : (zH5 ta tb s.heap l1 l2).get? (zH1 ta s.heap l1).objs.size = some (itO tb l2) := Heap.get?_push_of_some _ (Heap.get?_push_of_some _ (Heap.get?_push_of_some _ (Heap.get?_push_size _ (ff tb l2))))
  have g1 : (zH5 ta tb s.heap l1 l2).get? s.heap.objs.size = some (itO ta l1) := Heap.get?_push_of_some _ (Heap.get?_push_of_some _ (Heap.get?_push_of_some _ (Heap.get?_push_of_some _ (Heap.get?_push_size _ (ff ta l1)))))
  show _ ∧ _
  rw [z2, z3, z4] at g5
  rw [z1, z2] at g3
  rw [z3] at g4
  rw [z1] at g2
  rw [z4]
  have mk : ∀ (t : Bool) (h : Heap) (a l : Addr), h.get? a = some (itO t l) → SIt t h a l 0 := fun t h a l e => by
    cases t
    · exact ⟨_, e, rfl, rfl⟩
    · exact ⟨_, e, rfl, rfl⟩
  exact ⟨⟨_, g5, rfl⟩, h _ g5 g3 g4 (mk _ _ _ _ g1) (mk _ _ _ _ g2) z5 fun c o x =>
    Heap.get?_push_of_some _ (Heap.get?_push_of_some _ (Heap.get?_push_of_some _ (Heap.get?_push_of_some _ (Heap.get?_push_of_some _ x))))⟩
end
section
variable {M : Model} {A : Around} {E : Value → Shared → Prop} {s : Shared} {env : Env}
theorem callWith_type_kw {pos : Pos} {T : String} {first : List Value} {args : List (Bool × Sem Value)} {keywords : List (Option Str × Sem Value)} {Q : Value → Shared → Prop}
    (hplain : args.any (·.1) = false) (hkw : keywords.any (·.1.isNone) = false)
    (h : wpAny M A (evalArgs (.type T) true args keywords) (fun a s₁ => wpAny M A (call (.type T) (first ++ a.pos) a.kw) Q E s₁) E s) :
    wpAny M A (callWith pos (.type T) first args keywords) Q E s := by
  unfold callWith
  refine wpAny_bind (wpAny_holding (wpAny_mono h (fun a s₁ h₁ => wpAny_bind (wpAny_standAt ?_)) fun _ _ x => x))
  simp only [hplain, hkw, Bool.or_false]
  refine wpAny_bind (wpAny_pure ?_)
  exact wpAny_bind (wpAny_mono h₁ (fun r s₂ hr => wpAny_bind (wpAny_holding (wpAny_point (wpAny_pure hr)))) fun _ _ x => x)
end
/-! ### in the layer -/
def SqB (t : Bool) (K : PySem.W.Frag) (H : Hp) (a : Addr) (xs : List V) : Prop := match t with
  | true => SqT K H a xs
  | false => SqL K H a xs
theorem SqB.laid {X : Cx} {pins : List (Addr × Obj)} {σ : L2.St} {H : Hp} {s : Shared} {t : Bool} {a : Addr} {xs : List V} (I : Inv X pins σ H s) (h : SqB t X.K H a xs) :
    ∃ its : List Value, Vals xs its ∧ SSq t s.heap a its.toArray ∧ a < s.heap.objs.size := by
  cases t
  · obtain ⟨its, rv, p, _⟩ := I.list h
    exact ⟨its, rv, p.isList, p.lt⟩
  · obtain ⟨its, rv, p, _⟩ := I.tuple h
    obtain ⟨o, ho, _⟩ := id p
    exact ⟨its, rv, p, Heap.lt_size ho⟩
theorem SqB.inj {X : Cx} {pins : List (Addr × Obj)} {σ : L2.St} {H : Hp} {s : Shared} {t : Bool} {a : Addr} {xs ys : List V} (I : Inv X pins σ H s) (h : SqB t X.K H a xs) (h' : SqB t X.K H a ys) : xs = ys := by
  cases t
  · exact I.list_inj h h'
  · exact I.tuple_inj h h'
def ItzS (ta tb : Bool) (K : PySem.W.Frag) (a b : Addr) : It :=
  ⟨fun i H => ∃ (xs ys : List V) (x y : V), SqB ta K H a xs ∧ SqB tb K H b ys ∧ xs[i]? = some x ∧ ys[i]? = some y,
    fun i H v H' => ∃ T x y, v = .ref T ∧ H T = none ∧ H' = upd H T (.tup [x, y]) ∧ (∀ xs, SqB ta K H a xs → xs[i]? = some x) ∧ ∀ ys, SqB tb K H b ys → ys[i]? = some y,
    fun i H => ∃ xs ys : List V, SqB ta K H a xs ∧ SqB tb K H b ys ∧ xs.length ≤ i ∧ ys.length ≤ i⟩
theorem turn_s {P : Program} {w : World} {K : PySem.W.Frag} {elts : List Expr} {kk : Nat} {tpos : Pos} {ta tb : Bool} {a b z TI TO i1 i2 : Addr} (D : ZipApart z TI TO i1 i2 a b) :
    Turn P w K (.Tuple elts kk tpos) (ItzS ta tb K a b) [z, TI, TO, i1, i2] z (fun i h => IsZ h z TI TO .none ∧ IsPair h TI (.ref i1) (.ref i2) ∧ (∃ x y, IsPair h TO x y) ∧ SIt ta h i1 a i ∧ SIt tb h i2 b i) where
  mem := by simp
  obj := fun i h st c hc => by
    obtain ⟨hz, hTI, ⟨x, y, hTO⟩, q1, q2⟩ := st
    obtain ⟨o1, c1, e1, d1⟩ := q1.some
    obtain ⟨o2, c2, e2, d2⟩ := q2.some
    have e' : c = z ∨ c = TI ∨ c = TO ∨ c = i1 ∨ c = i2 := by simpa using hc
    rcases e' with q | q | q | q | q
    · rw [q]; exact ⟨_, hz, fun v q => nomatch q⟩
    · rw [q]; exact ⟨_, hTI, fun v q => nomatch q⟩
    · rw [q]; exact ⟨_, hTO, fun v q => nomatch q⟩
    · rw [q]; exact ⟨o1, e1, fun v q => by rw [d1] at q; cases q⟩
    · rw [q]; exact ⟨o2, e2, fun v q => by rw [d2] at q; cases q⟩
  keep := fun i h h' st k => by
    obtain ⟨hz, hTI, ⟨x, y, hTO⟩, h1, h2⟩ := st
    exact ⟨k z (by simp) _ hz, k TI (by simp) _ hTI, ⟨x, y, k TO (by simp) _ hTO⟩, h1.at_ fun o q => k i1 (by simp) o q, h2.at_ fun o q => k i2 (by simp) o q⟩
  item := by
    intro X hP hw hK hc i pins s σ H E I hf st hg
    subst hP hw hK
    obtain ⟨hz, hTI, ⟨x0, y0, hTO⟩, h1, h2⟩ := st
    obtain ⟨xs, ys, x, y, hqx, hqy, hx, hy⟩ := hg
    obtain ⟨its, rv, p, _⟩ := hqx.laid I
    obtain ⟨its2, rv2, p2, _⟩ := hqy.laid I
    obtain ⟨u, hu, ru⟩ := rv.get hx
    obtain ⟨u2, hu2, ru2⟩ := rv2.get hy
    have hzl : z < s.heap.objs.size := Heap.lt_size hz
    refine py_item D hz hTI hTO h1 h2 p p2 (x := u) (y := u2) (by simpa using hu) (by simpa using hu2) fun h' z' TO' h1' h2' hT hsz hk => ?_
    refine ⟨_, rfl, let_go (s := { s with heap := h' }) z' fun h'' z'' sb => ?_⟩
    have hT2 : h''.get? s.heap.objs.size = some { cls := .type "tuple", data := .seq #[u, u2] } := (sb.2 _ (Nat.ne_of_gt hzl)).trans hT
    have new : ObjOk X.prog X.w (upd H s.heap.objs.size (.tup [x, y])) h'' s.heap.objs.size (.tup [x, y]) :=
      ⟨by show 2 ≤ sizeLine; decide, [u, u2], .cons ru (.cons ru2 .nil), ⟨_, hT2, rfl, _, rfl⟩⟩
    have I1 : Inv X pins σ (upd H s.heap.objs.size (.tup [x, y])) { s with heap := h'' } :=
      I.turnedNew (t' := s.toks) (ch := [z, TI, TO, i1, i2]) (fun c o hb q => (sb.2 c (fun q' => hb (by simp [q']))).trans (hk c o (fun q' => hb (by simp [q'])) (fun q' => hb (by simp [q'])) (fun q' => hb (by simp [q'])) (fun q' => hb (by simp [q'])) q)) hf (Nat.le_refl _) new
    refine ⟨.ref s.heap.objs.size, _, I1, rfl, ⟨_, x, y, rfl, I.hok.fresh (Nat.le_refl _), rfl, fun l hl => by rw [hl.inj I hqx]; exact hx, fun l hl => by rw [hl.inj I hqy]; exact hy⟩, ⟨z'', ?_, ⟨u, u2, ?_⟩, ?_, ?_⟩, fun c hcm => ?_⟩
    · exact (sb.2 _ D.TIz).trans (hk _ _ D.TIz D.TITO D.TIi1 D.TIi2 hTI)
    · exact (sb.2 _ D.TOz).trans TO'
    · exact h1'.at_ fun o q => (sb.2 _ D.i1z).trans q
    · exact h2'.at_ fun o q => (sb.2 _ D.i2z).trans q
    · have hlt : c < s.heap.objs.size := by
        have e' : c = z ∨ c = TI ∨ c = TO ∨ c = i1 ∨ c = i2 := by simpa using hcm
        rcases e' with q | q | q | q | q
        · rw [q]; exact hzl
        · rw [q]; exact Heap.lt_size hTI
        · rw [q]; exact Heap.lt_size hTO
        · rw [q]; obtain ⟨_, _, e1, _⟩ := h1.some; exact Heap.lt_size e1
        · rw [q]; obtain ⟨_, _, e2, _⟩ := h2.some; exact Heap.lt_size e2
      rw [upd_ne (Nat.ne_of_lt hlt)]
      exact (hf c hcm).1
  done := by
    intro X hP hw hK hc i pins s σ H E I hf st hg
    subst hP hw hK
    obtain ⟨hz, hTI, ⟨x0, y0, hTO⟩, h1, h2⟩ := st
    obtain ⟨xs, ys, hqx, hqy, e1, e2⟩ := hg
    obtain ⟨its, rv, p, _⟩ := hqx.laid I
    obtain ⟨its2, rv2, p2, _⟩ := hqy.laid I
    have l1 := rv.length
    have l2 := rv2.length
    exact py_end (I.ok.hd hc) D hz hTI hTO h1 h2 p p2 (by simp; omega) (by simp; omega) fun h' hk => ⟨rfl, I.turnedL (t' := s.toks) (ch := [z, TI, TO, i1, i2]) (fun c o hb q =>
      hk c o (fun q' => hb (by simp [q'])) (fun q' => hb (by simp [q'])) (fun q' => hb (by simp [q'])) (fun q' => hb (by simp [q'])) q) hf⟩
  self := fun A i s Q E st h => py_iter st.1 h
def iZipS (K : PySem.W.Frag) (t : TA) : TI := fun σ H R => t σ H fun vs H1 => ∃ ta tb a b xs ys, vs = [.ref a, .ref b] ∧ SqB ta K H1 a xs ∧ SqB tb K H1 b ys ∧ R (ItzS ta tb K a b) H1
theorem pi_zipS {X : Cx} {e e2 : Expr} {t : TA} {p pos tpos kp cp : Pos} {elts : List Expr} {kk cj : Nat} (hg : Gl X "zip") (hm : X.mg "zip" = none) (ha : PA X [e, e2] t)
    (hs : starEach [e, e2] X.env = (false, eval e X.env) :: starEach [e2] X.env := by rfl) (hpl : (backTo pos (starEach [e, e2] X.env)).any (·.1) = false := by rfl) :
    PI X (.Tuple elts kk tpos) (.Call (.Name "zip" p) [e, e2] [⟨some "strict", .Constant (.bool true) cj cp, kp⟩] pos) (iZipS X.K t) := by
  refine ⟨fun pins s σ H R I h => ?_⟩
  refine wpAny_Call_Name_kw (ld_blt I hg hm PyProof.Rows.boot_zip ?_)
  refine callWith_type_kw hpl rfl ?_
  refine evalArgs_kw2 rfl (thn (ha.run pos pins s σ H _ I h) fun us s1 ⟨vs, H1, I1, r1, q1⟩ => ?_) (by rw [hs])
  refine PyProof.Rows.kwAll_cons (Constant_bool (PyProof.Rows.kwAll_nil ?_))
  obtain ⟨ta, tb, a, b, xs, ys, ex, hqx, hqy, q⟩ := q1
  subst ex
  cases r1 with
  | cons r rr =>
    cases rr with
    | cons r' rr =>
      cases rr
      cases r
      cases r'
      have fresh5 : ∀ c, c ∈ [s1.heap.objs.size + 4, s1.heap.objs.size + 2, s1.heap.objs.size + 3, s1.heap.objs.size, s1.heap.objs.size + 1] → FpOk X pins H1 c := fun c hcm => by
        have e' : c = s1.heap.objs.size + 4 ∨ c = s1.heap.objs.size + 2 ∨ c = s1.heap.objs.size + 3 ∨ c = s1.heap.objs.size ∨ c = s1.heap.objs.size + 1 := by simpa using hcm
        have hle : s1.heap.objs.size ≤ c := by
          rcases e' with z | z | z | z | z
          · rw [z]; exact Nat.le_add_right _ _
          · rw [z]; exact Nat.le_add_right _ _
          · rw [z]; exact Nat.le_add_right _ _
          · rw [z]; exact Nat.le_refl _
          · rw [z]; exact Nat.le_add_right _ _
        exact I1.fpOk hle (I1.hok.fresh hle)
      obtain ⟨its, rv, p1, lt1⟩ := hqx.laid I1
      obtain ⟨its2, rv2, p2, lt2⟩ := hqy.laid I1
      refine call_s p1 p2 fun h' hz hTI hTO h1 h2 hsz hk => py_iter hz ?_
      have I2 : Inv X pins σ H1 { s1 with heap := h' } := I1.kept (t' := s1.toks) hk
      exact ⟨s1.heap.objs.size + 4, [s1.heap.objs.size + 4, s1.heap.objs.size + 2, s1.heap.objs.size + 3, s1.heap.objs.size, s1.heap.objs.size + 1], _, _, H1, rfl, I2, turn_s (PySem.W.ktu_apart s1.heap.objs.size a b lt1 lt2), ⟨hz, hTI, ⟨_, _, hTO⟩, h1, h2⟩, fresh5, q⟩
end Z.Zs
end

section
set_option Elab.async false
set_option autoImplicit false
set_option linter.all false
set_option maxRecDepth 100000
set_option maxHeartbeats 1000000
/-! Readings of expressions that come to trees. -/
namespace Z
open PySem PySem.Spec PyProof.Rows L2

theorem _root_.L2.PE.weak {X : Cx} {e : Expr} {t t' : TE} (h : PE X e t) (w : ∀ σ H Q, t' σ H Q → t σ H Q) : PE X e t' := ⟨fun pins s σ H Q I q => h.run pins s σ H Q I (w σ H Q q)⟩
theorem _root_.L2.PT.weak {X : Cx} {e : Expr} {t t' : TT} (h : PT X e t) (w : ∀ σ H Q, t' σ H Q → t σ H Q) : PT X e t' := ⟨fun pins s σ H Q I q => h.run pins s σ H Q I (w σ H Q q)⟩
theorem _root_.L2.PA.weak {X : Cx} {e : List Expr} {t t' : TA} (h : PA X e t) (w : ∀ σ H Q, t' σ H Q → t σ H Q) : PA X e t' := ⟨fun pos pins s σ H Q I q => h.run pos pins s σ H Q I (w σ H Q q)⟩
theorem _root_.L2.PS.weak {X : Cx} {e : Stmt} {t t' : TS} (h : PS X e t) (w : ∀ D σ H, t' D σ H → t D σ H) : PS X e t' := ⟨fun pins s σ H D I q => h.run pins s σ H D I (w D σ H q)⟩
theorem _root_.L2.PSs.weak {X : Cx} {e : List Stmt} {t t' : TS} (h : PSs X e t) (w : ∀ D σ H, t' D σ H → t D σ H) : PSs X e t' := ⟨fun pins s σ H D I q => h.run pins s σ H D I (w D σ H q)⟩
theorem _root_.L2.PI.weak {X : Cx} {tg e : Expr} {t t' : TI} (h : PI X tg e t) (w : ∀ σ H Q, t' σ H Q → t σ H Q) : PI X tg e t' := ⟨fun pins s σ H Q I q => h.run pins s σ H Q I (w σ H Q q)⟩

/-- what follows an expression -/
def FinE (E : En) (As : List Addr) (bad : Addr → Prop) (H : Hp) (d : D) (o : Bool) (μ' : Mu) (Q : VK) : Prop :=
  ∀ v H' As' bad', CRel E As' bad' H' μ' → Ext As bad H As' bad' H' → RepO E H As' bad' H' v d o → Q v H'
def FinP (E : En) (As : List Addr) (bad : Addr → Prop) (H : Hp) (d : D) (μ' : Mu) (Q : VK) : Prop :=
  ∀ v H' As' bad', CRel E As' bad' H' μ' → Ext As bad H As' bad' H' → RepP E As' H' bad' v d → Q v H'
def FinR (E : En) (As : List Addr) (bad : Addr → Prop) (H : Hp) (d : D) (μ' : Mu) (Q : VK) : Prop :=
  ∀ v H' As' bad', CRel E As' bad' H' μ' → Ext As bad H As' bad' H' → Rep E As' H' bad' v d → Q v H'
def FinA (E : En) (As : List Addr) (bad : Addr → Prop) (H : Hp) (ds : List D) (μ' : Mu) (Q : List V → Hp → Prop) : Prop :=
  ∀ vs H' As' bad', CRel E As' bad' H' μ' → Ext As bad H As' bad' H' → Reps E As' H' bad' vs ds → Q vs H'
def FinQ (E : En) (As : List Addr) (bad : Addr → Prop) (H : Hp) (ds : List D) (μ' : Mu) (Q : List V → Hp → Prop) : Prop :=
  ∀ vs H' As' bad', CRel E As' bad' H' μ' → Ext As bad H As' bad' H' → RepsP E As' H' bad' vs ds → Q vs H'
/-- where an expression stands -/
structure At (E : En) (As : List Addr) (bad : Addr → Prop) (H : Hp) (μ : Mu) (σ : L2.St) (ρ : Rho) : Prop where
  c : CRel E As bad H μ
  s : ∃ H0, SRel E H0 As bad H σ ρ
/-- an expression's reading; as an operand; as a value handed on; a list of values; of operands -/
def rE (E : En) (f : Rho → Mu → RE) : TE := fun σ H Q => ∃ As bad μ ρ d o μ', At E As bad H μ σ ρ ∧ f ρ μ = some (d, o, μ') ∧ FinE E As bad H d o μ' Q
def rP (E : En) (f : Rho → Mu → Option (D × Mu)) : TE := fun σ H Q => ∃ As bad μ ρ d μ', At E As bad H μ σ ρ ∧ f ρ μ = some (d, μ') ∧ FinP E As bad H d μ' Q
def rR (E : En) (f : Rho → Mu → RE) : TE := fun σ H Q => ∃ As bad μ ρ d o μ', At E As bad H μ σ ρ ∧ f ρ μ = some (d, o, μ') ∧ FinR E As bad H d μ' Q
def rA (E : En) (f : Rho → Mu → Option (List D × Mu)) : TA := fun σ H Q => ∃ As bad μ ρ ds μ', At E As bad H μ σ ρ ∧ f ρ μ = some (ds, μ') ∧ FinA E As bad H ds μ' Q
def rQ (E : En) (f : Rho → Mu → Option (List D × Mu)) : TA := fun σ H Q => ∃ As bad μ ρ ds μ', At E As bad H μ σ ρ ∧ f ρ μ = some (ds, μ') ∧ FinQ E As bad H ds μ' Q
section
variable {E : En} {As As' As1 : List Addr} {H H' H1 : Hp} {bad bad' bad1 : Addr → Prop} {μ μ' μ1 : Mu} {σ : L2.St} {ρ : Rho} {v : V} {d : D} {o : Bool}
theorem At.ext (a : At E As bad H μ σ ρ) (c : CRel E As1 bad1 H1 μ1) (x : Ext As bad H As1 bad1 H1) : At E As1 bad1 H1 μ1 σ ρ := ⟨c, let ⟨H0, s⟩ := a.s; ⟨H0, s.ext x⟩⟩
theorem RepO.p (r : RepO E H As' bad' H' v d o) : RepP E As' H' bad' v d := by
  cases o with
  | false => exact .inl r
  | true =>
    obtain ⟨a, vs, ds, h1, h2, h3, h4, h5, h6, h7⟩ := r
    exact .inr ⟨a, vs, ds, h1, h2, h3, h4, h6⟩
/-- the freshness to an earlier heap -/
theorem RepO.back (x : Ext As bad H As1 bad1 H1) (y : Ext As1 bad1 H1 As' bad' H') (r : RepO E H1 As' bad' H' v d o) : RepO E H As' bad' H' v d o := by
  cases o with
  | false => exact r
  | true =>
    obtain ⟨a, vs, ds, h1, h2, h3, h4, h5, h6, h7⟩ := r
    refine ⟨a, vs, ds, h1, h2, h3, h4, h5, h6, ?_⟩
    cases q : H a with
    | none => rfl
    | some u =>
      have na : a ∉ As := fun m => by
        obtain ⟨e1, rfl⟩ := x.pre
        obtain ⟨e2, rfl⟩ := y.pre
        exact h6 (by simp [m])
      rw [x.all a u q na] at h7
      cases h7
theorem RepO.ext (r : RepO E H As1 bad1 H1 v d o) (y : Ext As1 bad1 H1 As' bad' H') : RepO E H As' bad' H' v d o := by
  cases o with
  | false => exact Rep.ext y r
  | true =>
    obtain ⟨a, vs, ds, h1, h2, h3, h4, h5, h6, h7⟩ := r
    refine ⟨a, vs, ds, h1, h2, y.all _ _ h3 h6, h4.ext y, y.bb _ h5, fun m => ?_, h7⟩
    have := y.fr a m h6
    rw [h3] at this
    cases this
theorem FinE.fin {Q : VK} (f : FinE E As bad H d o μ' Q) (x : Ext As bad H As1 bad1 H1) : Fin E As1 bad1 H1 μ' d o Q := fun v H' bad' c y r =>
  f v H' As1 bad' c (x.trans y) (r.back x y)
theorem FinE.later {Q : VK} (f : FinE E As bad H d o μ' Q) (x : Ext As bad H As1 bad1 H1) : FinE E As1 bad1 H1 d o μ' Q := fun v H' As' bad' c y r =>
  f v H' As' bad' c (x.trans y) (r.back x y)
theorem FinP.later {Q : VK} (f : FinP E As bad H d μ' Q) (x : Ext As bad H As1 bad1 H1) : FinP E As1 bad1 H1 d μ' Q := fun v H' As' bad' c y r =>
  f v H' As' bad' c (x.trans y) r
/-- a value as it is -/
theorem FinE.same {Q : VK} (f : FinE E As bad H d false μ Q) (c : CRel E As bad H μ) (r : Rep E As H bad v d) : Q v H := f v H As bad c c.ext0 r

/-! ### operands -/
variable {f : Rho → Mu → RE}
theorem w_p {σ : L2.St} {H : Hp} {Q : VK} : rP E (fun ρ μ => match f ρ μ with
    | some (d, _, μ1) => some (d, μ1)
    | none => none) σ H Q → rE E f σ H Q := by
  rintro ⟨As, bad, μ, ρ, d, μ', a, e, k⟩
  dsimp only at e
  cases q : f ρ μ with
  | none =>
    rw [q] at e
    cases e
  | some z =>
    obtain ⟨d', o, μ2⟩ := z
    rw [q] at e
    cases e
    exact ⟨As, bad, μ, ρ, d, o, μ', a, q, fun v H' As' bad' c x r => k v H' As' bad' c x r.p⟩
theorem w_r {σ : L2.St} {H : Hp} {Q : VK} : rR E f σ H Q → rE E f σ H Q := by
  rintro ⟨As, bad, μ, ρ, d, o, μ', a, e, k⟩
  refine ⟨As, bad, μ, ρ, d, o, μ', a, e, fun v H' As' bad' c x r => ?_⟩
  obtain ⟨bad2, c2, x2, r2⟩ := give a.c c x r
  exact k v H' As' bad2 c2 x2 r2
end

section
variable {X : Cx} {E : En} {e e1 e2 e3 : Expr} {f g h : Rho → Mu → RE} {fp gp hp : Rho → Mu → Option (D × Mu)} {pos : Pos}
theorem pe_p (he : PE X e (rE E f)) : PE X e (rP E (fun ρ μ => match f ρ μ with
    | some (d, _, μ1) => some (d, μ1)
    | none => none)) := he.weak fun _ _ _ => w_p
theorem pe_r (he : PE X e (rE E f)) : PE X e (rR E f) := he.weak fun _ _ _ => w_r
/-- a name, whatever its mark -/
theorem pe_pv {i : Nat} {x : Str} (hN : X.N[i]? = some x) (hv : Vis X.env.scope x) (hd : (x == ("__debug__" : Str)) = false) (hcd : (x == ("__classdict__" : Str)) = false) : PE X (.Name x pos) (rP E fun ρ μ => match peekD ρ i with
    | some d => some (d, μ)
    | none => none) := by
  refine (pe_var hN hv hd hcd).weak fun σ H Q => ?_
  rintro ⟨As, bad, μ, ρ, d, μ', a, e, k⟩
  obtain ⟨H0, s⟩ := a.s
  dsimp only at e
  cases q : peekD ρ i with
  | none =>
    rw [q] at e
    cases e
  | some d' =>
    rw [q] at e
    cases e
    unfold peekD at q
    cases q2 : ρ[i]? with
    | none =>
      rw [q2] at q
      cases q
    | some z =>
      rw [q2] at q
      cases z with
      | none => cases q
      | some z =>
        obtain ⟨d2, b⟩ := z
        cases q
        cases b with
        | false =>
          obtain ⟨v, h1, h2⟩ := s.val i _ q2
          exact ⟨v, h1, k v H As bad a.c a.c.ext0 (.inl h2)⟩
        | true =>
          obtain ⟨p, vs, ds, h0, h1, h2, h3, h4, h5, h6⟩ := s.own i _ q2
          exact ⟨.ref p, h1, k _ H As bad a.c a.c.ext0 (.inr ⟨p, vs, ds, rfl, h0, h2, h3, h5⟩)⟩
theorem pe_v {i : Nat} {x : Str} (hN : X.N[i]? = some x) (hv : Vis X.env.scope x) (hd : (x == ("__debug__" : Str)) = false) (hcd : (x == ("__classdict__" : Str)) = false) : PE X (.Name x pos) (rE E fun ρ μ => match ρ[i]? with
    | some (some (d, false)) => some (d, false, μ)
    | _ => none) := by
  refine (pe_var hN hv hd hcd).weak fun σ H Q => ?_
  rintro ⟨As, bad, μ, ρ, d, o, μ', a, e, k⟩
  obtain ⟨H0, s⟩ := a.s
  dsimp only at e
  split at e
  · rename_i d' q2
    cases e
    obtain ⟨v, h1, h2⟩ := s.val i _ q2
    exact ⟨v, h1, k.same a.c h2⟩
  · cases e
/-- a constant -/
theorem rep_scal {As : List Addr} {H : Hp} {bad : Addr → Prop} : ∀ {d : D}, scalar d = true → ∃ v, Rep E As H bad v d := by
  intro d h
  cases d with
  | non => exact ⟨_, .non⟩
  | bl b => exact ⟨_, .bl b⟩
  | int i => exact ⟨_, .int i⟩
  | str x => exact ⟨_, .str x⟩
  | _ => cases h
def scV : D → V
  | .bl b => .bl b
  | .int i => .int i
  | .str x => .str x
  | _ => .non
theorem rep_scV {As : List Addr} {H : Hp} {bad : Addr → Prop} {d : D} (h : scalar d = true) : Rep E As H bad (scV d) d := by
  cases d with
  | non => exact .non
  | bl b => exact .bl b
  | int i => exact .int i
  | str x => exact .str x
  | _ => cases h
theorem pe_cst {d : D} (h : PE X e (tC (scV d))) : PE X e (rE E fun _ μ => if scalar d then some (d, false, μ) else none) := by
  refine h.weak fun σ H Q => ?_
  rintro ⟨As, bad, μ, ρ, d', o, μ', a, e, k⟩
  dsimp only at e
  split at e
  · rename_i hs
    cases e
    exact k.same a.c (rep_scV hs)
  · cases e
theorem pe_con {v : V} {d : D} (h : PE X e (tC v)) (r : ∀ As H bad, Rep E As H bad v d) : PE X e (rE E fun _ μ => some (d, false, μ)) := by
  refine h.weak fun σ H Q => ?_
  rintro ⟨As, bad, μ, ρ, d', o, μ', a, e, k⟩
  cases e
  exact k.same a.c (r _ _ _)
/-- two operands and an operator -/
def fOp (r : D → D → Option (D × Bool)) (f g : Rho → Mu → Option (D × Mu)) : Rho → Mu → RE := fun ρ μ => match f ρ μ with
  | some (x, μ1) => (match g ρ μ1 with
    | some (y, μ2) => (match r x y with
      | some (z, w) => some (z, w, μ2)
      | none => none)
    | none => none)
  | none => none
theorem w_op {r : D → D → Option (D × Bool)} {σ : L2.St} {H : Hp} {Q : VK} : rE E (fOp r fp gp) σ H Q → tOp (rZ E r) (rP E fp) (rP E gp) σ H Q := by
  rintro ⟨As, bad, μ, ρ, d, o, μ', a, e, k⟩
  unfold fOp at e
  cases q1 : fp ρ μ with
  | none =>
    rw [q1] at e
    cases e
  | some z1 =>
    obtain ⟨x, μ1⟩ := z1
    rw [q1] at e
    dsimp only at e
    cases q2 : gp ρ μ1 with
    | none =>
      rw [q2] at e
      cases e
    | some z2 =>
      obtain ⟨y, μ2⟩ := z2
      rw [q2] at e
      dsimp only at e
      cases q3 : r x y with
      | none =>
        rw [q3] at e
        cases e
      | some z3 =>
        obtain ⟨z, w⟩ := z3
        rw [q3] at e
        cases e
        refine ⟨As, bad, μ, ρ, x, μ1, a, q1, fun v H1 As1 bad1 c1 x1 r1 => ?_⟩
        refine ⟨As1, bad1, μ1, ρ, y, _, a.ext c1 x1, q2, fun u H2 As2 bad2 c2 x2 r2 => ?_⟩
        exact ⟨As2, bad2, _, x, y, d, o, c2, r1.ext x2, r2, q3, k.fin (x1.trans x2)⟩
end
end Z
end

section
set_option Elab.async false
set_option autoImplicit false
set_option linter.all false
set_option maxRecDepth 100000
set_option maxHeartbeats 1000000
/-! Each kind of expression, over trees. -/
namespace Z
open PySem PySem.Spec PyProof.Rows L2

/-! ### what an expression of each kind comes to -/
def fTup (f : Rho → Mu → Option (List D × Mu)) : Rho → Mu → RE := fun ρ μ => match f ρ μ with
  | some (ds, μ1) => if ds.length ≤ sizeLine then some (.tup ds, false, μ1) else none
  | none => none
def fLst (f : Rho → Mu → Option (List D × Mu)) : Rho → Mu → RE := fun ρ μ => match f ρ μ with
  | some (ds, μ1) => if ds.length ≤ sizeLine then some (.lst ds, true, μ1) else none
  | none => none
def fNeg (f : Rho → Mu → RE) : Rho → Mu → RE := fun ρ μ => match f ρ μ with
  | some (.int i, _, μ1) => some (.int (-i), false, μ1)
  | _ => none
def fNot (f : Rho → Mu → RE) : Rho → Mu → RE := fun ρ μ => match f ρ μ with
  | some (.bl b, _, μ1) => some (.bl (!b), false, μ1)
  | _ => none
def fAnd (f g : Rho → Mu → RE) : Rho → Mu → RE := fun ρ μ => match f ρ μ with
  | some (.bl true, _, μ1) => g ρ μ1
  | some (.bl false, _, μ1) => some (.bl false, false, μ1)
  | _ => none
def fOr (f g : Rho → Mu → RE) : Rho → Mu → RE := fun ρ μ => match f ρ μ with
  | some (.bl true, _, μ1) => some (.bl true, false, μ1)
  | some (.bl false, _, μ1) => g ρ μ1
  | _ => none
def fIte (f g h : Rho → Mu → RE) : Rho → Mu → RE := fun ρ μ => match f ρ μ with
  | some (.bl true, _, μ1) => g ρ μ1
  | some (.bl false, _, μ1) => h ρ μ1
  | _ => none
def fChn (c c' : Cp) (f g h : Rho → Mu → Option (D × Mu)) : Rho → Mu → RE := fun ρ μ => match f ρ μ with
  | some (x, μ1) => (match g ρ μ1 with
    | some (y, μ2) => (match cpD c x y with
      | some true => (match h ρ μ2 with
        | some (z, μ3) => (match cpD c' y z with
          | some k => some (.bl k, false, μ3)
          | none => none)
        | none => none)
      | some false => some (.bl false, false, μ2)
      | none => none)
    | none => none)
  | none => none
def fCall (k : List D → Mu → RE) (f : Rho → Mu → Option (List D × Mu)) : Rho → Mu → RE := fun ρ μ => match f ρ μ with
  | some (ds, μ1) => k ds μ1
  | none => none
def fCallk (k : List D → Mu → RE) (pm : List Nat) (f g : Rho → Mu → Option (List D × Mu)) : Rho → Mu → RE := fun ρ μ => match f ρ μ with
  | some (ds, μ1) => (match g ρ μ1 with
    | some (ds2, μ2) => k (ds ++ pmL pm ds2) μ2
    | none => none)
  | none => none
def fBi (k : List D → Option (D × Bool)) (f : Rho → Mu → Option (List D × Mu)) : Rho → Mu → RE := fun ρ μ => match f ρ μ with
  | some (ds, μ1) => (match k ds with
    | some (z, w) => some (z, w, μ1)
    | none => none)
  | none => none
def fMd (k : D → List D → Option (D × Bool)) (f : Rho → Mu → Option (D × Mu)) (g : Rho → Mu → Option (List D × Mu)) : Rho → Mu → RE := fun ρ μ => match f ρ μ with
  | some (x, μ1) => (match g ρ μ1 with
    | some (ds, μ2) => (match k x ds with
      | some (z, w) => some (z, w, μ2)
      | none => none)
    | none => none)
  | none => none
def fIsi (t : String) (f : Rho → Mu → Option (D × Mu)) : Rho → Mu → RE := fun ρ μ => match f ρ μ with
  | some (x, μ1) => if plain1 x then some (.bl (isT t x), false, μ1) else none
  | none => none
def fSub (f g : Rho → Mu → Option (D × Mu)) : Rho → Mu → RE := fun ρ μ => match f ρ μ with
  | some (x, μ1) => (match g ρ μ1 with
    | some (y, μ2) => (match subC μ2 x y with
      | some d => some (d, false, μ2)
      | none => none)
    | none => none)
  | none => none
def fSlc (f : Rho → Mu → Option (D × Mu)) (g h : Rho → Mu → Option (Option Int × Mu)) : Rho → Mu → RE := fun ρ μ => match f ρ μ with
  | some (x, μ1) => (match g ρ μ1 with
    | some (l, μ2) => (match h ρ μ2 with
      | some (u, μ3) => (match slcD x l u with
        | some (z, w) => some (z, w, μ3)
        | none => none)
      | none => none)
    | none => none)
  | none => none
def fRev (f : Rho → Mu → Option (D × Mu)) : Rho → Mu → RE := fun ρ μ => match f ρ μ with
  | some (x, μ1) => (match revD x with
    | some (z, w) => some (z, w, μ1)
    | none => none)
  | none => none

/-- a test -/
def rTt (E : En) (f : Rho → Mu → RE) : TT := fun σ H Q => ∃ As bad μ ρ b o μ', At E As bad H μ σ ρ ∧ f ρ μ = some (.bl b, o, μ') ∧
  ∀ H' As' bad', CRel E As' bad' H' μ' → Ext As bad H As' bad' H' → Q b H'
section
variable {X : Cx} {E : En} {e e1 e2 e3 : Expr} {es : List Expr} {rest : List Expr} {f g h : Rho → Mu → RE} {fp gp hp : Rho → Mu → Option (D × Mu)} {fa : Rho → Mu → Option (List D × Mu)} {pos : Pos}
theorem repO_bl {H : Hp} {As' : List Addr} {bad' : Addr → Prop} {H' : Hp} {v : V} {b : Bool} : ∀ {o : Bool}, RepO E H As' bad' H' v (.bl b) o → v = .bl b
  | false, r => by
    cases r
    rfl
  | true, r => by
    obtain ⟨_, _, _, _, z, _⟩ := r
    cases z
theorem repO_int {H : Hp} {As' : List Addr} {bad' : Addr → Prop} {H' : Hp} {v : V} {i : Int} : ∀ {o : Bool}, RepO E H As' bad' H' v (.int i) o → v = .int i
  | false, r => by
    cases r
    rfl
  | true, r => by
    obtain ⟨_, _, _, _, z, _⟩ := r
    cases z
theorem w_test {σ : L2.St} {H : Hp} {Q : Bool → Hp → Prop} : rTt E f σ H Q → tB (rE E f) σ H Q := by
  rintro ⟨As, bad, μ, ρ, b, o, μ', a, e, k⟩
  exact ⟨As, bad, μ, ρ, _, o, μ', a, e, fun v H' As' bad' c x r => ⟨b, repO_bl r, k H' As' bad' c x⟩⟩
theorem pt_of (he : PE X e (rE E f)) (hp : ∀ whole, isTrue e X.env whole = (do let v ← whole; standAt e.pos; holding [v] (truthy v))) : PT X e (rTt E f) := (pt_val he hp).weak fun _ _ _ => w_test
/-! tests of tests -/
theorem w_tAnd {σ : L2.St} {H : Hp} {Q : Bool → Hp → Prop} : rTt E (fAnd f g) σ H Q → tAnd (rTt E f) (rTt E g) σ H Q := by
  rintro ⟨As, bad, μ, ρ, b, o, μ', a, e, k⟩
  unfold fAnd at e
  split at e
  · rename_i o1 μ1 q
    refine ⟨As, bad, μ, ρ, true, o1, μ1, a, q, fun H1 As1 bad1 c1 x1 => ?_⟩
    show rTt E g σ H1 Q
    exact ⟨As1, bad1, μ1, ρ, b, o, μ', a.ext c1 x1, e, fun H' As' bad' c x => k H' As' bad' c (x1.trans x)⟩
  · rename_i o1 μ1 q
    cases e
    refine ⟨As, bad, μ, ρ, false, o1, _, a, q, fun H1 As1 bad1 c1 x1 => ?_⟩
    show Q false H1
    exact k H1 As1 bad1 c1 x1
  · cases e
theorem w_tOr {σ : L2.St} {H : Hp} {Q : Bool → Hp → Prop} : rTt E (fOr f g) σ H Q → tOr (rTt E f) (rTt E g) σ H Q := by
  rintro ⟨As, bad, μ, ρ, b, o, μ', a, e, k⟩
  unfold fOr at e
  split at e
  · rename_i o1 μ1 q
    cases e
    refine ⟨As, bad, μ, ρ, true, o1, _, a, q, fun H1 As1 bad1 c1 x1 => ?_⟩
    show Q true H1
    exact k H1 As1 bad1 c1 x1
  · rename_i o1 μ1 q
    refine ⟨As, bad, μ, ρ, false, o1, μ1, a, q, fun H1 As1 bad1 c1 x1 => ?_⟩
    show rTt E g σ H1 Q
    exact ⟨As1, bad1, μ1, ρ, b, o, μ', a.ext c1 x1, e, fun H' As' bad' c x => k H' As' bad' c (x1.trans x)⟩
  · cases e
theorem w_tNot {σ : L2.St} {H : Hp} {Q : Bool → Hp → Prop} : rTt E (fNot f) σ H Q → tNot (rTt E f) σ H Q := by
  rintro ⟨As, bad, μ, ρ, b, o, μ', a, e, k⟩
  unfold fNot at e
  split at e
  · rename_i b1 o1 μ1 q
    cases e
    exact ⟨As, bad, μ, ρ, b1, o1, _, a, q, fun H1 As1 bad1 c1 x1 => k H1 As1 bad1 c1 x1⟩
  · cases e
theorem w_tIte {σ : L2.St} {H : Hp} {Q : VK} : rE E (fIte f g h) σ H Q → tIf (rTt E f) (rE E g) (rE E h) σ H Q := by
  rintro ⟨As, bad, μ, ρ, d, o, μ', a, e, k⟩
  unfold fIte at e
  split at e
  · rename_i o1 μ1 q
    refine ⟨As, bad, μ, ρ, true, o1, μ1, a, q, fun H1 As1 bad1 c1 x1 => ?_⟩
    show rE E g σ H1 Q
    exact ⟨As1, bad1, μ1, ρ, d, o, μ', a.ext c1 x1, e, k.later x1⟩
  · rename_i o1 μ1 q
    refine ⟨As, bad, μ, ρ, false, o1, μ1, a, q, fun H1 As1 bad1 c1 x1 => ?_⟩
    show rE E h σ H1 Q
    exact ⟨As1, bad1, μ1, ρ, d, o, μ', a.ext c1 x1, e, k.later x1⟩
  · cases e
/-! values -/
theorem w_and {σ : L2.St} {H : Hp} {Q : VK} : rE E (fAnd f g) σ H Q → tAndV (rE E f) (rE E g) σ H Q := by
  rintro ⟨As, bad, μ, ρ, d, o, μ', a, e, k⟩
  unfold fAnd at e
  split at e
  · rename_i o1 μ1 q
    refine ⟨As, bad, μ, ρ, _, o1, μ1, a, q, fun v H1 As1 bad1 c1 x1 r => ⟨true, repO_bl r, ?_⟩⟩
    rw [if_pos rfl]
    exact ⟨As1, bad1, μ1, ρ, d, o, μ', a.ext c1 x1, e, k.later x1⟩
  · rename_i o1 μ1 q
    cases e
    refine ⟨As, bad, μ, ρ, _, o1, _, a, q, fun v H1 As1 bad1 c1 x1 r => ⟨false, repO_bl r, ?_⟩⟩
    rw [if_neg (by decide)]
    exact k _ H1 As1 bad1 c1 x1 (.bl false)
  · cases e
theorem w_or {σ : L2.St} {H : Hp} {Q : VK} : rE E (fOr f g) σ H Q → tOrV (rE E f) (rE E g) σ H Q := by
  rintro ⟨As, bad, μ, ρ, d, o, μ', a, e, k⟩
  unfold fOr at e
  split at e
  · rename_i o1 μ1 q
    cases e
    refine ⟨As, bad, μ, ρ, _, o1, _, a, q, fun v H1 As1 bad1 c1 x1 r => ⟨true, repO_bl r, ?_⟩⟩
    rw [if_pos rfl]
    exact k _ H1 As1 bad1 c1 x1 (.bl true)
  · rename_i o1 μ1 q
    refine ⟨As, bad, μ, ρ, _, o1, μ1, a, q, fun v H1 As1 bad1 c1 x1 r => ⟨false, repO_bl r, ?_⟩⟩
    rw [if_neg (by decide)]
    exact ⟨As1, bad1, μ1, ρ, d, o, μ', a.ext c1 x1, e, k.later x1⟩
  · cases e
theorem w_not {σ : L2.St} {H : Hp} {Q : VK} : rE E (fNot f) σ H Q → tNotV (rE E f) σ H Q := by
  rintro ⟨As, bad, μ, ρ, d, o, μ', a, e, k⟩
  unfold fNot at e
  split at e
  · rename_i b1 o1 μ1 q
    cases e
    exact ⟨As, bad, μ, ρ, _, o1, _, a, q, fun v H1 As1 bad1 c1 x1 r => ⟨b1, repO_bl r, k _ H1 As1 bad1 c1 x1 (.bl _)⟩⟩
  · cases e
theorem w_neg {σ : L2.St} {H : Hp} {Q : VK} : rE E (fNeg f) σ H Q → tUn (rU fun i => .int (-i)) (rE E f) σ H Q := by
  rintro ⟨As, bad, μ, ρ, d, o, μ', a, e, k⟩
  unfold fNeg at e
  split at e
  · rename_i b1 o1 μ1 q
    cases e
    exact ⟨As, bad, μ, ρ, _, o1, _, a, q, fun v H1 As1 bad1 c1 x1 r => ⟨b1, repO_int r, k _ H1 As1 bad1 c1 x1 (.int _)⟩⟩
  · cases e
theorem w_tup {σ : L2.St} {H : Hp} {Q : VK} : rE E (fTup fa) σ H Q → tTup (rA E fa) σ H Q := by
  rintro ⟨As, bad, μ, ρ, d, o, μ', a, e, k⟩
  unfold fTup at e
  split at e
  · rename_i ds μ1 q
    split at e
    · rename_i hz
      cases e
      exact ⟨As, bad, μ, ρ, ds, _, a, q, fun vs H1 As1 bad1 c1 x1 r => ⟨by rw [r.length]; exact hz, (k.fin x1).tup c1 r⟩⟩
    · cases e
  · cases e
theorem w_lst {σ : L2.St} {H : Hp} {Q : VK} : rE E (fLst fa) σ H Q → tLst (rA E fa) σ H Q := by
  rintro ⟨As, bad, μ, ρ, d, o, μ', a, e, k⟩
  unfold fLst at e
  split at e
  · rename_i ds μ1 q
    split at e
    · rename_i hz
      cases e
      exact ⟨As, bad, μ, ρ, ds, _, a, q, fun vs H1 As1 bad1 c1 x1 r => ⟨by rw [r.length]; exact hz, (k.fin x1).lst c1 r⟩⟩
    · cases e
  · cases e
/-! lists of values -/
def fNil : Rho → Mu → Option (List D × Mu) := fun _ μ => some ([], μ)
def fCons (f : Rho → Mu → RE) (g : Rho → Mu → Option (List D × Mu)) : Rho → Mu → Option (List D × Mu) := fun ρ μ => match f ρ μ with
  | some (d, _, μ1) => (match g ρ μ1 with
    | some (ds, μ2) => some (d :: ds, μ2)
    | none => none)
  | none => none
def fConsP (f : Rho → Mu → Option (D × Mu)) (g : Rho → Mu → Option (List D × Mu)) : Rho → Mu → Option (List D × Mu) := fun ρ μ => match f ρ μ with
  | some (d, μ1) => (match g ρ μ1 with
    | some (ds, μ2) => some (d :: ds, μ2)
    | none => none)
  | none => none
theorem w_nil {σ : L2.St} {H : Hp} {Q : List V → Hp → Prop} : rA E fNil σ H Q → tNil σ H Q := by
  rintro ⟨As, bad, μ, ρ, ds, μ', a, e, k⟩
  cases e
  exact k [] H As bad a.c a.c.ext0 .nil
theorem w_nilQ {σ : L2.St} {H : Hp} {Q : List V → Hp → Prop} : rQ E fNil σ H Q → tNil σ H Q := by
  rintro ⟨As, bad, μ, ρ, ds, μ', a, e, k⟩
  cases e
  exact k [] H As bad a.c a.c.ext0 .nil
theorem w_cons {σ : L2.St} {H : Hp} {Q : List V → Hp → Prop} : rA E (fCons f fa) σ H Q → tCons (rR E f) (rA E fa) σ H Q := by
  rintro ⟨As, bad, μ, ρ, ds, μ', a, e, k⟩
  unfold fCons at e
  split at e
  · rename_i d o μ1 q
    split at e
    · rename_i ds μ2 q2
      cases e
      exact ⟨As, bad, μ, ρ, d, o, μ1, a, q, fun v H1 As1 bad1 c1 x1 r1 => ⟨As1, bad1, μ1, ρ, ds, _, a.ext c1 x1, q2, fun vs H2 As2 bad2 c2 x2 r2 => k _ H2 As2 bad2 c2 (x1.trans x2) (.cons (r1.ext x2) r2)⟩⟩
    · cases e
  · cases e
theorem w_consP {σ : L2.St} {H : Hp} {Q : List V → Hp → Prop} : rQ E (fConsP fp fa) σ H Q → tCons (rP E fp) (rQ E fa) σ H Q := by
  rintro ⟨As, bad, μ, ρ, ds, μ', a, e, k⟩
  unfold fConsP at e
  split at e
  · rename_i d μ1 q
    split at e
    · rename_i ds μ2 q2
      cases e
      exact ⟨As, bad, μ, ρ, d, μ1, a, q, fun v H1 As1 bad1 c1 x1 r1 => ⟨As1, bad1, μ1, ρ, ds, _, a.ext c1 x1, q2, fun vs H2 As2 bad2 c2 x2 r2 => k _ H2 As2 bad2 c2 (x1.trans x2) (.cons (r1.ext x2) r2)⟩⟩
    · cases e
  · cases e
/-! calls, subscripts -/
theorem w_bi {b : Bi} {σ : L2.St} {H : Hp} {Q : VK} : rE E (fBi (biD b) fa) σ H Q → tCB (rB E (biD b)) (rQ E fa) σ H Q := by
  rintro ⟨As, bad, μ, ρ, d, o, μ', a, e, k⟩
  unfold fBi at e
  split at e
  · rename_i ds μ1 q
    split at e
    · rename_i z w q2
      cases e
      exact ⟨As, bad, μ, ρ, ds, _, a, q, fun vs H1 As1 bad1 c1 x1 r1 => ⟨As1, bad1, _, ds, d, o, c1, r1, q2, k.fin x1⟩⟩
    · cases e
  · cases e
/-- what a def promises -/
def spC (E : En) (k : List D → Mu → RE) : Sp := fun vs H Q _ => ∃ As bad μ ds d o μ', CRel E As bad H μ ∧ Reps E As H bad vs ds ∧ k ds μ = some (d, o, μ') ∧ FinE E As bad H d o μ' Q
theorem w_call {c : List D → Mu → RE} {σ : L2.St} {H : Hp} {Q : VK} : rE E (fCall c fa) σ H Q → rA E fa σ H (fun vs H1 => spC E c vs H1 Q E0) := by
  rintro ⟨As, bad, μ, ρ, d, o, μ', a, e, k⟩
  unfold fCall at e
  split at e
  · rename_i ds μ1 q
    exact ⟨As, bad, μ, ρ, ds, μ1, a, q, fun vs H1 As1 bad1 c1 x1 r1 => ⟨As1, bad1, μ1, ds, d, o, μ', c1, r1, e, k.later x1⟩⟩
  · cases e
theorem reps_pm {As : List Addr} {H : Hp} {bad : Addr → Prop} {vs : List V} {ds : List D} (r : Reps E As H bad vs ds) : ∀ pm : List Nat, Reps E As H bad (pmL pm vs) (pmL pm ds)
  | [] => .nil
  | i :: pm => by
    unfold pmL
    rw [List.filterMap_cons, List.filterMap_cons]
    cases h : ds[i]? with
    | none =>
      have h2 : vs[i]? = none := by
        rw [List.getElem?_eq_none_iff] at h ⊢
        rw [r.length]
        exact h
      rw [h2]
      exact reps_pm r pm
    | some z =>
      obtain ⟨v, h2, h3⟩ := r.get h
      rw [h2]
      exact .cons h3 (reps_pm r pm)
theorem w_callk {c : List D → Mu → RE} {pm : List Nat} {fb : Rho → Mu → Option (List D × Mu)} {n m : Nat} (l1 : ∀ ρ μ ds μ1, fa ρ μ = some (ds, μ1) → ds.length = n) (l2 : ∀ ρ μ ds μ1, fb ρ μ = some (ds, μ1) → ds.length = m) {σ : L2.St} {H : Hp} {Q : VK} : rE E (fCallk c pm fa fb) σ H Q →
    rA E fa σ H (fun vs H1 => rA E fb σ H1 fun zs H2 => vs.length = n ∧ zs.length = m ∧ spC E c (vs ++ pmL pm zs) H2 Q E0) := by
  rintro ⟨As, bad, μ, ρ, d, o, μ', a, e, k⟩
  unfold fCallk at e
  split at e
  · rename_i ds μ1 q
    split at e
    · rename_i ds2 μ2 q2
      refine ⟨As, bad, μ, ρ, ds, μ1, a, q, fun vs H1 As1 bad1 c1 x1 r1 => ⟨As1, bad1, μ1, ρ, ds2, μ2, a.ext c1 x1, q2, fun zs H2 As2 bad2 c2 x2 r2 => ⟨?_, ?_, As2, bad2, μ2, ds ++ pmL pm ds2, d, o, μ', c2, (r1.ext x2).append (reps_pm r2 pm), e, k.later (x1.trans x2)⟩⟩⟩
      · rw [r1.length]
        exact l1 _ _ _ _ q
      · rw [r2.length]
        exact l2 _ _ _ _ q2
    · cases e
  · cases e
theorem w_callk0 {c : List D → Mu → RE} {pm : List Nat} {fb : Rho → Mu → Option (List D × Mu)} {m : Nat} (l2 : ∀ ρ μ ds μ1, fb ρ μ = some (ds, μ1) → ds.length = m) {σ : L2.St} {H : Hp} {Q : VK} : rE E (fCallk c pm (fun _ μ => some ([], μ)) fb) σ H Q →
    rA E fb σ H fun zs H2 => zs.length = m ∧ spC E c (pmL pm zs) H2 Q E0 := by
  rintro ⟨As, bad, μ, ρ, d, o, μ', a, e, k⟩
  unfold fCallk at e
  dsimp only at e
  split at e
  · rename_i ds2 μ2 q2
    rw [List.nil_append] at e
    refine ⟨As, bad, μ, ρ, ds2, μ2, a, q2, fun zs H2 As2 bad2 c2 x2 r2 => ⟨?_, As2, bad2, μ2, pmL pm ds2, d, o, μ', c2, reps_pm r2 pm, e, k.later x2⟩⟩
    rw [r2.length]
    exact l2 _ _ _ _ q2
  · cases e
theorem w_sub {σ : L2.St} {H : Hp} {Q : VK} : rE E (fSub fp gp) σ H Q → tOp (rS E) (rP E fp) (rP E gp) σ H Q := by
  rintro ⟨As, bad, μ, ρ, d, o, μ', a, e, k⟩
  unfold fSub at e
  split at e
  · rename_i x μ1 q1
    split at e
    · rename_i y μ2 q2
      split at e
      · rename_i z q3
        cases e
        exact ⟨As, bad, μ, ρ, x, μ1, a, q1, fun v H1 As1 bad1 c1 x1 r1 => ⟨As1, bad1, μ1, ρ, y, _, a.ext c1 x1, q2, fun u H2 As2 bad2 c2 x2 r2 => ⟨As2, bad2, _, x, y, d, c2, r1.ext x2, r2, q3, k.fin (x1.trans x2)⟩⟩⟩
      · cases e
    · cases e
  · cases e
theorem w_chn {c c' : Cp} {σ : L2.St} {H : Hp} {Q : VK} : rE E (fChn c c' fp gp hp) σ H Q → tChain (rZ E (cpF c)) (rZ E (cpF c')) (rP E fp) (rP E gp) (rP E hp) σ H Q := by
  rintro ⟨As, bad, μ, ρ, d, o, μ', a, e, k⟩
  unfold fChn at e
  split at e
  · rename_i x μ1 q1
    split at e
    · rename_i y μ2 q2
      refine ⟨As, bad, μ, ρ, x, μ1, a, q1, fun v H1 As1 bad1 c1 x1 r1 => ⟨As1, bad1, μ1, ρ, y, _, a.ext c1 x1, q2, fun u H2 As2 bad2 c2 x2 r2 => ?_⟩⟩
      split at e
      · rename_i q3
        refine ⟨As2, bad2, _, x, y, .bl true, false, c2, r1.ext x2, r2, by unfold cpF; rw [q3], fun v3 H3 bad3 c3 x3 r3 => ⟨true, repO_bl r3, ?_⟩⟩
        show rP E hp σ H3 _
        split at e
        · rename_i z μ3 q4
          split at e
          · rename_i k3 q5
            cases e
            refine ⟨As2, bad3, _, ρ, z, _, ((a.ext c1 x1).ext c2 x2).ext c3 x3, q4, fun w H4 As4 bad4 c4 x4 r4 => ?_⟩
            exact ⟨As4, bad4, _, y, z, .bl k3, false, c4, r2.ext (x3.trans x4), r4, by unfold cpF; rw [q5], k.fin (((x1.trans x2).trans x3).trans x4)⟩
          · cases e
        · cases e
      · rename_i q3
        cases e
        refine ⟨As2, bad2, _, x, y, .bl false, false, c2, r1.ext x2, r2, by unfold cpF; rw [q3], fun v3 H3 bad3 c3 x3 r3 => ⟨false, repO_bl r3, ?_⟩⟩
        show Q (.bl false) H3
        exact (k.later ((x1.trans x2).trans x3)).same c3 (.bl false)
      · cases e
    · cases e
  · cases e
/-- an end of a slice -/
def rO (E : En) (f : Rho → Mu → Option (Option Int × Mu)) : TO := fun σ H Q => ∃ As bad μ ρ i μ', At E As bad H μ σ ρ ∧ f ρ μ = some (i, μ') ∧ ∀ H' As' bad', CRel E As' bad' H' μ' → Ext As bad H As' bad' H' → Q i H'
theorem w_noPart {σ : L2.St} {H : Hp} {Q : Option Int → Hp → Prop} : rO E (fun _ μ => some (none, μ)) σ H Q → tNoPart σ H Q := by
  rintro ⟨As, bad, μ, ρ, i, μ', a, e, k⟩
  cases e
  exact k H As bad a.c a.c.ext0
theorem w_part {σ : L2.St} {H : Hp} {Q : Option Int → Hp → Prop} : rO E (fun ρ μ => match f ρ μ with
    | some (.int i, _, μ1) => some (some i, μ1)
    | _ => none) σ H Q → tPart (rE E f) σ H Q := by
  rintro ⟨As, bad, μ, ρ, i, μ', a, e, k⟩
  dsimp only at e
  split at e
  · rename_i i o1 μ1 q
    cases e
    exact ⟨As, bad, μ, ρ, _, o1, _, a, q, fun v H1 As1 bad1 c1 x1 r => ⟨i, repO_int r, k H1 As1 bad1 c1 x1⟩⟩
  · cases e
theorem w_slc {go ho : Rho → Mu → Option (Option Int × Mu)} {σ : L2.St} {H : Hp} {Q : VK} : rE E (fSlc fp go ho) σ H Q → tSl (rC E) (rP E fp) (rO E go) (rO E ho) σ H Q := by
  rintro ⟨As, bad, μ, ρ, d, o, μ', a, e, k⟩
  unfold fSlc at e
  split at e
  · rename_i x μ1 q1
    split at e
    · rename_i l μ2 q2
      split at e
      · rename_i u μ3 q3
        split at e
        · rename_i z w q4
          cases e
          exact ⟨As, bad, μ, ρ, x, μ1, a, q1, fun v H1 As1 bad1 c1 x1 r1 => ⟨As1, bad1, μ1, ρ, l, _, a.ext c1 x1, q2, fun H2 As2 bad2 c2 x2 => ⟨As2, bad2, _, ρ, u, _, (a.ext c1 x1).ext c2 x2, q3, fun H3 As3 bad3 c3 x3 =>
            ⟨As3, bad3, _, x, d, o, c3, r1.ext (x2.trans x3), q4, k.fin ((x1.trans x2).trans x3)⟩⟩⟩⟩
        · cases e
      · cases e
    · cases e
  · cases e
theorem w_rev {σ : L2.St} {H : Hp} {Q : VK} : rE E (fRev fp) σ H Q → rP E fp σ H (fun x H1 => ∃ As bad μ d z w, CRel E As bad H1 μ ∧ RepP E As H1 bad x d ∧ revD d = some (z, w) ∧ Fin E As bad H1 μ z w Q) := by
  rintro ⟨As, bad, μ, ρ, d, o, μ', a, e, k⟩
  unfold fRev at e
  split at e
  · rename_i x μ1 q1
    split at e
    · rename_i z w q2
      cases e
      exact ⟨As, bad, μ, ρ, x, _, a, q1, fun v H1 As1 bad1 c1 x1 r1 => ⟨As1, bad1, _, x, d, o, c1, r1, q2, k.fin x1⟩⟩
    · cases e
  · cases e
theorem w_isi {t : String} {σ : L2.St} {H : Hp} {Q : VK} : rE E (fIsi t fp) σ H Q → tCB (rT E t) (tCons (rP E fp) (tCons (tC (.ty t)) tNil)) σ H Q := by
  rintro ⟨As, bad, μ, ρ, d, o, μ', a, e, k⟩
  unfold fIsi at e
  split at e
  · rename_i x μ1 q1
    split at e
    · rename_i hp
      cases e
      exact ⟨As, bad, μ, ρ, x, _, a, q1, fun v H1 As1 bad1 c1 x1 r1 => ⟨As1, bad1, _, v, x, rfl, c1, r1, hp, k.fin x1⟩⟩
    · cases e
  · cases e
theorem w_mdL {σ : L2.St} {H : Hp} {Q : VK} : rE E (fMd (mdD .indexL) fp fa) σ H Q → tBM E.K "list" (rM E (mdD .indexL)) (rP E fp) (rQ E fa) σ H Q := by
  rintro ⟨As, bad, μ, ρ, d, o, μ', a, e, k⟩
  unfold fMd at e
  split at e
  · rename_i x μ1 q1
    split at e
    · rename_i ds μ2 q2
      split at e
      · rename_i z w q3
        cases e
        refine ⟨As, bad, μ, ρ, x, μ1, a, q1, fun v H1 As1 bad1 c1 x1 r1 => ⟨?_, ⟨As1, bad1, μ1, ρ, ds, _, a.ext c1 x1, q2, fun vs H2 As2 bad2 c2 x2 r2 => ⟨As2, bad2, _, x, ds, d, o, c2, r1.ext x2, r2, q3, k.fin (x1.trans x2)⟩⟩⟩⟩
        cases x with
        | lst xs =>
          obtain ⟨p, vs, rfl, l, _⟩ := r1.lst
          exact .inl ⟨rfl, vs, l.sq⟩
        | _ => cases ds <;> exact nomatch q3
      · cases e
    · cases e
  · cases e
theorem w_bits {σ : L2.St} {H : Hp} {Q : VK} : rE E (fMd (mdD .bits) fp fNil) σ H Q → tBits (rP E fp) σ H Q := by
  rintro ⟨As, bad, μ, ρ, d, o, μ', a, e, k⟩
  unfold fMd at e
  split at e
  · rename_i x μ1 q1
    split at e
    · rename_i ds μ2 q2
      cases q2
      split at e
      · rename_i z w q3
        cases e
        refine ⟨As, bad, μ, ρ, x, _, a, q1, fun v H1 As1 bad1 c1 x1 r1 => ?_⟩
        cases x with
        | int i =>
          cases q3
          exact ⟨i, r1.int, (k.fin x1).same c1 (.int _)⟩
        | _ => exact nomatch q3
      · cases e
    · cases e
  · cases e
/-- index of a written tuple -/
theorem w_mdT {xs : List D} {p : Addr} {ws : List V} (kt : KTs E.K p ws) (rp : ∀ As H bad, Reps E As H bad ws xs) {σ : L2.St} {H : Hp} {Q : VK} :
    rE E (fMd (mdD .indexT) (fun _ μ => some (.tup xs, μ)) fa) σ H Q → tBM E.K "tuple" (rMT E xs) (tC (.ref p)) (rQ E fa) σ H Q := by
  rintro ⟨As, bad, μ, ρ, d, o, μ', a, e, k⟩
  unfold fMd at e
  dsimp only at e
  split at e
  · rename_i ds μ2 q2
    split at e
    · rename_i z w q3
      cases e
      obtain ⟨its, n, h1, h2, h3⟩ := id kt
      refine ⟨.inr (.inl ⟨rfl, _, h1, rfl, rfl⟩), ⟨As, bad, μ, ρ, ds, _, a, q2, fun vs H2 As2 bad2 c2 x2 r2 => ?_⟩⟩
      cases ds with
      | nil => cases q3
      | cons y r =>
        cases r with
        | cons _ _ => cases q3
        | nil =>
          unfold mdD at q3
          dsimp only at q3
          split at q3
          · rename_i hz
            split at q3
            · rename_i m hm
              cases q3
              obtain ⟨z1, z2⟩ := Bool.and_eq_true_iff.mp hz
              exact ⟨As2, bad2, _, p, ws, y, m, rfl, kt, c2, rp _ _ _, r2, z1, z2, hm, k.fin x2⟩
            · cases q3
          · cases q3
    · cases e
  · cases e
end
end Z
end

section
set_option Elab.async false
set_option autoImplicit false
set_option linter.all false
set_option maxRecDepth 100000
set_option maxHeartbeats 1000000
/-! What is walked, over trees. -/
namespace Z
open PySem PySem.Spec PyProof.Rows L2

/-- J walks the trees ds -/
structure Wk (E : En) (pk : Bool) (As : List Addr) (bad : Addr → Prop) (H : Hp) (J : It) (ds : List D) : Prop where
  go : ∀ (i : Nat) (d : D) (μ : Mu), CRel E As bad H μ → ds[i]? = some d → J.go i H ∧ ∀ x H', J.yld i H x H' → CRel E As bad H' μ ∧ Ext As bad H As bad H' ∧ Rep E As H' bad x d
  stop : ∀ i, ds.length ≤ i → J.stop i H
/-- .. and goes on doing so -/
def Wks (E : En) (pk : Bool) (As : List Addr) (bad : Addr → Prop) (H : Hp) (J : It) (ds : List D) : Prop :=
  ∃ st : List Addr → (Addr → Prop) → Hp → Prop, st As bad H ∧ (∀ As bad H As' bad' H', st As bad H → Ext As bad H As' bad' H' → st As' bad' H') ∧
    (pk = false → ∀ As bad H As' bad' H', st As bad H → SExt As bad H As' bad' H' → st As' bad' H') ∧ ∀ As bad H, st As bad H → Wk E pk As bad H J ds
/-- a list that is walked -/
def LW (pk : Bool) (E : En) (a : Addr) (vs : List V) (ds : List D) (As : List Addr) (bad : Addr → Prop) (H : Hp) : Prop :=
  ((Rd H a (.lst vs) ∧ (pk = true → a ∉ As) ∧ (pk = false → ¬ bad a)) ∨ KLs E.K a vs) ∧ Reps E As H bad vs ds
def TW (E : En) (a : Addr) (vs : List V) (ds : List D) (As : List Addr) (bad : Addr → Prop) (H : Hp) : Prop :=
  ((Rd H a (.tup vs) ∧ ¬ bad a) ∨ KTs E.K a vs) ∧ Reps E As H bad vs ds
section
variable {E : En} {pk : Bool} {a b : Addr} {vs ws : List V} {ds es : List D} {As As' : List Addr} {bad bad' : Addr → Prop} {H H' : Hp}
theorem LW.sq (w : LW pk E a vs ds As bad H) : SqL E.K H a vs := by
  obtain ⟨w | w, _⟩ := w
  · exact .inl w.1
  · exact w.sq
theorem TW.sq (w : TW E a vs ds As bad H) : SqT E.K H a vs := by
  obtain ⟨w | w, _⟩ := w
  · exact .inl w.1
  · exact w.sq
theorem Ext.na (x : Ext As bad H As' bad' H') {a : Addr} {o : HO} (h : H a = some o) (n : a ∉ As) : a ∉ As' := fun m => by
  have := x.fr a m n
  rw [h] at this
  cases this
theorem LW.ext (w : LW pk E a vs ds As bad H) (x : Ext As bad H As' bad' H') : LW pk E a vs ds As' bad' H' := by
  obtain ⟨w | w, r⟩ := w
  · obtain ⟨h1, h2, h3⟩ := w
    obtain ⟨o, ho⟩ := rd_there h1
    have na : a ∉ As := by
      cases pk with
      | true => exact h2 rfl
      | false => exact fun m => h3 rfl (x.sub a m)
    exact ⟨.inl ⟨rd_keep h1 fun o h => x.all a o h na, fun _ => x.na ho na, fun e => x.nb a o ho (h3 e)⟩, r.ext x⟩
  · exact ⟨.inr w, r.ext x⟩
theorem LW.sx (w : LW false E a vs ds As bad H) (x : SExt As bad H As' bad' H') : LW false E a vs ds As' bad' H' := by
  obtain ⟨w | w, r⟩ := w
  · obtain ⟨h1, h2, h3⟩ := w
    obtain ⟨o, ho⟩ := rd_there h1
    exact ⟨.inl ⟨rd_keep h1 fun o h => (x.keep a o h (h3 rfl)).1, (fun e => nomatch e), fun _ => (x.keep a o ho (h3 rfl)).2⟩, r.sx x⟩
  · exact ⟨.inr w, r.sx x⟩
theorem TW.sx (w : TW E a vs ds As bad H) (x : SExt As bad H As' bad' H') : TW E a vs ds As' bad' H' := by
  obtain ⟨w | w, r⟩ := w
  · obtain ⟨h1, h3⟩ := w
    obtain ⟨o, ho⟩ := rd_there h1
    exact ⟨.inl ⟨rd_keep h1 fun o h => (x.keep a o h h3).1, (x.keep a o ho h3).2⟩, r.sx x⟩
  · exact ⟨.inr w, r.sx x⟩
theorem TW.ext (w : TW E a vs ds As bad H) (x : Ext As bad H As' bad' H') : TW E a vs ds As' bad' H' := w.sx x.sx
/-- a list, a tuple -/
theorem walk_list (w : LW pk E a vs ds As bad H) : Wks E pk As bad H (Itl E.K a) ds := by
  refine ⟨fun As bad H => LW pk E a vs ds As bad H, w, fun _ _ _ _ _ _ w x => w.ext x, fun e => ?_, fun As bad H w => ⟨fun i d μ c hd => ?_, fun i hi => ⟨vs, w.sq, by rw [w.2.length]; exact hi⟩⟩⟩
  · subst e
    exact fun _ _ _ _ _ _ w x => w.sx x
  · obtain ⟨v, h1, h2⟩ := w.2.get hd
    refine ⟨⟨vs, v, w.sq, h1⟩, fun x H' y => ?_⟩
    obtain ⟨rfl, y⟩ := y
    have e := y vs w.sq
    rw [h1] at e
    cases e
    exact ⟨c, c.ext0, h2⟩
theorem walk_tup (w : TW E a vs ds As bad H) : Wks E pk As bad H (Itt E.K a) ds := by
  refine ⟨fun As bad H => TW E a vs ds As bad H, w, fun _ _ _ _ _ _ w x => w.ext x, fun _ _ _ _ _ _ _ w x => w.sx x, fun As bad H w => ⟨fun i d μ c hd => ?_, fun i hi => ⟨vs, w.sq, by rw [w.2.length]; exact hi⟩⟩⟩
  obtain ⟨v, h1, h2⟩ := w.2.get hd
  refine ⟨⟨vs, v, w.sq, h1⟩, fun x H' y => ?_⟩
  obtain ⟨rfl, y⟩ := y
  have e := y vs w.sq
  rw [h1] at e
  cases e
  exact ⟨c, c.ext0, h2⟩
theorem rngL_get : ∀ (n : Nat) (lo : Int) (i : Nat), (rngL n lo)[i]? = if i < n then some (.int (lo + i)) else none
  | 0, lo, i => by simp [rngL]
  | n + 1, lo, 0 => by simp [rngL]
  | n + 1, lo, i + 1 => by
    rw [show rngL (n + 1) lo = .int lo :: rngL n (lo + 1) from rfl, List.getElem?_cons_succ, rngL_get n (lo + 1) i]
    by_cases h : i < n
    · rw [if_pos h, if_pos (by omega)]
      congr 2
      omega
    · rw [if_neg h, if_neg (by omega)]
theorem rngL_len : ∀ (n : Nat) (lo : Int), (rngL n lo).length = n
  | 0, _ => rfl
  | n + 1, lo => by rw [show rngL (n + 1) lo = .int lo :: rngL n (lo + 1) from rfl, List.length_cons, rngL_len n (lo + 1)]
theorem walk_rng {lo : Int} {n : Nat} : Wks E pk As bad H (Itr lo n) (rngL n lo) := by
  refine ⟨fun _ _ _ => True, True.intro, fun _ _ _ _ _ _ _ _ => True.intro, fun _ _ _ _ _ _ _ _ _ => True.intro, fun As bad H _ => ⟨fun i d μ c hd => ?_, fun i hi => ?_⟩⟩
  · rw [rngL_get] at hd
    split at hd
    · rename_i h
      cases hd
      refine ⟨h, fun x H' y => ?_⟩
      obtain ⟨rfl, rfl⟩ := y
      exact ⟨c, c.ext0, .int _⟩
    · cases hd
  · rw [rngL_len] at hi
    exact hi
theorem enumL_get : ∀ (ds : List D) (k : Int) (i : Nat), (enumL ds k)[i]? = (ds[i]?).map fun d => .tup [.int (k + i), d]
  | [], k, i => by simp [enumL]
  | d :: ds, k, 0 => by simp [enumL]
  | d :: ds, k, i + 1 => by
    rw [show enumL (d :: ds) k = .tup [.int k, d] :: enumL ds (k + 1) from rfl, List.getElem?_cons_succ, enumL_get ds (k + 1) i, List.getElem?_cons_succ]
    congr 1
    funext z
    congr 3
    omega
theorem enumL_len : ∀ (ds : List D) (k : Int), (enumL ds k).length = ds.length
  | [], _ => rfl
  | d :: ds, k => by rw [show enumL (d :: ds) k = .tup [.int k, d] :: enumL ds (k + 1) from rfl, List.length_cons, List.length_cons, enumL_len ds (k + 1)]
theorem new_tup {μ : Mu} {T : Addr} {xs : List V} {es : List D} (c : CRel E As bad H μ) (hT : H T = none) (r : Reps E As H bad xs es) : CRel E As bad (upd H T (.tup xs)) μ ∧ Ext As bad H As bad (upd H T (.tup xs)) ∧ Rep E As (upd H T (.tup xs)) bad (.ref T) (.tup es) := by
  have x := new_ext c hT (.tup xs)
  exact ⟨new_rel c hT _, x, .tup (.inl upd_same) (c.nbad hT) (r.ext x)⟩
theorem walk_enum (w : LW pk E a vs ds As bad H) : Wks E pk As bad H (Ite E.K a) (enumL ds 0) := by
  refine ⟨fun As bad H => LW pk E a vs ds As bad H, w, fun _ _ _ _ _ _ w x => w.ext x, fun e => ?_, fun As bad H w => ⟨fun i d μ c hd => ?_, fun i hi => ⟨vs, w.sq, by rw [enumL_len] at hi; rw [w.2.length]; exact hi⟩⟩⟩
  · subst e
    exact fun _ _ _ _ _ _ w x => w.sx x
  · rw [enumL_get] at hd
    cases q : ds[i]? with
    | none =>
      rw [q] at hd
      cases hd
    | some d0 =>
      rw [q] at hd
      cases hd
      obtain ⟨v, h1, h2⟩ := w.2.get q
      refine ⟨⟨vs, v, w.sq, h1⟩, fun x H' y => ?_⟩
      obtain ⟨T, x', rfl, hT, rfl, y⟩ := y
      have e := y vs w.sq
      rw [h1] at e
      cases e
      have ez : (0 : Int) + (i : Int) = (i : Int) := Int.zero_add _
      rw [ez]
      exact new_tup c hT (.cons (.int _) (.cons h2 .nil))
theorem walk_enumT (w : TW E a vs ds As bad H) : Wks E pk As bad H (Et.IteT E.K a) (enumL ds 0) := by
  refine ⟨fun As bad H => TW E a vs ds As bad H, w, fun _ _ _ _ _ _ w x => w.ext x, fun _ _ _ _ _ _ _ w x => w.sx x, fun As bad H w => ⟨fun i d μ c hd => ?_, fun i hi => ⟨vs, w.sq, by rw [enumL_len] at hi; rw [w.2.length]; exact hi⟩⟩⟩
  rw [enumL_get] at hd
  cases q : ds[i]? with
  | none =>
    rw [q] at hd
    cases hd
  | some d0 =>
    rw [q] at hd
    cases hd
    obtain ⟨v, h1, h2⟩ := w.2.get q
    refine ⟨⟨vs, v, w.sq, h1⟩, fun x H' y => ?_⟩
    obtain ⟨T, x', rfl, hT, rfl, y⟩ := y
    have e := y vs w.sq
    rw [h1] at e
    cases e
    have ez : (0 : Int) + (i : Int) = (i : Int) := Int.zero_add _
    rw [ez]
    exact new_tup c hT (.cons (.int _) (.cons h2 .nil))
theorem zipL_get : ∀ (xs ys : List D) (i : Nat) (d : D), (zipL xs ys)[i]? = some d → ∃ x y, d = .tup [x, y] ∧ xs[i]? = some x ∧ ys[i]? = some y
  | [], _, _, _, h => by simp [zipL] at h
  | _ :: _, [], _, _, h => by simp [zipL] at h
  | x :: xs, y :: ys, 0, d, h => by
    simp [zipL] at h
    exact ⟨x, y, h.symm, rfl, rfl⟩
  | x :: xs, y :: ys, i + 1, d, h => by
    obtain ⟨x', y', e, h1, h2⟩ := zipL_get xs ys i d (by simpa [zipL] using h)
    exact ⟨x', y', e, by simpa using h1, by simpa using h2⟩
theorem zipL_len : ∀ (xs ys : List D) (i : Nat), (zipL xs ys).length ≤ i → xs.length ≤ i ∨ ys.length ≤ i
  | [], _, _, _ => .inl (Nat.zero_le _)
  | _ :: _, [], _, _ => .inr (Nat.zero_le _)
  | x :: xs, y :: ys, 0, h => by simp [zipL] at h
  | x :: xs, y :: ys, i + 1, h => by
    have := zipL_len xs ys i (by simpa [zipL] using h)
    simpa using this
theorem walk_zipL (w : LW pk E a vs ds As bad H) (w2 : LW pk E b ws es As bad H) : Wks E pk As bad H (Itz E.K a b) (zipL ds es) := by
  refine ⟨fun As bad H => LW pk E a vs ds As bad H ∧ LW pk E b ws es As bad H, ⟨w, w2⟩, fun _ _ _ _ _ _ w x => ⟨w.1.ext x, w.2.ext x⟩, fun e => ?_, fun As bad H w => ⟨fun i d μ c hd => ?_, fun i hi => ⟨vs, ws, w.1.sq, w.2.sq, by rw [w.1.2.length, w.2.2.length]; exact zipL_len _ _ _ hi⟩⟩⟩
  · subst e
    exact fun _ _ _ _ _ _ w x => ⟨w.1.sx x, w.2.sx x⟩
  · obtain ⟨x0, y0, rfl, q1, q2⟩ := zipL_get _ _ _ _ hd
    obtain ⟨v, h1, h2⟩ := w.1.2.get q1
    obtain ⟨u, h3, h4⟩ := w.2.2.get q2
    refine ⟨⟨vs, ws, v, u, w.1.sq, w.2.sq, h1, h3⟩, fun x H' y => ?_⟩
    obtain ⟨T, x', y', rfl, hT, rfl, f1, f2⟩ := y
    have e1 := f1 vs w.1.sq
    have e2 := f2 ws w.2.sq
    rw [h1] at e1
    rw [h3] at e2
    cases e1
    cases e2
    exact new_tup c hT (.cons h2 (.cons h4 .nil))
theorem walk_zipT (w : TW E a vs ds As bad H) (w2 : TW E b ws es As bad H) : Wks E pk As bad H (RZ.ItzT E.K a b) (zipL ds es) := by
  refine ⟨fun As bad H => TW E a vs ds As bad H ∧ TW E b ws es As bad H, ⟨w, w2⟩, fun _ _ _ _ _ _ w x => ⟨w.1.ext x, w.2.ext x⟩, fun _ _ _ _ _ _ _ w x => ⟨w.1.sx x, w.2.sx x⟩, fun As bad H w => ⟨fun i d μ c hd => ?_, fun i hi => ⟨vs, ws, w.1.sq, w.2.sq, by rw [w.1.2.length, w.2.2.length]; exact zipL_len _ _ _ hi⟩⟩⟩
  obtain ⟨x0, y0, rfl, q1, q2⟩ := zipL_get _ _ _ _ hd
  obtain ⟨v, h1, h2⟩ := w.1.2.get q1
  obtain ⟨u, h3, h4⟩ := w.2.2.get q2
  refine ⟨⟨vs, ws, v, u, w.1.sq, w.2.sq, h1, h3⟩, fun x H' y => ?_⟩
  obtain ⟨T, x', y', rfl, hT, rfl, f1, f2⟩ := y
  have e1 := f1 vs w.1.sq
  have e2 := f2 ws w.2.sq
  rw [h1] at e1
  rw [h3] at e2
  cases e1
  cases e2
  exact new_tup c hT (.cons h2 (.cons h4 .nil))
/-- a list, a tuple that is walked -/
def WB (t : Bool) (pk : Bool) (E : En) (a : Addr) (vs : List V) (ds : List D) (As : List Addr) (bad : Addr → Prop) (H : Hp) : Prop := match t with
  | true => TW E a vs ds As bad H
  | false => LW pk E a vs ds As bad H
theorem WB.sq {t : Bool} (w : WB t pk E a vs ds As bad H) : Zs.SqB t E.K H a vs := by
  cases t
  · exact LW.sq w
  · exact TW.sq w
theorem WB.reps {t : Bool} (w : WB t pk E a vs ds As bad H) : Reps E As H bad vs ds := by
  cases t
  · exact And.right (show LW pk E a vs ds As bad H from w)
  · exact And.right (show TW E a vs ds As bad H from w)
theorem WB.ext {t : Bool} (w : WB t pk E a vs ds As bad H) (x : Ext As bad H As' bad' H') : WB t pk E a vs ds As' bad' H' := by
  cases t
  · exact LW.ext w x
  · exact TW.ext w x
theorem WB.sx {t : Bool} (w : WB t false E a vs ds As bad H) (x : SExt As bad H As' bad' H') : WB t false E a vs ds As' bad' H' := by
  cases t
  · exact LW.sx w x
  · exact TW.sx w x
theorem zipL_lenE : ∀ (xs ys : List D), xs.length = ys.length → (zipL xs ys).length = xs.length
  | [], [], _ => rfl
  | x :: xs, y :: ys, h => by
    rw [zipL, List.length_cons, List.length_cons, zipL_lenE xs ys (by simpa using h)]
  | [], _ :: _, h => by cases h
  | _ :: _, [], h => by cases h
theorem walk_zipS {ta tb : Bool} (hl : ds.length = es.length) (w : WB ta pk E a vs ds As bad H) (w2 : WB tb pk E b ws es As bad H) : Wks E pk As bad H (Zs.ItzS ta tb E.K a b) (zipL ds es) := by
  refine ⟨fun As bad H => WB ta pk E a vs ds As bad H ∧ WB tb pk E b ws es As bad H, ⟨w, w2⟩, fun _ _ _ _ _ _ w x => ⟨w.1.ext x, w.2.ext x⟩, fun e => ?_, fun As bad H w => ⟨fun i d μ c hd => ?_, fun i hi => ⟨vs, ws, w.1.sq, w.2.sq, ?_, ?_⟩⟩⟩
  · subst e
    exact fun _ _ _ _ _ _ w x => ⟨w.1.sx x, w.2.sx x⟩
  · obtain ⟨x0, y0, rfl, q1, q2⟩ := zipL_get _ _ _ _ hd
    obtain ⟨v, h1, h2⟩ := w.1.reps.get q1
    obtain ⟨u, h3, h4⟩ := w.2.reps.get q2
    refine ⟨⟨vs, ws, v, u, w.1.sq, w.2.sq, h1, h3⟩, fun x H' y => ?_⟩
    obtain ⟨T, x', y', rfl, hT, rfl, f1, f2⟩ := y
    have e1 := f1 vs w.1.sq
    have e2 := f2 ws w.2.sq
    rw [h1] at e1
    rw [h3] at e2
    cases e1
    cases e2
    exact new_tup c hT (.cons h2 (.cons h4 .nil))
  · rw [w.1.reps.length]
    rw [zipL_lenE ds es hl] at hi
    exact hi
  · rw [w.2.reps.length, ← hl]
    rw [zipL_lenE ds es hl] at hi
    exact hi
end
end Z
end

section
set_option Elab.async false
set_option autoImplicit false
set_option linter.all false
set_option maxRecDepth 100000
set_option maxHeartbeats 1000000
/-! Iterators, targets, comprehensions, over trees. -/
namespace Z
open PySem PySem.Spec PyProof.Rows L2

/-- an operand that is walked -/
def RV (E : En) (pk : Bool) (As : List Addr) (H : Hp) (bad : Addr → Prop) (v : V) (d : D) : Prop := match pk with
  | true => RepP E As H bad v d
  | false => Rep E As H bad v d
def rV (E : En) (pk : Bool) (f : Rho → Mu → Option (D × Mu)) : TE := fun σ H Q => ∃ As bad μ ρ d μ', At E As bad H μ σ ρ ∧ f ρ μ = some (d, μ') ∧
  ∀ v H' As' bad', CRel E As' bad' H' μ' → Ext As bad H As' bad' H' → RV E pk As' H' bad' v d → Q v H'
/-- what is walked -/
def rI (E : En) (pk : Bool) (f : Rho → Mu → Option (List D × Mu)) : TI := fun σ H R => ∃ As bad μ ρ ds μ', At E As bad H μ σ ρ ∧ f ρ μ = some (ds, μ') ∧
  ∀ J H' As' bad', CRel E As' bad' H' μ' → Ext As bad H As' bad' H' → Wks E pk As' bad' H' J ds → R J H'
def fEx (f : Rho → Mu → Option (D × Mu)) : Rho → Mu → Option (List D × Mu) := fun ρ μ => match f ρ μ with
  | some (x, μ1) => (match seqD x with
    | some ds => some (ds, μ1)
    | none => none)
  | none => none
def fRng (f : Rho → Mu → Option (List D × Mu)) : Rho → Mu → Option (List D × Mu) := fun ρ μ => match f ρ μ with
  | some ([.int n], μ1) => if -(2 ^ 62) ≤ n ∧ n ≤ sizeLine then some (rngL n.toNat 0, μ1) else none
  | some ([.int a, .int b], μ1) => if -(2 ^ 62) ≤ a ∧ a < 2 ^ 62 ∧ -(2 ^ 62) ≤ b ∧ b < 2 ^ 62 ∧ b - a ≤ sizeLine then some (rngL (b - a).toNat a, μ1) else none
  | _ => none
def fEnum (f : Rho → Mu → Option (D × Mu)) : Rho → Mu → Option (List D × Mu) := fun ρ μ => match f ρ μ with
  | some (x, μ1) => (match x with
    | .lst ds => some (enumL ds 0, μ1)
    | .tup ds => some (enumL ds 0, μ1)
    | _ => none)
  | none => none
def fZip (f g : Rho → Mu → Option (D × Mu)) : Rho → Mu → Option (List D × Mu) := fun ρ μ => match f ρ μ with
  | some (x, μ1) => (match g ρ μ1 with
    | some (y, μ2) => (match zipD x y with
      | some ds => some (ds, μ2)
      | none => none)
    | none => none)
  | none => none
def fZipS (f g : Rho → Mu → Option (D × Mu)) : Rho → Mu → Option (List D × Mu) := fun ρ μ => match f ρ μ with
  | some (x, μ1) => (match g ρ μ1 with
    | some (y, μ2) => (match zipSD x y with
      | some ds => some (ds, μ2)
      | none => none)
    | none => none)
  | none => none
section
variable {E : En} {pk : Bool} {As As' : List Addr} {bad bad' : Addr → Prop} {H H' : Hp} {μ : Mu} {v : V} {d : D} {f : Rho → Mu → RE} {fp gp : Rho → Mu → Option (D × Mu)} {fa : Rho → Mu → Option (List D × Mu)}
theorem RV.p (r : RV E pk As H bad v d) : RepP E As H bad v d := by
  cases pk with
  | true => exact r
  | false => exact .inl r
theorem RV.ext (r : RV E pk As H bad v d) (x : Ext As bad H As' bad' H') : RV E pk As' H' bad' v d := by
  cases pk with
  | true => exact RepP.ext r x
  | false => exact Rep.ext x r
theorem RV.lst {ds : List D} (r : RV E pk As H bad v (.lst ds)) (c : CRel E As bad H μ) : ∃ a vs, v = .ref a ∧ LW pk E a vs ds As bad H := by
  have one : Rep E As H bad v (.lst ds) → ∃ a vs, v = .ref a ∧ LW pk E a vs ds As bad H := fun r => by
    cases r with
    | lst r0 n q => exact ⟨_, _, rfl, .inl ⟨r0, fun _ m => n (c.sub _ m), fun _ => n⟩, q⟩
    | lstK r0 q => exact ⟨_, _, rfl, .inr r0, q⟩
  cases pk with
  | false => exact one r
  | true =>
    rcases r with r | ⟨a, vs, es, rfl, h2, h3, h4, h5⟩
    · exact one r
    · cases h2
      exact ⟨a, vs, rfl, .inl ⟨.inl h3, fun _ => h5, fun e => nomatch e⟩, h4⟩
theorem RepP.tw {ds : List D} (r : RepP E As H bad v (.tup ds)) : ∃ a vs, v = .ref a ∧ TW E a vs ds As bad H := by
  rcases r with r | ⟨a, vs, es, rfl, h2, h3, h4, h5⟩
  · cases r with
    | tup r n q => exact ⟨_, _, rfl, .inl ⟨r, n⟩, q⟩
    | tupK r q => exact ⟨_, _, rfl, .inr r, q⟩
  · cases h2
theorem w_v1 {σ : L2.St} {H : Hp} {Q : VK} : rV E true fp σ H Q → rP E fp σ H Q := fun h => h
theorem w_v0 {σ : L2.St} {H : Hp} {Q : VK} : rV E false (fun ρ μ => match f ρ μ with
    | some (d, _, μ1) => some (d, μ1)
    | none => none) σ H Q → rR E f σ H Q := by
  rintro ⟨As, bad, μ, ρ, d, μ', a, e, k⟩
  dsimp only at e
  split at e
  · rename_i d' o μ1 q
    cases e
    exact ⟨As, bad, μ, ρ, d, o, μ', a, q, k⟩
  · cases e
theorem w_iEx {σ : L2.St} {H : Hp} {R : It → Hp → Prop} : rI E pk (fEx fp) σ H R → iList E.K (rV E pk fp) σ H R ∨ iTup E.K (rV E pk fp) σ H R := by
  rintro ⟨As, bad, μ, ρ, ds, μ', a, e, k⟩
  unfold fEx at e
  split at e
  · rename_i x μ1 q1
    split at e
    · rename_i es q2
      cases e
      cases x with
      | lst xs =>
        cases q2
        refine .inl ⟨As, bad, μ, ρ, _, _, a, q1, fun v H' As' bad' c x r => ?_⟩
        obtain ⟨p, vs, rfl, w⟩ := r.lst c
        exact ⟨p, rfl, ⟨vs, w.sq⟩, k _ H' As' bad' c x (walk_list w)⟩
      | tup xs =>
        cases q2
        refine .inr ⟨As, bad, μ, ρ, _, _, a, q1, fun v H' As' bad' c x r => ?_⟩
        obtain ⟨p, vs, rfl, w⟩ := r.p.tw
        exact ⟨p, rfl, ⟨vs, w.sq⟩, k _ H' As' bad' c x (walk_tup w)⟩
      | _ => cases q2
    · cases e
  · cases e
theorem sz62 {n : Nat} {i : Int} (h : i ≤ (sizeLine : Nat)) : i < 2 ^ 62 := by
  rw [sizeLine_eq] at h
  omega
theorem w_iRng1 {σ : L2.St} {H : Hp} {R : It → Hp → Prop} : rI E pk (fRng (fConsP fp fNil)) σ H R → iRng1 (tCons (rP E fp) tNil) σ H R := by
  rintro ⟨As, bad, μ, ρ, ds, μ', a, e, k⟩
  unfold fRng fConsP fNil at e
  dsimp only at e
  cases q : fp ρ μ with
  | none =>
    rw [q] at e
    cases e
  | some z =>
    obtain ⟨d, μ1⟩ := z
    rw [q] at e
    dsimp only at e
    refine ⟨As, bad, μ, ρ, d, μ1, a, q, fun v H' As' bad' c x r => ?_⟩
    cases d with
    | int n =>
      dsimp only at e
      split at e
      · rename_i hz
        cases e
        have hv := r.int
        subst hv
        exact ⟨n, rfl, hz.1, sz62 (n := 0) hz.2, k _ H' As' bad' c x walk_rng⟩
      · cases e
    | _ => cases e
theorem w_iRng2 {σ : L2.St} {H : Hp} {R : It → Hp → Prop} : rI E pk (fRng (fConsP fp (fConsP gp fNil))) σ H R → iRng2 (tCons (rP E fp) (tCons (rP E gp) tNil)) σ H R := by
  rintro ⟨As, bad, μ, ρ, ds, μ', a, e, k⟩
  unfold fRng fConsP fNil at e
  dsimp only at e
  cases q : fp ρ μ with
  | none =>
    rw [q] at e
    cases e
  | some z =>
    obtain ⟨d, μ1⟩ := z
    rw [q] at e
    dsimp only at e
    cases q2 : gp ρ μ1 with
    | none =>
      rw [q2] at e
      cases e
    | some z2 =>
      obtain ⟨d2, μ2⟩ := z2
      rw [q2] at e
      dsimp only at e
      refine ⟨As, bad, μ, ρ, d, μ1, a, q, fun v H1 As1 bad1 c1 x1 r1 => ⟨As1, bad1, μ1, ρ, d2, μ2, a.ext c1 x1, q2, fun u H' As' bad' c x r => ?_⟩⟩
      cases d with
      | int n => cases d2 with
        | int m =>
          dsimp only at e
          split at e
          · rename_i hz
            cases e
            have hv := r1.int
            have hu := r.int
            subst hv hu
            exact ⟨n, m, rfl, ⟨hz.1, hz.2.1, hz.2.2.1, hz.2.2.2.1⟩, k _ H' As' bad' c (x1.trans x) walk_rng⟩
          · cases e
        | _ => cases e
      | _ => cases d2 <;> cases e
theorem w_iEnum {σ : L2.St} {H : Hp} {R : It → Hp → Prop} : rI E pk (fEnum fp) σ H R → Et.iEnumA E.K (tCons (rV E pk fp) tNil) σ H R := by
  rintro ⟨As, bad, μ, ρ, ds, μ', a, e, k⟩
  unfold fEnum at e
  split at e
  · rename_i x μ1 q1
    split at e
    · rename_i es
      cases e
      refine ⟨As, bad, μ, ρ, _, _, a, q1, fun v H' As' bad' c x r => ?_⟩
      obtain ⟨p, vs, rfl, w⟩ := r.lst c
      exact ⟨p, vs, rfl, .inl ⟨w.sq, k _ H' As' bad' c x (walk_enum w)⟩⟩
    · rename_i es
      cases e
      refine ⟨As, bad, μ, ρ, _, _, a, q1, fun v H' As' bad' c x r => ?_⟩
      obtain ⟨p, vs, rfl, w⟩ := r.p.tw
      exact ⟨p, vs, rfl, .inr ⟨w.sq, k _ H' As' bad' c x (walk_enumT w)⟩⟩
    · cases e
  · cases e
theorem w_iZip {σ : L2.St} {H : Hp} {R : It → Hp → Prop} : rI E pk (fZip fp gp) σ H R → RZ.iZipA E.K (tCons (rV E pk fp) (tCons (rV E pk gp) tNil)) σ H R := by
  rintro ⟨As, bad, μ, ρ, ds, μ', a, e, k⟩
  unfold fZip at e
  split at e
  · rename_i x μ1 q1
    split at e
    · rename_i y μ2 q2
      split at e
      · rename_i es q3
        cases e
        refine ⟨As, bad, μ, ρ, _, _, a, q1, fun v H1 As1 bad1 c1 x1 r1 => ⟨As1, bad1, μ1, ρ, y, _, a.ext c1 x1, q2, fun u H' As' bad' c x2 r => ?_⟩⟩
        cases x with
        | lst xs => cases y with
          | lst ys =>
            cases q3
            obtain ⟨p, vs, rfl, w⟩ := (r1.ext x2).lst c
            obtain ⟨p2, vs2, rfl, w2⟩ := r.lst c
            exact ⟨p, p2, vs, vs2, rfl, .inl ⟨w.sq, w2.sq, k _ H' As' bad' c (x1.trans x2) (walk_zipL w w2)⟩⟩
          | _ => cases q3
        | tup xs => cases y with
          | tup ys =>
            cases q3
            obtain ⟨p, vs, rfl, w⟩ := (r1.ext x2).p.tw
            obtain ⟨p2, vs2, rfl, w2⟩ := r.p.tw
            exact ⟨p, p2, vs, vs2, rfl, .inr ⟨w.sq, w2.sq, k _ H' As' bad' c (x1.trans x2) (walk_zipT w w2)⟩⟩
          | _ => cases q3
        | _ => cases y <;> cases q3
      · cases e
    · cases e
  · cases e
theorem w_iZipS {σ : L2.St} {H : Hp} {R : It → Hp → Prop} : rI E pk (fZipS fp gp) σ H R → Zs.iZipS E.K (tCons (rV E pk fp) (tCons (rV E pk gp) tNil)) σ H R := by
  rintro ⟨As, bad, μ, ρ, ds, μ', a, e, k⟩
  unfold fZipS at e
  split at e
  · rename_i x μ1 q1
    split at e
    · rename_i y μ2 q2
      split at e
      · rename_i es q3
        cases e
        refine ⟨As, bad, μ, ρ, _, _, a, q1, fun v H1 As1 bad1 c1 x1 r1 => ⟨As1, bad1, μ1, ρ, y, _, a.ext c1 x1, q2, fun u H' As' bad' c x2 r => ?_⟩⟩
        have fin : ∀ (ta tb : Bool) (p p2 : Addr) (vs vs2 : List V) (xs ys : List Z.D), v = .ref p → u = .ref p2 → WB ta pk E p vs xs As' bad' H' → WB tb pk E p2 vs2 ys As' bad' H' → (if xs.length = ys.length then some (zipL xs ys) else none) = some ds →
            ∃ ta tb a b xs ys, [v, u] = [V.ref a, V.ref b] ∧ Zs.SqB ta E.K H' a xs ∧ Zs.SqB tb E.K H' b ys ∧ R (Zs.ItzS ta tb E.K a b) H' := fun ta tb p p2 vs vs2 xs ys e1 e2 w w2 e3 => by
          split at e3
          · rename_i hl
            cases e3
            subst e1 e2
            exact ⟨ta, tb, p, p2, vs, vs2, rfl, w.sq, w2.sq, k _ H' As' bad' c (x1.trans x2) (walk_zipS hl w w2)⟩
          · cases e3
        cases x with
        | lst xs =>
          obtain ⟨p, vs, e1, w⟩ := (r1.ext x2).lst c
          cases y with
          | lst ys =>
            obtain ⟨p2, vs2, e2, w2⟩ := r.lst c
            exact fin false false p p2 vs vs2 xs ys e1 e2 w w2 q3
          | tup ys =>
            obtain ⟨p2, vs2, e2, w2⟩ := r.p.tw
            exact fin false true p p2 vs vs2 xs ys e1 e2 w w2 q3
          | _ => cases q3
        | tup xs =>
          obtain ⟨p, vs, e1, w⟩ := (r1.ext x2).p.tw
          cases y with
          | lst ys =>
            obtain ⟨p2, vs2, e2, w2⟩ := r.lst c
            exact fin true false p p2 vs vs2 xs ys e1 e2 w w2 q3
          | tup ys =>
            obtain ⟨p2, vs2, e2, w2⟩ := r.p.tw
            exact fin true true p p2 vs vs2 xs ys e1 e2 w w2 q3
          | _ => cases q3
        | _ => cases y <;> cases q3
      · cases e
    · cases e
  · cases e

/-! ### slots -/
variable {H0 : Hp} {σ : L2.St} {ρ : Rho}
theorem SRel.set {i : Nat} (s : SRel E H0 As bad H σ ρ) (r : Rep E As H bad v d) (hi : i < ρ.length) : SRel E H0 As bad H (σ.set i (some v)) (ρ.set i (some (d, false))) := by
  have hiσ : i < σ.length := by rw [← s.len]; exact hi
  refine ⟨by simpa using s.len, fun j e h => ?_, fun j e h => ?_, fun j k d1 d2 p h1 h2 h3 h4 => ?_⟩
  · by_cases q : i = j
    · subst q
      rw [List.getElem?_set_self hi] at h
      cases h
      exact ⟨v, by rw [List.getElem?_set_self hiσ], r⟩
    · rw [List.getElem?_set_ne q] at h
      rw [List.getElem?_set_ne q]
      exact s.val j e h
  · by_cases q : i = j
    · subst q
      rw [List.getElem?_set_self hi] at h
      cases h
    · rw [List.getElem?_set_ne q] at h
      rw [List.getElem?_set_ne q]
      exact s.own j e h
  · have nj : ∀ {l : Nat} {y : D}, (ρ.set i (some (d, false)))[l]? = some (some (y, true)) → i ≠ l := fun {l y} h q => by
      subst q
      rw [List.getElem?_set_self hi] at h
      cases h
    have n1 := nj h1
    have n2 := nj h2
    rw [List.getElem?_set_ne n1] at h1 h3
    rw [List.getElem?_set_ne n2] at h2 h4
    exact s.dis j k d1 d2 p h1 h2 h3 h4
/-- a new list of one's own -/
theorem SRel.setO {i : Nat} {a : Addr} {vs : List V} {ds : List D} (s : SRel E H0 As bad H σ ρ) (hi : i < ρ.length) (h : H a = some (.lst vs)) (r : Reps E As H bad vs ds) (hb : bad a) (na : a ∉ As) (h0 : H0 a = none)
    (ap : ∀ (j : Nat) (e : D), ρ[j]? = some (some (e, true)) → σ[j]? ≠ some (some (.ref a))) : SRel E H0 As bad H (σ.set i (some (.ref a))) (ρ.set i (some (.lst ds, true))) := by
  have hiσ : i < σ.length := by rw [← s.len]; exact hi
  refine ⟨by simpa using s.len, fun j e h => ?_, fun j e h => ?_, fun j k d1 d2 p h1 h2 h3 h4 => ?_⟩
  · by_cases q : i = j
    · subst q
      rw [List.getElem?_set_self hi] at h
      cases h
    · rw [List.getElem?_set_ne q] at h
      rw [List.getElem?_set_ne q]
      exact s.val j e h
  · by_cases q : i = j
    · subst q
      rw [List.getElem?_set_self hi] at h
      cases h
      exact ⟨a, vs, ds, rfl, by rw [List.getElem?_set_self hiσ], by assumption, r, hb, na, h0⟩
    · rw [List.getElem?_set_ne q] at h
      rw [List.getElem?_set_ne q]
      exact s.own j e h
  · by_cases q : i = j
    · by_cases q2 : i = k
      · rw [← q, ← q2]
      · subst q
        rw [List.getElem?_set_self hiσ] at h3
        rw [List.getElem?_set_ne q2] at h2 h4
        cases h3
        exact absurd h4 (ap k d2 h2)
    · by_cases q2 : i = k
      · subst q2
        rw [List.getElem?_set_self hiσ] at h4
        rw [List.getElem?_set_ne q] at h1 h3
        cases h4
        exact absurd h3 (ap j d1 h1)
      · rw [List.getElem?_set_ne q] at h1 h3
        rw [List.getElem?_set_ne q2] at h2 h4
        exact s.dis j k d1 d2 p h1 h2 h3 h4
theorem wipeR_length (ρ : Rho) : ∀ vs : List Nat, (wipeR ρ vs).length = ρ.length
  | [] => rfl
  | v :: vs => by unfold wipeR; rw [List.length_set, wipeR_length ρ vs]
theorem wipeR_some {i : Nat} {x : D × Bool} : ∀ {vs : List Nat}, (wipeR ρ vs)[i]? = some (some x) → ρ[i]? = some (some x) ∧ i ∉ vs
  | [], h => ⟨h, by simp⟩
  | v :: vs, h => by
    unfold wipeR at h
    by_cases hi : v = i
    · subst hi
      by_cases hv : v < (wipeR ρ vs).length
      · rw [List.getElem?_set_self hv] at h; cases h
      · rw [List.getElem?_eq_none (by simpa using hv)] at h; cases h
    · rw [List.getElem?_set_ne hi] at h
      obtain ⟨h1, h2⟩ := wipeR_some h
      exact ⟨h1, by simp only [List.mem_cons, not_or]; exact ⟨fun e => hi e.symm, h2⟩⟩
theorem wipe_other {i : Nat} : ∀ {vs : List Nat}, i ∉ vs → (wipe σ vs)[i]? = σ[i]?
  | [], _ => rfl
  | v :: vs, h => by
    simp only [List.mem_cons, not_or] at h
    unfold wipe
    rw [List.getElem?_set_ne (fun e => h.1 e.symm)]
    exact wipe_other h.2
theorem SRel.wiped (s : SRel E H0 As bad H σ ρ) (vs : List Nat) : SRel E H0 As bad H (wipe σ vs) (wipeR ρ vs) := by
  refine ⟨by rw [wipeR_length, wipe_length, s.len], fun j e h => ?_, fun j e h => ?_, fun j k d1 d2 p h1 h2 h3 h4 => ?_⟩
  · obtain ⟨h1, h2⟩ := wipeR_some h
    rw [wipe_other h2]
    exact s.val j e h1
  · obtain ⟨h1, h2⟩ := wipeR_some h
    rw [wipe_other h2]
    exact s.own j e h1
  · obtain ⟨p1, n1⟩ := wipeR_some h1
    obtain ⟨p2, n2⟩ := wipeR_some h2
    rw [wipe_other n1] at h3
    rw [wipe_other n2] at h4
    exact s.dis j k d1 d2 p p1 p2 h3 h4
theorem wipe_same {σ' : L2.St} {vs : List Nat} (hl : σ'.length = σ.length) (h : ∀ i, i ∉ vs → σ'[i]? = σ[i]?) : wipe σ' vs = wipe σ vs := by
  apply List.ext_getElem?
  intro i
  by_cases m : i ∈ vs
  · have no : ∀ (τ : L2.St), τ.length = σ.length → (wipe τ vs)[i]? = if i < σ.length then some none else none := fun τ ht => by
      by_cases hi : i < σ.length
      · rw [if_pos hi]
        have hi' : i < (wipe τ vs).length := by rw [wipe_length, ht]; exact hi
        rw [List.getElem?_eq_getElem hi']
        cases q : (wipe τ vs)[i] with
        | none => rfl
        | some x =>
          have q' : (wipe τ vs)[i]? = some (some x) := by rw [List.getElem?_eq_getElem hi', q]
          exact absurd m (wipe_some q').2
      · rw [if_neg hi, List.getElem?_eq_none]
        rw [wipe_length, ht]
        omega
    rw [no σ' hl, no σ rfl]
  · rw [wipe_other m, wipe_other m]
    exact h i m

/-! ### targets -/
mutual
/-- the slots of a target -/
def tIx : X → List Nat
  | .tName i => [i]
  | .tTup ts => tIxs ts
  | _ => []
def tIxs : X → List Nat
  | .nil => []
  | .cons t r => tIx t ++ tIxs r
  | _ => []
end
def rG (E : En) (t : X) : TG := fun v σ H Q => ∃ As bad ρ d ρ' H0, SRel E H0 As bad H σ ρ ∧ Rep E As H bad v d ∧ dT t d ρ = some ρ' ∧
  ∀ σ', SRel E H0 As bad H σ' ρ' → σ'.length = σ.length → (∀ i, i ∉ tIx t → σ'[i]? = σ[i]?) → Q σ' H
def rGs (E : En) (t : X) : TGs := fun vs σ H Q => ∃ As bad ρ ds ρ' H0, SRel E H0 As bad H σ ρ ∧ Reps E As H bad vs ds ∧ dT.dTs t ds ρ = some ρ' ∧
  ∀ σ', SRel E H0 As bad H σ' ρ' → σ'.length = σ.length → (∀ i, i ∉ tIxs t → σ'[i]? = σ[i]?) → Q σ' H
theorem w_gName {i : Nat} {Q : L2.St → Hp → Prop} : rG E (.tName i) v σ H Q → gName i v σ H Q := by
  rintro ⟨As, bad, ρ, d, ρ', H0, s, r, e, k⟩
  unfold dT at e
  split at e
  · rename_i hi
    cases e
    refine k _ (s.set r hi) (by simp) fun j hj => ?_
    rw [List.getElem?_set_ne]
    intro q
    exact hj (by simp [tIx, q])
  · cases e
theorem w_gNil {vs : List V} {Q : L2.St → Hp → Prop} : rGs E .nil vs σ H Q → gNil vs σ H Q := by
  rintro ⟨As, bad, ρ, ds, ρ', H0, s, r, e, k⟩
  cases r with
  | nil =>
    cases e
    exact ⟨rfl, k _ s rfl fun _ _ => rfl⟩
  | cons _ _ => exact nomatch e
theorem w_gCons {t r : X} {vs : List V} {Q : L2.St → Hp → Prop} : rGs E (.cons t r) vs σ H Q → gCons (rG E t) (rGs E r) vs σ H Q := by
  rintro ⟨As, bad, ρ, ds, ρ', H0, s, rr, e, k⟩
  cases rr with
  | nil => exact nomatch e
  | cons r1 r2 =>
    unfold dT.dTs at e
    split at e
    · cases e
    · rename_i ρ1 q
      refine ⟨_, _, rfl, As, bad, ρ, _, ρ1, H0, s, r1, q, fun σ1 s1 l1 o1 => ⟨As, bad, ρ1, _, ρ', H0, s1, r2, e, fun σ2 s2 l2 o2 => k σ2 s2 (l2.trans l1) fun i hi => ?_⟩⟩
      have hi' : i ∉ tIx t ++ tIxs r := hi
      rw [List.mem_append, not_or] at hi'
      rw [o2 i hi'.2, o1 i hi'.1]
/-- how many -/
def tLen : X → Nat
  | .cons _ r => tLen r + 1
  | _ => 0
theorem dTs_len : ∀ (t : X) (ds : List D) (ρ ρ' : Rho), dT.dTs t ds ρ = some ρ' → ds.length = tLen t
  | .nil, [], _, _, _ => rfl
  | .cons t r, d :: ds, ρ, ρ', h => by
    unfold dT.dTs at h
    split at h
    · cases h
    · rename_i ρ1 q
      rw [List.length_cons, dTs_len r ds ρ1 ρ' h]
      rfl
theorem w_gTup {ts : X} {Q : L2.St → Hp → Prop} : rG E (.tTup ts) v σ H Q → gTup E.K (tLen ts) (rGs E ts) v σ H Q ∨ gLst E.K (tLen ts) (rGs E ts) v σ H Q := by
  rintro ⟨As, bad, ρ, d, ρ', H0, s, r, e, k⟩
  cases d with
  | tup ds =>
    have e' : dT.dTs ts ds ρ = some ρ' := by
      unfold dT at e
      exact e
    obtain ⟨a, vs, rfl, l, rr⟩ := (show RepP E As H bad v (.tup ds) from .inl r).tup
    exact .inl ⟨a, vs, rfl, l, by rw [rr.length]; exact dTs_len _ _ _ _ e', As, bad, ρ, ds, ρ', H0, s, rr, e', k⟩
  | lst ds =>
    have e' : dT.dTs ts ds ρ = some ρ' := by
      unfold dT at e
      exact e
    obtain ⟨a, vs, rfl, l, rr⟩ := (show RepP E As H bad v (.lst ds) from .inl r).lst
    exact .inr ⟨a, vs, rfl, l.sq, by rw [rr.length]; exact dTs_len _ _ _ _ e', As, bad, ρ, ds, ρ', H0, s, rr, e', k⟩
  | _ =>
    unfold dT at e
    cases e
end
end Z
end

section
set_option Elab.async false
set_option autoImplicit false
set_option linter.all false
set_option maxRecDepth 100000
set_option maxHeartbeats 1000000
/-! Comprehensions over trees. -/
namespace Z
open PySem PySem.Spec PyProof.Rows L2
section
variable {E : En} {As As0 : List Addr} {bad bad0 : Addr → Prop} {H H0 : Hp} {μ : Mu} {a : Addr}
/-- a list of one's own is changed -/
theorem own_sx (hb : bad a) {o : HO} : SExt As bad H As bad (upd H a o) := ⟨⟨[], by simp⟩, fun b u h n => ⟨by rw [upd_ne (show b ≠ a from fun e => n (by rw [e]; exact hb))]; exact h, n⟩⟩
theorem own_crel (c : CRel E As bad H μ) (hb : bad a) (na : a ∉ As) (xs : List V) : CRel E As bad (upd H a (.lst xs)) μ := by
  refine ⟨c.nd, c.sub, fun b h => ?_, c.len, fun n b ds h1 h2 => ?_⟩
  · by_cases q : b = a
    · subst q
      exact ⟨xs, upd_same⟩
    · rw [upd_ne q]
      exact c.lists b h
  · obtain ⟨vs, h3, h4⟩ := c.cel n b ds h1 h2
    have q : b ≠ a := fun e => na (e ▸ List.mem_of_getElem? h1)
    exact ⟨vs, by rw [upd_ne q]; exact h3, h4.sx (own_sx hb)⟩
theorem Ext.own (x : Ext As0 bad0 H0 As bad H) (h0 : H0 a = none) {o : HO} : Ext As0 bad0 H0 As bad (upd H a o) :=
  ⟨x.sub, x.pre, x.fr, fun b u h n => by rw [upd_ne (ne_of_none h h0)]; exact x.all b u h n, x.nb, x.bb⟩
theorem Ext.freshB {As' : List Addr} {bad' : Addr → Prop} {H' : Hp} (x : Ext As bad H As' bad' H') (h : H' a = none) (na : a ∉ As) : H a = none := by
  cases q : H a with
  | none => rfl
  | some u =>
    rw [x.all a u q na] at h
    cases h
end
def fComp (t : X) (own : List Nat) (fi : Rho → Mu → Option (List D × Mu)) (fc fe : Rho → Mu → RE) : Rho → Mu → RE := fun ρ μ => match fi ρ μ with
  | some (ds, μ1) => if ds.length ≤ sizeLine then (match foldC (fun d μ2 => match dT t d (wipeR ρ own) with
      | none => none
      | some ρ2 => (match fc ρ2 μ2 with
        | some (.bl true, _, μ3) => (match fe ρ2 μ3 with
          | some (y, _, μ4) => some (some y, μ4)
          | none => none)
        | some (.bl false, _, μ3) => some (none, μ3)
        | _ => none)) ds μ1 with
    | some (ys, μ5) => some (.lst ys, true, μ5)
    | none => none) else none
  | none => none
section
variable {E : En} {t : X} {own : List Nat} {fi : Rho → Mu → Option (List D × Mu)} {fc fe : Rho → Mu → RE} {σ : L2.St} {H : Hp} {Q : VK}
theorem ite_t {p q : Prop} (h : p) : if true = true then p else q := h
theorem ite_f {p q : Prop} (h : q) : if false = true then p else q := by
  rw [if_neg (by decide)]
  exact h
theorem foldC_cons {f : D → Mu → Option (Option D × Mu)} {d : D} {ds : List D} {μ μ5 : Mu} {ys : List D} (h : foldC f (d :: ds) μ = some (ys, μ5)) :
    ∃ r μ1 zs, f d μ = some (r, μ1) ∧ foldC f ds μ1 = some (zs, μ5) ∧ ys = (match r with
      | some y => y :: zs
      | none => zs) := by
  unfold foldC at h
  split at h
  · cases h
  · rename_i r μ1 q
    split at h
    · cases h
    · rename_i zs μ2 q2
      cases h
      exact ⟨r, μ1, zs, q, q2, rfl⟩
theorem w_comp (ht : ∀ i ∈ tIx t, i ∈ own) : rE E (fComp t own fi fc fe) σ H Q → tLc (rI E true fi) (rG E t) (rTt E fc) (rR E fe) own σ H Q := by
  rintro ⟨As, bad, μ, ρ, d0, o0, μ', a, e, k⟩
  unfold fComp at e
  split at e
  rotate_left
  · cases e
  rename_i ds μ1 q1
  split at e
  rotate_left
  · cases e
  rename_i hz
  split at e
  rotate_left
  · cases e
  rename_i ys μ5 q2
  cases e
  obtain ⟨H0, s0⟩ := a.s
  refine ⟨As, bad, μ, ρ, ds, μ1, a, q1, fun J H1 As1 bad1 c1 x1 w1 Dl hD => ?_⟩
  obtain ⟨st, st0, stE, _, stW⟩ := w1
  have s1 := (s0.ext x1).wiped own
  have nD : Dl ∉ As1 := fun m => by
    obtain ⟨vs, e⟩ := c1.lists _ (c1.sub _ m)
    rw [hD] at e
    cases e
  generalize hF : (fun d μ2 => match dT t d (wipeR ρ own) with
      | none => none
      | some ρ2 => (match fc ρ2 μ2 with
        | some (.bl true, _, μ3) => (match fe ρ2 μ3 with
          | some (y, _, μ4) => some (some y, μ4)
          | none => none)
        | some (.bl false, _, μ3) => some (none, μ3)
        | _ => none)) = F at q2
  refine ⟨fun i m Hc => m = ds.length - i ∧ i ≤ ds.length ∧ ∃ As' bad' μc acc accD rest, CRel E As' bad' Hc μc ∧ bad' Dl ∧ Dl ∉ As' ∧ Ext As1 bad1 H1 As' bad' Hc ∧ Hc Dl = some (.lst acc) ∧ Reps E As' Hc bad' acc accD ∧
    accD.length ≤ i ∧ foldC F (ds.drop i) μc = some (rest, μ') ∧ ys = accD ++ rest, ⟨ds.length, by simp, Nat.zero_le _, As1, _, μ1, [], [], ys, own_rel c1 hD [], .inr rfl, nD, own_ext c1 hD _, upd_same, .nil, Nat.le_refl _, by simpa using q2, rfl⟩, ?_⟩
  rintro i m Hc ⟨rfl, hi, As', bad', μc, acc, accD, rest, c, bD, naD, x, hDl, rs, hl, fe', hy⟩
  have wk := stW _ _ _ (stE _ _ _ _ _ _ st0 x)
  by_cases hlt : i < ds.length
  · have hd : ds[i]? = some ds[i] := List.getElem?_eq_getElem hlt
    rw [List.drop_eq_getElem_cons hlt] at fe'
    obtain ⟨r, μ3, zs, f1, f2, f3⟩ := foldC_cons fe'
    obtain ⟨go, yl⟩ := wk.go i ds[i] μc c hd
    refine .inr ⟨go, _, fun H' n => ⟨ds.length - (i + 1), by omega, n⟩, fun v H' y => ?_⟩
    obtain ⟨c2, x2, r2⟩ := yl v H' y
    rw [← hF] at f1
    dsimp only at f1
    split at f1
    · cases f1
    rename_i ρ2 g1
    have s2 : SRel E H0 As' bad' H' (wipe σ own) (wipeR ρ own) := (s1.ext x).ext x2
    refine ⟨As', bad', wipeR ρ own, ds[i], ρ2, H0, s2, r2, g1, fun σ' s' l' o' => ⟨?_, ?_⟩⟩
    · have e1 : wipe σ' own = wipe (wipe σ own) own := wipe_same l' fun j hj => o' j fun m => hj (ht j m)
      have e2 : wipe (wipe σ own) own = wipe σ own := wipe_same (wipe_length _ _) fun j hj => wipe_other hj
      rw [e1, e2]
    split at f1
    · rename_i o3 μ3' g2
      split at f1
      · rename_i yy o4 μ4 g3
        cases f1
        refine ⟨As', bad', μc, ρ2, true, o3, μ3', ⟨c2, H0, s'⟩, g2, fun H3 As3 bad3 c3 x3 => ?_⟩
        refine ite_t ?_
        refine ⟨As3, bad3, μ3', ρ2, yy, o4, _, ⟨c3, H0, s'.ext x3⟩, g3, fun y4 H4 As4 bad4 c4 x4 r4 => ?_⟩
        have xx := (x2.trans x3).trans x4
        have n4 : Dl ∉ As4 := xx.na hDl naD
        have b4 : bad4 Dl := xx.bb _ bD
        refine ⟨acc, xx.all _ _ hDl naD, ?_, ?_⟩
        · rw [rs.length]
          omega
        · refine ⟨rfl, hlt, As4, bad4, _, acc ++ [y4], accD ++ [yy], zs, own_crel c4 b4 n4 _, b4, n4, (x.trans xx).own hD, upd_same, ?_, by rw [List.length_append, List.length_singleton]; omega, f2, by rw [hy, f3, List.append_assoc]; rfl⟩
          exact ((rs.ext xx).append (.cons r4 .nil)).sx (own_sx b4)
      · cases f1
    · rename_i o3 μ3' g2
      cases f1
      refine ⟨As', bad', μc, ρ2, false, o3, _, ⟨c2, H0, s'⟩, g2, fun H3 As3 bad3 c3 x3 => ?_⟩
      refine ite_f ?_
      have xx := x2.trans x3
      exact ⟨rfl, hlt, As3, bad3, _, acc, accD, zs, c3, xx.bb _ bD, xx.na hDl naD, x.trans xx, xx.all _ _ hDl naD, rs.ext xx, by omega, f2, by rw [hy, f3]⟩
    · cases f1
  · have e : i = ds.length := by omega
    subst e
    rw [List.drop_length] at fe'
    cases fe'
    refine .inl ⟨wk.stop _ (Nat.le_refl _), ?_⟩
    have hys : ys = accD := by rw [hy, List.append_nil]
    subst hys
    refine k _ Hc As' bad' c (x1.trans x) ⟨Dl, acc, _, rfl, rfl, hDl, rs, bD, naD, ?_⟩
    refine x1.freshB hD fun m => nD ?_
    obtain ⟨ee, rfl⟩ := x1.pre
    exact List.mem_append_left _ m
/-- no test -/
theorem w_yes {Q : Bool → Hp → Prop} : rTt E (fun _ μ => some (.bl true, false, μ)) σ H Q → tYes σ H Q := by
  rintro ⟨As, bad, μ, ρ, b, o, μ', a, e, k⟩
  cases e
  exact k H As bad a.c a.c.ext0
end
end Z
end

section
set_option Elab.async false
set_option autoImplicit false
set_option linter.all false
set_option maxRecDepth 100000
set_option maxHeartbeats 1000000
/-! Statements over trees. -/
namespace Z
open PySem PySem.Spec PyProof.Rows L2

/-- the entry -/
structure Bs where
  As : List Addr
  bad : Addr → Prop
  H : Hp
  μ : Mu
/-- where a statement stands -/
structure StR (E : En) (B : Bs) (As : List Addr) (bad : Addr → Prop) (H : Hp) (μ : Mu) (σ : L2.St) (ρ : Rho) : Prop where
  c0 : CRel E B.As B.bad B.H B.μ
  c : CRel E As bad H μ
  s : SRel E B.H As bad H σ ρ
  x : Ext B.As B.bad B.H As bad H
def FinS (E : En) (B : Bs) (As : List Addr) (bad : Addr → Prop) (H : Hp) (D : Ends) : SR → Prop
  | .nx ρ' μ' => ∀ σ' H' As' bad', StR E B As' bad' H' μ' σ' ρ' → SExt As bad H As' bad' H' → D.nx σ' H'
  | .bk ρ' μ' => ∀ σ' H' As' bad', StR E B As' bad' H' μ' σ' ρ' → SExt As bad H As' bad' H' → D.bk σ' H'
  | .ct ρ' μ' => ∀ σ' H' As' bad', StR E B As' bad' H' μ' σ' ρ' → SExt As bad H As' bad' H' → D.ct σ' H'
  | .rt d o μ' => ∀ v H' As' bad', CRel E As' bad' H' μ' → Ext B.As B.bad B.H As' bad' H' → RepO E B.H As' bad' H' v d o → D.rt v H'
def rW (E : En) (f : Rho → Mu → Option SR) : TS := fun D σ H => ∃ B As bad μ ρ r, StR E B As bad H μ σ ρ ∧ f ρ μ = some r ∧ FinS E B As bad H D r
section
variable {E : En} {B : Bs} {As As' : List Addr} {bad bad' : Addr → Prop} {H H' : Hp} {μ μ' : Mu} {σ : L2.St} {ρ : Rho} {v : V} {d : D}
theorem StR.at_ (s : StR E B As bad H μ σ ρ) : At E As bad H μ σ ρ := ⟨s.c, B.H, s.s⟩
theorem StR.ext (s : StR E B As bad H μ σ ρ) (c : CRel E As' bad' H' μ') (x : Ext As bad H As' bad' H') : StR E B As' bad' H' μ' σ ρ := ⟨s.c0, c, s.s.ext x, s.x.trans x⟩
theorem FinS.later {D : Ends} (x : SExt As bad H As' bad' H') : ∀ {r : SR}, FinS E B As bad H D r → FinS E B As' bad' H' D r
  | .nx _ _, f => fun σ' H2 As2 bad2 s y => f σ' H2 As2 bad2 s (x.trans y)
  | .bk _ _, f => fun σ' H2 As2 bad2 s y => f σ' H2 As2 bad2 s (x.trans y)
  | .ct _ _, f => fun σ' H2 As2 bad2 s y => f σ' H2 As2 bad2 s (x.trans y)
  | .rt _ _ _, f => f
/-- other ends -/
theorem FinS.ends {D D' : Ends} (nx : ∀ σ H, D.nx σ H → D'.nx σ H) (bk : ∀ σ H, D.bk σ H → D'.bk σ H) (ct : ∀ σ H, D.ct σ H → D'.ct σ H) (rt : ∀ v H, D.rt v H → D'.rt v H) : ∀ {r : SR}, FinS E B As bad H D r → FinS E B As bad H D' r
  | .nx _ _, f => fun σ' H2 As2 bad2 s y => nx _ _ (f σ' H2 As2 bad2 s y)
  | .bk _ _, f => fun σ' H2 As2 bad2 s y => bk _ _ (f σ' H2 As2 bad2 s y)
  | .ct _ _, f => fun σ' H2 As2 bad2 s y => ct _ _ (f σ' H2 As2 bad2 s y)
  | .rt _ _ _, f => fun v H2 As2 bad2 c x r => rt _ _ (f v H2 As2 bad2 c x r)
theorem FinS.nx1 {D : Ends} {ρ' : Rho} {μ' : Mu} (f : FinS E B As bad H D (.nx ρ' μ')) {σ' : L2.St} {H' : Hp} {As' : List Addr} {bad' : Addr → Prop} (s : StR E B As' bad' H' μ' σ' ρ') (x : SExt As bad H As' bad' H') : D.nx σ' H' := f σ' H' As' bad' s x

/-! ### what a statement of each kind does -/
variable {D : Ends} {f g : Rho → Mu → Option SR} {fe fc : Rho → Mu → RE} {fi : Rho → Mu → Option (List Z.D × Mu)}
def kNx : Rho → Mu → Option SR := fun ρ μ => some (.nx ρ μ)
def kBk : Rho → Mu → Option SR := fun ρ μ => some (.bk ρ μ)
def kCt : Rho → Mu → Option SR := fun ρ μ => some (.ct ρ μ)
def kSeq (f g : Rho → Mu → Option SR) : Rho → Mu → Option SR := fun ρ μ => match f ρ μ with
  | some (.nx ρ1 μ1) => g ρ1 μ1
  | o => o
def kIf (c : Rho → Mu → RE) (f g : Rho → Mu → Option SR) : Rho → Mu → Option SR := fun ρ μ => match c ρ μ with
  | some (.bl true, _, μ1) => f ρ μ1
  | some (.bl false, _, μ1) => g ρ μ1
  | _ => none
def kRet (fe : Rho → Mu → RE) : Rho → Mu → Option SR := fun ρ μ => match fe ρ μ with
  | some (d, o, μ1) => some (.rt d o μ1)
  | none => none
def kRetV (i : Nat) : Rho → Mu → Option SR := fun ρ μ => match ρ[i]? with
  | some (some (d, o)) => some (.rt d o μ)
  | _ => none
def kRetN : Rho → Mu → Option SR := fun _ μ => some (.rt .non false μ)
def kFor (t : X) (fi : Rho → Mu → Option (List Z.D × Mu)) (f : Rho → Mu → Option SR) : Rho → Mu → Option SR := fun ρ μ => match fi ρ μ with
  | some (ds, μ1) => foldS (fun d ρ2 μ2 => match dT t d ρ2 with
    | some ρ3 => f ρ3 μ2
    | none => none) ds ρ μ1
  | none => none
def kWh (n : Nat) (c : Rho → Mu → RE) (f : Rho → Mu → Option SR) : Rho → Mu → Option SR := fun ρ μ => whileS (fun ρ1 μ1 => match c ρ1 μ1 with
  | some (.bl k, _, μ2) => some (k, μ2)
  | _ => none) (fun ρ1 μ1 => f ρ1 μ1) n ρ μ
def kEx (fe : Rho → Mu → RE) : Rho → Mu → Option SR := fun ρ μ => match fe ρ μ with
  | some (_, _, μ1) => some (.nx ρ μ1)
  | none => none
def kSet (t : X) (fe : Rho → Mu → RE) : Rho → Mu → Option SR := fun ρ μ => match fe ρ μ with
  | some (d, _, μ1) => (match dT t d ρ with
    | some ρ1 => some (.nx ρ1 μ1)
    | none => none)
  | none => none
def kSetO (i : Nat) (fe : Rho → Mu → RE) : Rho → Mu → Option SR := fun ρ μ => match fe ρ μ with
  | some (.lst ds, true, μ1) => if i < ρ.length then some (.nx (ρ.set i (some (.lst ds, true))) μ1) else none
  | some (d, false, μ1) => if i < ρ.length then some (.nx (ρ.set i (some (d, false))) μ1) else none
  | _ => none
def kPar (is : List Nat) (fa : Rho → Mu → Option (List (Z.D × Bool) × Mu)) : Rho → Mu → Option SR := fun ρ μ => match fa ρ μ with
  | some (ds, μ1) => (match setR ρ is ds with
    | some ρ1 => some (.nx ρ1 μ1)
    | none => none)
  | none => none
def kApp (i : Nat) (fe : Rho → Mu → RE) : Rho → Mu → Option SR := fun ρ μ => match fe ρ μ with
  | some (d, _, μ1) => (match ρ[i]? with
    | some (some (.lst ds, true)) => if ds.length < sizeLine then some (.nx (ρ.set i (some (.lst (ds ++ [d]), true))) μ1) else none
    | _ => none)
  | none => none
def kIns (i : Nat) (fk fe : Rho → Mu → RE) : Rho → Mu → Option SR := fun ρ μ => match fk ρ μ with
  | some (.int z, _, μ1) => (match fe ρ μ1 with
    | some (d, _, μ2) => (match ρ[i]? with
      | some (some (.lst ds, true)) => if 0 ≤ z ∧ z < 2 ^ 62 ∧ ds.length < sizeLine then some (.nx (ρ.set i (some (.lst (ds.take z.toNat ++ [d] ++ ds.drop z.toNat), true))) μ2) else none
      | _ => none)
    | none => none)
  | _ => none
def kAppC (i : Nat) (fe : Rho → Mu → RE) : Rho → Mu → Option SR := fun ρ μ => match fe ρ μ with
  | some (d, _, μ1) => (match ρ[i]? with
    | some (some (.cell n, false)) => (match μ1[n]? with
      | some ds => if ds.length < sizeLine then some (.nx ρ (μ1.set n (ds ++ [d]))) else none
      | none => none)
    | _ => none)
  | none => none
def kSub (i : Nat) (fk fe : Rho → Mu → RE) : Rho → Mu → Option SR := fun ρ μ => match fe ρ μ with
  | some (d, _, μ1) => (match fk ρ μ1 with
    | some (.int z, _, μ2) => (match ρ[i]? with
      | some (some (.lst ds, true)) => (match L2.ixN ds.length z with
        | some j => some (.nx (ρ.set i (some (.lst (ds.set j d), true))) μ2)
        | none => none)
      | _ => none)
    | _ => none)
  | none => none
def kSubC (i : Nat) (fk fe : Rho → Mu → RE) : Rho → Mu → Option SR := fun ρ μ => match fe ρ μ with
  | some (d, _, μ1) => (match fk ρ μ1 with
    | some (.int z, _, μ2) => (match ρ[i]? with
      | some (some (.cell n, false)) => (match μ2[n]? with
        | some ds => (match L2.ixN ds.length z with
          | some j => some (.nx ρ (μ2.set n (ds.set j d)))
          | none => none)
        | none => none)
      | _ => none)
    | _ => none)
  | none => none
theorem u_nx : rW E kNx D σ H → tNext D σ H := by
  rintro ⟨B, As, bad, μ, ρ, r, s, e, k⟩
  cases e
  exact k.nx1 s .refl
theorem u_bk : rW E kBk D σ H → tBreak D σ H := by
  rintro ⟨B, As, bad, μ, ρ, r, s, e, k⟩
  cases e
  exact k σ H As bad s .refl
theorem u_ct : rW E kCt D σ H → tCont D σ H := by
  rintro ⟨B, As, bad, μ, ρ, r, s, e, k⟩
  cases e
  exact k σ H As bad s .refl
theorem u_seq : rW E (kSeq f g) D σ H → tSeq (rW E f) (rW E g) D σ H := by
  rintro ⟨B, As, bad, μ, ρ, r, s, e, k⟩
  unfold kSeq at e
  split at e
  · rename_i ρ1 μ1 q
    exact ⟨B, As, bad, μ, ρ, _, s, q, fun σ' H' As' bad' s' x => ⟨B, As', bad', μ1, ρ1, r, s', e, k.later x⟩⟩
  · rename_i o h
    refine ⟨B, As, bad, μ, ρ, r, s, e, ?_⟩
    cases r with
    | nx ρ1 μ1 => exact absurd e (h ρ1 μ1)
    | bk _ _ => exact k
    | ct _ _ => exact k
    | rt _ _ _ => exact k
theorem u_if : rW E (kIf fc f g) D σ H → tIfS (rTt E fc) (rW E f) (rW E g) D σ H := by
  rintro ⟨B, As, bad, μ, ρ, r, s, e, k⟩
  unfold kIf at e
  split at e
  · rename_i o μ1 q
    exact ⟨As, bad, μ, ρ, true, o, μ1, s.at_, q, fun H1 As1 bad1 c1 x1 => ite_t ⟨B, As1, bad1, μ1, ρ, r, s.ext c1 x1, e, k.later x1.sx⟩⟩
  · rename_i o μ1 q
    exact ⟨As, bad, μ, ρ, false, o, μ1, s.at_, q, fun H1 As1 bad1 c1 x1 => ite_f ⟨B, As1, bad1, μ1, ρ, r, s.ext c1 x1, e, k.later x1.sx⟩⟩
  · cases e
theorem u_ret : rW E (kRet fe) D σ H → tRet (rE E fe) D σ H := by
  rintro ⟨B, As, bad, μ, ρ, r, s, e, k⟩
  unfold kRet at e
  split at e
  · rename_i d o μ1 q
    cases e
    exact ⟨As, bad, μ, ρ, d, o, μ1, s.at_, q, fun v H' As' bad' c x r => k v H' As' bad' c (s.x.trans x) (r.back s.x x)⟩
  · cases e
theorem u_retV {i : Nat} : rW E (kRetV i) D σ H → tRet (tVar i) D σ H := by
  rintro ⟨B, As, bad, μ, ρ, r, s, e, k⟩
  unfold kRetV at e
  split at e
  · rename_i d o q
    cases e
    cases o with
    | false =>
      obtain ⟨v, h1, h2⟩ := s.s.val i d q
      exact ⟨v, h1, k v H As bad s.c s.x h2⟩
    | true =>
      obtain ⟨a, vs, ds, h0, h1, h2, h3, h4, h5, h6⟩ := s.s.own i d q
      exact ⟨.ref a, h1, k _ H As bad s.c s.x ⟨a, vs, ds, rfl, h0, h2, h3, h4, h5, h6⟩⟩
  · cases e
theorem u_retN : rW E kRetN D σ H → tRetN D σ H := by
  rintro ⟨B, As, bad, μ, ρ, r, s, e, k⟩
  cases e
  exact k .non H As bad s.c s.x .non
theorem u_ex : rW E (kEx fe) D σ H → tDrop (rE E fe) D σ H := by
  rintro ⟨B, As, bad, μ, ρ, r, s, e, k⟩
  unfold kEx at e
  split at e
  · rename_i d o μ1 q
    cases e
    exact ⟨As, bad, μ, ρ, d, o, _, s.at_, q, fun v H1 As1 bad1 c1 x1 r1 => k.nx1 (s.ext c1 x1) x1.sx⟩
  · cases e
theorem u_set {t : X} : rW E (kSet t fe) D σ H → tAsg (rR E fe) (rG E t) D σ H := by
  rintro ⟨B, As, bad, μ, ρ, r, s, e, k⟩
  unfold kSet at e
  split at e
  · rename_i d o μ1 q
    split at e
    · rename_i ρ1 q2
      cases e
      refine ⟨As, bad, μ, ρ, d, o, _, s.at_, q, fun v H1 As1 bad1 c1 x1 r1 => ?_⟩
      have s1 := s.ext c1 x1
      exact ⟨As1, bad1, ρ, d, ρ1, B.H, s1.s, r1, q2, fun σ' s' _ _ => k.nx1 ⟨s1.c0, c1, s', s1.x⟩ x1.sx⟩
    · cases e
  · cases e
theorem StR.setO {i : Nat} {o : Hp} {ds : List Z.D} (s : StR E B As bad H μ σ ρ) (c' : CRel E As' bad' H' μ') (x : Ext As bad H As' bad' H') (r : RepO E H As' bad' H' v (.lst ds) true) (hi : i < ρ.length) :
    StR E B As' bad' H' μ' (σ.set i (some v)) (ρ.set i (some (.lst ds, true))) := by
  obtain ⟨a, vs, es, rfl, h2, h3, h4, h5, h6, h7⟩ := id r
  cases h2
  obtain ⟨a2, _, _, e2, _, _, _, _, _, h0⟩ := r.back s.x x
  cases e2
  have s1 := s.ext c' x
  refine ⟨s.c0, c', s1.s.setO hi h3 h4 h5 h6 h0 fun j e hj hs => ?_, s1.x⟩
  obtain ⟨b, ws, fs, _, k1, k2, _⟩ := s.s.own j e hj
  rw [k1] at hs
  cases hs
  rw [h7] at k2
  cases k2
theorem u_setO {i : Nat} : rW E (kSetO i fe) D σ H → tAsg (rE E fe) (gName i) D σ H := by
  rintro ⟨B, As, bad, μ, ρ, r, s, e, k⟩
  unfold kSetO at e
  split at e
  · rename_i ds μ1 q
    split at e
    · rename_i hi
      cases e
      exact ⟨As, bad, μ, ρ, _, true, _, s.at_, q, fun v H1 As1 bad1 c1 x1 r1 => k.nx1 (s.setO (o := H) c1 x1 r1 hi) x1.sx⟩
    · cases e
  · rename_i d μ1 _ q
    split at e
    · rename_i hi
      cases e
      refine ⟨As, bad, μ, ρ, _, false, _, s.at_, q, fun v H1 As1 bad1 c1 x1 r1 => ?_⟩
      have s1 := s.ext c1 x1
      exact k.nx1 ⟨s1.c0, c1, s1.s.set r1 hi, s1.x⟩ x1.sx
    · cases e
  · cases e
/-- values with their marks: as are the new lists of one's own -/
inductive RepsO (E : En) (As' : List Addr) (bad' : Addr → Prop) (H' : Hp) (H : Hp) : List V → List (Z.D × Bool) → List Addr → Prop
  | nil : RepsO E As' bad' H' H [] [] []
  | val {v : V} {vs : List V} {d : Z.D} {ds : List (Z.D × Bool)} {as : List Addr} : Rep E As' H' bad' v d → RepsO E As' bad' H' H vs ds as → RepsO E As' bad' H' H (v :: vs) ((d, false) :: ds) as
  | own {a : Addr} {ws vs : List V} {es : List Z.D} {ds : List (Z.D × Bool)} {as : List Addr} : H' a = some (.lst ws) → Reps E As' H' bad' ws es → bad' a → a ∉ As' → H a = none → a ∉ as → RepsO E As' bad' H' H vs ds as →
    RepsO E As' bad' H' H (.ref a :: vs) ((.lst es, true) :: ds) (a :: as)
theorem RepsO.fresh : ∀ {vs : List V} {ds : List (Z.D × Bool)} {as : List Addr}, RepsO E As' bad' H' H vs ds as → ∀ a ∈ as, H a = none ∧ a ∉ As'
  | _, _, _, .nil, a, m => by cases m
  | _, _, _, .val _ r, a, m => RepsO.fresh r a m
  | _, _, _, .own _ _ _ n h _ r, a, m => by
    rcases List.mem_cons.mp m with rfl | m
    · exact ⟨h, n⟩
    · exact RepsO.fresh r a m
theorem RepsO.back {As1 : List Addr} {bad1 : Addr → Prop} {H1 : Hp} (x : Ext As bad H As1 bad1 H1) (y : Ext As1 bad1 H1 As' bad' H') : ∀ {vs : List V} {ds : List (Z.D × Bool)} {as : List Addr}, RepsO E As' bad' H' H1 vs ds as → RepsO E As' bad' H' H vs ds as
  | _, _, _, .nil => .nil
  | _, _, _, .val q r => .val q (RepsO.back x y r)
  | _, _, _, .own h1 h2 h3 h4 h5 h6 r => by
    refine .own h1 h2 h3 h4 (x.freshB h5 fun m => h4 ?_) h6 (RepsO.back x y r)
    obtain ⟨e1, rfl⟩ := x.pre
    obtain ⟨e2, rfl⟩ := y.pre
    simp [m]
def rAO (E : En) (f : Rho → Mu → Option (List (Z.D × Bool) × Mu)) : TA := fun σ H Q => ∃ As bad μ ρ ds μ', At E As bad H μ σ ρ ∧ f ρ μ = some (ds, μ') ∧
  ∀ vs H' As' bad' as, CRel E As' bad' H' μ' → Ext As bad H As' bad' H' → RepsO E As' bad' H' H vs ds as → Q vs H'
def fNilO : Rho → Mu → Option (List (Z.D × Bool) × Mu) := fun _ μ => some ([], μ)
def fConsO (f : Rho → Mu → RE) (g : Rho → Mu → Option (List (Z.D × Bool) × Mu)) : Rho → Mu → Option (List (Z.D × Bool) × Mu) := fun ρ μ => match f ρ μ with
  | some (d, o, μ1) => (match g ρ μ1 with
    | some (ds, μ2) => some ((d, o) :: ds, μ2)
    | none => none)
  | none => none
theorem w_nilO {Q : List V → Hp → Prop} : rAO E fNilO σ H Q → tNil σ H Q := by
  rintro ⟨As, bad, μ, ρ, ds, μ', a, e, k⟩
  cases e
  exact k [] H As bad [] a.c a.c.ext0 .nil
theorem w_consO {fg : Rho → Mu → Option (List (Z.D × Bool) × Mu)} {Q : List V → Hp → Prop} : rAO E (fConsO fe fg) σ H Q → tCons (rE E fe) (rAO E fg) σ H Q := by
  rintro ⟨As, bad, μ, ρ, ds, μ', a, e, k⟩
  unfold fConsO at e
  split at e
  · rename_i d o μ1 q
    split at e
    · rename_i ds μ2 q2
      cases e
      refine ⟨As, bad, μ, ρ, d, o, μ1, a, q, fun v H1 As1 bad1 c1 x1 r1 => ⟨As1, bad1, μ1, ρ, ds, _, a.ext c1 x1, q2, fun vs H2 As2 bad2 as c2 x2 r2 => ?_⟩⟩
      have rb := RepsO.back x1 x2 r2
      cases o with
      | false => exact k _ H2 As2 bad2 as c2 (x1.trans x2) (.val (Rep.ext x2 r1) rb)
      | true =>
        obtain ⟨p, ws, es, rfl, rfl, h3, h4, h5, h6, h7⟩ := r1
        refine k _ H2 As2 bad2 (p :: as) c2 (x1.trans x2) (.own (x2.all _ _ h3 h6) (h4.ext x2) (x2.bb _ h5) (x2.na h3 h6) h7 (fun m => ?_) rb)
        have := (RepsO.fresh r2 p m).1
        rw [h3] at this
        cases this
    · cases e
  · cases e
/-- slots set one behind the other -/
def setS (σ : L2.St) : List Nat → List V → L2.St
  | i :: is, v :: vs => setS (σ.set i (some v)) is vs
  | _, _ => σ
theorem set_ok {H0 : Hp} (h0 : ∀ b : Addr, H b = none → b ∉ As' → H0 b = none) : ∀ {is : List Nat} {vs : List V} {ds : List (Z.D × Bool)} {as : List Addr} {σ : L2.St} {ρ ρ' : Rho}, SRel E H0 As' bad' H' σ ρ → RepsO E As' bad' H' H vs ds as →
    (∀ a ∈ as, ∀ (j : Nat) (e : Z.D), ρ[j]? = some (some (e, true)) → σ[j]? ≠ some (some (.ref a))) → setR ρ is ds = some ρ' → SRel E H0 As' bad' H' (setS σ is vs) ρ'
  | [], _, _, _, _, _, _, s, .nil, _, e => by
    cases e
    exact s
  | [], _, _, _, _, _, _, s, .val _ _, _, e => by cases e
  | [], _, _, _, _, _, _, s, .own _ _ _ _ _ _ _, _, e => by cases e
  | _ :: _, _, _, _, _, _, _, s, .nil, _, e => by cases e
  | i :: is, v :: vs, _, _, σ, ρ, ρ', s, .val r rs, av, e => by
    unfold setR at e
    split at e
    · rename_i hi
      show SRel E H0 As' bad' H' (setS (σ.set i (some v)) is vs) ρ'
      refine set_ok h0 (s.set r hi) rs (fun a m j e hj => ?_) e
      by_cases q : i = j
      · subst q
        rw [List.getElem?_set_self hi] at hj
        cases hj
      · rw [List.getElem?_set_ne q] at hj ⊢
        exact av a m j e hj
    · cases e
  | i :: is, _ :: vs, _, _, σ, ρ, ρ', s, .own h1 h2 h3 h4 h5 h6 rs, av, e => by
    unfold setR at e
    split at e
    · rename_i hi
      show SRel E H0 As' bad' H' (setS (σ.set i (some (.ref _))) is vs) ρ'
      refine set_ok h0 (s.setO hi h1 h2 h3 h4 (h0 _ h5 h4) fun j e hj => av _ (List.mem_cons_self) j e hj) rs (fun a m j e hj => ?_) e
      by_cases q : i = j
      · subst q
        have hi' : i < σ.length := by rw [← s.len]; exact hi
        rw [List.getElem?_set_self hi']
        intro z
        cases z
        exact h6 m
      · rw [List.getElem?_set_ne q] at hj ⊢
        exact av a (List.mem_cons_of_mem _ m) j e hj
    · cases e
theorem setR_len : ∀ {is : List Nat} {ds : List (Z.D × Bool)} {ρ ρ' : Rho}, setR ρ is ds = some ρ' → is.length = ds.length
  | [], [], _, _, _ => rfl
  | [], _ :: _, _, _, e => by cases e
  | _ :: _, [], _, _, e => by cases e
  | i :: is, d :: ds, ρ, ρ', e => by
    unfold setR at e
    split at e
    · rw [List.length_cons, List.length_cons, setR_len e]
    · cases e
theorem RepsO.len : ∀ {vs : List V} {ds : List (Z.D × Bool)} {as : List Addr}, RepsO E As' bad' H' H vs ds as → vs.length = ds.length
  | _, _, _, .nil => rfl
  | _, _, _, .val _ r => by rw [List.length_cons, List.length_cons, RepsO.len r]
  | _, _, _, .own _ _ _ _ _ _ r => by rw [List.length_cons, List.length_cons, RepsO.len r]
theorem u_par {is : List Nat} {fa : Rho → Mu → Option (List (Z.D × Bool) × Mu)} : rW E (kPar is fa) D σ H → rAO E fa σ H fun vs H1 => vs.length = is.length ∧ D.nx (setS σ is vs) H1 := by
  rintro ⟨B, As, bad, μ, ρ, r, s, e, k⟩
  unfold kPar at e
  split at e
  · rename_i ds μ1 q
    split at e
    · rename_i ρ1 q2
      cases e
      refine ⟨As, bad, μ, ρ, ds, _, s.at_, q, fun vs H1 As1 bad1 as c1 x1 r1 => ⟨by rw [r1.len, setR_len q2], ?_⟩⟩
      have s1 := s.ext c1 x1
      refine k.nx1 ⟨s1.c0, c1, set_ok (H := H) (fun b hb nb => s.x.freshB hb fun m => nb ?_) s1.s r1 (fun a m j e hj z => ?_) q2, s1.x⟩ x1.sx
      · obtain ⟨e1, z1⟩ := s1.x.pre
        rw [z1]
        exact List.mem_append_left _ m
      · obtain ⟨b, us, fs, _, k1, k2, _⟩ := s.s.own j e hj
        rw [k1] at z
        cases z
        have := (r1.fresh a m).1
        rw [k2] at this
        cases this
    · cases e
  · cases e
theorem u_par2 {i j : Nat} {fa : Rho → Mu → Option (List (Z.D × Bool) × Mu)} (h : rW E (kPar [i, j] fa) D σ H) : tPar i j (rAO E fa) D σ H := by
  obtain ⟨As, bad, μ, ρ, ds, μ', a, e, k⟩ := u_par h
  refine ⟨As, bad, μ, ρ, ds, μ', a, e, fun vs H' As' bad' as c x r => ?_⟩
  obtain ⟨h1, h2⟩ := k vs H' As' bad' as c x r
  match vs, h1, h2 with
  | [v, w], _, h2 => exact ⟨v, w, rfl, h2⟩
theorem u_par3 {i j l : Nat} {fa : Rho → Mu → Option (List (Z.D × Bool) × Mu)} (h : rW E (kPar [i, j, l] fa) D σ H) : tPar3 i j l (rAO E fa) D σ H := by
  obtain ⟨As, bad, μ, ρ, ds, μ', a, e, k⟩ := u_par h
  refine ⟨As, bad, μ, ρ, ds, μ', a, e, fun vs H' As' bad' as c x r => ?_⟩
  obtain ⟨h1, h2⟩ := k vs H' As' bad' as c x r
  match vs, h1, h2 with
  | [v, w, u], _, h2 => exact ⟨v, w, u, rfl, h2⟩
theorem RepsO.ext {As1 : List Addr} {bad1 : Addr → Prop} {H1 : Hp} (y : Ext As1 bad1 H1 As' bad' H') : ∀ {vs : List V} {ds : List (Z.D × Bool)} {as : List Addr}, RepsO E As1 bad1 H1 H vs ds as → RepsO E As' bad' H' H vs ds as
  | _, _, _, .nil => .nil
  | _, _, _, .val q r => .val (Rep.ext y q) (RepsO.ext y r)
  | _, _, _, .own h1 h2 h3 h4 h5 h6 r => .own (y.all _ _ h1 h4) (h2.ext y) (y.bb _ h3) (y.na h1 h4) h5 h6 (RepsO.ext y r)
/-- names, one behind the other -/
def gNames : List Nat → TGs
  | [] => gNil
  | i :: is => gCons (gName i) (gNames is)
theorem gNames_ok : ∀ {is : List Nat} {vs : List V} {σ : L2.St} {H : Hp} {Q : L2.St → Hp → Prop}, vs.length = is.length → Q (setS σ is vs) H → gNames is vs σ H Q
  | [], [], _, _, _, _, q => ⟨rfl, q⟩
  | [], _ :: _, _, _, _, h, _ => by cases h
  | _ :: _, [], _, _, _, h, _ => by cases h
  | i :: is, v :: vs, σ, H, Q, h, q => ⟨v, vs, rfl, gNames_ok (is := is) (by simpa using h) q⟩
theorem u_parT {is : List Nat} {fa : Rho → Mu → Option (List (Z.D × Bool) × Mu)} (hz : is.length ≤ sizeLine) : rW E (kPar is fa) D σ H → tAsg (tTup (rAO E fa)) (gTup E.K is.length (gNames is)) D σ H := by
  rintro ⟨B, As, bad, μ, ρ, r, s, e, k⟩
  unfold kPar at e
  split at e
  · rename_i ds μ1 q
    split at e
    · rename_i ρ1 q2
      cases e
      refine ⟨As, bad, μ, ρ, ds, _, s.at_, q, fun vs H1 As1 bad1 as c1 x1 r1 => ?_⟩
      have hl : vs.length = is.length := by rw [r1.len, setR_len q2]
      refine ⟨by rw [hl]; exact hz, fun p hp => ⟨p, vs, rfl, .inl (.inl upd_same), hl, gNames_ok hl ?_⟩⟩
      have x2 := new_ext c1 hp (.tup vs)
      have c2 := new_rel c1 hp (.tup vs)
      have s2 := s.ext c2 (x1.trans x2)
      refine k.nx1 ⟨s2.c0, c2, set_ok (H := H) (fun b hb nb => s.x.freshB hb fun m => nb ?_) s2.s (RepsO.ext x2 r1) (fun a m j e hj z => ?_) q2, s2.x⟩ (x1.trans x2).sx
      · obtain ⟨e1, z1⟩ := s2.x.pre
        rw [z1]
        exact List.mem_append_left _ m
      · obtain ⟨b, us, fs, _, k1, k2, _⟩ := s.s.own j e hj
        rw [k1] at z
        cases z
        have := (r1.fresh a m).1
        rw [k2] at this
        cases this
    · cases e
  · cases e
end
end Z
end

section
set_option Elab.async false
set_option autoImplicit false
set_option linter.all false
set_option maxRecDepth 100000
set_option maxHeartbeats 1000000
/-! Lists of one's own, cells, loops, over trees. -/
namespace Z
open PySem PySem.Spec PyProof.Rows L2
section
variable {E : En} {B : Bs} {As As' As1 : List Addr} {bad bad' bad1 : Addr → Prop} {H H' H1 : Hp} {μ μ' μ1 : Mu} {σ : L2.St} {ρ : Rho} {v : V} {d : Z.D}
variable {D : Ends} {f g : Rho → Mu → Option SR} {fe fk fc : Rho → Mu → RE} {fi : Rho → Mu → Option (List Z.D × Mu)}
/-- a list of one's own is written -/
theorem StR.wrote {i : Nat} {ds es : List Z.D} {a : Addr} {vs ws : List V} (s : StR E B As bad H μ σ ρ) (hi : ρ[i]? = some (some (.lst ds, true))) (ha : σ[i]? = some (some (.ref a))) (hH : H a = some (.lst vs)) (hb : bad a) (na : a ∉ As) (h0 : B.H a = none)
    (r : Reps E As H bad ws es) : StR E B As bad (upd H a (.lst ws)) μ σ (ρ.set i (some (.lst es, true))) ∧ SExt As bad H As bad (upd H a (.lst ws)) := by
  have sx : SExt As bad H As bad (upd H a (.lst ws)) := own_sx hb
  have hl : i < ρ.length := (List.getElem?_eq_some_iff.mp hi).1
  have oth : ∀ {j : Nat} {e : Z.D}, j ≠ i → ρ[j]? = some (some (e, true)) → σ[j]? ≠ some (some (.ref a)) := fun {j e} hj q q2 => hj (s.s.dis j i e _ a q hi q2 ha)
  refine ⟨⟨s.c0, own_crel s.c hb na ws, ⟨by simpa using s.s.len, fun j e h => ?_, fun j e h => ?_, fun j k d1 d2 p h1 h2 h3 h4 => ?_⟩, s.x.own h0⟩, sx⟩
  · by_cases q : i = j
    · subst q
      rw [List.getElem?_set_self hl] at h
      cases h
    · rw [List.getElem?_set_ne q] at h
      obtain ⟨v, h1, h2⟩ := s.s.val j e h
      exact ⟨v, h1, h2.sx sx⟩
  · by_cases q : i = j
    · subst q
      rw [List.getElem?_set_self hl] at h
      cases h
      exact ⟨a, ws, es, rfl, ha, upd_same, r.sx sx, hb, na, h0⟩
    · rw [List.getElem?_set_ne q] at h
      obtain ⟨b, us, fs, k0, k1, k2, k3, k4, k5, k6⟩ := s.s.own j e h
      have hne : b ≠ a := fun z => oth (Ne.symm q) h (by rw [k1, z])
      exact ⟨b, us, fs, k0, k1, by rw [upd_ne hne]; exact k2, k3.sx sx, k4, k5, k6⟩
  · have back : ∀ {l : Nat} {y : Z.D}, (ρ.set i (some (.lst es, true)))[l]? = some (some (y, true)) → ∃ y', ρ[l]? = some (some (y', true)) := fun {l y} h => by
      by_cases q : i = l
      · subst q
        exact ⟨_, hi⟩
      · rw [List.getElem?_set_ne q] at h
        exact ⟨_, h⟩
    obtain ⟨y1, g1⟩ := back h1
    obtain ⟨y2, g2⟩ := back h2
    exact s.s.dis j k y1 y2 p g1 g2 h3 h4
/-- a cell is written -/
theorem StR.wroteC {n : Nat} {es : List Z.D} {a : Addr} {ws : List V} (s : StR E B As bad H μ σ ρ) (hn : As[n]? = some a) (r : Reps E As H bad ws es) :
    StR E B As bad (upd H a (.lst ws)) (μ.set n es) σ ρ ∧ SExt As bad H As bad (upd H a (.lst ws)) := by
  have ma : a ∈ As := List.mem_of_getElem? hn
  have hb : bad a := s.c.sub a ma
  have sx : SExt As bad H As bad (upd H a (.lst ws)) := own_sx hb
  have hnl : n < As.length := (List.getElem?_eq_some_iff.mp hn).1
  refine ⟨⟨s.c0, ⟨s.c.nd, s.c.sub, fun b h => ?_, by rw [List.length_set]; exact s.c.len, fun m b ds h1 h2 => ?_⟩, ⟨s.s.len, fun j e h => ?_, fun j e h => ?_, s.s.dis⟩, ?_⟩, sx⟩
  · by_cases q : b = a
    · subst q
      exact ⟨ws, upd_same⟩
    · rw [upd_ne q]
      exact s.c.lists b h
  · by_cases q : n = m
    · subst q
      rw [hn] at h1
      cases h1
      rw [List.getElem?_set_self (by rw [← s.c.len]; exact hnl)] at h2
      cases h2
      exact ⟨ws, upd_same, r.sx sx⟩
    · rw [List.getElem?_set_ne q] at h2
      obtain ⟨us, h3, h4⟩ := s.c.cel m b ds h1 h2
      have hne : b ≠ a := fun z => by
        subst z
        have hm : m < As.length := (List.getElem?_eq_some_iff.mp h1).1
        have e1 := (List.getElem?_eq_some_iff.mp h1).2
        have e2 := (List.getElem?_eq_some_iff.mp hn).2
        exact q ((List.getElem_inj s.c.nd).mp (e2.trans e1.symm))
      exact ⟨us, by rw [upd_ne hne]; exact h3, h4.sx sx⟩
  · obtain ⟨v, h1, h2⟩ := s.s.val j e h
    exact ⟨v, h1, h2.sx sx⟩
  · obtain ⟨b, us, fs, k0, k1, k2, k3, k4, k5, k6⟩ := s.s.own j e h
    have hne : b ≠ a := fun z => k5 (z ▸ ma)
    exact ⟨b, us, fs, k0, k1, by rw [upd_ne hne]; exact k2, k3.sx sx, k4, k5, k6⟩
  · refine ⟨s.x.sub, s.x.pre, s.x.fr, fun b u h nb => ?_, s.x.nb, s.x.bb⟩
    have hne : b ≠ a := fun z => by
      subst z
      have := s.x.fr b ma nb
      rw [h] at this
      cases this
    rw [upd_ne hne]
    exact s.x.all b u h nb
theorem u_app {K : PySem.W.Frag} {i : Nat} : rW E (kApp i fe) D σ H → tDrop (tBM K "list" rAppend (tVar i) (tCons (rR E fe) tNil)) D σ H := by
  rintro ⟨B, As, bad, μ, ρ, r, s, e, k⟩
  unfold kApp at e
  split at e
  · rename_i d o μ1 q
    split at e
    · rename_i ds q2
      split at e
      · rename_i hz
        cases e
        obtain ⟨a, vs, es, h0, h1, h2, h3, h4, h5, h6⟩ := s.s.own i _ q2
        cases h0
        refine ⟨.ref a, h1, .inl ⟨rfl, vs, .inl (.inl h2)⟩, ⟨As, bad, μ, ρ, d, o, _, s.at_, q, fun v H1 As1 bad1 c1 x1 r1 => ?_⟩⟩
        have s1 := s.ext c1 x1
        have h2' := x1.all _ _ h2 h5
        refine ⟨a, vs, v, rfl, rfl, h2', by rw [h3.length]; exact hz, ?_⟩
        obtain ⟨s2, y⟩ := s1.wrote q2 h1 h2' (x1.bb _ h4) (x1.na h2 h5) h6 ((h3.ext x1).append (.cons r1 .nil))
        exact k.nx1 s2 (x1.sx.trans y)
      · cases e
    · cases e
  · cases e
def rIns : V → List V → Hp → VK → Prop := fun x vs H Q => ∃ (l : Addr) (xs : List V) (i : Int) (y : V), x = .ref l ∧ vs = [.int i, y] ∧ H l = some (.lst xs) ∧ xs.length < sizeLine ∧ 0 ≤ i ∧ i < 2 ^ 63 ∧ Q .non (upd H l (.lst (xs.take i.toNat ++ [y] ++ xs.drop i.toNat)))
theorem u_ins {K : PySem.W.Frag} {i : Nat} : rW E (kIns i fk fe) D σ H → tDrop (tBM K "list" rIns (tVar i) (tCons (rR E fk) (tCons (rR E fe) tNil))) D σ H := by
  rintro ⟨B, As, bad, μ, ρ, r, s, e, k⟩
  unfold kIns at e
  split at e
  · rename_i z o μ1 q
    split at e
    · rename_i d o2 μ2 q1
      split at e
      · rename_i ds q2
        split at e
        · rename_i hz
          cases e
          obtain ⟨a, vs, es, h0, h1, h2, h3, h4, h5, h6⟩ := s.s.own i _ q2
          cases h0
          refine ⟨.ref a, h1, .inl ⟨rfl, vs, .inl (.inl h2)⟩, ⟨As, bad, μ, ρ, _, o, μ1, s.at_, q, fun v1 H1 As1 bad1 c1 x1 r1 => ⟨As1, bad1, μ1, ρ, d, o2, _, (s.ext c1 x1).at_, q1, fun v H2 As2 bad2 c2 x2 r2 => ?_⟩⟩⟩
          cases r1
          have x12 := x1.trans x2
          have s1 := s.ext c2 x12
          have h2' := x12.all _ _ h2 h5
          have r3 := h3.ext x12
          refine ⟨a, vs, z, v, rfl, rfl, h2', by rw [h3.length]; exact hz.2.2, hz.1, by have := hz.2.1; omega, ?_⟩
          obtain ⟨s2, y⟩ := s1.wrote q2 h1 h2' (x12.bb _ h4) (x12.na h2 h5) h6 (((r3.take z.toNat).append (.cons r2 .nil)).append (r3.drop z.toNat))
          exact k.nx1 s2 (x12.sx.trans y)
        · cases e
      · cases e
    · cases e
  · cases e
theorem cel_at {n : Nat} {ds : List Z.D} (c : CRel E As bad H μ) (r : Rep E As H bad v (.cell n)) (q : μ[n]? = some ds) : ∃ a vs, v = .ref a ∧ As[n]? = some a ∧ H a = some (.lst vs) ∧ Reps E As H bad vs ds := by
  cases r with
  | cell h =>
    obtain ⟨vs, h1, h2⟩ := c.cel n _ ds h q
    exact ⟨_, vs, rfl, h, h1, h2⟩
theorem cel_any {n : Nat} (c : CRel E As bad H μ) (r : Rep E As H bad v (.cell n)) : ∃ a vs, v = .ref a ∧ As[n]? = some a ∧ H a = some (.lst vs) := by
  cases r with
  | cell h =>
    obtain ⟨vs, h1⟩ := c.lists _ (c.sub _ (List.mem_of_getElem? h))
    exact ⟨_, vs, rfl, h, h1⟩
theorem u_appC {K : PySem.W.Frag} {i : Nat} : rW E (kAppC i fe) D σ H → tDrop (tBM K "list" rAppend (tVar i) (tCons (rR E fe) tNil)) D σ H := by
  rintro ⟨B, As, bad, μ, ρ, r, s, e, k⟩
  unfold kAppC at e
  split at e
  · rename_i d o μ1 q
    split at e
    · rename_i n q2
      split at e
      · rename_i ds q3
        split at e
        · rename_i hz
          cases e
          obtain ⟨v0, h1, h2⟩ := s.s.val i _ q2
          obtain ⟨a, vs0, rfl, ha, hv0⟩ := cel_any s.c h2
          refine ⟨_, h1, .inl ⟨rfl, vs0, .inl (.inl hv0)⟩, ⟨As, bad, μ, ρ, d, o, _, s.at_, q, fun v H1 As1 bad1 c1 x1 r1 => ?_⟩⟩
          have s1 := s.ext c1 x1
          obtain ⟨a', vs, ea, ha1, hv, rv⟩ := cel_at c1 (h2.ext x1) q3
          cases ea
          refine ⟨a, vs, v, rfl, rfl, hv, by rw [rv.length]; exact hz, ?_⟩
          obtain ⟨s2, y⟩ := s1.wroteC ha1 (rv.append (.cons r1 .nil))
          exact k.nx1 s2 (x1.sx.trans y)
        · cases e
      · cases e
    · cases e
  · cases e
theorem u_sub {i : Nat} : rW E (kSub i fk fe) D σ H → tAsg (rR E fe) (gSub (tVar i) (rE E fk) rSetL) D σ H := by
  rintro ⟨B, As, bad, μ, ρ, r, s, e, k⟩
  unfold kSub at e
  split at e
  · rename_i d o μ1 q
    split at e
    · rename_i z o2 μ2 q1
      split at e
      · rename_i ds q2
        split at e
        · rename_i j hj
          cases e
          refine ⟨As, bad, μ, ρ, d, o, _, s.at_, q, fun v H1 As1 bad1 c1 x1 r1 => ?_⟩
          have s1 := s.ext c1 x1
          obtain ⟨a, vs, es, h0, h1, h2, h3, h4, h5, h6⟩ := s1.s.own i _ q2
          cases h0
          refine ⟨.ref a, h1, As1, bad1, _, ρ, _, o2, _, s1.at_, q1, fun u H2 As2 bad2 c2 x2 r2 => ?_⟩
          have s2 := s1.ext c2 x2
          have h2' := x2.all _ _ h2 h5
          refine ⟨a, vs, z, j, rfl, repO_int r2, h2', by rw [h3.length]; exact hj, ?_⟩
          obtain ⟨s3, y⟩ := s2.wrote q2 h1 h2' (x2.bb _ h4) (x2.na h2 h5) h6 ((h3.ext x2).set j (r1.ext x2))
          exact k.nx1 s3 ((x1.trans x2).sx.trans y)
        · cases e
      · cases e
    · cases e
  · cases e
theorem u_subC {i : Nat} : rW E (kSubC i fk fe) D σ H → tAsg (rR E fe) (gSub (tVar i) (rE E fk) rSetL) D σ H := by
  rintro ⟨B, As, bad, μ, ρ, r, s, e, k⟩
  unfold kSubC at e
  split at e
  · rename_i d o μ1 q
    split at e
    · rename_i z o2 μ2 q1
      split at e
      · rename_i n q2
        split at e
        · rename_i ds q3
          split at e
          · rename_i j hj
            cases e
            refine ⟨As, bad, μ, ρ, d, o, _, s.at_, q, fun v H1 As1 bad1 c1 x1 r1 => ?_⟩
            have s1 := s.ext c1 x1
            obtain ⟨v0, h1, h2⟩ := s1.s.val i _ q2
            refine ⟨v0, h1, As1, bad1, _, ρ, _, o2, _, s1.at_, q1, fun u H2 As2 bad2 c2 x2 r2 => ?_⟩
            have s2 := s1.ext c2 x2
            obtain ⟨a, vs, rfl, ha1, hv, rv⟩ := cel_at c2 (h2.ext x2) q3
            refine ⟨a, vs, z, j, rfl, repO_int r2, hv, by rw [rv.length]; exact hj, ?_⟩
            obtain ⟨s3, y⟩ := s2.wroteC ha1 (rv.set j (r1.ext x2))
            exact k.nx1 s3 ((x1.trans x2).sx.trans y)
          · cases e
        · cases e
      · cases e
    · cases e
  · cases e
/-! ### loops -/
theorem u_for {t : X} : rW E (kFor t fi f) D σ H → tFor (rI E false fi) (rG E t) (rW E f) D σ H := by
  rintro ⟨B, As, bad, μ, ρ, r, s, e, k⟩
  unfold kFor at e
  split at e
  rotate_left
  · cases e
  rename_i ds μ1 q1
  refine ⟨As, bad, μ, ρ, ds, μ1, s.at_, q1, fun J H1 As1 bad1 c1 x1 w1 => ?_⟩
  obtain ⟨st, st0, _, stE, stW⟩ := w1
  have s1 := s.ext c1 x1
  have k1 := k.later x1.sx
  clear k
  generalize hF : (fun d ρ2 μ2 => match dT t d ρ2 with
    | some ρ3 => f ρ3 μ2
    | none => none) = F at e
  refine ⟨fun i m σ H => m = ds.length - i ∧ i ≤ ds.length ∧ ∃ As' bad' μ' ρ', StR E B As' bad' H μ' σ ρ' ∧ SExt As1 bad1 H1 As' bad' H ∧ foldS F (ds.drop i) ρ' μ' = some r,
    ⟨ds.length, by simp, Nat.zero_le _, As1, bad1, μ1, ρ, s1, .refl, by simpa using e⟩, ?_⟩
  rintro i m σ2 H2 ⟨rfl, hi, As', bad', μ', ρ', s2, x2, e2⟩
  have wk := stW _ _ _ (stE rfl _ _ _ _ _ _ st0 x2)
  have k2 := k1.later x2
  by_cases hlt : i < ds.length
  · have hd : ds[i]? = some ds[i] := List.getElem?_eq_getElem hlt
    rw [List.drop_eq_getElem_cons hlt] at e2
    obtain ⟨go, yl⟩ := wk.go i ds[i] μ' s2.c hd
    refine .inr ⟨go, _, fun σ' H' n => ⟨ds.length - (i + 1), by omega, n⟩, fun v H' y => ?_⟩
    obtain ⟨c3, x3, r3⟩ := yl v H' y
    have s3 := s2.ext c3 x3
    unfold foldS at e2
    rw [← hF] at e2
    dsimp only at e2
    cases g1 : dT t ds[i] ρ' with
    | none =>
      rw [g1] at e2
      cases e2
    | some ρ3 =>
      rw [g1] at e2
      dsimp only at e2
      refine ⟨As', bad', ρ', ds[i], ρ3, B.H, s3.s, r3, g1, fun σ' s' _ _ => ?_⟩
      have s4 : StR E B As' bad' H' μ' σ' ρ3 := ⟨s3.c0, c3, s', s3.x⟩
      cases g2 : f ρ3 μ' with
      | none =>
        rw [g2] at e2
        cases e2
      | some r4 =>
        rw [g2] at e2
        refine ⟨B, As', bad', μ', ρ3, r4, s4, g2, ?_⟩
        have nxt : ∀ {ρ5 : Rho} {μ5 : Mu}, foldS F (ds.drop (i + 1)) ρ5 μ5 = some r → ∀ (σ5 : L2.St) (H5 : Hp) (As5 : List Addr) (bad5 : Addr → Prop), StR E B As5 bad5 H5 μ5 σ5 ρ5 → SExt As' bad' H' As5 bad5 H5 →
            ds.length - (i + 1) = ds.length - (i + 1) ∧ i + 1 ≤ ds.length ∧ ∃ As' bad' μ' ρ', StR E B As' bad' H5 μ' σ5 ρ' ∧ SExt As1 bad1 H1 As' bad' H5 ∧ foldS F (ds.drop (i + 1)) ρ' μ' = some r := fun h σ5 H5 As5 bad5 s5 x5 =>
          ⟨rfl, hlt, As5, bad5, _, _, s5, (x2.trans x3.sx).trans x5, h⟩
        rw [hF] at e2
        cases r4 with
        | nx ρ5 μ5 => exact nxt e2
        | ct ρ5 μ5 => exact nxt e2
        | bk ρ5 μ5 =>
          cases e2
          exact k2.later x3.sx
        | rt d o μ5 =>
          cases e2
          exact k2.later x3.sx
  · have ei : i = ds.length := by omega
    subst ei
    rw [List.drop_length] at e2
    cases e2
    exact .inl ⟨wk.stop _ (Nat.le_refl _), k2.nx1 s2 .refl⟩
theorem u_while {n : Nat} : rW E (kWh n fc f) D σ H → tWhile (rTt E fc) (rW E f) D σ H := by
  rintro ⟨B, As, bad, μ, ρ, r, s, e, k⟩
  unfold kWh at e
  refine ⟨fun m σ2 H2 => ∃ As' bad' μ' ρ', StR E B As' bad' H2 μ' σ2 ρ' ∧ SExt As bad H As' bad' H2 ∧ whileS (fun ρ1 μ1 => match fc ρ1 μ1 with
    | some (.bl k, _, μ2) => some (k, μ2)
    | _ => none) (fun ρ1 μ1 => f ρ1 μ1) m ρ' μ' = some r, ⟨n, As, bad, μ, ρ, s, .refl, e⟩, ?_⟩
  rintro m σ2 H2 ⟨As', bad', μ', ρ', s2, x2, e2⟩
  have k2 := k.later x2
  cases m with
  | zero => cases e2
  | succ m =>
    unfold whileS at e2
    cases q : fc ρ' μ' with
    | none =>
      rw [q] at e2
      cases e2
    | some z =>
      obtain ⟨d, o, μ3⟩ := z
      rw [q] at e2
      cases d with
      | bl b =>
        refine ⟨As', bad', μ', ρ', b, o, μ3, s2.at_, q, fun H3 As3 bad3 c3 x3 => ?_⟩
        have s3 := s2.ext c3 x3
        cases b with
        | false =>
          cases e2
          exact ite_f (k2.nx1 s3 x3.sx)
        | true =>
          dsimp only at e2
          refine ite_t ⟨_, fun σ' H' w => ⟨m, Nat.lt_succ_self m, w⟩, ?_⟩
          cases g2 : f ρ' μ3 with
          | none =>
            rw [g2] at e2
            cases e2
          | some r4 =>
            rw [g2] at e2
            refine ⟨B, As3, bad3, μ3, ρ', r4, s3, g2, ?_⟩
            cases r4 with
            | nx ρ5 μ5 => exact fun σ5 H5 As5 bad5 s5 x5 => ⟨As5, bad5, μ5, ρ5, s5, (x2.trans x3.sx).trans x5, e2⟩
            | ct ρ5 μ5 => exact fun σ5 H5 As5 bad5 s5 x5 => ⟨As5, bad5, μ5, ρ5, s5, (x2.trans x3.sx).trans x5, e2⟩
            | bk ρ5 μ5 =>
              cases e2
              exact k2.later x3.sx
            | rt d o μ5 =>
              cases e2
              exact k2.later x3.sx
      | _ => cases e2
end
end Z
end

section
set_option Elab.async false
set_option autoImplicit false
set_option linter.all false
set_option maxRecDepth 100000
set_option maxHeartbeats 1000000
/-! Lists of one's own given away, lent; new cells. -/
namespace Z
open PySem PySem.Spec PyProof.Rows L2
section
variable {E : En} {B : Bs} {As As' As1 : List Addr} {bad bad' bad1 : Addr → Prop} {H H' H1 : Hp} {μ μ' μ1 : Mu} {σ : L2.St} {ρ : Rho} {v : V} {d : Z.D}
variable {D : Ends} {f : Rho → Mu → Option SR} {fe : Rho → Mu → RE}
/-- fewer may be changed -/
structure Less (As : List Addr) (bad bad' : Addr → Prop) (H : Hp) (H0 : Hp) : Prop where
  sub : ∀ a, bad' a → bad a
  gone : ∀ a, bad a → ¬ bad' a → a ∉ As ∧ (∃ vs, H a = some (.lst vs)) ∧ H0 a = none
theorem CRel.less {H0 : Hp} (c : CRel E As bad H μ) (l : Less As bad bad' H H0) : CRel E As bad' H μ := by
  refine ⟨c.nd, fun a m => ?_, fun a b => c.lists a (l.sub a b), c.len, fun n a ds h1 h2 => ?_⟩
  · apply Classical.byContradiction
    intro n
    exact (l.gone a (c.sub a m) n).1 m
  · obtain ⟨vs, h3, h4⟩ := c.cel n a ds h1 h2
    exact ⟨vs, h3, h4.sx (SExt.less l.sub)⟩
theorem disown_get {i j : Nat} {x : Option (Z.D × Bool)} (h : (disown ρ i)[j]? = some x) : (j ≠ i ∧ ρ[j]? = some x) ∨ (j = i ∧ ∃ d o, ρ[i]? = some (some (d, o)) ∧ x = some (d, false)) ∨ (ρ[j]? = some x ∧ x = none) := by
  unfold disown at h
  split at h
  · rename_i d o q
    by_cases e : i = j
    · subst e
      rw [List.getElem?_set_self (List.getElem?_eq_some_iff.mp q).1] at h
      cases h
      exact .inr (.inl ⟨rfl, d, o, q, rfl⟩)
    · rw [List.getElem?_set_ne e] at h
      exact .inl ⟨Ne.symm e, h⟩
  · rename_i q
    by_cases e : j = i
    · subst e
      cases x with
      | none => exact .inr (.inr ⟨h, rfl⟩)
      | some z =>
        obtain ⟨d, o⟩ := z
        exact absurd h (q d o)
    · exact .inl ⟨e, h⟩
theorem disown_len (ρ : Rho) (i : Nat) : (disown ρ i).length = ρ.length := by
  unfold disown
  split
  · rw [List.length_set]
  · rfl
theorem SRel.disown {H0 : Hp} (s : SRel E H0 As bad H σ ρ) (c : CRel E As bad H μ) (i : Nat) : ∃ bad', Less As bad bad' H H0 ∧ SRel E H0 As bad' H σ (disown ρ i) := by
  by_cases q : ∃ d, ρ[i]? = some (some (d, true))
  · obtain ⟨d, q⟩ := q
    obtain ⟨a, vs, ds, k0, k1, k2, k3, k4, k5, k6⟩ := s.own i d q
    have l : Less As bad (fun b => bad b ∧ b ≠ a) H H0 := ⟨fun b z => z.1, fun b z n => by
      have e : b = a := by
        apply Classical.byContradiction
        intro ne
        exact n ⟨z, ne⟩
      subst e
      exact ⟨k5, ⟨vs, k2⟩, k6⟩⟩
    refine ⟨_, l, by rw [disown_len]; exact s.len, fun j e h => ?_, fun j e h => ?_, fun j k d1 d2 p h1 h2 h3 h4 => ?_⟩
    · rcases disown_get h with ⟨_, h⟩ | ⟨rfl, d', o, h1, h2⟩ | ⟨_, h⟩
      · obtain ⟨v, h1, h2⟩ := s.val j e h
        exact ⟨v, h1, h2.sx (SExt.less l.sub)⟩
      · rw [q] at h1
        cases h1
        cases h2
        exact ⟨_, k1, by rw [k0]; exact .lst (.inl k2) (fun z => z.2 rfl) (k3.sx (SExt.less l.sub))⟩
      · cases h
    · rcases disown_get h with ⟨ne, h⟩ | ⟨rfl, d', o, h1, h2⟩ | ⟨_, h⟩
      · obtain ⟨b, us, fs, m0, m1, m2, m3, m4, m5, m6⟩ := s.own j e h
        refine ⟨b, us, fs, m0, m1, m2, m3.sx (SExt.less l.sub), ⟨m4, fun z => ne ?_⟩, m5, m6⟩
        subst z
        exact s.dis j i _ _ b h q m1 k1
      · cases h2
      · cases h
    · rcases disown_get h1 with ⟨n1, h1⟩ | ⟨_, _, _, _, z⟩ | ⟨_, z⟩
      · rcases disown_get h2 with ⟨n2, h2⟩ | ⟨_, _, _, _, z⟩ | ⟨_, z⟩
        · exact s.dis j k d1 d2 p h1 h2 h3 h4
        · cases z
        · cases z
      · cases z
      · cases z
  · refine ⟨bad, ⟨fun _ z => z, fun _ z n => absurd z n⟩, ?_⟩
    have e : Z.disown ρ i = ρ := by
      unfold Z.disown
      split
      · rename_i d o h
        cases o with
        | true => exact absurd ⟨d, h⟩ q
        | false =>
          apply List.ext_getElem?
          intro j
          by_cases z : i = j
          · subst z
            rw [List.getElem?_set_self (List.getElem?_eq_some_iff.mp h).1, h]
          · rw [List.getElem?_set_ne z]
      · rfl
    rw [e]
    exact s
theorem StR.disown (s : StR E B As bad H μ σ ρ) (i : Nat) : ∃ bad', StR E B As bad' H μ σ (disown ρ i) ∧ SExt As bad H As bad' H := by
  obtain ⟨bad', l, s2⟩ := s.s.disown s.c i
  refine ⟨bad', ⟨s.c0, s.c.less l, s2, ⟨s.x.sub, s.x.pre, s.x.fr, s.x.all, fun a o h n z => s.x.nb a o h n (l.sub a z), fun a b => ?_⟩⟩, SExt.less l.sub⟩
  apply Classical.byContradiction
  intro n
  obtain ⟨_, _, h0⟩ := l.gone a (s.x.bb a b) n
  obtain ⟨vs, h1⟩ := s.c0.lists a b
  rw [h0] at h1
  cases h1
theorem u_dis {i : Nat} : rW E (fun ρ μ => f (disown ρ i) μ) D σ H → rW E f D σ H := by
  rintro ⟨B, As, bad, μ, ρ, r, s, e, k⟩
  obtain ⟨bad', s2, x⟩ := s.disown i
  exact ⟨B, As, bad', μ, _, r, s2, e, k.later x⟩
/-- a new cell -/
def fMk (f : Rho → Mu → RE) : Rho → Mu → RE := fun ρ μ => match f ρ μ with
  | some (.lst ds, true, μ1) => some (.cell μ1.length, false, μ1 ++ [ds])
  | _ => none
theorem w_mk {Q : VK} : rE E (fMk fe) σ H Q → rE E fe σ H Q := by
  rintro ⟨As, bad, μ, ρ, d, o, μ', a, e, k⟩
  unfold fMk at e
  split at e
  · rename_i ds μ1 q
    cases e
    refine ⟨As, bad, μ, ρ, _, true, μ1, a, q, fun v H' As' bad' c x r => ?_⟩
    obtain ⟨p, vs, es, rfl, h2, h3, h4, h5, h6, h7⟩ := r
    cases h2
    have sx : SExt As' bad' H' (As' ++ [p]) bad' H' := ⟨⟨[p], rfl⟩, fun _ _ h n => ⟨h, n⟩⟩
    refine k (.ref p) H' (As' ++ [p]) bad' ⟨?_, fun b m => ?_, c.lists, by rw [List.length_append, List.length_append, c.len]; rfl, fun n b fs h1 h2 => ?_⟩ ⟨x.sub, ?_, fun b m n => ?_, x.all, x.nb, x.bb⟩ (.cell ?_)
    · rw [List.nodup_append]
      exact ⟨c.nd, by simp, fun b m b' m' => by simp at m'; subst m'; exact fun z => h6 (z ▸ m)⟩
    · rcases List.mem_append.mp m with m | m
      · exact c.sub b m
      · simp at m
        subst m
        exact h5
    · by_cases hn : n < As'.length
      · rw [List.getElem?_append_left hn] at h1
        rw [List.getElem?_append_left (by rw [← c.len]; exact hn)] at h2
        obtain ⟨us, k1, k2⟩ := c.cel n b fs h1 h2
        exact ⟨us, k1, k2.sx sx⟩
      · rw [List.getElem?_append_right (by omega)] at h1
        rw [List.getElem?_append_right (by rw [← c.len]; omega)] at h2
        rw [← c.len] at h2
        cases hz : n - As'.length with
        | zero =>
          rw [hz] at h1 h2
          cases h1
          cases h2
          exact ⟨vs, h3, h4.sx sx⟩
        | succ m =>
          rw [hz] at h1
          cases h1
    · obtain ⟨ee, z⟩ := x.pre
      exact ⟨ee ++ [p], by rw [z, List.append_assoc]⟩
    · rcases List.mem_append.mp m with m | m
      · exact x.fr b m n
      · simp at m
        subst m
        exact h7
    · rw [← c.len, List.getElem?_append_right (Nat.le_refl _), Nat.sub_self]
      rfl
  · cases e
/-- lists of one's own lent for a while -/
def fLend (is : List Nat) (f : Rho → Mu → RE) : Rho → Mu → RE := fun ρ μ => match f (disowns ρ is) μ with
  | some (d, _, μ1) => if scalar d && μ1.all scalL then some (d, false, μ1) else none
  | none => none
theorem SRel.disowns {H0 : Hp} : ∀ (is : List Nat) {bad : Addr → Prop} {ρ : Rho}, SRel E H0 As bad H σ ρ → CRel E As bad H μ → ∃ bad', Less As bad bad' H H0 ∧ SRel E H0 As bad' H σ (disowns ρ is)
  | [], bad, _, s, _ => ⟨bad, ⟨fun _ z => z, fun _ z n => absurd z n⟩, s⟩
  | i :: is, bad, ρ, s, c => by
    obtain ⟨b1, l1, s1⟩ := s.disown c i
    obtain ⟨b2, l2, s2⟩ := SRel.disowns (ρ := Z.disown ρ i) is s1 (c.less l1)
    refine ⟨b2, ⟨fun a z => l1.sub a (l2.sub a z), fun a z n => ?_⟩, s2⟩
    by_cases q : b1 a
    · exact l2.gone a q n
    · exact l1.gone a z q
theorem scal_any {v : V} {d : Z.D} {As2 : List Addr} {H2 : Hp} {bad2 : Addr → Prop} (r : Rep E As H bad v d) (h : scalar d = true) : Rep E As2 H2 bad2 v d := by
  cases r with
  | non => exact .non
  | bl b => exact .bl b
  | int i => exact .int i
  | str x => exact .str x
  | _ => cases h
theorem scal_all {As2 : List Addr} {H2 : Hp} {bad2 : Addr → Prop} : ∀ {vs : List V} {ds : List Z.D}, Reps E As H bad vs ds → scalL ds = true → Reps E As2 H2 bad2 vs ds
  | _, _, .nil, _ => .nil
  | _, _, .cons r q, h => by
    obtain ⟨h1, h2⟩ := Bool.and_eq_true_iff.mp (show (scalar _ && scalL _) = true from h)
    exact .cons (scal_any r h1) (scal_all q h2)
theorem lend_core {is : List Nat} (a : At E As bad H μ σ ρ) (hz2 : μ'.all scalL = true) : ∃ bad2, At E As bad2 H μ σ (disowns ρ is) ∧
    ∀ H' As' bad', CRel E As' bad' H' μ' → Ext As bad2 H As' bad' H' → ∃ bad3, CRel E As' bad3 H' μ' ∧ Ext As bad H As' bad3 H' := by
  obtain ⟨H0, s⟩ := a.s
  obtain ⟨bad2, l, s2⟩ := s.disowns is a.c
  refine ⟨bad2, ⟨a.c.less l, H0, s2⟩, fun H' As' bad' c x => ⟨fun b => bad' b ∨ bad b, ⟨c.nd, fun b m => .inl (c.sub b m), fun b z => ?_, c.len, fun n b ds h1 h2 => ?_⟩, ⟨a.c.sub, x.pre, x.fr, x.all, fun b u h n z => ?_, fun b z => .inr z⟩⟩⟩
  · rcases z with z | z
    · exact c.lists b z
    · by_cases g : bad2 b
      · exact c.lists b (x.bb b g)
      · obtain ⟨g1, ⟨vs, g2⟩, _⟩ := l.gone b z g
        exact ⟨vs, x.all _ _ g2 g1⟩
  · obtain ⟨vs, h3, h4⟩ := c.cel n b ds h1 h2
    exact ⟨vs, h3, scal_all h4 (List.all_eq_true.mp hz2 ds (List.mem_of_getElem? h2))⟩
  · rcases z with z | z
    · exact x.nb b u h (fun g => n (l.sub b g)) z
    · exact n z
theorem w_lend {is : List Nat} {Q : VK} : rE E (fLend is fe) σ H Q → rR E fe σ H Q := by
  rintro ⟨As, bad, μ, ρ, d, o, μ', a, e, k⟩
  unfold fLend at e
  split at e
  · rename_i d1 o1 μ1 q
    split at e
    · rename_i hz
      cases e
      obtain ⟨hz1, hz2⟩ := Bool.and_eq_true_iff.mp hz
      obtain ⟨bad2, a2, f⟩ := lend_core (is := is) a hz2
      refine ⟨As, bad2, μ, _, _, o1, _, a2, q, fun v H' As' bad' c x r => ?_⟩
      obtain ⟨bad3, c3, x3⟩ := f H' As' bad' c x
      exact k v H' As' bad3 c3 x3 (scal_any r hz1)
    · cases e
  · cases e
theorem w_lendT {is : List Nat} {Q : Bool → Hp → Prop} : rTt E (fLend is fe) σ H Q → rTt E fe σ H Q := by
  rintro ⟨As, bad, μ, ρ, b, o, μ', a, e, k⟩
  unfold fLend at e
  split at e
  · rename_i d1 o1 μ1 q
    split at e
    · rename_i hz
      cases e
      obtain ⟨hz1, hz2⟩ := Bool.and_eq_true_iff.mp hz
      obtain ⟨bad2, a2, f⟩ := lend_core (is := is) a hz2
      refine ⟨As, bad2, μ, _, _, o1, _, a2, q, fun H' As' bad' c x => ?_⟩
      obtain ⟨bad3, c3, x3⟩ := f H' As' bad' c x
      exact k H' As' bad3 c3 x3
    · cases e
  · cases e
/-- a list of one's own given up -/
def fGiv (f : Rho → Mu → RE) : Rho → Mu → RE := fun ρ μ => match f ρ μ with
  | some (d, _, μ1) => some (d, false, μ1)
  | none => none
theorem w_giv {Q : VK} : rE E (fGiv fe) σ H Q → rR E fe σ H Q := by
  rintro ⟨As, bad, μ, ρ, d, o, μ', a, e, k⟩
  unfold fGiv at e
  split at e
  · rename_i d1 o1 μ1 q
    cases e
    exact ⟨As, bad, μ, ρ, _, o1, _, a, q, fun v H' As' bad' c x r => k v H' As' bad' c x r⟩
  · cases e
theorem w_givT {Q : Bool → Hp → Prop} : rTt E (fGiv fe) σ H Q → rTt E fe σ H Q := by
  rintro ⟨As, bad, μ, ρ, b, o, μ', a, e, k⟩
  unfold fGiv at e
  split at e
  · rename_i d1 o1 μ1 q
    cases e
    exact ⟨As, bad, μ, ρ, _, o1, _, a, q, k⟩
  · cases e
end
end Z
end

section
set_option Elab.async false
set_option autoImplicit false
set_option linter.all false
set_option maxRecDepth 100000
set_option maxHeartbeats 2000000
/-! An own exception's __init__: super().__init__(value); self.value = value. -/
namespace Z
open PySem PySem.Spec PyProof.Rows L2 NdefX

abbrev iS1 (p0 p1 p2 p3 p4 p5 : Pos) : Stmt := .Expr (.Call (.Attribute (.Call (.Name "super" p0) [] [] p1) "__init__" p2) [.Name "value" p3] [] p4) p5
abbrev iS2 (p6 p7 p8 p9 : Pos) : Stmt := .Assign [.Attribute (.Name "self" p6) "value" p7] (.Name "value" p8) p9
def ssv : List Str := ["self", "value"]
/-- the binding of two arguments where one has a default -/
theorem bind_two {fd : FuncData} {K : PySem.W.Frag} {T : Addr} {o : Obj} {its : List Value} {n : Nat} {ar : List Arg} {dfs : List Expr} (hp : fd.params = { posonlyargs := [], args := ar, vararg := none, kwonlyargs := [], kw_defaults := [], kwarg := none, defaults := dfs }) (ha : ar.map (·.arg) = ssv)
    (hd : fd.defaults = .ref T) (lT : K.lookup T = some o) (oT : o.data = .seq its.toArray n) (l1 : its.length = 1) {s : Shared} (X : K.In s.heap) (a b : Value) : BindsTo s fd ⟨[a, b], []⟩ (ssv.zip [a, b]) := by
  refine BindsTo.of_looks fun M => ?_
  have e : ∃ k, bindArgs fd ⟨[a, b], []⟩ = seqItems? (.ref T) >>= k ∧ k (some its.toArray) = pure (ssv.zip [a, b]) := by
    obtain ⟨d, rfl⟩ : ∃ d, its = [d] := by
      match its, l1 with
      | [d], _ => exact ⟨d, rfl⟩
    unfold bindArgs
    simp only [hp, List.map_nil, List.nil_append, ha, hd, List.forIn_nil, pure_bind]
    refine ⟨_, rfl, ?_⟩
    rfl
  obtain ⟨k, e1, e2⟩ := e
  rw [e1]
  exact looks_items X lT oT (.of_pure e2)

/-- what the written part says of the class at C and its __init__ at f -/
structure InitF (P : Program) (K : PySem.W.Frag) (mg : Str → Option Value) (C f : Addr) (fd : FuncData) : Prop where
  cls : OexC K C
  noat : PySem.W.findIn K (.ref C) "value" = some none
  up : PySem.W.ks_superIn K C C "__init__" = some (some (.builtin "ValueError.__init__"))
  ve : PySem.W.subIn K (.ref C) (.type "ValueError") = some true
  slf : PySem.W.mroIn K C (.ref C) = some true
  opq : PySem.W.nsIn K cStatics "thirdparty.any" = some none
  sup : mg "super" = none
  top : (P.main.scope.names.lookup ("super" : Str)).isSome = false
  fn : ∃ (oc : Value) (od : Option Addr) (osl : Array (Option Value)) (qual : Str) (params : Arguments) (scope : Scope) (dfs : List Expr) (ar : List Arg) (T cda cc : Addr) (kV doc pm ct : Value) (an : Option Addr) (p0 p1 p2 p3 p4 p5 p6 p7 p8 p9 : Pos),
    fd = PySem.W.fnX "__init__" qual params [iS1 p0 p1 p2 p3 p4 p5, iS2 p6 p7 p8 p9] scope [("__class__", cc)] (.ref T) kV doc pm an (.ref cda) ct ∧ K.lookup f = some ⟨oc, od, .func fd, osl⟩ ∧ PySem.W.codeIn K (.ref cda) qual = true ∧
    (∃ ccl cdd vs ccs file tf, K.lookup cda = some ⟨ccl, cdd, .fields vs, ccs⟩ ∧ vs[2]? = some (.str file tf) ∧ ((P.main.file : Str) == file) = true) ∧ (∃ cl cld csl, K.lookup cc = some ⟨cl, cld, .cell (some (.ref C)), csl⟩) ∧
    params = { posonlyargs := [], args := ar, vararg := none, kwonlyargs := [], kw_defaults := [], kwarg := none, defaults := dfs } ∧ ar.map (·.arg) = ssv ∧ (∃ o its n, K.lookup T = some o ∧ o.data = .seq (List.toArray its) n ∧ its.length = 1) ∧
    NScope ["self", "value", "__class__"] ssv ["__class__"] scope ∧ scope.names.lookup ("super" : Str) = some .globalImplicit ∧ (p2.endLine == p4.line) = true
/-- what __init__ does -/
def spI (C : Addr) : Sp := fun vs H Q _ => ∃ (a : Addr) (v : V), vs = [.ref a, v] ∧ H a = some (exo a C none) ∧ ∀ d, H d = none → d ≠ a → Q .non (upd (upd H d (exd d [("value", v)])) a (exo a C (some d)))
section
variable {P : Program} {w : World} {K : PySem.W.Frag} {mg : Str → Option Value} {base : Heap} {CX : CXT} {C f : Addr} {fd : FuncData}
theorem InitF.binds (F : InitF P K mg C f fd) : Binds K fd ssv [] := by
  obtain ⟨oc, od, osl, qual, params, scope, dfs, ar, T, cda, cc, kV, doc, pm, ct, an, p0, p1, p2, p3, p4, p5, p6, p7, p8, p9, rfl, lk, hcd, hco, hcc, hpr, har, ⟨o, its, n, lT, oT, l1⟩, S, hks, hline⟩ := F.fn
  intro s us X hl
  rw [List.append_nil] at hl ⊢
  obtain ⟨a, b, rfl⟩ : ∃ a b, us = [a, b] := by
    match us, hl with
    | [a, b], _ => exact ⟨a, b, rfl⟩
  exact bind_two hpr har rfl lT oT l1 X a b
theorem call_mw {prog : Program} {A : Around} {E : Value → Shared → Prop} {s : Shared} {nm qn : Str} {C N : Addr} {bs bm : List Value} {sn : List Str} {sub : List Value} {ab : Bool} {col : Option Bool} {dd : Option Addr} {k0 k1 k2 k3 k5 : Option Value} {u x t : Addr} {rest : List Value} {Q : Value → Shared → Prop}
    (hC : s.heap.get? C = some (excClassObj nm qn C N bs bm true sn sub ab col dd k0 k1 k2 k3 k5 "ValueError.__new__")) (he : s.heap.get? x = some ({ cls := .ref C, dict := none, data := .fields #[.ref t, .none, .none, .none, .bool false, .none] } : Obj))
    (hu : s.heap.get? u = some (PySem.W.kxs_mw "ValueError.__init__" x)) (hz : rest.length ≤ sizeLine)
    (h : ∀ h' t', (∀ b o, b ≠ x → s.heap.get? b = some o → h'.get? b = some o) → h'.get? x = some ({ cls := .ref C, dict := none, data := .fields #[.ref t', .none, .none, .none, .bool false, .none] } : Obj) → Q .none { s with heap := h' }) :
    wpAny (model prog w) A (call (.ref u) rest) Q E s := by
  obtain ⟨hh, g, d, tk, os⟩ := s
  refine wpAny_call (codeAny_of_tree ?_)
  show wpAny _ A.in1 (callAny (.ref u) ⟨rest, []⟩) _ _ _
  simp only [callAny]
  refine wpAny_bind (wpAny_load hu ?_)
  rw [show (PySem.W.kxs_mw "ValueError.__init__" x).cls = .type "method-wrapper" from rfl]
  simp only [PySem.W.kxs_mw, show (Value.type "method-wrapper" == Value.type "method" || Value.type "method-wrapper" == Value.type "builtin_function_or_method" || Value.type "method-wrapper" == Value.type "method-wrapper") = true by decide, if_true]
  refine PySem.W.KFB.if_so (by decide) ?_
  refine wpAny_bind (PySem.W.check_bound_init PySem.F.excBase_ValueError.toExcCallFacts hC he rfl ?_)
  refine wpAny_bind (wpAny_pure (wpAny_pure ?_))
  refine ⟨plainId_quiet PySem.F.excBase_ValueError.init.plain _, codeAny_builtin PySem.F.excBase_ValueError.initEntry ?_⟩
  exact PySem.W.exc_init_tree (cls := .ref C) (t0 := t) (dv := none) (c2 := .none) (c3 := .none) (b4 := .bool false) he hz fun h' k e' _ => h h' _ k e'

theorem meth_eq {o : Expr} {name x : Str} {p2 p3 p4 : Pos} {env : Env} (hline : (p2.endLine == p4.line) = true) : ∃ pl : Sem Bool, eval (.Call (.Attribute o name p2) [.Name x p3] [] p4) env = (do
    let ov ← attributeBase o name env (eval o env)
    standAt p2.atName
    let (f, first) ← holding [ov] (getMethod ov name pl)
    callWith p4 f first (backTo p4 (starEach [.Name x p3] env)) []) := by
  have hpos : ∀ b, methodCallPos b o env p2 p4 = pure p4 := fun b => by unfold methodCallPos; simp [hline]
  refine ⟨do return (← importBound o env).getD true, ?_⟩
  rw [arm_eval_Call]
  unfold methodCall
  simp only [hpos, pure_bind]
  rfl
/-- the two rows, walked -/
theorem init_walk {X : Cx} {σ : L2.St} {H : Hp} {s : Shared} {C a f cc cda : Addr} {v : V} {of ocd ocl : Obj} {fd : FuncData} {ar0 : Arg} {fvs : Array Value} {file : Str} {tf : Tok} {body : List Stmt} {p0 p1 p2 p3 p4 p5 p6 p7 p8 p9 : Pos} {Q : Flow → Shared → Prop}
    (I : Inv X [] σ H s) (hcls : OexC X.K C) (noat : PySem.W.findIn X.K (.ref C) "value" = some none) (up : PySem.W.ks_superIn X.K C C "__init__" = some (some (.builtin "ValueError.__init__"))) (ve : PySem.W.subIn X.K (.ref C) (.type "ValueError") = some true)
    (slf : PySem.W.mroIn X.K C (.ref C) = some true) (opq : PySem.W.nsIn X.K cStatics "thirdparty.any" = some none) (sup : X.mg "super" = none) (top : (X.prog.main.scope.names.lookup ("super" : Str)).isSome = false)
    (lf : X.K.lookup f = some of) (lfd : of.data = .func fd) (hp : (fd.params.posonlyargs ++ fd.params.args).head? = some ar0) (har : ar0.arg = "self") (hfu : X.env.func = some f) (hco : X.env.code = .ref cda)
    (lcd : X.K.lookup cda = some ocd) (ocv : ocd.data = .fields fvs) (hvs : fvs[2]? = some (.str file tf)) (hfile : ((X.prog.main.file : Str) == file) = true) (lcc : X.K.lookup cc = some ocl) (occ : ocl.data = .cell (some (.ref C)))
    (hcell : X.env.cells.lookup ("__class__" : Str) = some cc) (k0 : X.env.kindOf "super" = some .globalImplicit) (k1 : X.env.kindOf "__class__" = some .free) (k2 : X.env.kindOf "self" = some .local) (k3 : X.env.kindOf "value" = some .local)
    (hline : (p2.endLine == p4.line) = true) (ea : H a = some (exo a C none)) (n0 : X.N[0]? = some ("self" : Str)) (n1 : X.N[1]? = some ("value" : Str)) (g0 : σ[0]? = some (some (.ref a))) (g1 : σ[1]? = some (some v))
    (hq : ∀ d s', H d = none → d ≠ a → Inv X [] σ (upd (upd H d (exd d [("value", v)])) a (exo a C (some d))) s' → Q .next s') :
    _root_.PySem.wpAt (model X.prog X.w) X.A (.func body X.env) (execs [iS1 p0 p1 p2 p3 p4 p5, iS2 p6 p7 p8 p9] X.env) Q X.xe s := by
  have kx : X.K.In s.heap := I.kIn
  obtain ⟨nm, qn, NN, bs, bm, sn, sub, ab, col, dd, c0, c1, c2, c3, c5, hC, hbm⟩ := hcls.cls
  have hCs := kx _ _ hC
  obtain ⟨t1, hat⟩ := exo_at I.hok ea
  obtain ⟨m, hns, hl⟩ := I.loc
  obtain ⟨us, rs, ls⟩ := hl 0 "self" _ n0 g0 (.inl k2)
  obtain rfl : us = .ref a := rs
  obtain ⟨u, ru, lu⟩ := hl 1 "value" _ n1 g1 (.inl k3)
  have ms : m "self" = some (.ref a) := by
    rcases ls with ⟨_, h⟩ | ⟨h | h, _⟩
    · exact h
    · rw [k2] at h; cases h
    · rw [k2] at h; cases h
  have mv : m "value" = some u := by
    rcases lu with ⟨_, h⟩ | ⟨h | h, _⟩
    · exact h
    · rw [k3] at h; cases h
    · rw [k3] at h; cases h
  have hkind := I.ok.kind
  have hint : interactive X.env = false := by
    unfold interactive
    rw [hkind]
    rfl
  obtain ⟨pl, hev⟩ := meth_eq (o := .Call (.Name "super" p0) [] [] p1) (name := "__init__") (x := "value") (p3 := p3) (env := X.env) hline
  refine ks_wpAt_execs_cons (ks_wpAt_Expr_any (ks_wpAt_MethodCall ?_ hev) hint)
  refine ks_wpAt_super_base k0 k1 (by decide) hfu (kx _ _ lf) lfd hp hco (kx _ _ lcd) ocv hvs hfile top ?_
  obtain ⟨mb, b1, b2⟩ := I.mod.blt
  refine PySem.W.ks_loadName_global hkind k0 (Calls.loadGlobal_builtin (by rw [I.ok.glob]; exact I.mod.glob.keeps I.bk) sup (by rw [I.ok.blt]; exact b1.keeps I.bk) ((b2 _ (by decide)).trans (show bootBuiltins ("super" : Str) = some (.type "super") by decide +kernel)) ⟨rfl, ?_⟩)
  refine wpAny_loadName_free hkind k1 hcell ⟨_, kx _ _ lcc, occ⟩ ?_
  rw [har]
  refine wpAny_loadName_local hkind k2 hns ms ?_
  refine ks_wpAny_isType_cls hCs rfl ⟨rfl, ?_⟩
  obtain ⟨hh, g, dr, tk, os⟩ := s
  refine ks_wpAny_call_super (C := C) hCs rfl hat rfl (fun c z => by cases z) (PySem.W.looks_mroIn kx slf) fun h2 hso kp2 => ?_
  have I2 := I.kept (t' := tk) kp2
  have hcd : PySem.W.clsIn X.K C = some { name := nm, bases := bs, mro := .ref C :: bm, ns := NN, qualname := qn, hasDict := true, slotNames := sn, subclasses := sub, abstract := ab, collection := col, hasDel := false } := by
    unfold PySem.W.clsIn
    rw [hC] <;> rfl
  have up2 := up
  unfold PySem.W.ks_superIn at up2
  rw [hcd] at up2
  have kx2 : X.K.In h2 := I2.kIn
  have hat2 := kp2 _ _ hat
  have IA : PySem.W.InstAt h2 a { cls := .ref C, dict := none, data := .fields #[.ref t1, .none, .none, .none, .bool false, .none] } C none := ⟨hat2, rfl, rfl, True.intro⟩
  refine PySem.W.kxs_getMethod PySem.W.kxs_ValueError hso (PySem.W.looks_opaque kx2 opq) (l₀ := .ref C :: bm) (fun A1 Q1 E1 s1 k1 q1 => wpAny_bind ((PySem.W.looks_clsIn kx2 hcd) A1 _ E1 s1 k1 (wpAny_pure q1))) rfl kx2 up2 (IA.type.andThen (PySem.W.looks_subIn kx2 ve)) (PySem.W.ks_ne kx2 IA hcd) (by decide) ?_
  have kp3 : ∀ b o, h2.get? b = some o → (h2.push (PySem.W.kxs_mw "ValueError.__init__" a)).get? b = some o := fun b o e => Heap.get?_push_of_some _ e
  have mw : (h2.push (PySem.W.kxs_mw "ValueError.__init__" a)).get? h2.objs.size = some (PySem.W.kxs_mw "ValueError.__init__" a) := Heap.get?_push_at rfl rfl
  have I3 := I2.kept (t' := tk + 1) kp3
  refine PySem.W.kxs_callWith (i := "ValueError.__init__") (x := a) rfl ?_
  refine Calls.evalArgs_plain (Calls.spliced_cons ?_)
  have ns3 : ∃ m3, (h2.push (PySem.W.kxs_mw "ValueError.__init__" a)).Ns X.env.locals m3 ∧ m3 "value" = some u := by
    obtain ⟨o, es, ep, g1, g2⟩ := hns
    exact ⟨m, ⟨o, es, ep, kp3 _ _ (kp2 _ _ g1), g2⟩, mv⟩
  obtain ⟨m3, ns3, mv3⟩ := ns3
  refine wpAny_Name (wpAny_loadName_local hkind k3 ns3 mv3 ?_) (by decide)
  refine Calls.spliced_nil ⟨mw, ?_⟩
  refine call_mw (I3.kIn _ _ hC) (kp3 _ _ hat2) mw (by show 1 ≤ sizeLine; decide) fun h4 t4 kp4 hat4 => ?_
  have I4 := I3.write (t' := tk + 1) (x := a) (e := a) (o := exo a C none) (by rw [ea]; exact True.intro) (.inl rfl) kp4 ⟨_, hat4⟩ (exo_ok hat4)
  have eu : upd H a (exo a C none) = H := by
    funext b
    by_cases hb : b = a
    · rw [hb, upd_same, ea]
    · rw [upd_ne hb]
  rw [eu] at I4
  refine wpAt_of_wpAny ?_
  have h2s : PSs X [iS2 p6 p7 p8 p9] _ := pss_cons (ps_ost (f := "value") (pe_var n0 (.inl k2)) (pe_var n1 (.inl k3))) pss_nil
  refine wpAny_mono (h2s.run [] _ σ H { nx := fun σ' H' => σ' = σ ∧ ∃ d, H d = none ∧ d ≠ a ∧ H' = upd (upd H d (exd d [("value", v)])) a (exo a C (some d)), rt := fun _ _ => False, bk := fun _ _ => False, ct := fun _ _ => False } I4 ?_) (fun f s5 q5 => ?_) fun _ _ z => z
  · refine ⟨v, g1, .ref a, g0, a, C, rfl, hcls, noat, .inl ⟨ea, fun dx n1 n2 => ⟨rfl, dx, n1, n2, rfl⟩⟩⟩
  · cases f with
    | next =>
      obtain ⟨σ5, H5, I5, rfl, d, d1, d2, rfl⟩ := q5
      exact hq d s5 d1 d2 I5
    | ret _ =>
      obtain ⟨_, _, _, _, _, z⟩ := q5
      exact z.elim
    | brk =>
      obtain ⟨_, _, _, z⟩ := q5
      exact z.elim
    | cont =>
      obtain ⟨_, _, _, z⟩ := q5
      exact z.elim

theorem init_ok (k : Nat) (F : InitF P K mg C f fd) : FnOk P w K mg base CX (k + 1) f fd ssv (spI C) := by
  have hB := F.binds
  obtain ⟨oc, od, osl, qual, params, scope, dfs, ar, T, cda, cc, kV, doc, pm, ct, an, p0, p1, p2, p3, p4, p5, p6, p7, p8, p9, rfl, lk, hcd, ⟨ccl, cdd, fvs, ccs, file, tf, lcd, hvs, hfile⟩, ⟨cl, cld, csl, lcc⟩, hpr, har, _, S, hks, hline⟩ := F.fn
  refine ⟨fun vs H Q E' h => ?_, fun A out s H args us vs Q E' hr e0 bnd rv hsp => ?_⟩
  · obtain ⟨a, v, rfl, _⟩ := h
    rfl
  obtain ⟨a, v, rfl, ea, hq⟩ := hsp
  obtain ⟨u, rfl, ru⟩ : ∃ u, us = [.ref a, u] ∧ RelV v u := by
    cases rv with
    | cons r1 r2 =>
      cases r2 with
      | cons r3 r4 =>
        cases r4
        cases r1
        exact ⟨_, rfl, r3⟩
  have kx : K.In s.heap := e0.mod.kin.keeps fun b o h => (e0.bs b o h).1
  have nolim : s.heap.NoLimit := e0.mod.nolimit.keeps fun b o h => (e0.bs b o h).1
  have noK : ∀ {b o}, K.lookup b = some o → H b = none := fun {b o} h => (e0.bs b o (e0.mod.kin _ _ h)).2
  refine ks_codeAny_call_defAt (body := [iS1 p0 p1 p2 p3 p4 p5, iS2 p6 p7 p8 p9]) (binds := ssv.zip [.ref a, u]) hr.depth (kx _ _ lk) rfl nolim (PySem.W.codeRec_of kx hcd) rfl bnd S.nocell (fun x hx => S.par _ (List.of_mem_zip (a := x.1) (b := x.2) hx).1) (fun h1 hns kp => ?_) S.co S.gen S.kind
  have CA : CellsAt [("__class__", cc)] ["__class__"] [some (V.ref C)] s.heap H := by
    have one : ∀ {y : Str} {c : Addr}, ([("__class__", cc)] : List (Str × Addr)).lookup y = some c → y = "__class__" ∧ c = cc := fun {y c} h => by
      rw [List.lookup_cons] at h
      cases q : y == ("__class__" : Str) with
      | true =>
        rw [q] at h
        exact ⟨eq_of_beq q, (Option.some.inj h).symm⟩
      | false =>
        rw [q] at h
        cases h
    refine ⟨rfl, fun y c h => ?_, fun x y c h1 h2 => (one h1).1.trans (one h2).1.symm, fun i y h => ?_⟩
    · obtain ⟨_, rfl⟩ := one h
      exact ⟨noK lcc, _, _, kx _ _ lcc, rfl⟩
    · cases i with
      | zero =>
        cases h
        exact ⟨cc, rfl, fun v hv => ⟨.ref C, by cases hv; rfl, _, kx _ _ lcc, rfl⟩⟩
      | succ i => cases h
  have I0 := inv_startN (CX := CX) (F := ⟨"__init__", qual, params, [iS1 p0 p1 p2 p3 p4 p5, iS2 p6 p7 p8 p9], scope, [("__class__", cc)], cda⟩) (f := f) (E := E') (tk := s.toks + (ssv.zip [.ref a, u]).length) S hr.hd e0 rfl (.cons (show RelV (V.ref a) (.ref a) from rfl) (.cons ru .nil)) CA hns kp
  obtain ⟨ar0, arT, rfl, ha0⟩ : ∃ ar0 arT, ar = ar0 :: arT ∧ ar0.arg = "self" := by
    cases ar with
    | nil => cases har
    | cons ar0 arT => exact ⟨ar0, arT, rfl, (List.cons.inj har).1⟩
  exact init_walk I0 F.cls F.noat F.up F.ve F.slf F.opq F.sup F.top lk rfl (by rw [hpr]; rfl) ha0 rfl rfl lcd rfl hvs hfile lcc rfl rfl hks (S.frk _ (List.mem_cons_self ..)) (S.par _ (List.mem_cons_self ..)) (S.par _ (List.mem_cons_of_mem _ (List.mem_cons_self ..))) hline ea rfl rfl rfl rfl
    fun d s' d1 d2 J => ⟨.non, _, J.os, J.bare, J.base, J.hok, rfl, hq d d1 d2⟩
end
end Z
end

section
set_option Elab.async false
set_option autoImplicit false
set_option linter.all false
set_option maxRecDepth 100000
set_option maxHeartbeats 2000000
/-! An exception caught and kept. -/
namespace Z
open PySem PySem.Spec PyProof.Rows L2
section
variable {X : Cx} {pins : List (Addr × Obj)} {σ : L2.St} {H : Hp} {s : Shared}
theorem inv_track {a : Addr} {o : HO} (I : Inv X pins σ H s) (n0 : X.s_0.heap.get? a = none) (na : H a = none) (new : ObjOk X.prog X.w (upd H a o) s.heap a o) (nL : a ≠ X.env.locals) (nC : ∀ x c, X.env.cells.lookup x = some c → c ≠ a) (nP : ∀ p ∈ X.pn ++ pins, p.1 ≠ a) : Inv X pins σ (upd H a o) s := by
  have nn : ∀ {b : Addr} {u : HO}, H b = some u → b ≠ a := fun {b u} e z => by
    rw [z, na] at e
    cases e
  refine ⟨I.ok, I.os, I.bare, ⟨I.base.keep, I.base.slot, fun b u e n x => ?_, I.base.there, fun b xs e => ?_, fun b u z e => ?_, fun b ps e => ?_⟩, I.loc, I.cell, ?_, fun x c e => ?_, fun p hp => ?_, L2.HOk.laidN I.hok (fun _ _ e => e) na new, I.len⟩
  · have hb : b ≠ a := fun z => by
      rw [z, n0] at e
      cases e
    rw [upd_ne hb]
    exact I.base.free b u e n x
  · have q := I.base.tups b xs e
    rw [upd_ne (nn q)]
    exact q
  · have q := I.base.frzs b u z e
    rw [upd_ne (nn q)]
    exact q
  · obtain ⟨m, q⟩ := I.base.tbls b ps e
    exact ⟨m, by rw [upd_ne (nn q)]; exact q⟩
  · rw [upd_ne (Ne.symm nL)]
    exact I.free
  · rw [upd_ne (nC x c e)]
    exact I.freeC x c e
  · obtain ⟨e, n, r⟩ := I.pin p hp
    exact ⟨e, by rw [upd_ne (nP p hp)]; exact n, r⟩
theorem exH_ok {P : Program} {w : World} {H : Hp} {h : Heap} {a C d : Addr} {oe : Obj} {vs : Array Value} (e : h.get? a = some oe) (z : Zc (.ref C) (some d) oe) (f : oe.data = .fields vs) : ObjOk P w H h a (ExH a C d) :=
  ⟨⟨oe, vs, e, z.1, z.2, f⟩, ⟨oe, e⟩, fun _ _ ⟨o, v, q, r⟩ k => ⟨o, v, k _ q, r⟩⟩
end
/-- except c as <i>: <j> = <i> -/
def tAs (i j : Nat) : TS := fun D σ H => ∃ v, σ[i]? = some (some v) ∧ D.nx (σ.set j (some v)) H
/-- what the clause wishes -/
def wKp (K : PySem.W.Frag) (c : Value) (i j : Nat) (D : Ends) : WX := fun cls d σ H =>
  PySem.W.exmOne K cls c = some true ∧ ∃ C dd, cls = .ref C ∧ d = some dd ∧ i < σ.length ∧ ∀ a, H a = none → D.nx (((σ.set i (some (.ref a))).set j (some (.ref a))).set i none) (upd H a (ExH a C dd))
section
variable {X : Cx} {x n : Str} {c : Value} {i j : Nat} {body : List Stmt} {st : Stmt} {np pos pos' : Pos} {tb : WX → TS}
theorem ps_keep (hs : X.stack = X.env :: X.outer) (hf : X.env.frame = some X.env.locals) (hex : X.ex = []) (hN : X.N.Nodup) (hi : X.N[i]? = some n) (hln : X.env.kindOf n = some .local) (hc : Names X x c)
    (hb : ∀ (W : WX) (pn : List (Addr × Obj)) (xe : Value → Shared → Prop), Takes (X.tr pn xe) W → PassesOwn (model X.prog X.w) X.A X.env xe → PSs (X.tr pn xe) body (tb W))
    (hsu : ∀ (a : Addr) (oe : Obj) (pn : List (Addr × Obj)), PSs (X.suite a ((a, oe) :: pn)) [st] (tAs i j)) :
    PS X (.Try body [.ExceptHandler (some (.Name x np)) (some n) [st] pos'] [] [] pos) (fun D σ H => tb (wKp X.K c i j D) D σ H) := by
  refine ⟨fun pins s σ H D I h => ?_⟩
  have ok := I.ok
  have hfr : X.A.frames = some (X.env :: X.outer) := by rw [ok.frames, hs]
  refine wpAny_Try_except (wpAny_mono ((hb (wKp X.K c i j D) (X.pn ++ pins) (fun e s₁ => wpAny (model X.prog X.w) X.A (noteFrame e X.env) (fun _ s₂ => wpAny (model X.prog X.w) X.A (setFlight e none) (fun _ s₃ =>
    wpAny (model X.prog X.w) X.A (handleBy e X.env [.ExceptHandler (some (.Name x np)) (some n) [st] pos']) (SP X pins D) X.xe s₃) X.xe s₂) X.xe s₁) (fun u s' air => ?_) PassesOwn.looking).run [] s σ H D (I.toTry _) h) (fun fl s1 q1 => ?_) fun _ _ z => z)
  · obtain ⟨a, B, sI, pins', σ', H', cls, d, rfl, J', nb, up, sky, na, os, ag, hyes, C, dd, rfl, rfl, hil, hq⟩ := air
    have J : Inv X pins σ' H' sI := J'.ofTry ok
    have sky' : Sky B (X.env :: X.outer) a (Zc (.ref C) (some dd)) X.env.locals s'.heap := by rw [← hs]; exact sky
    show wpAny (model X.prog X.w) X.A (noteFrame (.ref a) X.env) _ _ _
    refine Sky.land Zc.steady hfr hf sky' fun h3 fl3 up3 => ?_
    have J3 : Inv X pins σ' H' { s' with heap := h3 } := J.landed nb fl3.1 (up.trans up3) os ag
    obtain ⟨oe3, vs3, he3, hz3, hd3⟩ := fl3.there
    have nfr : a ∉ frs (X.env :: X.outer) := fun hm => by
      obtain ⟨_, o1, e1, nf1⟩ := fl3.2.2.1.mem hm
      rw [he3] at e1
      cases e1
      exact nf1 _ hd3
    have nL : a ≠ X.env.locals := fun z => nfr (List.mem_filterMap.mpr ⟨X.env, List.mem_cons_self, by rw [hf, z]⟩)
    have nF : a ∉ X.fs := fun hm => by
      obtain ⟨e, he, q⟩ := List.mem_filterMap.mp hm
      exact nfr (List.mem_filterMap.mpr ⟨e, List.mem_cons_of_mem _ he, q⟩)
    have noI : sI.heap.get? a = none := by
      cases q : sI.heap.get? a with
      | none => rfl
      | some o1 =>
        have z := nb a o1 q (by rw [hs]; exact nfr)
        rw [fl3.2.1] at z
        cases z
    have n0 : X.s_0.heap.get? a = none := by
      cases q : X.s_0.heap.get? a with
      | none => rfl
      | some o1 =>
        obtain ⟨o2, z⟩ := J.base.there a o1 q (by rw [hex]; exact fun z => nomatch z)
        rw [noI] at z
        cases z
    have S3 := J3.suite he3 hd3 na nL nF
    refine wpAny_handleBy_cons (codeAny_handlers_test ?_) (fun q => nomatch q)
    have LT : PySem.W.Looks (model X.prog X.w) h3 (typeOf (.ref a)) (.ref C) := fun A1 Q1 E1 s1 k1 q1 => wpAny_typeOf_ref (k1 _ _ he3) (by rw [hz3.1]; exact q1)
    have LM := PySem.W.exm_one (M := model X.prog X.w) J3.kIn LT hyes
    have test : ∀ {Q : Value → Shared → Prop} {E1 : Value → Shared → Prop}, Q c { s' with heap := h3 } → wpAny (model X.prog X.w) (X.A.mark (some (.ref a))) (eval (.Name x np) X.env) Q E1 { s' with heap := h3 } := fun {Q E1} q => by
      obtain ⟨hg, hdb, hm | ⟨hm, hv, hnn⟩⟩ := hc
      · exact ld_glob (X := X.suite a ((a, oe3) :: (X.pn ++ pins))) S3 hg hm q hdb
      · exact ld_blt (X := X.suite a ((a, oe3) :: (X.pn ++ pins))) S3 hg hm hv q hnn hdb
    refine test (LM.here (codeAny_handlers_suite_as (HandSPX.lands_againZ fl3 fun h4 fl4 up4 => ?_)))
    have J4 : Inv X pins σ' H' { s' with heap := h4 } := J.landed nb fl4.1 ((up.trans up3).trans up4) os ag
    obtain ⟨oe4, vs4, he4, hz4, hd4⟩ := fl4.there
    have S4 := J4.suite he4 hd4 na nL nF
    refine store_ok (X := X.suite a ((a, oe4) :: (X.pn ++ pins))) (v := .ref a) S4 hN hi (.inl hln) rfl (fun s5 S5 => ?_) (.inr hln)
    have want : tAs i j { nx := fun σ6 H6 => σ6 = (σ'.set i (some (.ref a))).set j (some (.ref a)) ∧ H6 = H', rt := fun _ _ => False } (σ'.set i (some (.ref a))) H' := ⟨.ref a, by rw [List.getElem?_set_self hil], rfl, rfl⟩
    refine wpAny_mono ((hsu a oe4 (X.pn ++ pins)).run [] s5 _ H' _ S5 want) (fun f s6 q6 => ?_) (fun _ _ z => False.elim z)
    cases f with
    | next =>
      obtain ⟨σ6, H6, S6, rfl, rfl⟩ := q6
      refine gone_ok (X := X.suite a ((a, oe4) :: (X.pn ++ pins))) S6 hN hi hln fun s7 S7 => ?_
      obtain ⟨g7, _⟩ := S7.pin (a, oe4) (List.mem_append_left _ List.mem_cons_self)
      have J7 : Inv X pins _ H6 s7 := S7.unsuite ok
      refine ⟨_, _, inv_track J7 n0 na (exH_ok (C := C) (d := dd) g7 hz4 hd4) nL (fun y c1 e1 z => ?_) (fun p hp z => ?_), hq a na⟩
      · obtain ⟨v1, o1, e2, _⟩ := J.cell y c1 e1
        rw [z, noI] at e2
        cases e2
      · obtain ⟨e2, _⟩ := J.pin p hp
        rw [z, noI] at e2
        cases e2
    | ret _ =>
      obtain ⟨_, _, _, _, _, z⟩ := q6
      exact z.elim
    | brk =>
      obtain ⟨_, _, _, z⟩ := q6
      exact z.elim
    | cont =>
      obtain ⟨_, _, _, z⟩ := q6
      exact z.elim
  · cases fl with
    | next =>
      obtain ⟨σ', H', J', q⟩ := q1
      exact wpAny_execs_nil ⟨σ', H', J'.ofTry ok, q⟩
    | ret u =>
      obtain ⟨v, σ', H', J', r, q⟩ := q1
      exact ⟨v, σ', H', J'.ofTry ok, r, q⟩
    | brk =>
      obtain ⟨σ', H', J', q⟩ := q1
      exact ⟨σ', H', J'.ofTry ok, q⟩
    | cont =>
      obtain ⟨σ', H', J', q⟩ := q1
      exact ⟨σ', H', J'.ofTry ok, q⟩
end
end Z
end

section
set_option Elab.async false
set_option autoImplicit false
set_option linter.all false
set_option maxRecDepth 100000
set_option maxHeartbeats 2000000
/-! Exceptions made, raised by calls, looked into. -/
namespace Z
open PySem PySem.Spec PyProof.Rows L2

def fAtt (f : Rho → Mu → RE) : Rho → Mu → RE := fun ρ μ => match f ρ μ with
  | some (.exn _ v, _, μ1) => some (v, false, μ1)
  | _ => none
/-- what follows a raise -/
def FinX (E : En) (As : List Addr) (bad : Addr → Prop) (H : Hp) (c : Nat) (x : D) (μ' : Mu) (W : XK) : Prop :=
  ∀ C d v H' As' bad', E.C c = some C → CRel E As' bad' H' μ' → Ext As bad H As' bad' H' → H' d = some (.xd [("value", v)]) → ¬ bad' d → Rep E As' H' bad' v x → W (.ref C) (some d) H'
/-- a raise's reading -/
def rX (E : En) (f : Rho → Mu → RE) (W : XK) (σ : L2.St) (H : Hp) : Prop := ∃ As bad μ ρ c x o μ', At E As bad H μ σ ρ ∧ f ρ μ = some (.exn c x, o, μ') ∧ FinX E As bad H c x μ' W
def spR (E : En) (c : List D → Mu → RE) : Sp := fun vs H _ W => ∃ As bad μ ds k x o μ', CRel E As bad H μ ∧ Reps E As H bad vs ds ∧ c ds μ = some (.exn k x, o, μ') ∧ FinX E As bad H k x μ' W
section
variable {X : Cx} {E : En} {e : Expr} {es : List Expr} {f : Rho → Mu → RE} {pos p : Pos} {W : WX}
theorem FinX.later {As As1 : List Addr} {bad bad1 : Addr → Prop} {H H1 : Hp} {c : Nat} {x : D} {μ' : Mu} {W : XK} (k : FinX E As bad H c x μ' W) (y : Ext As bad H As1 bad1 H1) : FinX E As1 bad1 H1 c x μ' W := fun C d v H' As' bad' h1 h2 h3 h4 h5 h6 => k C d v H' As' bad' h1 h2 (y.trans h3) h4 h5 h6
/-- e.value -/
theorem pe_att (hcl : ∀ c C, E.C c = some C → XfC X.K C ∧ PySem.W.findIn X.K (.ref C) "value" = some none) (he : PE X e (rE E f)) (hb : attributeBase e "value" X.env (eval e X.env) = eval e X.env) : PE X (.Attribute e "value" pos) (rE E (fAtt f)) := by
  refine ⟨fun pins s σ H Q I q => ?_⟩
  obtain ⟨As, bad, μ, ρ, d, o, μ', a, e1, k⟩ := q
  unfold fAtt at e1
  split at e1
  · rename_i c v0 o' μ1 hf
    cases e1
    have want : rE E f σ H fun v H1 => ∃ As' bad', CRel E As' bad' H1 μ' ∧ Ext As bad H As' bad' H1 ∧ Rep E As' H1 bad' v (.exn c d) := by
      refine ⟨As, bad, μ, ρ, _, _, _, a, hf, fun v H1 As' bad' c1 x1 r1 => ⟨As', bad', c1, x1, ?_⟩⟩
      cases o' with
      | false => exact r1
      | true =>
        obtain ⟨_, _, _, _, z, _⟩ := r1
        cases z
    refine attr_of hb (thn (he.run pins s σ H _ I want) fun u s1 hh => ?_)
    obtain ⟨v, H1, I1, r1, As', bad', c1, x1, r⟩ := hh
    cases r with
    | @exn ax C dd _ vv _ h1 n1 h2 n2 h3 rv =>
      obtain rfl : u = Value.ref ax := r1
      obtain ⟨T, hno⟩ := hcl _ _ h3
      obtain ⟨⟨oe, vs, g1, g2, g3, g4⟩, _, _⟩ := I1.hok ax _ h1
      obtain ⟨mA, hns, hr⟩ : ObjOk X.prog X.w H1 s1.heap dd (.xd [("value", vv)]) := I1.hok dd _ h2
      obtain ⟨od, ho, hl⟩ := lookIn_ns hns
      obtain ⟨u2, hu, ru⟩ := RelO.some_of (v := vv) (o := mA "value") (by rw [← show ([("value", vv)] : List (Str × V)).lookup ("value" : Str) = some vv from rfl]; exact hr "value")
      have J : PySem.W.InstAt s1.heap ax oe C (some od) := ⟨g1, g2, by unfold PySem.W.notCls; rw [g4], by rw [g3]; exact ho⟩
      exact HandSPX.exc_get I1.kIn J T.ga T.gg T.exC (PySem.W.findObj_own T.hdC hno rfl (by rw [hl, hu])) (handed_of ru) ⟨vv, H1, I1.tok _, ru, k _ _ As' bad' c1 x1 rv⟩
  · cases e1

variable {c : List D → Mu → RE} {k : Nat} {fa : Addr} {fd : FuncData} {ps ks : List Str} {x : Str} {t tk : TA}
/-- the end of a call that raises -/
theorem end_X {pins : List (Addr × Obj)} {σ : L2.St} {H : Hp} {s : Shared} {Q : VK} {ar : List Value} {kw : List (Str × Value)} (tk : Takes X W) (I : Inv X pins σ H s)
    (h : codeAny (model X.prog X.w) X.A (.call (.ref fa) ⟨ar, kw⟩) (CR (L2.CX X.prog X.w) X.stack X.prog X.w H s (fun _ _ => False) (fun cls d H' => W cls d σ H')) s) : wpAny (model X.prog X.w) X.A (call (.ref fa) ar kw) (EP X pins σ Q) X.xe s := by
  refine wpAny_call (codeAny_mono h fun r s2 q => ?_)
  cases r with
  | error e => exact tk e s2 (XE.of_call I (fun _ _ _ z => z) q)
  | ok fl => cases fl with
    | ret u =>
      obtain ⟨_, _, _, _, _, _, _, z⟩ := q
      exact z.elim
    | next => exact False.elim q
    | brk => exact False.elim q
    | cont => exact False.elim q
theorem run_X {pins : List (Addr × Obj)} {σ : L2.St} {H : Hp} {s : Shared} {Q : VK} {us : List Value} {vs : List V} (tk : Takes X W) (F : FnG X.prog X.w X.K X.mg X.base (L2.CX X.prog X.w) k fa fd ps (spR E c)) (hr : Room k X.A) (hg : X.A.guards = some []) (hb : Binds X.K fd ps [])
    (I : Inv X pins σ H s) (r : Vals vs us) (h : spR E c vs H (fun _ _ => False) (fun cls d H' => W cls d σ H')) : wpAny (model X.prog X.w) X.A (call (.ref fa) us) (EP X pins σ Q) X.xe s := by
  have hl : (us ++ []).length = ps.length := by
    rw [List.append_nil, ← r.length]
    exact F.len _ _ _ _ h
  have bnd := hb s us I.kIn hl
  rw [List.append_nil] at bnd
  exact end_X tk I (F.run X.A X.stack s H ⟨us, []⟩ us vs _ _ hr hg I.env0 bnd r h)
theorem run_XK {pins : List (Addr × Obj)} {σ : L2.St} {H : Hp} {s : Shared} {Q : VK} {us ws : List Value} {vs zs : List V} {n : Nat} {pm : List Nat} (tk : Takes X W) (F : FnG X.prog X.w X.K X.mg X.base (L2.CX X.prog X.w) k fa fd ps (spR E c)) (hr : Room k X.A) (hg : X.A.guards = some [])
    (hb : ∀ (s : Shared) (us ws : List Value), us.length = n → ws.length = ks.length → BindsTo s fd ⟨us, ks.zip ws⟩ (ps.zip (us ++ pmL pm ws)))
    (I : Inv X pins σ H s) (r : Vals vs us) (rz : Vals zs ws) (l1 : vs.length = n) (l2 : zs.length = ks.length) (h : spR E c (vs ++ pmL pm zs) H (fun _ _ => False) (fun cls d H' => W cls d σ H')) : wpAny (model X.prog X.w) X.A (call (.ref fa) us (ks.zip ws)) (EP X pins σ Q) X.xe s :=
  end_X tk I (F.run X.A X.stack s H ⟨us, ks.zip ws⟩ (us ++ pmL pm ws) (vs ++ pmL pm zs) _ _ hr hg I.env0 (hb s us ws (by rw [← r.length]; exact l1) (by rw [← rz.length]; exact l2)) (r.append (vals_pm rz pm)) h)
theorem pe_X (tk : Takes X W) (F : FnG X.prog X.w X.K X.mg X.base (L2.CX X.prog X.w) k fa fd ps (spR E c)) (hr : Room k X.A) (hG : X.A.guards = some []) (hg : Gl X x) (hm : X.mg x = some (.ref fa)) (hk : PySem.W.keepIn X.K (.ref fa) = true) (hb : Binds X.K fd ps [])
    (ha : PA X (e :: es) t) (hdb : (x == ("__debug__" : Str)) = false) (he : starEach (e :: es) X.env = (false, eval e X.env) :: starEach es X.env) (hpl : (backTo pos (starEach es X.env)).any (·.1) = false) :
    PE X (.Call (.Name x p) (e :: es) [] pos) (fun σ H _ => t σ H fun vs H1 => spR E c vs H1 (fun _ _ => False) (fun cls d H' => W cls d σ H')) := by
  refine ⟨fun pins s σ H Q I h => wpAny_Call_Name_kw (ld_glob I hg hm ?_ hdb)⟩
  refine PySem.W.callWith_K (h₀ := X.base) I.ok.mod.kin hk (thn (ha.run pos pins s σ H _ I h) ?_) he hpl
  rintro us s1 ⟨vs, H1, J, r, q⟩
  exact ⟨J.kIn, run_X tk F hr hG hb J r q⟩
theorem pe_X0 (tk : Takes X W) (F : FnG X.prog X.w X.K X.mg X.base (L2.CX X.prog X.w) k fa fd ps (spR E c)) (hr : Room k X.A) (hG : X.A.guards = some []) (hg : Gl X x) (hm : X.mg x = some (.ref fa)) (hk : PySem.W.keepIn X.K (.ref fa) = true) (hb : Binds X.K fd ps [])
    (hdb : (x == ("__debug__" : Str)) = false) : PE X (.Call (.Name x p) [] [] pos) (fun σ H _ => spR E c [] H (fun _ _ => False) (fun cls d H' => W cls d σ H')) := by
  refine ⟨fun pins s σ H Q I h => wpAny_Call_Name_kw (ld_glob I hg hm ?_ hdb)⟩
  exact PySem.W.callWith_K0 I.kIn hk (run_X (us := []) tk F hr hG hb I .nil h)
theorem pe_XK {n : Nat} {pm : List Nat} {kws : List Keyword} {tq : TA} (tk : Takes X W) (F : FnG X.prog X.w X.K X.mg X.base (L2.CX X.prog X.w) k fa fd ps (spR E c)) (hr : Room k X.A) (hG : X.A.guards = some []) (hg : Gl X x) (hm : X.mg x = some (.ref fa)) (hk : PySem.W.keepIn X.K (.ref fa) = true)
    (hb : ∀ (s : Shared) (us ws : List Value), us.length = n → ws.length = ks.length → BindsTo s fd ⟨us, ks.zip ws⟩ (ps.zip (us ++ pmL pm ws)))
    (ha : PA X (e :: es) t) (hkw : PK X kws tq) (hall : kws.all (·.arg.isSome) = true) (hks : kws.filterMap (·.arg) = ks)
    (hdb : (x == ("__debug__" : Str)) = false) (he : starEach (e :: es) X.env = (false, eval e X.env) :: starEach es X.env) (hpl : (backTo pos (starEach es X.env)).any (·.1) = false) :
    PE X (.Call (.Name x p) (e :: es) kws pos) (fun σ H _ => t σ H fun vs H1 => tq σ H1 fun zs H2 => vs.length = n ∧ zs.length = ks.length ∧ spR E c (vs ++ pmL pm zs) H2 (fun _ _ => False) (fun cls d H' => W cls d σ H')) := by
  refine ⟨fun pins s σ H Q I h => wpAny_Call_Name_kw (ld_glob I hg hm ?_ hdb)⟩
  refine PySem.W.callWith_KW (h₀ := X.base) I.ok.mod.kin hk (kw_all hall) (thn (ha.run pos pins s σ H _ I h) fun us s1 ⟨vs, H1, I1, r, q⟩ => ?_) ?_ he
  · refine thn (hkw.run pos pins s1 σ H1 _ I1 q) fun ws s2 ⟨zs, H2, I2, rz, l1, l2, q2⟩ => ⟨I2.kIn, ?_⟩
    rw [kw_ks, hks]
    exact run_XK tk F hr hG hb I2 r rz l1 l2 q2
  · rw [he]
    show ((false || (backTo pos (starEach es X.env)).any (·.1)) || _) = false
    rw [hpl, kw_any hall]
    rfl
theorem pe_XK0 {pm : List Nat} {kws : List Keyword} {tq : TA} (tk : Takes X W) (F : FnG X.prog X.w X.K X.mg X.base (L2.CX X.prog X.w) k fa fd ps (spR E c)) (hr : Room k X.A) (hG : X.A.guards = some []) (hg : Gl X x) (hm : X.mg x = some (.ref fa)) (hk : PySem.W.keepIn X.K (.ref fa) = true)
    (hb : ∀ (s : Shared) (us ws : List Value), us.length = 0 → ws.length = ks.length → BindsTo s fd ⟨us, ks.zip ws⟩ (ps.zip (us ++ pmL pm ws)))
    (hkw : PK X kws tq) (hall : kws.all (·.arg.isSome) = true) (hks : kws.filterMap (·.arg) = ks) (hdb : (x == ("__debug__" : Str)) = false) :
    PE X (.Call (.Name x p) [] kws pos) (fun σ H _ => tq σ H fun zs H2 => zs.length = ks.length ∧ spR E c (pmL pm zs) H2 (fun _ _ => False) (fun cls d H' => W cls d σ H')) := by
  refine ⟨fun pins s σ H Q I h => wpAny_Call_Name_kw (ld_glob I hg hm ?_ hdb)⟩
  refine PySem.W.callWith_KW0 (h₀ := X.base) I.ok.mod.kin hk (kw_all hall) ?_ ?_
  · refine thn (hkw.run pos pins s σ H _ I h) fun ws s2 ⟨zs, H2, I2, rz, l2, q2⟩ => ⟨I2.kIn, ?_⟩
    rw [kw_ks, hks]
    exact run_XK (us := []) tk F hr hG hb I2 .nil rz rfl l2 q2
  · show (false || _) = false
    rw [kw_any hall]
    rfl
/-- a value called: f(..), f a name that holds a def -/
def rF (E : En) (f : Rho → Mu → RE) (g : Rho → Mu → Option (List D × Mu)) (G : Nat → List D → Mu → RE) : Rho → Mu → RE := fun ρ μ => match f ρ μ with
  | some (.fn n, _, μ1) => (match g ρ μ1 with
    | some (ds, μ2) => G n ds μ2
    | none => none)
  | _ => none
/-- C(e), C an own exception class: the exception -/
theorem pmk_1 {C fI : Addr} {fdI : FuncData} {xn : Str} {f : Rho → Mu → RE} (F : InitF X.prog X.K X.mg C fI fdI) (iC : PySem.W.findIn X.K (.ref C) "__init__" = some (some (.ref fI))) (tI : PySem.W.typeIn X.K (.ref fI) = some (.type "function")) (hr : Room 2 X.A) (hg : Gl X xn) (hm : X.mg xn = some (.ref C))
    (hdb : (xn == ("__debug__" : Str)) = false) (he : PE X e (rE E f)) (hst : starEach [e] X.env = (false, eval e X.env) :: starEach [] X.env) : PMk X (.Call (.Name xn p) [e] [] pos) (fun σ H Q => rR E f σ H fun v H1 => ∀ d, H1 d = none → Q (.ref C) (some d) (upd H1 d (.xd [("value", v)]))) := by
  have ha : PA X [e] (fun σ H Q => rR E f σ H fun v H1 => Q [v] H1) := (pa_cons (pe_r he) pa_nil hst).weak fun σ H Q q => by
    obtain ⟨As, bad, μ, ρ, d, o, μ', a, e1, k⟩ := q
    exact ⟨As, bad, μ, ρ, d, o, μ', a, e1, fun v H' As' bad' c x r => k v H' As' bad' c x r⟩
  have m := pmk_oex (CX := CX0) (p := p) (pos := pos) F.cls iC tI (init_ok 0 F) hr F.binds .nil pass0 hg hm ha hdb hst rfl
  intro pins s σ H Q I q
  refine m pins s σ H Q I ?_
  obtain ⟨As, bad, μ, ρ, d, o, μ', a, e1, k⟩ := q
  refine ⟨As, bad, μ, ρ, d, o, μ', a, e1, fun v H1 As' bad' c x r => ⟨by show 1 ≤ 1000; decide, fun a1 n1 => ⟨a1, v, rfl, upd_same, fun d1 z1 ne => ?_⟩⟩⟩
  have nd : H1 d1 = none := by
    rw [upd_ne ne] at z1
    exact z1
  refine ⟨rfl, d1, [("value", v)], upd_same, ?_, nd, ?_⟩
  · rw [upd_ne ne, upd_same]
  · have eq : upd (del (upd (upd (upd H1 a1 (exo a1 C none)) d1 (exd d1 [("value", v)])) a1 (exo a1 C (some d1))) a1) d1 (.xd [("value", v)]) = upd H1 d1 (.xd [("value", v)]) := by
      funext b
      by_cases hb : b = d1
      · rw [hb, upd_same, upd_same]
      · rw [upd_ne hb, upd_ne hb]
        by_cases hb2 : b = a1
        · rw [hb2, del_same, n1]
        · rw [del_ne hb2, upd_ne hb2, upd_ne hb, upd_ne hb2]
    rw [eq]
    exact k v H1 As' bad' c x r d1 nd
end
end Z
end

section
set_option Elab.async false
set_option autoImplicit false
set_option linter.all false
set_option maxRecDepth 100000
set_option maxHeartbeats 2000000
/-! Whether a term is what a piece of the program's text says. -/
namespace Z
open PySem PySem.Spec PyProof.Rows L2

/-- a def's names; the names of the defs, of the constants, of all that the module binds -/
structure Sta where
  N : List Str
  fs : List Str
  cn : List Str
  gl : List Str
  kn : List (List Str)
  cl : List (Str × Bool)
/-- where: the block's scope; a comprehension's own -/
structure Wh where
  sc : Scope
  own : Option Scope
def visB (w : Wh) (x : Str) : Bool := match w.sc.names.lookup x with
  | some .local => true
  | some .cell => true
  | some .free => true
  | _ => false
def gloB (w : Wh) (x : Str) : Bool := match w.sc.names.lookup x with
  | some .globalImplicit => true
  | _ => false
def fnB (w : Wh) (x : Str) : Bool := match w.own with
  | none => true
  | some s => s.names.lookup x == some .cell
def locB (w : Wh) (x : Str) : Bool := match w.sc.names.lookup x with
  | some .local => true
  | some .cell => fnB w x
  | _ => false
def lonB (w : Wh) (x : Str) : Bool := match w.sc.names.lookup x with
  | some .local => true
  | _ => false
def plainN (x : Str) : Bool := !(x == ("__debug__" : Str)) && !(x == ("__classdict__" : Str))
def nameB (S : Sta) (w : Wh) (i : Nat) (e : Expr) : Bool := match e with
  | .Name n _ => decide (S.N[i]? = some n) && visB w n && plainN n
  | _ => false
def star0 (e : Expr) : Bool := match e with
  | .Starred _ _ => false
  | _ => true
def noBase (e : Expr) : Bool := match e with
  | .Call _ _ _ _ => false
  | _ => true
/-- strict=True -/
def isStr (kw : Keyword) : Bool := match kw with
  | ⟨nm, v, _⟩ => (match nm, v with
    | some n, .Constant c _ _ => decide (n = ("strict" : Str)) && (match c with
      | .bool b => b
      | _ => false)
    | _, _ => false)
def noSlice (e : Expr) : Bool := match e with
  | .Slice _ _ _ _ => false
  | _ => true
def noSet (e : Expr) : Bool := match e with
  | .Set _ _ _ => false
  | _ => true
def opOf : Op → Operator
  | .add => .Add
  | .sub => .Sub
  | .mul => .Mult
  | .fdiv => .FloorDiv
  | .mod => .Mod
  | .pow => .Pow
def opB (o : Op) (p : Operator) : Bool := match o, p with
  | .add, .Add => true
  | .sub, .Sub => true
  | .mul, .Mult => true
  | .fdiv, .FloorDiv => true
  | .mod, .Mod => true
  | .pow, .Pow => true
  | _, _ => false
def cpB (o : Cp) (p : CmpOp) : Bool := match o, p with
  | .eq, .Eq => true
  | .ne, .NotEq => true
  | .lt, .Lt => true
  | .le, .LtE => true
  | .gt, .Gt => true
  | .ge, .GtE => true
  | .is_, .Is => true
  | .isNot, .IsNot => true
  | .in_, .In => true
  | .notIn, .NotIn => true
  | _, _ => false
def biN : Bi → Str
  | .len => "len"
  | .sum => "sum"
  | .max => "max"
  | .min => "min"
  | .abs => "abs"
  | .int => "int"
  | .tuple => "tuple"
  | .list => "list"
  | .repr => "repr"
  | .str => "str"
  | .bool => "bool"
  | .sorted => "sorted"
def bltB (S : Sta) (w : Wh) (x y : Str) : Bool := decide (x = y) && gloB w y && decide (y ∈ S.gl)
def cstB (d : D) (c : Const) : Bool := match d, c with
  | .non, .none => true
  | .bl a, .bool b => a == b
  | .int i, .int j => decide (i = j)
  | .str x, .str y => decide (x = y)
  | _, _ => false
/-- an operand -/
def mO (S : Sta) (w : Wh) (x : X) (e : Expr) (r : Bool) : Bool := match x with
  | .pv i => nameB S w i e
  | _ => r
def isNo (a : X) : Bool := match a with
  | .noX => true
  | _ => false
def isTup (e : Expr) : Bool := match e with
  | .Tuple _ _ _ => true
  | _ => false
/-- keywords: the positional ones are n, the keywords' names ks, pm tells which of them each later parameter has -/
def kwB (ps : List Str) (n : Nat) (ks : List Str) (pm : List Nat) : Bool := decide ks.Nodup && decide (n ≤ ps.length) && decide (ps.drop n = pmL pm ks) && pm.all (fun i => decide (i < ks.length)) && ks.all (fun k => (ps.drop n).contains k)
def subW (w : Wh) (scope : Scope) : Wh := ⟨relS scope w.sc, some scope⟩
mutual
/-- a target -/
def mT (S : Sta) : X → Wh → Expr → Bool
  | .tName i, w, e => (match e with
    | .Name n _ => decide (S.N[i]? = some n) && locB w n
    | _ => false)
  | .tTup ts, w, e => (match e with
    | .Tuple es _ _ => mTs S ts w es
    | _ => false)
  | _, _, _ => false
def mTs (S : Sta) : X → Wh → List Expr → Bool
  | .nil, _, es => (match es with
    | [] => true
    | _ => false)
  | .cons t r, w, es => (match es with
    | e :: es => star0 e && mT S t w e && mTs S r w es
    | _ => false)
  | _, _, _ => false
end
mutual
/-- an expression -/
def mE (S : Sta) : X → Wh → Expr → Bool
  | .var i, w, e => nameB S w i e
  | .cst d, _, e => (match e with
    | .Constant c _ _ => cstB d c
    | _ => false)
  | .con j, w, e => (match e with
    | .Name n _ => decide (S.cn[j]? = some n) && gloB w n && plainN n
    | _ => false)
  | .dnew, _, e => (match e with
    | .Dict ks vs _ => ks.isEmpty && vs.isEmpty
    | _ => false)
  | .tup es, w, e => (match e with
    | .Tuple es' _ _ => mEs S es w es'
    | _ => false)
  | .lst es, w, e => (match e with
    | .List es' _ => mEs S es w es'
    | _ => false)
  | .bin o a b, w, e => (match e with
    | .BinOp ea op eb _ => opB o op && mO S w a ea (mE S a w ea) && mO S w b eb (mE S b w eb)
    | _ => false)
  | .neg a, w, e => (match e with
    | .UnaryOp op ea _ => (match op with
      | .USub => mE S a w ea
      | _ => false)
    | _ => false)
  | .not a, w, e => (match e with
    | .UnaryOp op ea _ => (match op with
      | .Not => mE S a w ea
      | _ => false)
    | _ => false)
  | .and a r, w, e => (match e with
    | .BoolOp op (e1 :: e2 :: rest) pos => (match op with
      | .And => mE S a w e1 && mE S r w (.BoolOp .And (e2 :: rest) pos)
      | _ => false)
    | _ => false)
  | .or a r, w, e => (match e with
    | .BoolOp op (e1 :: e2 :: rest) pos => (match op with
      | .Or => mE S a w e1 && mE S r w (.BoolOp .Or (e2 :: rest) pos)
      | _ => false)
    | _ => false)
  | .one a, w, e => (match e with
    | .BoolOp _ (e1 :: rest) _ => (match rest with
      | [] => mE S a w e1
      | _ => false)
    | _ => false)
  | .cmp c a b, w, e => (match e with
    | .Compare ea (op :: ops) (eb :: es) _ => (match ops, es with
      | [], [] => cpB c op && !behindInMarks op eb && mO S w a ea (mE S a w ea) && mO S w b eb (mE S b w eb)
      | _, _ => false)
    | _ => false)
  | .chn c c' a b d, w, e => (match e with
    | .Compare ea (op :: op' :: ops) (eb :: ed :: es) _ => (match ops, es with
      | [], [] => cpB c op && cpB c' op' && !behindInMarks op' ed && mO S w a ea (mE S a w ea) && mO S w b eb (mE S b w eb) && mO S w d ed (mE S d w ed)
      | _, _ => false)
    | _ => false)
  | .ite c a b, w, e => (match e with
    | .IfExp ec ea eb _ => mE S c w ec && mE S a w ea && mE S b w eb
    | _ => false)
  | .call f es, w, e => (match e with
    | .Call fn args kws _ => (match fn, kws with
      | .Name n _, [] => decide (S.fs[f]? = some n) && gloB w n && plainN n && mEs S es w args
      | _, _ => false)
    | _ => false)
  | .callk f pm es ks, w, e => (match e with
    | .Call fn args kws _ => (match fn with
      | .Name n _ => decide (S.fs[f]? = some n) && gloB w n && plainN n && mEs S es w args && mEs S ks w (kws.map (·.value)) && kws.all (·.arg.isSome) && (match S.kn[f]? with
        | some ps => kwB ps args.length (kws.filterMap (·.arg)) pm
        | none => false)
      | _ => false)
    | _ => false)
  | .bi b es, w, e => (match e with
    | .Call fn args kws _ => (match fn, kws with
      | .Name n _, [] => bltB S w n (biN b) && !args.isEmpty && mPs S es w args
      | _, _ => false)
    | _ => false)
  | .md m o es, w, e => (match e with
    | .Call fn args kws cpos => (match fn, kws with
      | .Attribute eo name apos, [] => (apos.endLine == cpos.line) && noBase eo && (match m with
        | .indexL => decide (name = ("index" : Str)) && (args.length == 1) && mO S w o eo (mE S o w eo) && mPs S es w args
        | .indexT => decide (name = ("index" : Str)) && (args.length == 1) && (match o with
          | .con j => true
          | _ => false) && mE S o w eo && mPs S es w args
        | .bits => decide (name = ("bit_length" : Str)) && args.isEmpty && mO S w o eo (mE S o w eo) && (match es with
          | .nil => true
          | _ => false))
      | _, _ => false)
    | _ => false)
  | .fnv f, w, e => (match e with
    | .Name n _ => decide (S.fs[f]? = some n) && gloB w n && plainN n
    | _ => false)
  | .callv a es, w, e => (match e with
    | .Call fn args kws _ => (match fn, kws with
      | .Name n p, [] => mE S a w (.Name n p) && mEs S es w args
      | _, _ => false)
    | _ => false)
  | .att a, w, e => (match e with
    | .Attribute ea nm _ => decide (nm = ("value" : Str)) && noBase ea && mE S a w ea
    | _ => false)
  | .isi a t, w, e => (match e with
    | .Call fn args kws _ => (match fn, args, kws with
      | .Name n _, [ea, ec], [] => (match ec with
        | .Name c _ => bltB S w n "isinstance" && bltB S w c (Str.ofString t) && tyOk t && star0 ea && mO S w a ea (mE S a w ea)
        | _ => false)
      | _, _, _ => false)
    | _ => false)
  | .sub a i, w, e => (match e with
    | .Subscript ea ei _ => noSlice ei && mO S w a ea (mE S a w ea) && mO S w i ei (mE S i w ei)
    | _ => false)
  | .slc a lo hi, w, e => (match e with
    | .Subscript ea ei _ => (match ei with
      | .Slice el eh es _ => mO S w a ea (mE S a w ea) && (match el with
          | none => isNo lo
          | some el => mE S lo w el) && (match eh with
          | none => isNo hi
          | some eh => mE S hi w eh) && (match es with
          | none => true
          | _ => false)
      | _ => false)
    | _ => false)
  | .rev a, w, e => (match e with
    | .Subscript ea ei _ => (match ei with
      | .Slice none none (some (.UnaryOp .USub (.Constant (.int i) _ _) _)) _ => decide (i = 1) && mO S w a ea (mE S a w ea)
      | _ => false)
    | _ => false)
  | .comp x t it c own, w, e => (match e with
    | .ListComp elt gens scope _ => (match gens with
      | [⟨tg, iter, ifs, 0⟩] => noSet iter && mI S true it w tg iter && blkC S.N w.sc scope (own.map fun i => (S.N[i]?.getD "", i)) && (tIx t).all (fun i => own.contains i) && mT S t (subW w scope) tg && mE S x (subW w scope) elt && (match ifs with
        | [] => (match c with
          | .cst (.bl true) => true
          | _ => false)
        | [ec] => mE S c (subW w scope) ec
        | _ => false)
      | _ => false)
    | _ => false)
  | .mk a, w, e => mE S a w e
  | .giv a, w, e => mE S a w e
  | .lend _ a, w, e => mE S a w e
  | _, _, _ => false
def mEs (S : Sta) : X → Wh → List Expr → Bool
  | .nil, _, es => (match es with
    | [] => true
    | _ => false)
  | .cons a r, w, es => (match es with
    | e :: es => star0 e && mE S a w e && mEs S r w es
    | _ => false)
  | _, _, _ => false
def mPs (S : Sta) : X → Wh → List Expr → Bool
  | .nil, _, es => (match es with
    | [] => true
    | _ => false)
  | .cons a r, w, es => (match es with
    | e :: es => star0 e && mO S w a e (mE S a w e) && mPs S r w es
    | _ => false)
  | _, _, _ => false
/-- what a loop walks -/
def mI (S : Sta) : Bool → X → Wh → Expr → Expr → Bool
  | pk, .iEx a, w, _, e => (match pk with
    | true => mO S w a e (mE S a w e)
    | false => mE S a w e)
  | _, .iRng es, w, _, e => (match e with
    | .Call fn args kws _ => (match fn, kws with
      | .Name n _, [] => bltB S w n "range" && (args.length == 1 || args.length == 2) && mPs S es w args
      | _, _ => false)
    | _ => false)
  | pk, .iEnum a, w, tg, e => (match e with
    | .Call fn args kws _ => (match fn, args, kws with
      | .Name n _, [ea], [] => bltB S w n "enumerate" && isTup tg && star0 ea && (match pk with
        | true => mO S w a ea (mE S a w ea)
        | false => mE S a w ea)
      | _, _, _ => false)
    | _ => false)
  | pk, .iZip a b, w, tg, e => (match e with
    | .Call fn args kws _ => (match fn, args, kws with
      | .Name n _, [ea, eb], [] => bltB S w n "zip" && isTup tg && star0 ea && star0 eb && (match pk with
        | true => mO S w a ea (mE S a w ea) && mO S w b eb (mE S b w eb)
        | false => mE S a w ea && mE S b w eb)
      | _, _, _ => false)
    | _ => false)
  | pk, .iZipS a b, w, tg, e => (match e with
    | .Call fn args kws _ => (match fn, args, kws with
      | .Name n _, [ea, eb], [kw] => isStr kw && bltB S w n "zip" && isTup tg && star0 ea && star0 eb && (match pk with
        | true => mO S w a ea (mE S a w ea) && mO S w b eb (mE S b w eb)
        | false => mE S a w ea && mE S b w eb)
      | _, _, _ => false)
    | _ => false)
  | _, _, _, _, _ => false
end
/-- statements: a plain store (no swap of what a comprehension or a display makes) -/
def noSwap (w : Wh) (tg e : Expr) : Bool := match tg, e with
  | .Name t p, .ListComp _ _ s q => !((match w.sc.names.lookup t with
    | some .local => true
    | _ => false) && p.line == q.line && !(s.names.any fun (n, k) => n == t && (k == .local || k == .cell)))
  | .Tuple _ _ _, .Tuple _ _ _ => false
  | _, .ListComp _ _ _ _ => true
  | _, .SetComp _ _ _ _ => false
  | _, .DictComp _ _ _ _ _ => false
  | .List _ _, .Tuple _ _ _ => false
  | _, _ => true
def namesOf : List Expr → Option (List Str)
  | [] => some []
  | e :: es => match e with
    | .Name n _ => (match namesOf es with
      | some r => some (n :: r)
      | none => none)
    | _ => none
end Z
end

section
set_option Elab.async false
set_option autoImplicit false
set_option linter.all false
set_option maxRecDepth 100000
set_option maxHeartbeats 2000000
/-! The check is right: expressions. -/
namespace Z
open PySem PySem.Spec PyProof.Rows L2

/-- classes, what defs raise, defs as values -/
structure ExG (X : Cx) (E : En) (T : Tab) (S : Sta) (call : CallT) : Prop where
  efn : ∀ (f : Nat) (x : Str) (a : Addr), S.fs[f]? = some x → X.mg x = some (.ref a) → E.F f = some a
  efi : ∀ (f : Nat) (a : Addr), E.F f = some a → ∃ x, S.fs[f]? = some x
  fld : ∀ c C, E.C c = some C → XfC X.K C ∧ PySem.W.findIn X.K (.ref C) "value" = some none
  cls : ∀ (c : Nat) (x : Str) (b : Bool), S.cl[c]? = some (x, b) → ∃ C, E.C c = some C ∧ X.mg x = some (.ref C) ∧ (b = true → ∃ fI fd, InitF X.prog X.K X.mg C fI fd ∧ PySem.W.findIn X.K (.ref C) "__init__" = some (some (.ref fI)) ∧ PySem.W.typeIn X.K (.ref fI) = some (.type "function"))
  room : ∀ ds μ z, call (RB + RB) ds μ = some z → Room 2 X.A
  sub : ∀ (c d : Nat) (b : Bool) (C D : Addr), E.C c = some C → E.C d = some D → T.sub c d = some b → PySem.W.exmOne X.K (.ref C) (.ref D) = some b
  rdef : ∀ (f : Nat) (x : Str), S.fs[f]? = some x → ∃ a fd ps k, FnG X.prog X.w X.K X.mg X.base (L2.CX X.prog X.w) k a fd ps (spR E (call (RB + f))) ∧ Room k X.A ∧ X.mg x = some (.ref a) ∧ PySem.W.keepIn X.K (.ref a) = true ∧ Binds X.K fd ps [] ∧ S.kn[f]? = some ps ∧
    ∀ (n : Nat) (ks : List Str) (pm : List Nat), kwB ps n ks pm = true → ∀ (s : Shared) (us ws : List Value), us.length = n → ws.length = ks.length → BindsTo s fd ⟨us, ks.zip ws⟩ (ps.zip (us ++ pmL pm ws))
/-- the context is as the check takes it -/
structure Gd (X : Cx) (E : En) (T : Tab) (S : Sta) (w : Wh) (call : CallT) : Prop where
  K : X.K = E.K
  sc : X.env.scope = w.sc
  N : X.N = S.N
  nd : X.N.Nodup
  calm : X.calm = true
  gd : X.A.guards = some []
  un : X.A.units + 100 < cLine
  fn : ∀ x : Str, fnB w x = true → X.fn x = true
  sys : SysK X.K
  ex : ExG X E T S call
  mg0 : ∀ x : Str, x ∈ S.gl → X.mg x = none
  con : ∀ (j : Nat) (x : Str), S.cn[j]? = some x → ∃ u v d, X.mg x = some u ∧ RelV v u ∧ T.cons[j]? = some d ∧ ∀ As H bad, Rep E As H bad v d
  def_ : ∀ (f : Nat) (x : Str), S.fs[f]? = some x → ∃ a fd ps k, FnG X.prog X.w X.K X.mg X.base CX0 k a fd ps (spC E (call f)) ∧ Room k X.A ∧ X.mg x = some (.ref a) ∧ PySem.W.keepIn X.K (.ref a) = true ∧ Binds X.K fd ps [] ∧ S.kn[f]? = some ps ∧
    ∀ (n : Nat) (ks : List Str) (pm : List Nat), kwB ps n ks pm = true → ∀ (s : Shared) (us ws : List Value), us.length = n → ws.length = ks.length → BindsTo s fd ⟨us, ks.zip ws⟩ (ps.zip (us ++ pmL pm ws))
section
variable {X : Cx} {E : En} {T : Tab} {S : Sta} {w : Wh} {call : CallT} {e e1 e2 : Expr} {es : List Expr} {x y : Str} {pos p : Pos}
theorem vis_of (G : Gd X E T S w call) (h : visB w x = true) : Vis X.env.scope x := by
  unfold visB at h
  unfold Vis
  rw [G.sc]
  split at h <;> first
    | exact .inl (by assumption)
    | exact .inr (.inl (by assumption))
    | exact .inr (.inr (by assumption))
    | cases h
theorem glo_of (G : Gd X E T S w call) (h : gloB w x = true) : Gl X x := by
  unfold gloB at h
  show X.env.scope.names.lookup x = some .globalImplicit
  rw [G.sc]
  split at h
  · assumption
  · cases h
theorem loc_of (G : Gd X E T S w call) (h : locB w x = true) : L2.Loc X.env.scope x ∧ (X.fn x = true ∨ X.env.scope.names.lookup x = some .local) := by
  unfold locB at h
  unfold L2.Loc
  rw [G.sc]
  split at h
  · exact ⟨.inl (by assumption), .inr (by assumption)⟩
  · exact ⟨.inr (by assumption), .inl (G.fn _ h)⟩
  · cases h
theorem plain_of (h : plainN x = true) : (x == ("__debug__" : Str)) = false ∧ (x == ("__classdict__" : Str)) = false := by
  unfold plainN at h
  simpa using h
theorem name_of (G : Gd X E T S w call) {i : Nat} (h : nameB S w i e = true) : ∃ n q, e = .Name n q ∧ X.N[i]? = some n ∧ Vis X.env.scope n ∧ (n == ("__debug__" : Str)) = false ∧ (n == ("__classdict__" : Str)) = false := by
  unfold nameB at h
  split at h
  · rename_i n q
    obtain ⟨h1, h2⟩ := Bool.and_eq_true_iff.mp h
    obtain ⟨h3, h4⟩ := Bool.and_eq_true_iff.mp h1
    obtain ⟨h5, h6⟩ := plain_of h2
    exact ⟨n, q, rfl, by rw [G.N]; exact of_decide_eq_true h3, vis_of G h4, h5, h6⟩
  · cases h
theorem star_of (h : star0 e = true) : starEach (e :: es) X.env = (false, eval e X.env) :: starEach es X.env := by
  cases e <;> first | rfl | cases h
theorem blt_of (G : Gd X E T S w call) (h : bltB S w x y = true) : x = y ∧ Gl X y ∧ X.mg y = none := by
  unfold bltB at h
  obtain ⟨h1, h2⟩ := Bool.and_eq_true_iff.mp h
  obtain ⟨h3, h4⟩ := Bool.and_eq_true_iff.mp h1
  exact ⟨of_decide_eq_true h3, glo_of G h4, G.mg0 _ (of_decide_eq_true h2)⟩
theorem base_of {o : Expr} {a : Str} (h : noBase o = true) : attributeBase o a X.env (eval o X.env) = eval o X.env := by
  cases o <;> first | rfl | cases h
theorem slice_of (h : noSlice e = true) : PlainIx e := by
  intro o i
  cases e <;> first | rfl | cases h
theorem set_of (h : noSet e = true) : ∀ x, foldedSetIterable e X.env x = pure x := by
  intro x
  cases e <;> first | rfl | cases h
theorem op_of {o : Op} {q : Operator} (h : opB o q = true) : q = opOf o := by
  cases o <;> cases q <;> first | rfl | cases h
theorem cp_of {o : Cp} {q : CmpOp} (h : cpB o q = true) : q = cpOf o := by
  cases o <;> cases q <;> first | rfl | cases h
theorem and4 {a b : Bool} (h : (a && b) = true) : a = true ∧ b = true := Bool.and_eq_true_iff.mp h

/-- what is shown of a term and its expression -/
structure Eok (X : Cx) (E : En) (f : Rho → Mu → RE) (e : Expr) : Prop where
  pe : PE X e (rE E f)
  pt : PT X e (rTt E f)
  pw : ∀ op es pos, e = .BoolOp op es pos → PW X e (rTt E f)
theorem Eok.mk' {f : Rho → Mu → RE} (he : PE X e (rE E f)) (hp : ∀ whole, isTrue e X.env whole = (do let v ← whole; standAt e.pos; holding [v] (truthy v))) (hb : ∀ op es pos, e ≠ .BoolOp op es pos) : Eok X E f e := ⟨he, pt_of he hp, fun op es pos q => absurd q (hb op es pos)⟩
/-- an operand -/
theorem opd (G : Gd X E T S w call) {a : Z.X} {r : Bool} (h : mO S w a e r = true) (hr : r = true → PE X e (rE E (dE T call a))) : PE X e (rP E fun ρ μ => pkR a ρ μ (dE T call a ρ μ)) := by
  cases a with
  | pv i =>
    obtain ⟨n, q, rfl, h1, h2, h3, h4⟩ := name_of G (show nameB S w i e = true from h)
    exact pe_pv h1 h2 h3 h4
  | _ => exact pe_p (hr h)
/-- .. that is walked -/
theorem opdV (G : Gd X E T S w call) {a : Z.X} {pk : Bool} {r : Bool} (h : (match pk with
    | true => mO S w a e r
    | false => r) = true) (hr : r = true → PE X e (rE E (dE T call a))) : PE X e (rV E pk fun ρ μ => pkB pk a ρ μ (dE T call a ρ μ)) := by
  cases pk with
  | true => exact (opd G h hr).weak fun _ _ _ => w_v1
  | false => exact (pe_r (hr h)).weak fun _ _ _ => w_v0
theorem any_stars : ∀ {es : List Expr}, es.all star0 = true → (backTo pos (starEach es X.env)).any (·.1) = false
  | [], _ => rfl
  | e :: es, h => by
    obtain ⟨h1, h2⟩ := and4 (show (star0 e && es.all star0) = true from h)
    rw [star_of h1]
    exact any_stars (es := es) h2
theorem all_stars : ∀ {es : List Expr}, es.all star0 = true → (backTo pos (starEach es X.env)).all (fun x => !x.1) = true
  | [], _ => rfl
  | e :: es, h => by
    obtain ⟨h1, h2⟩ := and4 (show (star0 e && es.all star0) = true from h)
    rw [star_of h1]
    exact all_stars (es := es) h2
theorem cmp_eq (c : Cp) (a b : Z.X) : dE T call (.cmp c a b) = fOp (cpF c) (fun ρ μ => pkR a ρ μ (dE T call a ρ μ)) (fun ρ μ => pkR b ρ μ (dE T call b ρ μ)) := by
  funext ρ μ
  show (match pkR a ρ μ (dE T call a ρ μ) with
    | some (x, μ1) => (match pkR b ρ μ1 (dE T call b ρ μ1) with
      | some (y, μ2) => (match cpD c x y with
        | some k => some (.bl k, false, μ2)
        | none => none)
      | none => none)
    | none => none) = fOp _ _ _ ρ μ
  unfold fOp cpF
  dsimp only
  cases pkR a ρ μ (dE T call a ρ μ) with
  | none => rfl
  | some z =>
    obtain ⟨x, μ1⟩ := z
    dsimp only
    cases pkR b ρ μ1 (dE T call b ρ μ1) with
    | none => rfl
    | some z2 =>
      obtain ⟨y, μ2⟩ := z2
      dsimp only
      cases cpD c x y <;> rfl
/-! ### each kind -/
theorem ok_dnew (h : mE S .dnew w e = true) : Eok X E (dE T call .dnew) e := by
  have h' := h
  unfold mE at h'
  split at h'
  · rename_i ks vs q
    obtain ⟨h1, h2⟩ := and4 h'
    have e1 : ks = [] := List.isEmpty_iff.mp h1
    have e2 : vs = [] := List.isEmpty_iff.mp h2
    subst e1 e2
    refine .mk' (pe_dnewK.weak fun σ H Q q p hp => ?_) (fun _ => rfl) fun _ _ _ => nofun
    obtain ⟨As, bad, μ, ρ, d, o, μ', a, e0, k⟩ := q
    cases e0
    exact k _ _ As bad (new_rel a.1 hp _) (new_ext a.1 hp _) (.dct (.inl upd_same) (a.1.nbad hp) .nil)
  · cases h'
theorem ok_var (G : Gd X E T S w call) {i : Nat} (h : mE S (.var i) w e = true) : Eok X E (dE T call (.var i)) e := by
  obtain ⟨n, q, rfl, h1, h2, h3, h4⟩ := name_of G (show nameB S w i e = true from h)
  exact .mk' (pe_v h1 h2 h3 h4) (fun _ => rfl) fun _ _ _ => nofun
theorem ok_cst {d : D} (h : mE S (.cst d) w e = true) : Eok X E (dE T call (.cst d)) e := by
  have h' := h
  unfold mE at h'
  split at h'
  · rename_i c k q
    refine .mk' (pe_cst ?_) (fun _ => rfl) fun _ _ _ => nofun
    unfold cstB at h'
    split at h'
    · exact pe_non
    · rw [show _ = _ from eq_of_beq h']
      exact pe_bl
    · rw [of_decide_eq_true h']
      exact pe_int
    · rw [of_decide_eq_true h']
      exact pe_str
    · cases h'
  · cases h'
theorem con_of (G : Gd X E T S w call) {j : Nat} (h : mE S (.con j) w e = true) : ∃ n q u v d, e = .Name n q ∧ Gl X n ∧ (n == ("__debug__" : Str)) = false ∧ X.mg n = some u ∧ RelV v u ∧ T.cons[j]? = some d ∧ ∀ As H bad, Rep E As H bad v d := by
  have h' := h
  unfold mE at h'
  split at h'
  · rename_i n q
    obtain ⟨h1, h2⟩ := and4 h'
    obtain ⟨h3, h4⟩ := and4 h1
    obtain ⟨u, v, d, k1, k2, k3, k4⟩ := G.con j n (of_decide_eq_true h3)
    exact ⟨n, q, u, v, d, rfl, glo_of G h4, (plain_of h2).1, k1, k2, k3, k4⟩
  · cases h'
theorem con_eq {j : Nat} {d : D} (h : T.cons[j]? = some d) : dE T call (.con j) = fun _ μ => some (d, false, μ) := by
  funext ρ μ
  show (match T.cons[j]? with
    | some d => some (d, false, μ)
    | none => none) = _
  rw [h]
theorem ok_con (G : Gd X E T S w call) {j : Nat} (h : mE S (.con j) w e = true) : Eok X E (dE T call (.con j)) e := by
  obtain ⟨n, q, u, v, d, rfl, h1, h2, h3, h4, h5, h6⟩ := con_of G h
  rw [con_eq h5]
  exact .mk' (pe_con (pe_glob h1 h3 h4 h2) h6) (fun _ => rfl) fun _ _ _ => nofun
end
end Z
end

section
set_option Elab.async false
set_option autoImplicit false
set_option linter.all false
set_option maxRecDepth 100000
set_option maxHeartbeats 2000000
/-! The check is right: each kind of expression. -/
namespace Z
open PySem PySem.Spec PyProof.Rows L2
section
variable (E : En) (T : Tab) (S : Sta) (call : CallT)
def SE (a : Z.X) : Prop := ∀ (X : Cx) (w : Wh) (e : Expr), Gd X E T S w call → mE S a w e = true → Eok X E (dE T call a) e
def SA (a : Z.X) : Prop := ∀ (X : Cx) (w : Wh) (es : List Expr), Gd X E T S w call → mEs S a w es = true → PA X es (rA E (dEs T call a)) ∧ es.all star0 = true ∧ ∀ kws : List Keyword, kws.map (·.value) = es → PK X kws (rA E (dEs T call a))
def SP (a : Z.X) : Prop := ∀ (X : Cx) (w : Wh) (es : List Expr), Gd X E T S w call → mPs S a w es = true → PA X es (rQ E (dPs T call a)) ∧ es.all star0 = true
def SI (a : Z.X) : Prop := ∀ (X : Cx) (pk : Bool) (w : Wh) (tg e : Expr), Gd X E T S w call → mI S pk a w tg e = true → PI X tg e (rI E pk (dI T call pk a))
end
section
variable {X : Cx} {E : En} {T : Tab} {S : Sta} {w : Wh} {call : CallT} {e e1 e2 : Expr} {a b c r o es : Z.X}
theorem Gd.u65 (G : Gd X E T S w call) : X.A.units + 65 < cLine := Nat.lt_of_le_of_lt (by omega) G.un
theorem ok_tup (h : SA E T S call es) : SE E T S call (.tup es) := fun X w e G m => by
  unfold mE at m
  split at m
  · exact .mk' ((pe_tup (h X w _ G m).1).weak fun _ _ _ => w_tup) (fun _ => rfl) fun _ _ _ => nofun
  · cases m
theorem ok_lst (h : SA E T S call es) : SE E T S call (.lst es) := fun X w e G m => by
  unfold mE at m
  split at m
  · exact .mk' ((pe_lst (h X w _ G m).1).weak fun _ _ _ => w_lst) (fun _ => rfl) fun _ _ _ => nofun
  · cases m
theorem opX (o : Op) (G : Gd X E T S w call) : OpR X (binaryOp (opOf o)) (rZ E (opD o)) := by
  have h := op_ok G.K o
  cases o <;> exact h
theorem ok_bin {o : Op} (ha : SE E T S call a) (hb : SE E T S call b) : SE E T S call (.bin o a b) := fun X w e G m => by
  unfold mE at m
  split at m
  · obtain ⟨m1, m3⟩ := and4 m
    obtain ⟨m1, m2⟩ := and4 m1
    rw [op_of m1]
    exact .mk' ((pe_op (opX o G) (opd G m2 fun q => (ha X w _ G q).pe) (opd G m3 fun q => (hb X w _ G q).pe)).weak fun _ _ _ => w_op) (fun _ => rfl) fun _ _ _ => nofun
  · cases m
theorem ok_neg (ha : SE E T S call a) : SE E T S call (.neg a) := fun X w e G m => by
  unfold mE at m
  split at m
  · split at m
    · exact .mk' ((pe_un un_neg (ha X w _ G m).pe).weak fun _ _ _ => w_neg) (fun _ => rfl) fun _ _ _ => nofun
    · cases m
  · cases m
theorem ok_not (ha : SE E T S call a) : SE E T S call (.not a) := fun X w e G m => by
  unfold mE at m
  split at m
  · split at m
    · exact ⟨(pe_not (ha X w _ G m).pe).weak fun _ _ _ => w_not, (pt_not (ha X w _ G m).pt).weak fun _ _ _ => w_tNot, fun _ _ _ => nofun⟩
    · cases m
  · cases m
theorem PW.weak {t t' : TT} (h : PW X e t) (w : ∀ σ H Q, t' σ H Q → t σ H Q) : PW X e t' := ⟨fun wh pins s σ H Q I q => h.run wh pins s σ H Q I (w σ H Q q)⟩
theorem ok_and (ha : SE E T S call a) (hb : SE E T S call b) : SE E T S call (.and a b) := fun X w e G m => by
  unfold mE at m
  split at m
  · split at m
    · obtain ⟨m1, m2⟩ := and4 m
      have k1 := ha X w _ G m1
      have k2 := hb X w _ G m2
      have kw : PW X _ (rTt E (dE T call (.and a b))) := PW.weak (pw_and k1.pt (k2.pw _ _ _ rfl)) fun _ _ _ => w_tAnd
      refine ⟨(pe_and k1.pe k2.pe).weak fun _ _ _ => w_and, kw.pt, fun op es pos q => ?_⟩
      exact kw
    · cases m
  · cases m
theorem ok_or (ha : SE E T S call a) (hb : SE E T S call b) : SE E T S call (.or a b) := fun X w e G m => by
  unfold mE at m
  split at m
  · split at m
    · obtain ⟨m1, m2⟩ := and4 m
      have k1 := ha X w _ G m1
      have k2 := hb X w _ G m2
      have kw : PW X _ (rTt E (dE T call (.or a b))) := PW.weak (pw_or k1.pt (k2.pw _ _ _ rfl)) fun _ _ _ => w_tOr
      refine ⟨(pe_or k1.pe k2.pe).weak fun _ _ _ => w_or, kw.pt, fun op es pos q => ?_⟩
      exact kw
    · cases m
  · cases m
theorem ok_one (ha : SE E T S call a) : SE E T S call (.one a) := fun X w e G m => by
  unfold mE at m
  split at m
  · rename_i bop e1 rest pos
    split at m
    · have k1 := ha X w _ G m
      have kw : PW X (.BoolOp bop [e1] pos) (rTt E (dE T call (.one a))) := by
        cases bop with
        | And => exact pw_and1 k1.pt
        | Or => exact pw_or1 k1.pt
      exact ⟨pe_one k1.pe, kw.pt, fun _ _ _ _ => kw⟩
    · cases m
  · cases m
theorem ok_cmp {c : Cp} (ha : SE E T S call a) (hb : SE E T S call b) : SE E T S call (.cmp c a b) := fun X w e G m => by
  unfold mE at m
  split at m
  · split at m
    · obtain ⟨m1, m4⟩ := and4 m
      obtain ⟨m1, m3⟩ := and4 m1
      obtain ⟨m1, m2⟩ := and4 m1
      have hm := m2
      rw [cp_of m1] at hm ⊢
      have hm' := (Bool.not_eq_true' _).mp hm
      have pa := opd G m3 fun q => (ha X w _ G q).pe
      have pb := opd G m4 fun q => (hb X w _ G q).pe
      have pc : PC X (cpOf c) _ _ (tOp (rZ E (cpF c)) (rP E fun ρ μ => pkR a ρ μ (dE T call a ρ μ)) (rP E fun ρ μ => pkR b ρ μ (dE T call b ρ μ))) := ⟨fun pins s σ H Q I h => bin (R := fun x y H2 => rZ E (cpF c) x y H2 Q) pa pb I h fun v u s2 x y H2 I2 rx ry q => cp_ok G.K G.u65 c pins s2 σ H2 x y v u Q I2 rx ry q⟩
      rw [cmp_eq]
      refine ⟨(pe_cmp pc hm').weak fun _ _ _ => w_op, (pt_cmp pc hm').weak fun σ H Q q => ?_, fun _ _ _ => nofun⟩
      have q2 := w_test q
      exact w_op q2
    · cases m
  · cases m
theorem ok_chn {c c' : Cp} (ha : SE E T S call a) (hb : SE E T S call b) (hd : SE E T S call o) : SE E T S call (.chn c c' a b o) := fun X w e G m => by
  unfold mE at m
  split at m
  · split at m
    · obtain ⟨m1, m6⟩ := and4 m
      obtain ⟨m1, m5⟩ := and4 m1
      obtain ⟨m1, m4⟩ := and4 m1
      obtain ⟨m1, m3⟩ := and4 m1
      obtain ⟨m1, m2⟩ := and4 m1
      rw [cp_of m2] at m3 ⊢
      rw [cp_of m1]
      have hm' := (Bool.not_eq_true' _).mp m3
      have k1 := cp_ok (X := X) G.K G.u65 c
      have k2 := cp_ok (X := X) G.K G.u65 c'
      have pa := opd G m4 fun q => (ha X w _ G q).pe
      have pb := opd G m5 fun q => (hb X w _ G q).pe
      have pd := opd G m6 fun q => (hd X w _ G q).pe
      refine ⟨(pe_chain k1 k2 pa pb pd hm').weak fun _ _ _ => w_chn, (pt_chain k1 k2 pa pb pd hm').weak fun σ H Q q => ?_, fun _ _ _ => nofun⟩
      exact w_chn (w_test q)
    · cases m
  · cases m
theorem w_tIteT {f g h : Rho → Mu → RE} {σ : L2.St} {H : Hp} {Q : Bool → Hp → Prop} : rTt E (fIte f g h) σ H Q → rTt E f σ H fun c H1 => (match c with
    | true => rTt E g σ H1 Q
    | false => rTt E h σ H1 Q) := by
  rintro ⟨As, bad, μ, ρ, b, o, μ', a, e, k⟩
  unfold fIte at e
  split at e
  · rename_i o1 μ1 q
    exact ⟨As, bad, μ, ρ, true, o1, μ1, a, q, fun H1 As1 bad1 c1 x1 => ⟨As1, bad1, μ1, ρ, b, o, μ', a.ext c1 x1, e, fun H' As' bad' c x => k H' As' bad' c (x1.trans x)⟩⟩
  · rename_i o1 μ1 q
    exact ⟨As, bad, μ, ρ, false, o1, μ1, a, q, fun H1 As1 bad1 c1 x1 => ⟨As1, bad1, μ1, ρ, b, o, μ', a.ext c1 x1, e, fun H' As' bad' c x => k H' As' bad' c (x1.trans x)⟩⟩
  · cases e
theorem ok_ite (hc : SE E T S call c) (ha : SE E T S call a) (hb : SE E T S call b) : SE E T S call (.ite c a b) := fun X w e G m => by
  unfold mE at m
  split at m
  · obtain ⟨m1, m3⟩ := and4 m
    obtain ⟨m1, m2⟩ := and4 m1
    refine ⟨(pe_ifExp (hc X w _ G m1).pt (ha X w _ G m2).pe (hb X w _ G m3).pe).weak fun _ _ _ => w_tIte, ⟨fun pins s σ H Q I q => ?_⟩, fun _ _ _ => nofun⟩
    refine isTrue_IfExp (thn ((hc X w _ G m1).pt.run pins s σ H _ I (w_tIteT q)) fun c s1 ⟨H1, I1, q1⟩ => ?_)
    cases c with
    | true => exact (ha X w _ G m2).pt.run pins s1 σ H1 Q I1 q1
    | false => exact (hb X w _ G m3).pt.run pins s1 σ H1 Q I1 q1
  · cases m
end
end Z
end

section
set_option Elab.async false
set_option autoImplicit false
set_option linter.all false
set_option maxRecDepth 100000
set_option maxHeartbeats 2000000
/-! The check is right: calls, subscripts, comprehensions. -/
namespace Z
open PySem PySem.Spec PyProof.Rows L2
section
variable {X : Cx} {E : En} {T : Tab} {S : Sta} {w : Wh} {call : CallT} {e e1 e2 : Expr} {a b c r o es : Z.X}
theorem len_star : ∀ {es : List Expr}, es.all star0 = true → ∀ (env : Env), (starEach es env).length = es.length
  | [], _, _ => rfl
  | e :: es, h, env => by
    obtain ⟨h1, h2⟩ := and4 (show (star0 e && es.all star0) = true from h)
    have q : starEach (e :: es) env = (false, eval e env) :: starEach es env := by
      cases e <;> first | rfl | cases h1
    rw [q, List.length_cons, List.length_cons, len_star h2 env]
theorem PK.weak {kws : List Keyword} {t t' : TA} (h : PK X kws t) (w : ∀ σ H Q, t' σ H Q → t σ H Q) : PK X kws t' := ⟨fun pos pins s σ H Q I q => h.run pos pins s σ H Q I (w σ H Q q)⟩
theorem as_nil : SA E T S call .nil := fun X w es G m => by
  unfold mEs at m
  split at m
  · refine ⟨pa_nil.weak fun _ _ _ => w_nil, rfl, fun kws e => ?_⟩
    cases kws with
    | nil => exact PK.weak pk_nil fun _ _ _ => w_nil
    | cons _ _ => cases e
  · cases m
theorem ps_nil : SP E T S call .nil := fun X w es G m => by
  unfold mPs at m
  split at m
  · exact ⟨pa_nil.weak fun _ _ _ => w_nilQ, rfl⟩
  · cases m
theorem as_cons (ha : SE E T S call a) (hr : SA E T S call r) : SA E T S call (.cons a r) := fun X w es G m => by
  unfold mEs at m
  split at m
  · obtain ⟨m1, m3⟩ := and4 m
    obtain ⟨m1, m2⟩ := and4 m1
    obtain ⟨k1, k2, k3⟩ := hr X w _ G m3
    refine ⟨(pa_cons (pe_r (ha X w _ G m2).pe) k1 (star_of m1)).weak fun _ _ _ => w_cons, by rw [List.all_cons, m1, k2]; rfl, fun kws e => ?_⟩
    cases kws with
    | nil => cases e
    | cons kw kws =>
      obtain ⟨nm, ev, kp⟩ := kw
      rw [List.map_cons] at e
      obtain ⟨rfl, e2⟩ := List.cons.inj e
      exact PK.weak (pk_cons (pe_r (ha X w _ G m2).pe) (k3 kws e2)) fun _ _ _ => w_cons
  · cases m
theorem ps_cons (ha : SE E T S call a) (hr : SP E T S call r) : SP E T S call (.cons a r) := fun X w es G m => by
  unfold mPs at m
  split at m
  · obtain ⟨m1, m3⟩ := and4 m
    obtain ⟨m1, m2⟩ := and4 m1
    obtain ⟨k1, k2⟩ := hr X w _ G m3
    exact ⟨(pa_cons (opd G m2 fun q => (ha X w _ G q).pe) k1 (star_of m1)).weak fun _ _ _ => w_consP, by rw [List.all_cons, m1, k2]; rfl⟩
  · cases m
theorem hd_star {e : Expr} {es : List Expr} (h : (e :: es).all star0 = true) : starEach (e :: es) X.env = (false, eval e X.env) :: starEach es X.env := star_of (and4 (show (star0 e && es.all star0) = true from h)).1
theorem tl_star {e : Expr} {es : List Expr} {pos : Pos} (h : (e :: es).all star0 = true) : (backTo pos (starEach es X.env)).any (·.1) = false := any_stars (and4 (show (star0 e && es.all star0) = true from h)).2
theorem ok_call {f : Nat} (h : SA E T S call es) : SE E T S call (.call f es) := fun X w e G m => by
  unfold mE at m
  split at m
  · rename_i fn args kws pos
    split at m
    · rename_i n np
      obtain ⟨m1, m4⟩ := and4 m
      obtain ⟨m1, m3⟩ := and4 m1
      obtain ⟨m1, m2⟩ := and4 m1
      obtain ⟨p, fd, ps, k, F, hr, hm, hk, hb, _, _⟩ := G.def_ f n (of_decide_eq_true m1)
      obtain ⟨k1, k2, _⟩ := h X w _ G m4
      have hd := (plain_of m3).1
      refine .mk' ?_ (fun _ => rfl) fun _ _ _ => nofun
      have e0 : dE T call (.call f es) = fCall (call f) (dEs T call es) := rfl
      rw [e0]
      cases args with
      | nil =>
        refine (pe_G0 F hr G.gd (glo_of G m2) hm hk hb hd).weak fun σ H Q q => ?_
        obtain ⟨As, bad, μ, ρ, ds, μ', at_, e1, kf⟩ := w_call q
        have hes : es = .nil := by
          cases es <;> first | rfl | (unfold mEs at m4; cases m4)
        subst hes
        cases e1
        exact kf [] H As bad at_.c at_.c.ext0 .nil
      | cons e1 rest => exact (pe_G F hr G.gd (glo_of G m2) hm hk hb k1 hd (hd_star k2) (tl_star k2)).weak fun σ H Q q => w_call q
    · cases m
  · cases m
theorem dEs_len : ∀ (es : Z.X) (ρ : Rho) (μ : Mu) (ds : List D) (μ1 : Mu), dEs T call es ρ μ = some (ds, μ1) → ds.length = tLen es := by
  intro es
  induction es with
  | nil =>
    intro ρ μ ds μ1 h
    cases h
    rfl
  | cons a r _ ih =>
    intro ρ μ ds μ1 h
    have h' : fCons (dE T call a) (dEs T call r) ρ μ = some (ds, μ1) := h
    unfold fCons at h'
    split at h'
    · split at h'
      · rename_i q
        cases h'
        rw [List.length_cons, ih _ _ _ _ q]
        rfl
      · cases h'
    · cases h'
  | _ => exact fun ρ μ ds μ1 h => nomatch h
theorem mEs_len : ∀ (es : Z.X) (w : Wh) (args : List Expr), mEs S es w args = true → args.length = tLen es := by
  intro es
  induction es with
  | nil =>
    intro w args h
    unfold mEs at h
    split at h
    · rfl
    · cases h
  | cons a r _ ih =>
    intro w args h
    unfold mEs at h
    split at h
    · obtain ⟨h1, h2⟩ := and4 h
      rw [List.length_cons, ih _ _ h2]
      rfl
    · cases h
  | _ => exact fun w args h => (by unfold mEs at h; cases h)
theorem kws_len : ∀ {kws : List Keyword}, kws.all (·.arg.isSome) = true → (kws.filterMap (·.arg)).length = kws.length
  | [], _ => rfl
  | q :: r, h => by
    obtain ⟨b1, b2⟩ := and4 (show (q.arg.isSome && r.all (·.arg.isSome)) = true from h)
    cases qa : q.arg with
    | none =>
      rw [qa] at b1
      cases b1
    | some a => rw [List.filterMap_cons_some qa, List.length_cons, List.length_cons, kws_len b2]
theorem ok_callk {f : Nat} {pm : List Nat} {ks : Z.X} (h : SA E T S call es) (h2 : SA E T S call ks) : SE E T S call (.callk f pm es ks) := fun X w e G m => by
  unfold mE at m
  split at m
  · rename_i fn args kws pos
    split at m
    · rename_i n np
      obtain ⟨m, m7⟩ := and4 m
      obtain ⟨m, m6⟩ := and4 m
      obtain ⟨m, m5⟩ := and4 m
      obtain ⟨m, m4⟩ := and4 m
      obtain ⟨m, m3⟩ := and4 m
      obtain ⟨m1, m2⟩ := and4 m
      obtain ⟨p, fd, ps, k, F, hr, hm, hk, hb, hkn, hkb⟩ := G.def_ f n (of_decide_eq_true m1)
      rw [hkn] at m7
      have hkb' := hkb _ _ _ m7
      obtain ⟨k1, k2, _⟩ := h X w _ G m4
      obtain ⟨_, _, k3⟩ := h2 X w _ G m5
      have k4 := k3 kws rfl
      have hd := (plain_of m3).1
      have l1 := mEs_len es w args m4
      have l2 := mEs_len ks w _ m5
      have l3 : (kws.filterMap (·.arg)).length = kws.length := kws_len m6
      rw [List.length_map] at l2
      refine .mk' ?_ (fun _ => rfl) fun _ _ _ => nofun
      have e0 : dE T call (.callk f pm es ks) = fCallk (call f) pm (dEs T call es) (dEs T call ks) := rfl
      rw [e0]
      cases args with
      | nil =>
        have hes : es = .nil := by
          cases es <;> first | rfl | (unfold mEs at m4; cases m4)
        subst hes
        refine (pe_GK0 F hr G.gd (glo_of G m2) hm hk hkb' k4 m6 rfl hd).weak fun σ H Q q => ?_
        exact w_callk0 (fun ρ μ ds μ1 q => by rw [l3, dEs_len _ _ _ _ _ q, l2]) q
      | cons e1 rest => exact (pe_GK F hr G.gd (glo_of G m2) hm hk hkb' k1 k4 m6 rfl hd (hd_star k2) (tl_star k2)).weak fun σ H Q q => w_callk (fun ρ μ ds μ1 q => by rw [dEs_len _ _ _ _ _ q, l1]) (fun ρ μ ds μ1 q => by rw [l3, dEs_len _ _ _ _ _ q, l2]) q
    · cases m
  · cases m
theorem bootB (b : Bi) : (∃ id, biV b = .builtin id ∧ bootBuiltins (biN b) = some (.builtin id)) ∨ ∃ t, biV b = .type t ∧ bootBuiltins (biN b) = some (.type t) := by
  cases b
  · exact .inl ⟨_, rfl, by decide +kernel⟩
  · exact .inl ⟨_, rfl, by decide +kernel⟩
  · exact .inl ⟨_, rfl, by decide +kernel⟩
  · exact .inl ⟨_, rfl, by decide +kernel⟩
  · exact .inl ⟨_, rfl, by decide +kernel⟩
  · exact .inr ⟨_, rfl, by decide +kernel⟩
  · exact .inr ⟨_, rfl, by decide +kernel⟩
  · exact .inr ⟨_, rfl, by decide +kernel⟩
  · exact .inl ⟨_, rfl, by decide +kernel⟩
  · exact .inr ⟨_, rfl, by decide +kernel⟩
  · exact .inr ⟨_, rfl, by decide +kernel⟩
  · exact .inl ⟨_, rfl, by decide +kernel⟩
theorem biN_ok (b : Bi) : biN b ≠ ("__name__" : Str) ∧ (biN b == ("__debug__" : Str)) = false := by
  cases b <;> exact ⟨by decide, by decide⟩
theorem ok_bi {k : Bi} (h : SP E T S call es) : SE E T S call (.bi k es) := fun X w e G m => by
  unfold mE at m
  split at m
  · rename_i fn args kws pos
    split at m
    · obtain ⟨m1, m3⟩ := and4 m
      obtain ⟨m1, m2⟩ := and4 m1
      obtain ⟨rfl, hg, hm⟩ := blt_of G m1
      obtain ⟨k1, k2⟩ := h X w _ G m3
      cases args with
      | nil => cases m2
      | cons e1 rest =>
        obtain ⟨n1, n2⟩ := biN_ok k
        have cr := bi_ok (X := X) G.K G.calm G.un G.gd G.sys k
        refine .mk' ?_ (fun _ => rfl) fun _ _ _ => nofun
        rcases bootB k with ⟨id, q1, q2⟩ | ⟨id, q1, q2⟩
        · rw [q1] at cr
          exact (pe_callB cr hg hm q2 k1 n1 n2 (hd_star k2) (tl_star k2)).weak fun _ _ _ => w_bi
        · rw [q1] at cr
          exact (pe_callTy cr hg hm q2 k1 n1 n2 (hd_star k2) (tl_star k2)).weak fun _ _ _ => w_bi
    · cases m
  · cases m
theorem ok_isi {t : String} (ha : SE E T S call a) : SE E T S call (.isi a t) := fun X w e G m => by
  unfold mE at m
  split at m
  · split at m
    · split at m
      · obtain ⟨m1, m5⟩ := and4 m
        obtain ⟨m1, m4⟩ := and4 m1
        obtain ⟨m1, m3⟩ := and4 m1
        obtain ⟨m1, m2⟩ := and4 m1
        obtain ⟨rfl, hg, hm⟩ := blt_of G m1
        obtain ⟨rfl, hg2, hm2⟩ := blt_of G m2
        have hb : bootBuiltins (Str.ofString t) = some (.type t) ∧ Str.ofString t ≠ ("__name__" : Str) ∧ (Str.ofString t == ("__debug__" : Str)) = false := by
          have h' : t = "int" ∨ t = "bool" ∨ t = "str" ∨ t = "tuple" ∨ t = "list" ∨ t = "dict" := by
            simpa [tyOk, or_assoc] using m3
          rcases h' with rfl | rfl | rfl | rfl | rfl | rfl <;> exact ⟨by decide +kernel, by decide, by decide⟩
        obtain ⟨b1, b2, b3⟩ := hb
        refine .mk' ((pe_callB (isi_ok (X := X) G.K m3) hg hm boot_isinstance (pa_cons (opd G m5 fun q => (ha X w _ G q).pe) (pa_cons (pe_bltn hg2 hm2 b1 (v := .ty t) rfl b2 b3) pa_nil rfl) (star_of m4)) (by decide) (by decide) (star_of m4) rfl).weak fun _ _ _ => w_isi) (fun _ => rfl) fun _ _ _ => nofun
      · cases m
    · cases m
  · cases m
theorem ok_sub (ha : SE E T S call a) (hb : SE E T S call b) : SE E T S call (.sub a b) := fun X w e G m => by
  unfold mE at m
  split at m
  · obtain ⟨m1, m3⟩ := and4 m
    obtain ⟨m1, m2⟩ := and4 m1
    exact .mk' ((pe_ix (sub_ok G.K) (opd G m2 fun q => (ha X w _ G q).pe) (opd G m3 fun q => (hb X w _ G q).pe) (slice_of m1)).weak fun _ _ _ => w_sub) (fun _ => rfl) fun _ _ _ => nofun
  · cases m
theorem part_of {lo : Z.X} (G : Gd X E T S w call) {el : Option Expr} (m : (match el with
    | none => isNo lo
    | some el => mE S lo w el) = true) (hl : SE E T S call lo) : PO X el (rO E fun ρ μ => opO lo μ (dE T call lo ρ μ)) := by
  cases el with
  | none =>
    cases lo <;> first
      | exact ⟨fun pins s σ H Q I q => po_none.run pins s σ H Q I (w_noPart q)⟩
      | cases m
  | some el =>
    have k := (hl X w _ G m).pe
    cases lo <;> first
      | exact ⟨fun pins s σ H Q I q => (po_some k).run pins s σ H Q I (w_part q)⟩
      | (cases m; done)
theorem ok_slc {lo hi : Z.X} (ha : SE E T S call a) (hl : SE E T S call lo) (hh : SE E T S call hi) : SE E T S call (.slc a lo hi) := fun X w e G m => by
  unfold mE at m
  split at m
  · split at m
    · rename_i ea ei pos el eh es p2
      obtain ⟨m1, m4⟩ := and4 m
      obtain ⟨m1, m3⟩ := and4 m1
      obtain ⟨m1, m2⟩ := and4 m1
      cases es with
      | some _ => cases m4
      | none =>
        exact .mk' ((pe_slice (slc_ok G.K) (opd G m1 fun q => (ha X w _ G q).pe) (part_of G m2 hl) (part_of G m3 hh)).weak fun _ _ _ => w_slc) (fun _ => rfl) fun _ _ _ => nofun
    · cases m
  · cases m
theorem ok_rev (ha : SE E T S call a) : SE E T S call (.rev a) := fun X w e G m => by
  unfold mE at m
  split at m
  · split at m
    · obtain ⟨m1, m2⟩ := and4 m
      have hi := of_decide_eq_true m1
      subst hi
      exact .mk' ((rev_ok G.K (opd G m2 fun q => (ha X w _ G q).pe)).weak fun _ _ _ => w_rev) (fun _ => rfl) fun _ _ _ => nofun
    · cases m
  · cases m
theorem ok_mk (ha : SE E T S call a) : SE E T S call (.mk a) := fun X w e G m => by
  have k := ha X w e G m
  refine ⟨k.pe.weak fun _ _ _ => w_mk, ⟨fun pins s σ H Q I q => ?_⟩, fun op es pos z => ⟨fun wh pins s σ H Q I q => ?_⟩⟩
  · obtain ⟨As, bad, μ, ρ, b, o, μ', at_, e1, _⟩ := q
    have e2 : fMk (dE T call a) ρ μ = some (.bl b, o, μ') := e1
    unfold fMk at e2
    split at e2 <;> cases e2
  · obtain ⟨As, bad, μ, ρ, b, o, μ', at_, e1, _⟩ := q
    have e2 : fMk (dE T call a) ρ μ = some (.bl b, o, μ') := e1
    unfold fMk at e2
    split at e2 <;> cases e2
theorem ok_lend {is : List Nat} (ha : SE E T S call a) : SE E T S call (.lend is a) := fun X w e G m => by
  have k := ha X w e G m
  exact ⟨(pe_r k.pe).weak fun _ _ _ => w_lend, k.pt.weak fun _ _ _ => w_lendT, fun op es pos z => PW.weak (k.pw op es pos z) fun _ _ _ => w_lendT⟩
theorem ok_giv (ha : SE E T S call a) : SE E T S call (.giv a) := fun X w e G m => by
  have k := ha X w e G m
  exact ⟨(pe_r k.pe).weak fun _ _ _ => w_giv, k.pt.weak fun _ _ _ => w_givT, fun op es pos z => PW.weak (k.pw op es pos z) fun _ _ _ => w_givT⟩
theorem ok_fnv {f : Nat} : SE E T S call (.fnv f) := fun X w e G m => by
  unfold mE at m
  split at m
  · rename_i n np
    obtain ⟨m1, m3⟩ := and4 m
    obtain ⟨m1, m2⟩ := and4 m1
    obtain ⟨p, _, _, _, _, _, hm, _⟩ := G.def_ f n (of_decide_eq_true m1)
    have hF := G.ex.efn f n p (of_decide_eq_true m1) hm
    refine .mk' ((pe_glob (glo_of G m2) hm (v := .ref p) rfl (plain_of m3).1).weak fun σ H Q q => ?_) (fun _ => rfl) fun _ _ _ => nofun
    obtain ⟨As, bad, μ, ρ, d, o, μ', a, e1, k⟩ := q
    cases e1
    exact k.same a.c (.fn hF)
  · cases m
/-- a def that is known by its place, called -/
theorem call_rest {f : Nat} {b : Addr} {args : List Expr} {pos : Pos} {pins : List (Addr × Obj)} {σ : L2.St} {H : Hp} {s : Shared} {Q : VK} (h : SA E T S call es) (G : Gd X E T S w call) (m : mEs S es w args = true) (hF : E.F f = some b) (I : Inv X pins σ H s)
    (q : rE E (dE T call (.call f es)) σ H Q) : wpAny (model X.prog X.w) X.A (callWith pos (.ref b) [] (backTo pos (starEach args X.env)) (backToKw pos (keywordEach [] X.env))) (EP X pins σ Q) X.xe s := by
  obtain ⟨n, hn⟩ := G.ex.efi f b hF
  obtain ⟨p, fd, ps, k, F, hr, hm, hk, hb, _, _⟩ := G.def_ f n hn
  have hp : p = b := by
    have z := G.ex.efn f n p hn hm
    rw [hF] at z
    exact (Option.some.inj z).symm
  subst hp
  obtain ⟨k1, k2, _⟩ := h X w _ G m
  have e0 : dE T call (.call f es) = fCall (call f) (dEs T call es) := rfl
  rw [e0] at q
  have q' := w_call q
  cases args with
  | nil =>
    obtain ⟨As, bad, μ, ρ, ds, μ', at_, e1, kf⟩ := q'
    have hes : es = .nil := by
      cases es <;> first | rfl | (unfold mEs at m; cases m)
    subst hes
    cases e1
    exact PySem.W.callWith_K0 I.kIn hk (run_G (us := []) F hr G.gd hb I .nil (kf [] H As bad at_.c at_.c.ext0 .nil))
  | cons e1 rest =>
    refine PySem.W.callWith_K (h₀ := X.base) I.ok.mod.kin hk (thn (k1.run pos pins s σ H _ I q') ?_) (hd_star k2) (tl_star k2)
    rintro us s1 ⟨vs, H1, J, r, q1⟩
    exact ⟨J.kIn, run_G F hr G.gd hb J r q1⟩
theorem ok_callv (ha : SE E T S call a) (h : SA E T S call es) : SE E T S call (.callv a es) := fun X w e G m => by
  unfold mE at m
  split at m
  · rename_i fn args kws pos
    split at m
    · rename_i n np
      obtain ⟨m1, m2⟩ := and4 m
      refine .mk' ⟨fun pins s σ H Q I q => ?_⟩ (fun _ => rfl) fun _ _ _ => nofun
      obtain ⟨As, bad, μ, ρ, d, o, μ', at_, e1, k⟩ := q
      have e1' : (match dE T call a ρ μ with
        | some (.fn f, _, μ1) => (match dEs T call es ρ μ1 with
          | some (ds, μ2) => call f ds μ2
          | none => none)
        | _ => none) = some (d, o, μ') := e1
      split at e1'
      · rename_i f o1 μ1 hf
        have want : rE E (dE T call a) σ H fun v H1 => ∃ As1 bad1, CRel E As1 bad1 H1 μ1 ∧ Ext As bad H As1 bad1 H1 ∧ Rep E As1 H1 bad1 v (.fn f) := by
          refine ⟨As, bad, μ, ρ, _, _, _, at_, hf, fun v H1 As1 bad1 c1 x1 r1 => ⟨As1, bad1, c1, x1, ?_⟩⟩
          cases o1 with
          | false => exact r1
          | true =>
            obtain ⟨_, _, _, _, z, _⟩ := r1
            cases z
        refine wpAny_Call_Name_kw (thn ((ha X w _ G m1).pe.run pins s σ H _ I want) fun u s1 hh => ?_)
        obtain ⟨v, H1, I1, r1, As1, bad1, c1, x1, rf⟩ := hh
        cases rf with
        | @fn b _ hF =>
          obtain rfl : u = Value.ref b := r1
          exact call_rest h G m2 hF I1 ⟨As1, bad1, μ1, ρ, d, o, μ', at_.ext c1 x1, e1', k.later x1⟩
      · cases e1'
    · cases m
  · cases m
theorem ok_att (ha : SE E T S call a) : SE E T S call (.att a) := fun X w e G m => by
  unfold mE at m
  split at m
  · obtain ⟨m1, m3⟩ := and4 m
    obtain ⟨m1, m2⟩ := and4 m1
    have hn := of_decide_eq_true m1
    subst hn
    have e0 : dE T call (.att a) = fAtt (dE T call a) := rfl
    rw [e0]
    exact .mk' (pe_att G.ex.fld (ha X w _ G m3).pe (base_of m2)) (fun _ => rfl) fun _ _ _ => nofun
  · cases m
end
end Z
end

section
set_option Elab.async false
set_option autoImplicit false
set_option linter.all false
set_option maxRecDepth 100000
set_option maxHeartbeats 2000000
/-! The check is right: methods, comprehensions, what is walked; all. -/
namespace Z
open PySem PySem.Spec PyProof.Rows L2
section
variable {X : Cx} {E : En} {T : Tab} {S : Sta} {w : Wh} {call : CallT} {e e1 e2 : Expr} {a b c r o es t it : Z.X}
theorem few_of {e : Expr} {pos : Pos} (h : [e].all star0 = true) : ((backTo pos (starEach [e] X.env)).all (fun x => !x.1) && (backToKw pos (keywordEach [] X.env)).all (fun x => x.1.isSome)
      && decide ([e].length + ([] : List Keyword).length + (if ([] : List Keyword).isEmpty then 0 else 1) < 30)) = true := by
  rw [all_stars h]
  rfl
theorem one_len {es : List Expr} (h : (es.length == 1) = true) : ∃ e, es = [e] := by
  match es, h with
  | [e], _ => exact ⟨e, rfl⟩
theorem nil_of {es : List Expr} (h : es.isEmpty = true) : es = [] := by
  cases es with
  | nil => rfl
  | cons _ _ => cases h
/-- a written tuple -/
theorem kt_of {v : V} {xs : List D} (h : ∀ As H bad, Rep E As H bad v (.tup xs)) : ∃ p ws, v = .ref p ∧ KTs E.K p ws ∧ ∀ As H bad, Reps E As H bad ws xs := by
  have q := h [] (fun _ => none) (fun _ => False)
  cases q with
  | tup r n q =>
    rcases r with r | ⟨o, r⟩
    · cases r
    · cases r
  | tupK r q =>
    rename_i p ws
    refine ⟨p, ws, rfl, r, fun As H bad => ?_⟩
    have x : SExt [] (fun _ => False) (fun _ => none) As bad H := ⟨⟨As, rfl⟩, fun _ _ h _ => nomatch h⟩
    exact q.sx x
theorem ok_md {m : Md} (ho : SE E T S call o) (hs : SP E T S call es) : SE E T S call (.md m o es) := fun X w e G h => by
  unfold mE at h
  split at h
  · rename_i fn args kws cpos
    split at h
    · rename_i eo name apos
      obtain ⟨ha, h3⟩ := and4 h
      obtain ⟨h1, h2⟩ := and4 ha
      clear h ha
      cases m with
      | indexL =>
        dsimp only at h3
        obtain ⟨h3, h7⟩ := and4 h3
        obtain ⟨h3, h6⟩ := and4 h3
        obtain ⟨h3, h5⟩ := and4 h3
        have hn := of_decide_eq_true h3
        subst hn
        obtain ⟨e1, rfl⟩ := one_len h5
        obtain ⟨k1, k2⟩ := hs X w _ G h7
        have g := pe_bm PySem.F.plainAttrs_list PySem.F.slot_list_index PySem.F.type_list_index (mt_indexL G.K G.u65) (opd G h6 fun q => (ho X w _ G q).pe) k1 (base_of h2) (few_of k2) h1 (hd_star k2) (tl_star k2)
        rw [G.K] at g
        exact .mk' (g.weak fun _ _ _ => w_mdL) (fun _ => rfl) fun _ _ _ => nofun
      | indexT =>
        dsimp only at h3
        obtain ⟨h3, h8⟩ := and4 h3
        obtain ⟨h3, h7⟩ := and4 h3
        obtain ⟨h3, h6⟩ := and4 h3
        obtain ⟨h3, h5⟩ := and4 h3
        have hn := of_decide_eq_true h3
        subst hn
        obtain ⟨e1, rfl⟩ := one_len h5
        obtain ⟨k1, k2⟩ := hs X w _ G h8
        cases o with
        | con j =>
          obtain ⟨n, q, u, v, d, rfl, g1, g2, g3, g4, g5, g6⟩ := con_of G h7
          cases d with
          | tup xs =>
            obtain ⟨p, ws, rfl, kt, rp⟩ := kt_of g6
            have g := pe_bm PySem.F.plainAttrs_tuple PySem.F.slot_tuple_index PySem.F.type_tuple_index (mt_indexT G.K G.u65 xs) (pe_glob g1 g3 g4 g2) k1 (base_of h2) (few_of k2) h1 (hd_star k2) (tl_star k2)
            rw [G.K] at g
            have ee : dE T call (.md .indexT (.con j) es) = fMd (mdD .indexT) (fun _ μ => some (.tup xs, μ)) (dPs T call es) := by
              funext ρ μ
              show (match (match dE T call (.con j) ρ μ with
                  | some (d, _, μ1) => some (d, μ1)
                  | none => none) with
                | some (x, μ1) => _
                | none => none) = _
              rw [con_eq g5]
              rfl
            rw [ee]
            exact .mk' (g.weak fun _ _ _ => w_mdT kt rp) (fun _ => rfl) fun _ _ _ => nofun
          | _ =>
            have ee : ∀ ρ μ, dE T call (.md .indexT (.con j) es) ρ μ = none := fun ρ μ => by
              show (match (match dE T call (.con j) ρ μ with
                  | some (d, _, μ1) => some (d, μ1)
                  | none => none) with
                | some (x, μ1) => (match dPs T call es ρ μ1 with
                  | some (ds, μ2) => (match mdD .indexT x ds with
                    | some (z, w) => some (z, w, μ2)
                    | none => none)
                  | none => none)
                | none => none) = none
              rw [con_eq g5]
              dsimp only
              split
              · rename_i ds μ2 _
                cases ds <;> rfl
              · rfl
            refine .mk' ⟨fun pins s σ H Q I q => ?_⟩ (fun _ => rfl) fun _ _ _ => nofun
            obtain ⟨As, bad, μ, ρ, d, o, μ', at_, e1, _⟩ := q
            rw [ee] at e1
            cases e1
        | _ => cases h6
      | bits =>
        dsimp only at h3
        obtain ⟨h3, h7⟩ := and4 h3
        obtain ⟨h3, h6⟩ := and4 h3
        obtain ⟨h3, h5⟩ := and4 h3
        have hn := of_decide_eq_true h3
        subst hn
        have ha := nil_of h5
        subst ha
        cases es with
        | nil => exact .mk' ((pe_bits (opd G h6 fun q => (ho X w _ G q).pe) (base_of h2) h1).weak fun _ _ _ => w_bits) (fun _ => rfl) fun _ _ _ => nofun
        | _ => cases h7
    · cases h
  · cases h
/-! ### targets -/
theorem asg_of {e : Expr} {es : List Expr} {env : Env} (h : star0 e = true) : assignEach (e :: es) env = (false, assign e env) :: assignEach es env := by
  cases e <;> first | rfl | cases h
theorem each_len : ∀ {es : List Expr}, es.all star0 = true → ∀ (env : Env), (assignEach es env).length = es.length ∧ (assignEach es env).findIdx? (·.1) = none
  | [], _, _ => ⟨rfl, rfl⟩
  | e :: es, h, env => by
    obtain ⟨h1, h2⟩ := and4 (show (star0 e && es.all star0) = true from h)
    have q : assignEach (e :: es) env = (false, assign e env) :: assignEach es env := by
      cases e <;> first | rfl | cases h1
    obtain ⟨k1, k2⟩ := each_len h2 env
    rw [q]
    refine ⟨by rw [List.length_cons, List.length_cons, k1], ?_⟩
    rw [List.findIdx?_cons]
    simp [k2]
def ST (E : En) (T : Tab) (S : Sta) (call : CallT) (t : Z.X) : Prop := (∀ (X : Cx) (w : Wh) (e : Expr), Gd X E T S w call → mT S t w e = true → PG X e (rG E t)) ∧
  ∀ (X : Cx) (w : Wh) (es : List Expr), Gd X E T S w call → mTs S t w es = true → PGs X es (rGs E t) ∧ es.all star0 = true ∧ es.length = tLen t
theorem PG.weak' {t t' : TG} (h : PG X e t) (w : ∀ v σ H Q, t' v σ H Q → t v σ H Q) : PG X e t' := ⟨fun pins s σ H v u Q I r q => h.run pins s σ H v u Q I r (w v σ H Q q)⟩
theorem PG.or' {t t' : TG} (h : PG X e t) (h' : PG X e t') : PG X e (fun v σ H Q => t v σ H Q ∨ t' v σ H Q) := ⟨fun pins s σ H v u Q I r q => q.elim (h.run pins s σ H v u Q I r) (h'.run pins s σ H v u Q I r)⟩
theorem PGs.weak' {es : List Expr} {t t' : TGs} (h : PGs X es t) (w : ∀ v σ H Q, t' v σ H Q → t v σ H Q) : PGs X es t' := ⟨fun pins s σ H v u Q I r q => h.run pins s σ H v u Q I r (w v σ H Q q)⟩
theorem st_all : ∀ t : Z.X, ST E T S call t := by
  intro t
  induction t with
  | tName i =>
    refine ⟨fun X w e G m => ?_, fun X w es G m => by unfold mTs at m; cases m⟩
    unfold mT at m
    split at m
    · obtain ⟨m1, m2⟩ := and4 m
      obtain ⟨k1, k2⟩ := loc_of G m2
      exact PG.weak' (pg_name G.nd (by rw [G.N]; exact of_decide_eq_true m1) k1 k2) fun _ _ _ _ => w_gName
    · cases m
  | tTup ts ih =>
    refine ⟨fun X w e G m => ?_, fun X w es G m => by unfold mTs at m; cases m⟩
    unfold mT at m
    split at m
    · obtain ⟨k1, k2, k3⟩ := ih.2 X w _ G m
      obtain ⟨k4, k5⟩ := each_len k2 X.env
      rw [k3] at k4
      rename_i es k pos
      have g : PG X (.Tuple es k pos) _ := PG.or' (pg_tup G.calm k1 k4 k5) (pg_lst G.calm k1 k4 k5)
      rw [G.K] at g
      exact PG.weak' g fun _ _ _ _ => w_gTup
    · cases m
  | nil =>
    refine ⟨fun X w e G m => (by unfold mT at m; cases m), fun X w es G m => ?_⟩
    unfold mTs at m
    split at m
    · exact ⟨PGs.weak' pgs_nil fun _ _ _ _ => w_gNil, rfl, rfl⟩
    · cases m
  | cons t r ih1 ih2 =>
    refine ⟨fun X w e G m => (by unfold mT at m; cases m), fun X w es G m => ?_⟩
    unfold mTs at m
    split at m
    · obtain ⟨m1, m3⟩ := and4 m
      obtain ⟨m1, m2⟩ := and4 m1
      obtain ⟨k1, k2, k3⟩ := ih2.2 X w _ G m3
      refine ⟨PGs.weak' (pgs_cons (ih1.1 X w _ G m2) k1 ?_) fun _ _ _ _ => w_gCons, ?_, ?_⟩
      · rw [asg_of m1]
        rfl
      · rw [List.all_cons, m1, k2]
        rfl
      · rw [List.length_cons, k3]
        rfl
    · cases m
  | _ => exact ⟨fun X w e G m => (by unfold mT at m; cases m), fun X w es G m => (by unfold mTs at m; cases m)⟩
end
end Z
end

section
set_option Elab.async false
set_option autoImplicit false
set_option linter.all false
set_option maxRecDepth 100000
set_option maxHeartbeats 2000000
/-! The check is right: what is walked, comprehensions; all expressions. -/
namespace Z
open PySem PySem.Spec PyProof.Rows L2
section
variable {X : Cx} {E : En} {T : Tab} {S : Sta} {w : Wh} {call : CallT} {e e1 e2 : Expr} {a b c r o es t it x : Z.X} {pk : Bool} {fa : Rho → Mu → Option (List D × Mu)}
theorem PI.or' {tg : Expr} {t t' : TI} (h : PI X tg e t) (h' : PI X tg e t') : PI X tg e (fun σ H R => t σ H R ∨ t' σ H R) := ⟨fun pins s σ H R I q => q.elim (h.run pins s σ H R I) (h'.run pins s σ H R I)⟩
theorem isTup_of (h : isTup e = true) : ∃ es k p, e = .Tuple es k p := by
  cases e <;> first | exact ⟨_, _, _, rfl⟩ | cases h
theorem si_ex (ha : SE E T S call a) : SI E T S call (.iEx a) := fun X pk w tg e G m => by
  have g := opdV G (pk := pk) (e := e) (r := mE S a w e) (by
    unfold mI at m
    cases pk <;> exact m) fun q => (ha X w _ G q).pe
  have h := PI.or' (tg := tg) (pi_list g) (pi_tup g)
  rw [G.K] at h
  refine h.weak fun σ H R q => ?_
  have e0 : dI T call pk (.iEx a) = fEx (fun ρ μ => pkB pk a ρ μ (dE T call a ρ μ)) := by
    cases pk <;> rfl
  rw [e0] at q
  exact w_iEx q
theorem w_rng1 (hl : ∀ ρ μ ds μ1, fa ρ μ = some (ds, μ1) → ds.length = 1) {σ : L2.St} {H : Hp} {R : It → Hp → Prop} : rI E pk (fRng fa) σ H R → iRng1 (rQ E fa) σ H R := by
  rintro ⟨As, bad, μ, ρ, ds, μ', a, e, k⟩
  unfold fRng at e
  split at e
  · rename_i n μ1 q
    split at e
    · rename_i hz
      cases e
      refine ⟨As, bad, μ, ρ, _, _, a, q, fun vs H' As' bad' c x r => ?_⟩
      obtain ⟨v, rfl, rv⟩ := repsP1 r
      exact ⟨n, by rw [rv.int], hz.1, sz62 (n := 0) hz.2, k _ H' As' bad' c x walk_rng⟩
    · cases e
  · rename_i q
    exact absurd (hl _ _ _ _ q) (by simp)
  · cases e
theorem w_rng2 (hl : ∀ ρ μ ds μ1, fa ρ μ = some (ds, μ1) → ds.length = 2) {σ : L2.St} {H : Hp} {R : It → Hp → Prop} : rI E pk (fRng fa) σ H R → iRng2 (rQ E fa) σ H R := by
  rintro ⟨As, bad, μ, ρ, ds, μ', a, e, k⟩
  unfold fRng at e
  split at e
  · rename_i q
    exact absurd (hl _ _ _ _ q) (by simp)
  · rename_i n m μ1 q
    split at e
    · rename_i hz
      cases e
      refine ⟨As, bad, μ, ρ, _, _, a, q, fun vs H' As' bad' c x r => ?_⟩
      obtain ⟨v, u, rfl, rv, ru⟩ := repsP2 r
      exact ⟨n, m, by rw [rv.int, ru.int], ⟨hz.1, hz.2.1, hz.2.2.1, hz.2.2.2.1⟩, k _ H' As' bad' c x walk_rng⟩
    · cases e
  · cases e
theorem dPs_len : ∀ (es : Z.X) (ρ : Rho) (μ : Mu) (ds : List D) (μ1 : Mu), dPs T call es ρ μ = some (ds, μ1) → ds.length = tLen es := by
  intro es
  induction es with
  | nil =>
    intro ρ μ ds μ1 h
    cases h
    rfl
  | cons a r _ ih =>
    intro ρ μ ds μ1 h
    have h' : fConsP (fun ρ μ => pkR a ρ μ (dE T call a ρ μ)) (dPs T call r) ρ μ = some (ds, μ1) := h
    unfold fConsP at h'
    split at h'
    · split at h'
      · rename_i q
        cases h'
        rw [List.length_cons, ih _ _ _ _ q]
        rfl
      · cases h'
    · cases h'
  | _ => exact fun ρ μ ds μ1 h => nomatch h
theorem mPs_len : ∀ (es : Z.X) (w : Wh) (args : List Expr), mPs S es w args = true → args.length = tLen es := by
  intro es
  induction es with
  | nil =>
    intro w args h
    unfold mPs at h
    split at h
    · rfl
    · cases h
  | cons a r _ ih =>
    intro w args h
    unfold mPs at h
    split at h
    · obtain ⟨h1, h2⟩ := and4 h
      rw [List.length_cons, ih _ _ h2]
      rfl
    · cases h
  | _ => exact fun w args h => (by unfold mPs at h; cases h)
theorem iRng_eq (pk : Bool) : dI T call pk (.iRng es) = fRng (dPs T call es) := by
  funext ρ μ
  cases pk <;> rfl
theorem rng_go (hs : SP E T S call es) {tg : Expr} (G : Gd X E T S w call) {n : Str} {args : List Expr} {np pos : Pos} (m : (bltB S w n "range" && (args.length == 1 || args.length == 2) && mPs S es w args) = true) :
    PI X tg (.Call (.Name n np) args [] pos) (rI E pk (fRng (dPs T call es))) := by
  obtain ⟨m1, m3⟩ := and4 m
  obtain ⟨m1, m2⟩ := and4 m1
  obtain ⟨rfl, hg, hm⟩ := blt_of G m1
  have hl := mPs_len es w args m3
  obtain ⟨k1, k2⟩ := hs X w _ G m3
  match args, m2, hl, k1, k2 with
  | [a1], _, hl, k1, k2 => exact (pi_range1 hg hm k1 (hd_star k2)).weak fun σ H R => w_rng1 fun ρ μ ds μ1 q => (dPs_len es ρ μ ds μ1 q).trans hl.symm
  | [a1, a2], _, hl, k1, k2 =>
    have k3 := (and4 (show (star0 a1 && [a2].all star0) = true from k2)).2
    exact (pi_range2 hg hm k1 (by rw [hd_star k2, hd_star k3] <;> rfl) (hd_star k3)).weak fun σ H R => w_rng2 fun ρ μ ds μ1 q => (dPs_len es ρ μ ds μ1 q).trans hl.symm
theorem si_rng (hs : SP E T S call es) : SI E T S call (.iRng es) := fun X pk w tg e G m => by
  rw [iRng_eq]
  cases pk <;>
  · unfold mI at m
    split at m
    · split at m
      · exact rng_go hs G m
      · cases m
    · cases m
theorem si_enum (ha : SE E T S call a) : SI E T S call (.iEnum a) := fun X pk w tg e G m => by
  have e0 : dI T call pk (.iEnum a) = fEnum (fun ρ μ => pkB pk a ρ μ (dE T call a ρ μ)) := by
    cases pk <;> rfl
  rw [e0]
  unfold mI at m
  split at m
  · split at m
    · obtain ⟨m1, m4⟩ := and4 m
      obtain ⟨m1, m3⟩ := and4 m1
      obtain ⟨m1, m2⟩ := and4 m1
      obtain ⟨rfl, hg, hm⟩ := blt_of G m1
      obtain ⟨es, kk, p, rfl⟩ := isTup_of m2
      have g := opdV G (pk := pk) (by cases pk <;> exact m4) fun q => (ha X w _ G q).pe
      refine L2.PI.weak (t := Et.iEnumA E.K (tCons (rV E pk fun ρ μ => pkB pk a ρ μ (dE T call a ρ μ)) tNil)) ?_ fun _ _ _ => w_iEnum
      rw [← G.K]
      exact Et.pi_enumA hg hm (pa_cons g pa_nil (star_of m3)) (star_of m3)
    · cases m
  · cases m
theorem si_zip (ha : SE E T S call a) (hb : SE E T S call b) : SI E T S call (.iZip a b) := fun X pk w tg e G m => by
  have e0 : dI T call pk (.iZip a b) = fZip (fun ρ μ => pkB pk a ρ μ (dE T call a ρ μ)) (fun ρ μ => pkB pk b ρ μ (dE T call b ρ μ)) := by
    cases pk <;> rfl
  rw [e0]
  unfold mI at m
  split at m
  · split at m
    · obtain ⟨m1, m4⟩ := and4 m
      obtain ⟨m1, m5⟩ := and4 m1
      obtain ⟨m1, m3⟩ := and4 m1
      obtain ⟨m1, m2⟩ := and4 m1
      obtain ⟨rfl, hg, hm⟩ := blt_of G m1
      obtain ⟨es, kk, p, rfl⟩ := isTup_of m2
      have g1 := opdV G (pk := pk) (by cases pk <;> exact (and4 m4).1) fun q => (ha X w _ G q).pe
      have g2 := opdV G (pk := pk) (by cases pk <;> exact (and4 m4).2) fun q => (hb X w _ G q).pe
      refine L2.PI.weak (t := RZ.iZipA E.K (tCons (rV E pk fun ρ μ => pkB pk a ρ μ (dE T call a ρ μ)) (tCons (rV E pk fun ρ μ => pkB pk b ρ μ (dE T call b ρ μ)) tNil))) ?_ fun _ _ _ => w_iZip
      rw [← G.K]
      exact RZ.pi_zipA hg hm (pa_cons g1 (pa_cons g2 pa_nil (star_of m5)) (star_of m3)) (star_of m3) (by rw [star_of m5] <;> rfl)
    · cases m
  · cases m
theorem str_of {kw : Keyword} (h : isStr kw = true) : ∃ cj cp kp, kw = ⟨some "strict", .Constant (.bool true) cj cp, kp⟩ := by
  obtain ⟨nm, v, kp⟩ := kw
  cases nm with
  | none => cases h
  | some n => cases v with
    | Constant c cj cp =>
      unfold isStr at h
      dsimp only at h
      obtain ⟨h1, h2⟩ := and4 h
      have e := of_decide_eq_true h1
      subst e
      cases c with
      | bool b => cases b with
        | true => exact ⟨cj, cp, kp, rfl⟩
        | false => cases h2
      | _ => cases h2
    | _ => cases h
theorem si_zipS (ha : SE E T S call a) (hb : SE E T S call b) : SI E T S call (.iZipS a b) := fun X pk w tg e G m => by
  have e0 : dI T call pk (.iZipS a b) = fZipS (fun ρ μ => pkB pk a ρ μ (dE T call a ρ μ)) (fun ρ μ => pkB pk b ρ μ (dE T call b ρ μ)) := by
    cases pk <;> rfl
  rw [e0]
  unfold mI at m
  split at m
  · split at m
    · obtain ⟨m1, m4⟩ := and4 m
      obtain ⟨m1, m5⟩ := and4 m1
      obtain ⟨m1, m3⟩ := and4 m1
      obtain ⟨m1, m2⟩ := and4 m1
      obtain ⟨m0, m1⟩ := and4 m1
      obtain ⟨cj, cp, kp, rfl⟩ := str_of m0
      obtain ⟨rfl, hg, hm⟩ := blt_of G m1
      obtain ⟨es, kk, p, rfl⟩ := isTup_of m2
      have g1 := opdV G (pk := pk) (by cases pk <;> exact (and4 m4).1) fun q => (ha X w _ G q).pe
      have g2 := opdV G (pk := pk) (by cases pk <;> exact (and4 m4).2) fun q => (hb X w _ G q).pe
      refine L2.PI.weak (t := Zs.iZipS E.K (tCons (rV E pk fun ρ μ => pkB pk a ρ μ (dE T call a ρ μ)) (tCons (rV E pk fun ρ μ => pkB pk b ρ μ (dE T call b ρ μ)) tNil))) ?_ fun _ _ _ => w_iZipS
      rw [← G.K]
      exact Zs.pi_zipS hg hm (pa_cons g1 (pa_cons g2 pa_nil (star_of m5)) (star_of m3)) (star_of m3) (by rw [star_of m3, star_of m5] <;> rfl)
    · cases m
  · cases m
/-! ### comprehensions -/
theorem Gd.blk (G : Gd X E T S w call) (s : Shared) (H : Hp) (scope : Scope) (C : Addr) (cl : List (Str × Addr)) (fp : List Addr) : Gd (X.blk s H scope (compEnvC scope cl C X.env) fp) E T S (subW w scope) call where
  K := G.K
  sc := by
    show relS scope X.env.scope = relS scope w.sc
    rw [G.sc]
  N := G.N
  nd := G.nd
  calm := G.calm
  gd := G.gd
  un := G.un
  fn := fun x h => h
  sys := G.sys
  ex := ⟨G.ex.efn, G.ex.efi, G.ex.fld, G.ex.cls, G.ex.room, G.ex.sub, G.ex.rdef⟩
  mg0 := G.mg0
  con := G.con
  def_ := G.def_
theorem pts_yes : PTs X [] (rTt E fun _ μ => some (.bl true, false, μ)) := ⟨fun pins s σ H Q I q => pts_nil.run pins s σ H Q I (w_yes q)⟩
theorem ok_comp {own : List Nat} (hx : SE E T S call x) (hi : SI E T S call it) (hc : SE E T S call c) : SE E T S call (.comp x t it c own) := fun X w e G m => by
  unfold mE at m
  split at m
  · rename_i elt gens scope pos
    split at m
    · rename_i tg iter ifs
      obtain ⟨m1, m7⟩ := and4 m
      obtain ⟨m1, m6⟩ := and4 m1
      obtain ⟨m1, m5⟩ := and4 m1
      obtain ⟨m1, m4⟩ := and4 m1
      obtain ⟨m1, m3⟩ := and4 m1
      obtain ⟨m1, m2⟩ := and4 m1
      have bo := blkOk_by m3
      rw [← G.N, ← G.sc] at bo
      have ho : (own.map fun i => (X.N[i]?.getD ("" : Str), i)).map (·.2) = own := by
        rw [List.map_map]
        exact List.map_id own
      have ht : ∀ i ∈ tIx t, i ∈ own := fun i hi => by
        have := List.all_eq_true.mp m4 i hi
        simpa using this
      have pi := hi X true w tg iter G m2
      have pg := fun (s : Shared) (H : Hp) (C : Addr) (cl : List (Str × Addr)) (fp : List Addr) => (st_all t).1 _ _ tg (G.blk s H scope C cl fp) m5
      have pe := fun (s : Shared) (H : Hp) (C : Addr) (cl : List (Str × Addr)) (fp : List Addr) => pe_r (hx _ _ elt (G.blk s H scope C cl fp) m6).pe
      refine .mk' ?_ (fun _ => rfl) fun _ _ _ => nofun
      have e0 : dE T call (.comp x t it c own) = fComp t own (dI T call true it) (dE T call c) (dE T call x) := rfl
      rw [e0]
      split at m7
      · cases c with
        | cst d =>
          cases d with
          | bl b =>
            cases b with
            | true =>
              have pt := fun (s : Shared) (H : Hp) (C : Addr) (cl : List (Str × Addr)) (fp : List Addr) => pts_yes (X := X.blk s H scope (compEnvC scope cl C X.env) fp) (E := E)
              have g := pe_lc (pos := pos) G.calm G.nd pi bo pg pt pe (set_of m1)
              rw [ho] at g
              exact g.weak fun σ H Q q => w_comp ht q
            | false => cases m7
          | _ => cases m7
        | _ => cases m7
      · have pt := fun (s : Shared) (H : Hp) (C : Addr) (cl : List (Str × Addr)) (fp : List Addr) => pts_one (hc _ _ _ (G.blk s H scope C cl fp) m7).pt
        have g := pe_lc (pos := pos) G.calm G.nd pi bo pg pt pe (set_of m1)
        rw [ho] at g
        exact g.weak fun σ H Q q => w_comp ht q
      · cases m7
    · cases m
  · cases m
end
end Z
end

section
set_option Elab.async false
set_option autoImplicit false
set_option linter.all false
set_option maxRecDepth 100000
set_option maxHeartbeats 2000000
/-! The check of statements. -/
namespace Z
open PySem PySem.Spec PyProof.Rows L2
section
variable {E : En} {T : Tab} {S : Sta} {call : CallT}
theorem sa_no {x : Z.X} (h : ∀ w es, mEs S x w es = false) : SA E T S call x := fun X w es G m => by
  rw [h] at m
  cases m
theorem sp_no {x : Z.X} (h : ∀ w es, mPs S x w es = false) : SP E T S call x := fun X w es G m => by
  rw [h] at m
  cases m
theorem se_no {x : Z.X} (h : ∀ w e, mE S x w e = false) : SE E T S call x := fun X w es G m => by
  rw [h] at m
  cases m
theorem si_no {x : Z.X} (h : ∀ pk w tg e, mI S pk x w tg e = false) : SI E T S call x := fun X pk w tg e G m => by
  rw [h] at m
  cases m
theorem x_all : ∀ x : Z.X, SE E T S call x ∧ SA E T S call x ∧ SP E T S call x ∧ SI E T S call x := by
  intro x
  induction x with
  | var i => exact ⟨fun X w e G h => ok_var G h, sa_no fun _ _ => by unfold mEs <;> rfl, sp_no fun _ _ => by unfold mPs <;> rfl, si_no fun _ _ _ _ => by unfold mI <;> rfl⟩
  | cst d => exact ⟨fun X w e G h => ok_cst h, sa_no fun _ _ => by unfold mEs <;> rfl, sp_no fun _ _ => by unfold mPs <;> rfl, si_no fun _ _ _ _ => by unfold mI <;> rfl⟩
  | con j => exact ⟨fun X w e G h => ok_con G h, sa_no fun _ _ => by unfold mEs <;> rfl, sp_no fun _ _ => by unfold mPs <;> rfl, si_no fun _ _ _ _ => by unfold mI <;> rfl⟩
  | dnew => exact ⟨fun X w e G h => ok_dnew h, sa_no fun _ _ => by unfold mEs <;> rfl, sp_no fun _ _ => by unfold mPs <;> rfl, si_no fun _ _ _ _ => by unfold mI <;> rfl⟩
  | tup es h => exact ⟨ok_tup h.2.1, sa_no fun _ _ => by unfold mEs <;> rfl, sp_no fun _ _ => by unfold mPs <;> rfl, si_no fun _ _ _ _ => by unfold mI <;> rfl⟩
  | lst es h => exact ⟨ok_lst h.2.1, sa_no fun _ _ => by unfold mEs <;> rfl, sp_no fun _ _ => by unfold mPs <;> rfl, si_no fun _ _ _ _ => by unfold mI <;> rfl⟩
  | bin o a b ha hb => exact ⟨ok_bin ha.1 hb.1, sa_no fun _ _ => by unfold mEs <;> rfl, sp_no fun _ _ => by unfold mPs <;> rfl, si_no fun _ _ _ _ => by unfold mI <;> rfl⟩
  | neg a ha => exact ⟨ok_neg ha.1, sa_no fun _ _ => by unfold mEs <;> rfl, sp_no fun _ _ => by unfold mPs <;> rfl, si_no fun _ _ _ _ => by unfold mI <;> rfl⟩
  | not a ha => exact ⟨ok_not ha.1, sa_no fun _ _ => by unfold mEs <;> rfl, sp_no fun _ _ => by unfold mPs <;> rfl, si_no fun _ _ _ _ => by unfold mI <;> rfl⟩
  | and a b ha hb => exact ⟨ok_and ha.1 hb.1, sa_no fun _ _ => by unfold mEs <;> rfl, sp_no fun _ _ => by unfold mPs <;> rfl, si_no fun _ _ _ _ => by unfold mI <;> rfl⟩
  | or a b ha hb => exact ⟨ok_or ha.1 hb.1, sa_no fun _ _ => by unfold mEs <;> rfl, sp_no fun _ _ => by unfold mPs <;> rfl, si_no fun _ _ _ _ => by unfold mI <;> rfl⟩
  | one a ha => exact ⟨ok_one ha.1, sa_no fun _ _ => by unfold mEs <;> rfl, sp_no fun _ _ => by unfold mPs <;> rfl, si_no fun _ _ _ _ => by unfold mI <;> rfl⟩
  | cmp c a b ha hb => exact ⟨ok_cmp ha.1 hb.1, sa_no fun _ _ => by unfold mEs <;> rfl, sp_no fun _ _ => by unfold mPs <;> rfl, si_no fun _ _ _ _ => by unfold mI <;> rfl⟩
  | chn c c' a b d ha hb hd => exact ⟨ok_chn ha.1 hb.1 hd.1, sa_no fun _ _ => by unfold mEs <;> rfl, sp_no fun _ _ => by unfold mPs <;> rfl, si_no fun _ _ _ _ => by unfold mI <;> rfl⟩
  | ite c a b hc ha hb => exact ⟨ok_ite hc.1 ha.1 hb.1, sa_no fun _ _ => by unfold mEs <;> rfl, sp_no fun _ _ => by unfold mPs <;> rfl, si_no fun _ _ _ _ => by unfold mI <;> rfl⟩
  | call f es h => exact ⟨ok_call h.2.1, sa_no fun _ _ => by unfold mEs <;> rfl, sp_no fun _ _ => by unfold mPs <;> rfl, si_no fun _ _ _ _ => by unfold mI <;> rfl⟩
  | callk f pm es ks h h2 => exact ⟨ok_callk h.2.1 h2.2.1, sa_no fun _ _ => by unfold mEs <;> rfl, sp_no fun _ _ => by unfold mPs <;> rfl, si_no fun _ _ _ _ => by unfold mI <;> rfl⟩
  | bi b es h => exact ⟨ok_bi h.2.2.1, sa_no fun _ _ => by unfold mEs <;> rfl, sp_no fun _ _ => by unfold mPs <;> rfl, si_no fun _ _ _ _ => by unfold mI <;> rfl⟩
  | md m o es ho h => exact ⟨ok_md ho.1 h.2.2.1, sa_no fun _ _ => by unfold mEs <;> rfl, sp_no fun _ _ => by unfold mPs <;> rfl, si_no fun _ _ _ _ => by unfold mI <;> rfl⟩
  | isi a t ha => exact ⟨ok_isi ha.1, sa_no fun _ _ => by unfold mEs <;> rfl, sp_no fun _ _ => by unfold mPs <;> rfl, si_no fun _ _ _ _ => by unfold mI <;> rfl⟩
  | sub a i ha hi => exact ⟨ok_sub ha.1 hi.1, sa_no fun _ _ => by unfold mEs <;> rfl, sp_no fun _ _ => by unfold mPs <;> rfl, si_no fun _ _ _ _ => by unfold mI <;> rfl⟩
  | slc a lo hi ha hl hh => exact ⟨ok_slc ha.1 hl.1 hh.1, sa_no fun _ _ => by unfold mEs <;> rfl, sp_no fun _ _ => by unfold mPs <;> rfl, si_no fun _ _ _ _ => by unfold mI <;> rfl⟩
  | rev a ha => exact ⟨ok_rev ha.1, sa_no fun _ _ => by unfold mEs <;> rfl, sp_no fun _ _ => by unfold mPs <;> rfl, si_no fun _ _ _ _ => by unfold mI <;> rfl⟩
  | comp e t it c own he _ hi hc => exact ⟨ok_comp he.1 hi.2.2.2 hc.1, sa_no fun _ _ => by unfold mEs <;> rfl, sp_no fun _ _ => by unfold mPs <;> rfl, si_no fun _ _ _ _ => by unfold mI <;> rfl⟩
  | mk a ha => exact ⟨ok_mk ha.1, sa_no fun _ _ => by unfold mEs <;> rfl, sp_no fun _ _ => by unfold mPs <;> rfl, si_no fun _ _ _ _ => by unfold mI <;> rfl⟩
  | giv a ha => exact ⟨ok_giv ha.1, sa_no fun _ _ => by unfold mEs <;> rfl, sp_no fun _ _ => by unfold mPs <;> rfl, si_no fun _ _ _ _ => by unfold mI <;> rfl⟩
  | lend is a ha => exact ⟨ok_lend ha.1, sa_no fun _ _ => by unfold mEs <;> rfl, sp_no fun _ _ => by unfold mPs <;> rfl, si_no fun _ _ _ _ => by unfold mI <;> rfl⟩
  | fnv f => exact ⟨ok_fnv, sa_no fun _ _ => by unfold mEs <;> rfl, sp_no fun _ _ => by unfold mPs <;> rfl, si_no fun _ _ _ _ => by unfold mI <;> rfl⟩
  | callv a es ha h => exact ⟨ok_callv ha.1 h.2.1, sa_no fun _ _ => by unfold mEs <;> rfl, sp_no fun _ _ => by unfold mPs <;> rfl, si_no fun _ _ _ _ => by unfold mI <;> rfl⟩
  | att a ha => exact ⟨ok_att ha.1, sa_no fun _ _ => by unfold mEs <;> rfl, sp_no fun _ _ => by unfold mPs <;> rfl, si_no fun _ _ _ _ => by unfold mI <;> rfl⟩
  | nil => exact ⟨se_no fun _ _ => by unfold mE <;> rfl, as_nil, ps_nil, si_no fun _ _ _ _ => by unfold mI <;> rfl⟩
  | cons a r ha hr => exact ⟨se_no fun _ _ => by unfold mE <;> rfl, as_cons ha.1 hr.2.1, ps_cons ha.1 hr.2.2.1, si_no fun _ _ _ _ => by unfold mI <;> rfl⟩
  | iEx a ha => exact ⟨se_no fun _ _ => by unfold mE <;> rfl, sa_no fun _ _ => by unfold mEs <;> rfl, sp_no fun _ _ => by unfold mPs <;> rfl, si_ex ha.1⟩
  | iRng es h => exact ⟨se_no fun _ _ => by unfold mE <;> rfl, sa_no fun _ _ => by unfold mEs <;> rfl, sp_no fun _ _ => by unfold mPs <;> rfl, si_rng h.2.2.1⟩
  | iEnum a ha => exact ⟨se_no fun _ _ => by unfold mE <;> rfl, sa_no fun _ _ => by unfold mEs <;> rfl, sp_no fun _ _ => by unfold mPs <;> rfl, si_enum ha.1⟩
  | iZip a b ha hb => exact ⟨se_no fun _ _ => by unfold mE <;> rfl, sa_no fun _ _ => by unfold mEs <;> rfl, sp_no fun _ _ => by unfold mPs <;> rfl, si_zip ha.1 hb.1⟩
  | iZipS a b ha hb => exact ⟨se_no fun _ _ => by unfold mE <;> rfl, sa_no fun _ _ => by unfold mEs <;> rfl, sp_no fun _ _ => by unfold mPs <;> rfl, si_zipS ha.1 hb.1⟩
  | _ => exact ⟨se_no fun _ _ => by unfold mE <;> rfl, sa_no fun _ _ => by unfold mEs <;> rfl, sp_no fun _ _ => by unfold mPs <;> rfl, si_no fun _ _ _ _ => by unfold mI <;> rfl⟩
end
end Z
end

section
set_option Elab.async false
set_option autoImplicit false
set_option linter.all false
set_option maxRecDepth 100000
set_option maxHeartbeats 2000000
/-! What expressions raise. -/
namespace Z
open PySem PySem.Spec PyProof.Rows L2
section
variable {X : Cx} {E : En} {T : Tab} {S : Sta} {w : Wh} {call : CallT} {e : Expr} {a b c r o es : Z.X} {W : WX}
theorem w_callX {c : List D → Mu → RE} {fa : Rho → Mu → Option (List D × Mu)} {σ : L2.St} {H : Hp} {V : XK} : rX E (fCall c fa) V σ H → rA E fa σ H (fun vs H1 => spR E c vs H1 (fun _ _ => False) V) := by
  rintro ⟨As, bad, μ, ρ, k1, x, o, μ', a, e, k⟩
  unfold fCall at e
  split at e
  · rename_i ds μ1 q
    exact ⟨As, bad, μ, ρ, ds, μ1, a, q, fun vs H1 As1 bad1 c1 x1 r1 => ⟨As1, bad1, μ1, ds, k1, x, o, μ', c1, r1, e, k.later x1⟩⟩
  · cases e
theorem w_callkX {c : List D → Mu → RE} {pm : List Nat} {fa fb : Rho → Mu → Option (List D × Mu)} {n m : Nat} (l1 : ∀ ρ μ ds μ1, fa ρ μ = some (ds, μ1) → ds.length = n) (l2 : ∀ ρ μ ds μ1, fb ρ μ = some (ds, μ1) → ds.length = m) {σ : L2.St} {H : Hp} {V : XK} : rX E (fCallk c pm fa fb) V σ H →
    rA E fa σ H (fun vs H1 => rA E fb σ H1 fun zs H2 => vs.length = n ∧ zs.length = m ∧ spR E c (vs ++ pmL pm zs) H2 (fun _ _ => False) V) := by
  rintro ⟨As, bad, μ, ρ, k1, x, o, μ', a, e, k⟩
  unfold fCallk at e
  split at e
  · rename_i ds μ1 q
    split at e
    · rename_i ds2 μ2 q2
      refine ⟨As, bad, μ, ρ, ds, μ1, a, q, fun vs H1 As1 bad1 c1 x1 r1 => ⟨As1, bad1, μ1, ρ, ds2, μ2, a.ext c1 x1, q2, fun zs H2 As2 bad2 c2 x2 r2 => ⟨?_, ?_, As2, bad2, μ2, ds ++ pmL pm ds2, k1, x, o, μ', c2, (r1.ext x2).append (reps_pm r2 pm), e, k.later (x1.trans x2)⟩⟩⟩
      · rw [r1.length]
        exact l1 _ _ _ _ q
      · rw [r2.length]
        exact l2 _ _ _ _ q2
    · cases e
  · cases e
theorem w_callkX0 {c : List D → Mu → RE} {pm : List Nat} {fb : Rho → Mu → Option (List D × Mu)} {m : Nat} (l2 : ∀ ρ μ ds μ1, fb ρ μ = some (ds, μ1) → ds.length = m) {σ : L2.St} {H : Hp} {V : XK} : rX E (fCallk c pm (fun _ μ => some ([], μ)) fb) V σ H →
    rA E fb σ H fun zs H2 => zs.length = m ∧ spR E c (pmL pm zs) H2 (fun _ _ => False) V := by
  rintro ⟨As, bad, μ, ρ, k1, x, o, μ', a, e, k⟩
  unfold fCallk at e
  dsimp only at e
  split at e
  · rename_i ds2 μ2 q2
    rw [List.nil_append] at e
    refine ⟨As, bad, μ, ρ, ds2, μ2, a, q2, fun zs H2 As2 bad2 c2 x2 r2 => ⟨?_, As2, bad2, μ2, pmL pm ds2, k1, x, o, μ', c2, reps_pm r2 pm, e, k.later x2⟩⟩
    rw [r2.length]
    exact l2 _ _ _ _ q2
  · cases e
/-- a raise's reading in a context that takes it -/
def SQ (E : En) (T : Tab) (S : Sta) (call : CallT) (x : Z.X) : Prop := ∀ (X : Cx) (w : Wh) (e : Expr) (W : WX), Gd X E T S w call → mE S x w e = true → Takes X W → PE X e (fun σ H _ => rX E (qE T call x) (fun cls d H' => W cls d σ H') σ H)
theorem q_call {f : Nat} : SQ E T S call (.call f es) := fun X w e W G m tk => by
  unfold mE at m
  split at m
  · rename_i fn args kws pos
    split at m
    · rename_i n np
      obtain ⟨m1, m4⟩ := and4 m
      obtain ⟨m1, m3⟩ := and4 m1
      obtain ⟨m1, m2⟩ := and4 m1
      obtain ⟨p, fd, ps, k, F, hr, hm, hk, hb, _, _⟩ := G.ex.rdef f n (of_decide_eq_true m1)
      obtain ⟨k1, k2, _⟩ := (x_all es).2.1 X w _ G m4
      have hd := (plain_of m3).1
      have e0 : qE T call (.call f es) = fCall (call (RB + f)) (dEs T call es) := rfl
      rw [e0]
      cases args with
      | nil =>
        refine (pe_X0 tk F hr G.gd (glo_of G m2) hm hk hb hd).weak fun σ H Q q => ?_
        obtain ⟨As, bad, μ, ρ, ds, μ', at_, e1, kf⟩ := w_callX q
        have hes : es = .nil := by
          cases es <;> first | rfl | (unfold mEs at m4; cases m4)
        subst hes
        cases e1
        exact kf [] H As bad at_.c at_.c.ext0 .nil
      | cons e1 rest => exact (pe_X tk F hr G.gd (glo_of G m2) hm hk hb k1 hd (hd_star k2) (tl_star k2)).weak fun σ H Q q => w_callX q
    · cases m
  · cases m
theorem q_callk {f : Nat} {pm : List Nat} {ks : Z.X} : SQ E T S call (.callk f pm es ks) := fun X w e W G m tk => by
  unfold mE at m
  split at m
  · rename_i fn args kws pos
    split at m
    · rename_i n np
      obtain ⟨m, m7⟩ := and4 m
      obtain ⟨m, m6⟩ := and4 m
      obtain ⟨m, m5⟩ := and4 m
      obtain ⟨m, m4⟩ := and4 m
      obtain ⟨m, m3⟩ := and4 m
      obtain ⟨m1, m2⟩ := and4 m
      obtain ⟨p, fd, ps, k, F, hr, hm, hk, hb, hkn, hkb⟩ := G.ex.rdef f n (of_decide_eq_true m1)
      rw [hkn] at m7
      have hkb' := hkb _ _ _ m7
      obtain ⟨k1, k2, _⟩ := (x_all es).2.1 X w _ G m4
      obtain ⟨_, _, k3⟩ := (x_all ks).2.1 X w _ G m5
      have k4 := k3 kws rfl
      have hd := (plain_of m3).1
      have l1 := mEs_len es w args m4
      have l2 := mEs_len ks w _ m5
      have l3 : (kws.filterMap (·.arg)).length = kws.length := kws_len m6
      rw [List.length_map] at l2
      have e0 : qE T call (.callk f pm es ks) = fCallk (call (RB + f)) pm (dEs T call es) (dEs T call ks) := rfl
      rw [e0]
      cases args with
      | nil =>
        have hes : es = .nil := by
          cases es <;> first | rfl | (unfold mEs at m4; cases m4)
        subst hes
        refine (pe_XK0 tk F hr G.gd (glo_of G m2) hm hk hkb' k4 m6 rfl hd).weak fun σ H Q q => ?_
        exact w_callkX0 (fun ρ μ ds μ1 q => by rw [l3, dEs_len _ _ _ _ _ q, l2]) q
      | cons e1 rest => exact (pe_XK tk F hr G.gd (glo_of G m2) hm hk hkb' k1 k4 m6 rfl hd (hd_star k2) (tl_star k2)).weak fun σ H Q q => w_callkX (fun ρ μ ds μ1 q => by rw [dEs_len _ _ _ _ _ q, l1]) (fun ρ μ ds μ1 q => by rw [l3, dEs_len _ _ _ _ _ q, l2]) q
    · cases m
  · cases m
theorem restX {f : Nat} {b : Addr} {args : List Expr} {pos : Pos} {pins : List (Addr × Obj)} {σ : L2.St} {H : Hp} {s : Shared} {Q : VK} (G : Gd X E T S w call) (m : mEs S es w args = true) (tk : Takes X W) (hF : E.F f = some b) (I : Inv X pins σ H s)
    (q : rX E (qE T call (.call f es)) (fun cls d H' => W cls d σ H') σ H) : wpAny (model X.prog X.w) X.A (callWith pos (.ref b) [] (backTo pos (starEach args X.env)) (backToKw pos (keywordEach [] X.env))) (EP X pins σ Q) X.xe s := by
  obtain ⟨n, hn⟩ := G.ex.efi f b hF
  obtain ⟨p, fd, ps, k, F, hr, hm, hk, hb, _, _⟩ := G.ex.rdef f n hn
  have hp : p = b := by
    have z := G.ex.efn f n p hn hm
    rw [hF] at z
    exact (Option.some.inj z).symm
  subst hp
  obtain ⟨k1, k2, _⟩ := (x_all es).2.1 X w _ G m
  have e0 : qE T call (.call f es) = fCall (call (RB + f)) (dEs T call es) := rfl
  rw [e0] at q
  have q' := w_callX q
  cases args with
  | nil =>
    obtain ⟨As, bad, μ, ρ, ds, μ', at_, e1, kf⟩ := q'
    have hes : es = .nil := by
      cases es <;> first | rfl | (unfold mEs at m; cases m)
    subst hes
    cases e1
    exact PySem.W.callWith_K0 I.kIn hk (run_X (us := []) tk F hr G.gd hb I .nil (kf [] H As bad at_.c at_.c.ext0 .nil))
  | cons e1 rest =>
    refine PySem.W.callWith_K (h₀ := X.base) I.ok.mod.kin hk (thn (k1.run pos pins s σ H _ I q') ?_) (hd_star k2) (tl_star k2)
    rintro us s1 ⟨vs, H1, J, r, q1⟩
    exact ⟨J.kIn, run_X tk F hr G.gd hb J r q1⟩
theorem q_callv : SQ E T S call (.callv a es) := fun X w e W G m tk => by
  unfold mE at m
  split at m
  · rename_i fn args kws pos
    split at m
    · rename_i n np
      obtain ⟨m1, m2⟩ := and4 m
      refine ⟨fun pins s σ H Q I q => ?_⟩
      obtain ⟨As, bad, μ, ρ, k1, x, o, μ', at_, e1, k⟩ := q
      have e1' : (match dE T call a ρ μ with
        | some (.fn f, _, μ1) => (match dEs T call es ρ μ1 with
          | some (ds, μ2) => call (RB + f) ds μ2
          | none => none)
        | _ => none) = some (.exn k1 x, o, μ') := e1
      split at e1'
      · rename_i f o1 μ1 hf
        have want : rE E (dE T call a) σ H fun v H1 => ∃ As1 bad1, CRel E As1 bad1 H1 μ1 ∧ Ext As bad H As1 bad1 H1 ∧ Rep E As1 H1 bad1 v (.fn f) := by
          refine ⟨As, bad, μ, ρ, _, _, _, at_, hf, fun v H1 As1 bad1 c1 x1 r1 => ⟨As1, bad1, c1, x1, ?_⟩⟩
          cases o1 with
          | false => exact r1
          | true =>
            obtain ⟨_, _, _, _, z, _⟩ := r1
            cases z
        refine wpAny_Call_Name_kw (thn (((x_all a).1 X w _ G m1).pe.run pins s σ H _ I want) fun u s1 hh => ?_)
        obtain ⟨v, H1, I1, r1, As1, bad1, c1, x1, rf⟩ := hh
        cases rf with
        | @fn b _ hF =>
          obtain rfl : u = Value.ref b := r1
          exact restX G m2 tk hF I1 ⟨As1, bad1, μ1, ρ, k1, x, o, μ', at_.ext c1 x1, e1', k.later x1⟩
      · cases e1'
    · cases m
  · cases m
theorem q_none {x : Z.X} (h : ∀ ρ μ, qE T call x ρ μ = none) : SQ E T S call x := fun X w e W G m tk => ⟨fun pins s σ H Q I q => by
  obtain ⟨As, bad, μ, ρ, k1, x, o, μ', at_, e1, k⟩ := q
  rw [h] at e1
  cases e1⟩
theorem q_sub (ha : SQ E T S call a) : SQ E T S call (.sub a b) := fun X w e W G m tk => by
  unfold mE at m
  split at m
  · rename_i ea ei pos
    obtain ⟨m1, m3⟩ := and4 m
    obtain ⟨m1, m2⟩ := and4 m1
    refine ⟨fun pins s σ H Q I q => ?_⟩
    have q' : rX E (qE T call a) (fun cls d H' => W cls d σ H') σ H := q
    have hm : mE S a w ea = true := by
      cases a with
      | pv i =>
        obtain ⟨As, bad, μ, ρ, k1, x, o, μ', at_, e1, k⟩ := q'
        exact nomatch e1
      | _ => exact m2
    refine Subscript_ (thn ((ha X w ea (fun cls d σ' H' => W cls d σ' H') G hm tk).run pins s σ H (fun _ _ => False) I q') fun u s1 z => ?_)
    obtain ⟨_, _, _, _, z⟩ := z
    exact z.elim
  · cases m
theorem q_all : ∀ x : Z.X, SQ E T S call x := by
  intro x
  induction x with
  | call f es _ => exact q_call
  | callk f pm es ks _ _ => exact q_callk
  | callv a es _ _ => exact q_callv
  | sub a b ha _ => exact q_sub ha
  | _ => exact q_none fun _ _ => rfl
end
end Z
end

section
set_option Elab.async false
set_option autoImplicit false
set_option linter.all false
set_option maxRecDepth 100000
set_option maxHeartbeats 2000000
/-! The check of statements, and that it is right. -/
namespace Z
open PySem PySem.Spec PyProof.Rows L2

/-- a comprehension whose list a name takes over -/
def swB (w : Wh) (t : Str) (p : Pos) (ev : Expr) : Bool := match ev with
  | .ListComp _ _ s q => (w.sc.names.lookup t == some .local) && p.line == q.line && !(s.names.any fun (n, k) => n == t && (k == .local || k == .cell))
  | _ => false
def noComp (e : Expr) : Bool := match e with
  | .ListComp _ _ _ _ => false
  | .SetComp _ _ _ _ => false
  | .DictComp _ _ _ _ _ => false
  | _ => true
def noTup (e : Expr) : Bool := match e with
  | .Tuple _ _ _ => false
  | _ => true
def isStar (e : Expr) : Bool := match e with
  | .Starred _ _ => true
  | _ => false
/-- the local names among the targets -/
def swNm (w : Wh) (ts : List Expr) : List Str := ts.filterMap fun t => match t with
  | .Name id pos => if (w.sc.names.lookup id == some .local && pos.line == (ts.head?.map (·.pos.line)).getD 0) = true then some id else none
  | _ => none
/-- whether the stores of a display's items are swapped -/
def swN (w : Wh) (ts vs : List Expr) : Option (Option (List Str)) :=
  if (!(ts.length == 2 || ts.length == 3) || vs.length != ts.length) = true then some none else
  if (vs.any isStar) = true then some none else
  if ((swNm w ts).length != ts.length || (swNm w ts).eraseDups.length != (swNm w ts).length) = true then some none else
  if (vs.all (foldedForSure 8)) = true then some none else
  if (vs.all (constantsAlone 8)) = true then none else some (some (swNm w ts))
section
variable {X : Cx} {E : En} {T : Tab} {S : Sta} {w : Wh} {call : CallT} {e ev : Expr}
theorem blk_fn {env : Env} (hk : env.scope.kind = .function) : env.blockKind = .function := by
  unfold Env.blockKind
  rw [hk]
  rfl
theorem sw_none {ts vs : List Expr} {k k2 : Nat} {p p2 : Pos} {r : Option (List Str)} {env : Env} (hs : env.scope = w.sc) (hk : env.scope.kind = .function) (h : swN w ts vs = some r) : swappedStores [.Tuple ts k p] (.Tuple vs k2 p2) env = pure r := by
  have ky : ∀ x, env.kindOf x = w.sc.names.lookup x := fun x => by
    rw [← hs]
    rfl
  unfold swappedStores
  simp only [ky, blk_fn hk]
  show (if ((!(ts.length == 2 || ts.length == 3) || vs.length != ts.length) || (ScopeKind.function != ScopeKind.function)) = true then pure none else
    if (vs.any isStar) = true then pure none else
    if ((swNm w ts).length != ts.length || (swNm w ts).eraseDups.length != (swNm w ts).length) = true then pure none else
    if (vs.all (foldedForSure 8)) = true then pure none else
    if (vs.all (constantsAlone 8)) = true then (do
      unsupported "assign.tuple-of-constant-expressions:order-of-the-stores"
      pure (some (swNm w ts))) else pure (some (swNm w ts)) : Sem (Option (List Str))) = pure r
  rw [show (ScopeKind.function != ScopeKind.function) = false from rfl, Bool.or_false]
  unfold swN at h
  by_cases h1 : (!(ts.length == 2 || ts.length == 3) || vs.length != ts.length) = true
  · rw [if_pos h1] at h ⊢
    cases h
    rfl
  rw [if_neg h1] at h ⊢
  by_cases h2 : (vs.any isStar) = true
  · rw [if_pos h2] at h ⊢
    cases h
    rfl
  rw [if_neg h2] at h ⊢
  by_cases h3 : ((swNm w ts).length != ts.length || (swNm w ts).eraseDups.length != (swNm w ts).length) = true
  · rw [if_pos h3] at h ⊢
    cases h
    rfl
  rw [if_neg h3] at h ⊢
  by_cases h4 : (vs.all (foldedForSure 8)) = true
  · rw [if_pos h4] at h ⊢
    cases h
    rfl
  rw [if_neg h4] at h ⊢
  by_cases h5 : (vs.all (constantsAlone 8)) = true
  · rw [if_pos h5] at h
    cases h
  rw [if_neg h5] at h ⊢
  cases h
  rfl
theorem sw_false {t : Option Expr} {l : Nat} {env : Env} (h : noComp ev = true) : swapsWith ev t l env = pure false := by
  cases ev <;> first | rfl | cases h
theorem sw_listF {elt : Expr} {gs : List Comprehension} {s : Scope} {q p : Pos} {t : Str} {l : Nat} {env : Env} (hs : env.scope = w.sc) (hk : env.scope.kind = .function) (h : swB w t p (.ListComp elt gs s q) = false) : swapsWith (.ListComp elt gs s q) (some (.Name t p)) l env = pure false := by
  have ky : env.kindOf t = w.sc.names.lookup t := by
    rw [← hs]
    rfl
  unfold swapsWith
  simp only [ky, blk_fn hk]
  unfold swB at h
  dsimp only at h
  have e1 : (ScopeKind.function == ScopeKind.function) = true := rfl
  rw [e1, Bool.true_and]
  exact congrArg pure h
theorem sw_sole {t : Expr} {l : Nat} {env : Env} : swapsWithSole [t] ev l env = swapsWith ev (some t) l env := rfl
def isLC (e : Expr) : Bool := match e with
  | .ListComp _ _ _ _ => true
  | _ => false
def isComp (x : Z.X) : Bool := match x with
  | .comp _ _ _ _ _ => true
  | _ => false
/-- name = value -/
def asgB (S : Sta) (w : Wh) (i : Nat) (x : Z.X) (n : Str) (p : Pos) (ev : Expr) : Bool := decide (S.N[i]? = some n) && locB w n && mE S x w ev && (match swB w n p ev with
  | true => isComp x
  | false => noComp ev || isLC ev)
theorem asg_ok {i : Nat} {x : Z.X} {n : Str} {p pos : Pos} (G : Gd X E T S w call) (hk : X.env.scope.kind = .function) (m : asgB S w i x n p ev = true) : PS X (.Assign [.Name n p] ev pos) (tAsg (rE E (dE T call x)) (gName i)) := by
  unfold asgB at m
  obtain ⟨m1, m4⟩ := and4 m
  obtain ⟨m1, m3⟩ := and4 m1
  obtain ⟨m1, m2⟩ := and4 m1
  obtain ⟨k1, k2⟩ := loc_of G m2
  have hi : X.N[i]? = some n := by
    rw [G.N]
    exact of_decide_eq_true m1
  cases hb : swB w n p ev with
  | false =>
    rw [hb] at m4
    have hsw : swapsWith ev (some (.Name n p)) pos.line X.env = pure false := by
      cases h2 : noComp ev with
      | true => exact sw_false h2
      | false =>
        rw [h2] at m4
        have m5 : isLC ev = true := m4
        cases ev <;> first | exact sw_listF G.sc hk hb | cases m5
    exact ps_set G.nd hi k1 ((x_all x).1 X w ev G m3).pe hsw k2
  | true =>
    rw [hb] at m4
    have m4' : isComp x = true := m4
    cases x <;> try (cases m4'; done)
    rename_i x t it c own
    have m := m3
    unfold mE at m
    split at m
    · rename_i elt gens scope q _
      split at m
      · rename_i tg iter ifs _
        clear m1 m2 m3 m4 m4'
        obtain ⟨m1, m7⟩ := and4 m
        obtain ⟨m1, m6⟩ := and4 m1
        obtain ⟨m1, m5⟩ := and4 m1
        obtain ⟨m1, m4⟩ := and4 m1
        obtain ⟨m1, m3⟩ := and4 m1
        obtain ⟨m1, m2⟩ := and4 m1
        have bo := blkOk_by m3
        rw [← G.N, ← G.sc] at bo
        have ho : (own.map fun i => (X.N[i]?.getD ("" : Str), i)).map (·.2) = own := by
          rw [List.map_map]
          exact List.map_id own
        have ht : ∀ i ∈ tIx t, i ∈ own := fun i hi => by
          have := List.all_eq_true.mp m4 i hi
          simpa using this
        have pi := (x_all it).2.2.2 X true w tg iter G m2
        have pg := fun (s : Shared) (H : Hp) (C : Addr) (cl : List (Str × Addr)) (fp : List Addr) => (st_all t).1 _ _ tg (G.blk s H scope C cl fp) m5
        have pe := fun (s : Shared) (H : Hp) (C : Addr) (cl : List (Str × Addr)) (fp : List Addr) => pe_r ((x_all x).1 _ _ elt (G.blk s H scope C cl fp) m6).pe
        have e0 : dE T call (.comp x t it c own) = fComp t own (dI T call true it) (dE T call c) (dE T call x) := rfl
        rw [e0]
        unfold swB at hb
        obtain ⟨h1, h3⟩ := and4 hb
        obtain ⟨h1, h2⟩ := and4 h1
        have hl : X.env.scope.names.lookup n = some .local := by
          rw [G.sc]
          generalize hz : w.sc.names.lookup n = z at h1
          cases z with
          | none => cases h1
          | some kd => cases kd <;> first | rfl | cases h1
        have hsw : swapsWith (.ListComp elt [⟨tg, iter, ifs, 0⟩] scope q) (some (.Name n p)) pos.line X.env = pure true := sw_true hk hl h2 ((Bool.not_eq_true' _).mp h3)
        split at m7
        · cases c with
          | cst d =>
            cases d with
            | bl b =>
              cases b with
              | true =>
                have pt := fun (s : Shared) (H : Hp) (C : Addr) (cl : List (Str × Addr)) (fp : List Addr) => pts_yes (X := X.blk s H scope (compEnvC scope cl C X.env) fp) (E := E)
                have g := ps_setLc (spos := pos) G.calm G.nd hi hl hsw pi bo pg pt pe (set_of m1)
                rw [ho] at g
                exact g.weak fun D σ H q => w_comp ht q
              | false => cases m7
            | _ => cases m7
          | _ => cases m7
        · have pt := fun (s : Shared) (H : Hp) (C : Addr) (cl : List (Str × Addr)) (fp : List Addr) => pts_one ((x_all c).1 _ _ _ (G.blk s H scope C cl fp) m7).pt
          have g := ps_setLc (spos := pos) G.calm G.nd hi hl hsw pi bo pg pt pe (set_of m1)
          rw [ho] at g
          exact g.weak fun D σ H q => w_comp ht q
        · cases m7
      · cases m
    · cases m
end
end Z
end

section
set_option Elab.async false
set_option autoImplicit false
set_option linter.all false
set_option maxRecDepth 100000
set_option maxHeartbeats 2000000
/-! All statements. -/
namespace Z
open PySem PySem.Spec PyProof.Rows L2

def parB (S : Sta) (w : Wh) (is : List Nat) (ts vs : List Expr) : Bool := match is, ts with
  | [i, j], [t1, t2] => (match t1, t2 with
    | .Name a _, .Name b _ => (vs.length == 2) && decide (swN w ts vs = some (some [a, b])) && decide (S.N[i]? = some a) && decide (S.N[j]? = some b) && decide (i ≠ j) && lonB w a && lonB w b
    | _, _ => false)
  | [i, j, l], [t1, t2, t3] => (match t1, t2, t3 with
    | .Name a _, .Name b _, .Name c _ => (vs.length == 3) && decide (swN w ts vs = some (some [a, b, c])) && decide (S.N[i]? = some a) && decide (S.N[j]? = some b) && decide (S.N[l]? = some c) && decide (i ≠ j) && decide (i ≠ l) && decide (j ≠ l) && lonB w a && lonB w b && lonB w c
    | _, _, _ => false)
  | _, _ => false
def namesB (S : Sta) (w : Wh) : List Nat → List Expr → Bool
  | [], [] => true
  | i :: is, t :: ts => (match t with
    | .Name n _ => decide (S.N[i]? = some n) && locB w n
    | _ => false) && namesB S w is ts
  | _, _ => false
def parT (S : Sta) (w : Wh) (is : List Nat) (ts vs : List Expr) : Bool := decide (swN w ts vs = some none) && namesB S w is ts && decide (is.length ≤ sizeLine)
def appB (S : Sta) (w : Wh) (i : Nat) (e : Z.X) (ev : Expr) : Bool := match ev with
  | .Call fn args kws cpos => (match fn, args, kws with
    | .Attribute eo name apos, [ea], [] => (apos.endLine == cpos.line) && noBase eo && decide (name = ("append" : Str)) && nameB S w i eo && star0 ea && mE S e w ea
    | _, _, _ => false)
  | _ => false
def insB (S : Sta) (w : Wh) (i : Nat) (k e : Z.X) (ev : Expr) : Bool := match ev with
  | .Call fn args kws cpos => (match fn, args, kws with
    | .Attribute eo name apos, [ek, ea], [] => (apos.endLine == cpos.line) && noBase eo && decide (name = ("insert" : Str)) && nameB S w i eo && star0 ek && mE S k w ek && star0 ea && mE S e w ea
    | _, _, _ => false)
  | _ => false
def substB (S : Sta) (w : Wh) (i : Nat) (k e : Z.X) (tg ev : Expr) : Bool := match tg with
  | .Subscript eo ek _ => nameB S w i eo && noSlice ek && mE S k w ek && mE S e w ev
  | _ => false
def retB (S : Sta) (w : Wh) (e : Z.X) (ev : Expr) : Bool := match e with
  | .pv i => nameB S w i ev
  | _ => mE S e w ev
/-- try: e / except c as <i>: <j> = <i> -/
def tryB (S : Sta) (w : Wh) (e : Z.X) (i c j : Nat) (st : Stmt) : Bool := match st with
  | .Try body hds orelse fin _ => (match body, hds, orelse, fin with
    | [b], [h], [], [] => (match b, h with
      | .Expr eb _, .ExceptHandler ty nm suite _ => (match ty, nm, suite with
        | some tx, some n, [s1] => (match tx, s1 with
          | .Name x _, .Assign tgs ev _ => (match tgs, ev with
            | [tg], .Name n' _ => (match tg with
              | .Name m _ => decide (n' = n) && decide (S.N[i]? = some n) && lonB w n && plainN n && decide (S.N[j]? = some m) && lonB w m && gloB w x && plainN x && noComp eb && mE S e w eb && (match S.cl[c]? with
                | some (y, _) => decide (y = x)
                | none => false)
              | _ => false)
            | _, _ => false)
          | _, _ => false)
        | _, _, _ => false)
      | _, _ => false)
    | _, _, _, _ => false)
  | _ => false
mutual
def mS (S : Sta) : Z.X → Wh → Stmt → Bool
  | .sSet t e, w, st => (match st with
    | .Assign tgs ev _ => (match tgs with
      | [tg] => (match tg with
        | .Name n p => (match t with
          | .tName i => asgB S w i e n p ev
          | _ => false)
        | .Tuple ts _ _ => mT S t w tg && mE S e w ev && (match ev with
          | .Tuple vs _ _ => decide (swN w ts vs = some none)
          | _ => true)
        | _ => false)
      | _ => false)
    | _ => false)
  | .sSetO i e, w, st => (match st with
    | .Assign tgs ev _ => (match tgs with
      | [tg] => (match tg with
        | .Name n p => asgB S w i e n p ev
        | _ => false)
      | _ => false)
    | _ => false)
  | .sPar is es, w, st => (match st with
    | .Assign tgs ev _ => (match tgs with
      | [tg] => (match tg, ev with
        | .Tuple ts _ _, .Tuple vs _ _ => (parB S w is ts vs || parT S w is ts vs) && mEs S es w vs
        | _, _ => false)
      | _ => false)
    | _ => false)
  | .sRet e, w, st => (match st with
    | .Return (some ev) _ => retB S w e ev
    | _ => false)
  | .sRetN, _, st => (match st with
    | .Return none _ => true
    | _ => false)
  | .sIf c a b, w, st => (match st with
    | .If ec ea eb _ => mE S c w ec && mSs S a w ea && mSs S b w eb
    | _ => false)
  | .sFor t it b, w, st => (match st with
    | .For tg iter body els _ => (match els with
      | [] => noSet iter && mI S false it w tg iter && mT S t w tg && mSs S b w body
      | _ => false)
    | _ => false)
  | .sWh _ c b, w, st => (match st with
    | .While ec body els _ => (match els with
      | [] => mE S c w ec && mSs S b w body
      | _ => false)
    | _ => false)
  | .sEx e, w, st => (match st with
    | .Expr ev _ => noComp ev && mE S e w ev
    | _ => false)
  | .sApp i e, w, st => (match st with
    | .Expr ev _ => appB S w i e ev
    | _ => false)
  | .sIns i k e, w, st => (match st with
    | .Expr ev _ => insB S w i k e ev
    | _ => false)
  | .sAppC i e, w, st => (match st with
    | .Expr ev _ => appB S w i e ev
    | _ => false)
  | .sSub i k e, w, st => (match st with
    | .Assign tgs ev _ => (match tgs with
      | [tg] => substB S w i k e tg ev
      | _ => false)
    | _ => false)
  | .sSubC i k e, w, st => (match st with
    | .Assign tgs ev _ => (match tgs with
      | [tg] => substB S w i k e tg ev
      | _ => false)
    | _ => false)
  | .sDis _ s, w, st => mS S s w st
  | .sPass, _, st => (match st with
    | .Pass _ => true
    | _ => false)
  | .sBk, _, st => (match st with
    | .Break _ => true
    | _ => false)
  | .sCt, _, st => (match st with
    | .Continue _ => true
    | _ => false)
  | .sNo, _, _ => true
  | .sRaise c e, w, st => (match st with
    | .Raise (some ev) cause _ => (match ev, cause with
      | .Call fn args kws _, none => (match fn, args, kws with
        | .Name n _, [ea], [] => decide (S.cl[c]? = some (n, true)) && gloB w n && plainN n && star0 ea && mE S e w ea
        | _, _, _ => false)
      | _, _ => false)
    | _ => false)
  | .sTry s i c j, w, st => (match s with
    | .sEx e => tryB S w e i c j st
    | _ => false)
  | _, _, _ => false
def mSs (S : Sta) : Z.X → Wh → List Stmt → Bool
  | .nil, _, sts => (match sts with
    | [] => true
    | _ => false)
  | .cons s r, w, sts => (match sts with
    | st :: sts => mS S s w st && mSs S r w sts
    | _ => false)
  | _, _, _ => false
end
section
variable {E : En} {T : Tab} {S : Sta} {call : CallT}
/-- a def's own block -/
def TryOk (X : Cx) : Prop := X.stack = X.env :: X.outer ∧ X.env.frame = some X.env.locals ∧ X.ex = []
def SS (E : En) (T : Tab) (S : Sta) (call : CallT) (x : Z.X) : Prop := ∀ (X : Cx) (w : Wh) (st : Stmt), Gd X E T S w call → X.env.scope.kind = .function → (PassesOwn (model X.prog X.w) X.A X.env X.xe ∧ TryOk X) → mS S x w st = true → PS X st (rW E (dS T call x))
def SL (E : En) (T : Tab) (S : Sta) (call : CallT) (x : Z.X) : Prop := ∀ (X : Cx) (w : Wh) (sts : List Stmt), Gd X E T S w call → X.env.scope.kind = .function → (PassesOwn (model X.prog X.w) X.A X.env X.xe ∧ TryOk X) → mSs S x w sts = true → PSs X sts (rW E (dS T call x))
variable {X : Cx} {w : Wh} {ev tg : Expr} {pos : Pos} {t it c a b e k es s r : Z.X}
theorem lon_of (G : Gd X E T S w call) {n : Str} (h : lonB w n = true) : X.env.scope.names.lookup n = some .local := by
  unfold lonB at h
  rw [G.sc]
  split at h
  · assumption
  · cases h
theorem sao_all : ∀ (es : Z.X) (X : Cx) (w : Wh) (vs : List Expr), Gd X E T S w call → mEs S es w vs = true → PA X vs (rAO E (dOs T call es)) := by
  intro es
  induction es with
  | nil =>
    intro X w vs G m
    unfold mEs at m
    split at m
    · exact pa_nil.weak fun _ _ _ => w_nilO
    · cases m
  | cons a r _ ih =>
    intro X w vs G m
    unfold mEs at m
    split at m
    · obtain ⟨m, m3⟩ := and4 m
      obtain ⟨m1, m2⟩ := and4 m
      exact (pa_cons ((x_all a).1 X w _ G m2).pe (ih X w _ G m3) (star_of m1)).weak fun _ _ _ => w_consO
    · cases m
  | _ => exact fun X w vs G m => (by unfold mEs at m; cases m)
theorem par_ok (G : Gd X E T S w call) (hk : X.env.scope.kind = .function) {is : List Nat} {ts vs : List Expr} {kk k2 : Nat} {p p2 : Pos} (m : (parB S w is ts vs && mEs S es w vs) = true) :
    PS X (.Assign [.Tuple ts kk p] (.Tuple vs k2 p2) pos) (rW E (kPar is (dOs T call es))) := by
  obtain ⟨m, m9⟩ := and4 m
  have pa := sao_all (E := E) (T := T) (call := call) es X w vs G m9
  unfold parB at m
  split at m
  · split at m
    · rename_i i j a _ b _ 
      obtain ⟨m, m7⟩ := and4 m
      obtain ⟨m, m6⟩ := and4 m
      obtain ⟨m, m5⟩ := and4 m
      obtain ⟨m, m4⟩ := and4 m
      obtain ⟨m, m3⟩ := and4 m
      obtain ⟨m1, m2⟩ := and4 m
      have hv : ∃ u v, vs = [u, v] := by
        match vs, m1 with
        | [u, v], _ => exact ⟨u, v, rfl⟩
      obtain ⟨u, v, rfl⟩ := hv
      exact (ps_par G.calm G.nd (by rw [G.N]; exact of_decide_eq_true m3) (by rw [G.N]; exact of_decide_eq_true m4) (of_decide_eq_true m5) (lon_of G m6) (lon_of G m7) pa (sw_none G.sc hk (of_decide_eq_true m2)) rfl).weak fun D σ H q => u_par2 q
    · cases m
  · split at m
    · obtain ⟨m, m11⟩ := and4 m
      obtain ⟨m, m10⟩ := and4 m
      obtain ⟨m, m12⟩ := and4 m
      obtain ⟨m, m8⟩ := and4 m
      obtain ⟨m, m7⟩ := and4 m
      obtain ⟨m, m6⟩ := and4 m
      obtain ⟨m, m5⟩ := and4 m
      obtain ⟨m, m4⟩ := and4 m
      obtain ⟨m, m3⟩ := and4 m
      obtain ⟨m1, m2⟩ := and4 m
      have hv : ∃ u v x, vs = [u, v, x] := by
        match vs, m1 with
        | [u, v, x], _ => exact ⟨u, v, x, rfl⟩
      obtain ⟨u, v, x, rfl⟩ := hv
      exact (ps_par3 G.calm G.nd (by rw [G.N]; exact of_decide_eq_true m3) (by rw [G.N]; exact of_decide_eq_true m4) (by rw [G.N]; exact of_decide_eq_true m5) (of_decide_eq_true m6) (of_decide_eq_true m7) (of_decide_eq_true m8) (lon_of G m12) (lon_of G m10) (lon_of G m11) pa (sw_none G.sc hk (of_decide_eq_true m2)) rfl).weak fun D σ H q => u_par3 q
    · cases m
  · cases m
theorem names_ok (G : Gd X E T S w call) : ∀ {is : List Nat} {ts : List Expr}, namesB S w is ts = true → PGs X ts (gNames is) ∧ ts.all star0 = true ∧ ts.length = is.length
  | [], [], _ => ⟨pgs_nil, rfl, rfl⟩
  | i :: is, t :: ts, h => by
    obtain ⟨h1, h2⟩ := and4 h
    obtain ⟨k1, k2, k3⟩ := names_ok G h2
    split at h1
    · rename_i n p
      obtain ⟨h3, h4⟩ := and4 h1
      obtain ⟨k4, k5⟩ := loc_of G h4
      exact ⟨pgs_cons (pg_name G.nd (by rw [G.N]; exact of_decide_eq_true h3) k4 k5) k1 rfl, by rw [List.all_cons, k2]; rfl, by rw [List.length_cons, List.length_cons, k3]⟩
    · cases h1
  | [], _ :: _, h => by cases h
  | _ :: _, [], h => by cases h
theorem par_okT (G : Gd X E T S w call) (hk : X.env.scope.kind = .function) {is : List Nat} {ts vs : List Expr} {kk k2 : Nat} {p p2 : Pos} (m : (parT S w is ts vs && mEs S es w vs) = true) :
    PS X (.Assign [.Tuple ts kk p] (.Tuple vs k2 p2) pos) (rW E (kPar is (dOs T call es))) := by
  obtain ⟨m, m9⟩ := and4 m
  have pa := sao_all (E := E) (T := T) (call := call) es X w vs G m9
  unfold parT at m
  obtain ⟨m, m3⟩ := and4 m
  obtain ⟨m1, m2⟩ := and4 m
  obtain ⟨k1, k2, k3⟩ := names_ok G m2
  obtain ⟨k4, k5⟩ := each_len k2 X.env
  rw [k3] at k4
  have g : PG X (.Tuple ts kk p) (gTup X.K is.length (gNames is)) := pg_tup G.calm k1 k4 k5
  rw [G.K] at g
  exact (ps_asg (pe_tup pa) g rfl (sw_none G.sc hk (of_decide_eq_true m1)) rfl).weak fun D σ H q => u_parT (of_decide_eq_true m3) q
theorem app_any (G : Gd X E T S w call) {i : Nat} (m : appB S w i e ev = true) : PS X (.Expr ev pos) (tDrop (tBM X.K "list" rAppend (tVar i) (tCons (rR E (dE T call e)) tNil))) := by
  unfold appB at m
  split at m
  · split at m
    · obtain ⟨m, m6⟩ := and4 m
      obtain ⟨m, m5⟩ := and4 m
      obtain ⟨m, m4⟩ := and4 m
      obtain ⟨m, m3⟩ := and4 m
      obtain ⟨m1, m2⟩ := and4 m
      have hn := of_decide_eq_true m3
      subst hn
      obtain ⟨n, q, rfl, h1, h2, h3, h4⟩ := name_of G m4
      have one : ∀ {z : Expr}, star0 z = true → [z].all star0 = true := fun {z} hz => by
        rw [List.all_cons, hz]
        rfl
      have k2 := one m5
      exact ps_expr (pe_bm PySem.F.plainAttrs_list PySem.F.slot_list_append PySem.F.type_list_append mt_append (pe_var h1 h2 h3 h4) (pa_cons (pe_r ((x_all e).1 X w _ G m6).pe) pa_nil (star_of m5)) (base_of m2) (few_of k2) m1 (star_of m5) rfl) rfl
    · cases m
  · cases m
theorem few_of2 {e d : Expr} {pos : Pos} (h : [e, d].all star0 = true) : ((backTo pos (starEach [e, d] X.env)).all (fun x => !x.1) && (backToKw pos (keywordEach [] X.env)).all (fun x => x.1.isSome)
      && decide ([e, d].length + ([] : List Keyword).length + (if ([] : List Keyword).isEmpty then 0 else 1) < 30)) = true := by
  rw [all_stars h]
  rfl
theorem ins_any (G : Gd X E T S w call) {i : Nat} (m : insB S w i k e ev = true) : PS X (.Expr ev pos) (tDrop (tBM X.K "list" rIns (tVar i) (tCons (rR E (dE T call k)) (tCons (rR E (dE T call e)) tNil)))) := by
  unfold insB at m
  split at m
  · split at m
    · obtain ⟨m, m8⟩ := and4 m
      obtain ⟨m, m7⟩ := and4 m
      obtain ⟨m, m6⟩ := and4 m
      obtain ⟨m, m5⟩ := and4 m
      obtain ⟨m, m4⟩ := and4 m
      obtain ⟨m, m3⟩ := and4 m
      obtain ⟨m1, m2⟩ := and4 m
      have hn := of_decide_eq_true m3
      subst hn
      obtain ⟨n, q, rfl, h1, h2, h3, h4⟩ := name_of G m4
      have two : ∀ {z y : Expr}, star0 z = true → star0 y = true → [z, y].all star0 = true := fun {z y} hz hy => by
        rw [List.all_cons, List.all_cons, hz, hy]
        rfl
      have k2 := two m5 m7
      exact ps_expr (pe_bm PySem.F.plainAttrs_list PySem.F.slot_list_insert PySem.F.type_list_insert mt_insert (pe_var h1 h2 h3 h4) (pa_cons (pe_r ((x_all k).1 X w _ G m6).pe) (pa_cons (pe_r ((x_all e).1 X w _ G m8).pe) pa_nil (star_of m7)) (star_of m5)) (base_of m2) (few_of2 k2) m1 (star_of m5) (tl_star k2)) rfl
    · cases m
  · cases m
theorem ix_asg {o i : Expr} {sp : Pos} {v : Value} (h : noSlice i = true) : assign (.Subscript o i sp) X.env v = (do
      let ov ← holding [v] (eval o X.env)
      let iv ← holding [v, ov] (eval i X.env)
      standAt sp
      holding [v, ov, iv] (setItem ov iv v)
      release [v, ov, iv] []) := by
  cases i <;> first | rfl | cases h
theorem sub_any (G : Gd X E T S w call) {i : Nat} (m : substB S w i k e tg ev = true) : PS X (.Assign [tg] ev pos) (tAsg (rR E (dE T call e)) (gSub (tVar i) (rE E (dE T call k)) rSetL)) := by
  unfold substB at m
  split at m
  · obtain ⟨m, m4⟩ := and4 m
    obtain ⟨m, m3⟩ := and4 m
    obtain ⟨m1, m2⟩ := and4 m
    obtain ⟨n, q, rfl, h1, h2, h3, h4⟩ := name_of G m1
    refine ps_asg (pe_r ((x_all e).1 X w _ G m4).pe) (pg_sub (pe_var h1 h2 h3 h4) ((x_all k).1 X w _ G m3).pe set_list (fun v => ix_asg m2)) ?_ ?_ rfl
    · cases ev <;> rfl
    · cases ev <;> rfl
  · cases m
theorem set_any (G : Gd X E T S w call) (hk : X.env.scope.kind = .function) {ts : List Expr} {kk : Nat} {p : Pos} (m : (mT S t w (.Tuple ts kk p) && mE S e w ev && (match ev with
      | .Tuple vs _ _ => decide (swN w ts vs = some none)
      | _ => true)) = true) : PS X (.Assign [.Tuple ts kk p] ev pos) (rW E (kSet t (dE T call e))) := by
  obtain ⟨m, m3⟩ := and4 m
  obtain ⟨m1, m2⟩ := and4 m
  refine (ps_asg (pe_r ((x_all e).1 X w _ G m2).pe) ((st_all t).1 X w _ G m1) ?_ ?_ rfl).weak fun D σ H q => u_set q
  · cases ev <;> rfl
  · cases ev <;> first
      | rfl
      | exact sw_none G.sc hk (of_decide_eq_true m3)
theorem ret_any (G : Gd X E T S w call) (m : retB S w e ev = true) : PS X (.Return (some ev) pos) (rW E (dS T call (.sRet e))) := by
  cases e with
  | pv i =>
    obtain ⟨n, q, rfl, h1, h2, h3, h4⟩ := name_of G (show nameB S w i ev = true from m)
    exact (ps_ret (pe_var h1 h2 h3 h4)).weak fun D σ H q => u_retV q
  | _ => exact (ps_ret ((x_all _).1 X w _ G m).pe).weak fun D σ H q => u_ret q
theorem ss_no (h : ∀ w st, mS S s w st = false) : SS E T S call s := fun X w st G _ _ m => by
  rw [h] at m
  cases m
theorem sl_no (h : ∀ w st, mSs S s w st = false) : SL E T S call s := fun X w st G _ _ m => by
  rw [h] at m
  cases m
theorem SRel.gone {H0 : Hp} {As : List Addr} {bad : Addr → Prop} {H : Hp} {σ : L2.St} {ρ : Rho} (s : SRel E H0 As bad H σ ρ) (i : Nat) : SRel E H0 As bad H (σ.set i none) (ρ.set i none) := by
  have no : ∀ {j : Nat} {z : D × Bool}, (ρ.set i none)[j]? = some (some z) → i ≠ j ∧ ρ[j]? = some (some z) := fun {j z} h => by
    by_cases q : i = j
    · subst q
      by_cases hl : i < ρ.length
      · rw [List.getElem?_set_self hl] at h
        cases h
      · rw [List.getElem?_eq_none (by simpa using hl)] at h
        cases h
    · rw [List.getElem?_set_ne q] at h
      exact ⟨q, h⟩
  refine ⟨by simpa using s.len, fun j e h => ?_, fun j e h => ?_, fun j k d1 d2 p h1 h2 h3 h4 => ?_⟩
  · obtain ⟨q, h⟩ := no h
    rw [List.getElem?_set_ne q]
    exact s.val j e h
  · obtain ⟨q, h⟩ := no h
    rw [List.getElem?_set_ne q]
    exact s.own j e h
  · obtain ⟨q1, h1⟩ := no h1
    obtain ⟨q2, h2⟩ := no h2
    rw [List.getElem?_set_ne q1] at h3
    rw [List.getElem?_set_ne q2] at h4
    exact s.dis j k d1 d2 p h1 h2 h3 h4
theorem Gd.tr (G : Gd X E T S w call) (pn : List (Addr × Obj)) (xe : Value → Shared → Prop) : Gd (X.tr pn xe) E T S w call :=
  ⟨G.K, G.sc, G.N, G.nd, G.calm, G.gd, G.un, G.fn, G.sys, ⟨G.ex.efn, G.ex.efi, G.ex.fld, G.ex.cls, G.ex.room, G.ex.sub, G.ex.rdef⟩, G.mg0, G.con, G.def_⟩
theorem try_any (G : Gd X E T S w call) (hp : TryOk X) {i c j : Nat} {st : Stmt} (m : tryB S w e i c j st = true) : PS X st (rW E (dS T call (.sTry (.sEx e) i c j))) := by
  unfold tryB at m
  split at m
  · split at m
    · split at m
      · split at m
        · split at m
          · split at m
            · split at m
              · rename_i pos6 body hds orelse fin b h eb pos5 pos4 ty nm suite n tx s1 x pos3 pos2 tgs ev n' pos1 tg m0 pos0
                obtain ⟨m, m11⟩ := and4 m
                obtain ⟨m, m10⟩ := and4 m
                obtain ⟨m, m9⟩ := and4 m
                obtain ⟨m, m8⟩ := and4 m
                obtain ⟨m, m7⟩ := and4 m
                obtain ⟨m, m6⟩ := and4 m
                obtain ⟨m, m5⟩ := and4 m
                obtain ⟨m, m4⟩ := and4 m
                obtain ⟨m, m3⟩ := and4 m
                obtain ⟨m1, m2⟩ := and4 m
                have e1 := of_decide_eq_true m1
                subst e1
                cases hcl : S.cl[c]? with
                | none =>
                  rw [hcl] at m11
                  cases m11
                | some z =>
                  obtain ⟨y, bb⟩ := z
                  rw [hcl] at m11
                  have e2 := of_decide_eq_true m11
                  subst e2
                  obtain ⟨C0, hC0, hmC, _⟩ := G.ex.cls c y bb hcl
                  have hi : X.N[i]? = some n' := by
                    rw [G.N]
                    exact of_decide_eq_true m2
                  have hj : X.N[j]? = some m0 := by
                    rw [G.N]
                    exact of_decide_eq_true m5
                  have li : X.env.scope.names.lookup n' = some .local := lon_of G m3
                  have lj : X.env.scope.names.lookup m0 = some .local := lon_of G m6
                  refine (ps_keep (j := j) (tb := fun W D σ H => tDrop (rE E (dE T call e)) D σ H ∨ rX E (qE T call e) (fun cls d H' => W cls d σ H') σ H) hp.1 hp.2.1 hp.2.2 G.nd hi li ⟨glo_of G m7, (plain_of m8).1, .inl hmC⟩ (fun W pn xe tk _ => ?_) (fun a oe pn => ?_)).weak fun D σ H q => ?_
                  · have p1 := ps_expr (X := X.tr pn xe) (pos := pos5) ((x_all e).1 (X.tr pn xe) w eb (G.tr pn xe) m10).pe (sw_false m9)
                    have p2 := ps_expr (X := X.tr pn xe) (pos := pos5) (q_all e (X.tr pn xe) w eb W (G.tr pn xe) m10 tk) (sw_false m9)
                    exact pss_one ⟨fun pins s σ H D I h => h.elim (fun h => p1.run pins s σ H D I h) fun h => p2.run pins s σ H D I h⟩
                  · refine pss_one ((ps_set (X := X.suite a ((a, oe) :: pn)) G.nd hj (.inl lj) (pe_var hi (.inl li) (plain_of m4).1 (plain_of m4).2) (sw_false rfl) (.inr lj)).weak fun D σ H q => ?_)
                    obtain ⟨v, q1, q2⟩ := q
                    exact ⟨v, q1, q2⟩
                  · obtain ⟨B, As, bad, μ, ρ, r, st, e1, k⟩ := q
                    have e1' : (match dE T call e ρ μ with
                      | some (_, _, μ1) => some (.nx ρ μ1)
                      | none => (match qE T call e ρ μ with
                        | some (.exn k v, _, μ1) => (match T.sub k c with
                          | some true => if i < ρ.length ∧ j < ρ.length ∧ i ≠ j then some (.nx ((ρ.set j (some (.exn k v, false))).set i none) μ1) else none
                          | _ => none)
                        | _ => none)) = some r := e1
                    cases hd : dE T call e ρ μ with
                    | some z =>
                      rw [hd] at e1'
                      refine .inl (u_ex ⟨B, As, bad, μ, ρ, r, st, ?_, k⟩)
                      unfold kEx
                      rw [hd]
                      exact e1'
                    | none =>
                      rw [hd] at e1'
                      dsimp only at e1'
                      split at e1'
                      · rename_i kc x o μ1 hq
                        split at e1'
                        · rename_i hs
                          split at e1'
                          · rename_i hl
                            obtain ⟨l1, l2, l3⟩ := hl
                            cases e1'
                            refine .inr ⟨As, bad, μ, ρ, kc, x, o, _, st.at_, hq, fun C d v H' As' bad' h1 h2 h3 h4 h5 h6 => ?_⟩
                            have ls : σ.length = ρ.length := st.s.len.symm
                            refine ⟨G.ex.sub kc c true C C0 h1 hC0 hs, C, d, rfl, rfl, by rw [ls]; exact l1, fun a na => ?_⟩
                            have x2 := new_ext h2 na (ExH a C d)
                            have s1 := (st.ext h2 h3).ext (new_rel h2 na (ExH a C d)) x2
                            have nb : ¬ bad' a := h2.nbad na
                            have hda : d ≠ a := fun z => by
                              rw [z, na] at h4
                              cases h4
                            have rp : Rep E As' (upd H' a (ExH a C d)) bad' (.ref a) (.exn kc x) := .exn upd_same nb (by rw [upd_ne hda]; exact h4) h5 h1 (h6.ext x2)
                            have eσ : ((σ.set i (some (V.ref a))).set j (some (.ref a))).set i none = (σ.set j (some (.ref a))).set i none := by
                              rw [List.set_comm _ _ l3, List.set_set]
                            rw [eσ]
                            exact k.nx1 ⟨s1.c0, s1.c, (s1.s.set rp l2).gone i, s1.x⟩ (h3.trans x2).sx
                          · cases e1'
                        · cases e1'
                      · cases e1'
              · cases m
            · cases m
          · cases m
        · cases m
      · cases m
    · cases m
  · cases m
theorem s_all : ∀ x : Z.X, SS E T S call x ∧ SL E T S call x := by
  intro x
  induction x with
  | sSet t e _ _ =>
    refine ⟨fun X w st G hk hp m => ?_, sl_no fun _ _ => by unfold mSs <;> rfl⟩
    unfold mS at m
    split at m
    · split at m
      · split at m
        · split at m
          · exact (asg_ok G hk m).weak fun D σ H q => by
              obtain ⟨As, bad, μ, ρ, d, o, μ', a, e1, kf⟩ := u_set q
              exact w_r ⟨As, bad, μ, ρ, d, o, μ', a, e1, fun v H' As' bad' c x r => w_gName (kf v H' As' bad' c x r)⟩
          · cases m
        · exact set_any G hk m
        · cases m
      · cases m
    · cases m
  | sSetO i e _ =>
    refine ⟨fun X w st G hk hp m => ?_, sl_no fun _ _ => by unfold mSs <;> rfl⟩
    unfold mS at m
    split at m
    · split at m
      · split at m
        · exact (asg_ok G hk m).weak fun D σ H q => u_setO q
        · cases m
      · cases m
    · cases m
  | sPar is es _ =>
    refine ⟨fun X w st G hk hp m => ?_, sl_no fun _ _ => by unfold mSs <;> rfl⟩
    unfold mS at m
    split at m
    · split at m
      · split at m
        · obtain ⟨m1, m2⟩ := and4 m
          rcases Bool.or_eq_true_iff.mp m1 with m1 | m1
          · exact par_ok G hk (by rw [m1, m2]; rfl)
          · exact par_okT G hk (by rw [m1, m2]; rfl)
        · cases m
      · cases m
    · cases m
  | sRet e _ =>
    refine ⟨fun X w st G hk hp m => ?_, sl_no fun _ _ => by unfold mSs <;> rfl⟩
    unfold mS at m
    split at m
    · exact ret_any G m
    · cases m
  | sRetN =>
    refine ⟨fun X w st G hk hp m => ?_, sl_no fun _ _ => by unfold mSs <;> rfl⟩
    unfold mS at m
    split at m
    · exact ps_retN.weak fun D σ H q => u_retN q
    · cases m
  | sIf c a b _ ha hb =>
    refine ⟨fun X w st G hk hp m => ?_, sl_no fun _ _ => by unfold mSs <;> rfl⟩
    unfold mS at m
    split at m
    · obtain ⟨m, m3⟩ := and4 m
      obtain ⟨m1, m2⟩ := and4 m
      exact (ps_if ((x_all c).1 X w _ G m1).pt (ha.2 X w _ G hk hp m2) (hb.2 X w _ G hk hp m3)).weak fun D σ H q => u_if q
    · cases m
  | sFor t it b _ _ hb =>
    refine ⟨fun X w st G hk hp m => ?_, sl_no fun _ _ => by unfold mSs <;> rfl⟩
    unfold mS at m
    split at m
    · split at m
      · obtain ⟨m, m4⟩ := and4 m
        obtain ⟨m, m3⟩ := and4 m
        obtain ⟨m1, m2⟩ := and4 m
        exact (ps_for hp.1 G.calm ((x_all it).2.2.2 X false w _ _ G m2) ((st_all t).1 X w _ G m3) (hb.2 X w _ G hk hp m4) (set_of m1)).weak fun D σ H q => u_for q
      · cases m
    · cases m
  | sWh n c b _ hb =>
    refine ⟨fun X w st G hk hp m => ?_, sl_no fun _ _ => by unfold mSs <;> rfl⟩
    unfold mS at m
    split at m
    · split at m
      · obtain ⟨m1, m2⟩ := and4 m
        exact (ps_while hp.1 ((x_all c).1 X w _ G m1).pt (hb.2 X w _ G hk hp m2)).weak fun D σ H q => u_while q
      · cases m
    · cases m
  | sEx e _ =>
    refine ⟨fun X w st G hk hp m => ?_, sl_no fun _ _ => by unfold mSs <;> rfl⟩
    unfold mS at m
    split at m
    · obtain ⟨m1, m2⟩ := and4 m
      exact (ps_expr ((x_all e).1 X w _ G m2).pe (sw_false m1)).weak fun D σ H q => u_ex q
    · cases m
  | sApp i e _ =>
    refine ⟨fun X w st G hk hp m => ?_, sl_no fun _ _ => by unfold mSs <;> rfl⟩
    unfold mS at m
    split at m
    · exact (app_any G m).weak fun D σ H q => u_app q
    · cases m
  | sIns i k e _ _ =>
    refine ⟨fun X w st G hk hp m => ?_, sl_no fun _ _ => by unfold mSs <;> rfl⟩
    unfold mS at m
    split at m
    · exact (ins_any G m).weak fun D σ H q => u_ins q
    · cases m
  | sAppC i e _ =>
    refine ⟨fun X w st G hk hp m => ?_, sl_no fun _ _ => by unfold mSs <;> rfl⟩
    unfold mS at m
    split at m
    · exact (app_any G m).weak fun D σ H q => u_appC q
    · cases m
  | sSub i k e _ _ =>
    refine ⟨fun X w st G hk hp m => ?_, sl_no fun _ _ => by unfold mSs <;> rfl⟩
    unfold mS at m
    split at m
    · split at m
      · exact (sub_any G m).weak fun D σ H q => u_sub q
      · cases m
    · cases m
  | sSubC i k e _ _ =>
    refine ⟨fun X w st G hk hp m => ?_, sl_no fun _ _ => by unfold mSs <;> rfl⟩
    unfold mS at m
    split at m
    · split at m
      · exact (sub_any G m).weak fun D σ H q => u_subC q
      · cases m
    · cases m
  | sDis i s hs =>
    refine ⟨fun X w st G hk hp m => ?_, sl_no fun _ _ => by unfold mSs <;> rfl⟩
    have m' : mS S s w st = true := by
      unfold mS at m
      exact m
    exact (hs.1 X w st G hk hp m').weak fun D σ H q => u_dis q
  | sTry s i c j _ =>
    refine ⟨fun X w st G hk hp m => ?_, sl_no fun _ _ => by unfold mSs <;> rfl⟩
    unfold mS at m
    split at m
    · exact try_any G hp.2 m
    · cases m
  | sRaise c e _ =>
    refine ⟨fun X w st G hk hp m => ⟨fun pins s σ H D I q => ?_⟩, sl_no fun _ _ => by unfold mSs <;> rfl⟩
    obtain ⟨B, As, bad, μ, ρ, r, st, e, _⟩ := q
    cases e
  | sPass =>
    refine ⟨fun X w st G hk hp m => ?_, sl_no fun _ _ => by unfold mSs <;> rfl⟩
    unfold mS at m
    split at m
    · exact ps_pass.weak fun D σ H q => u_nx q
    · cases m
  | sBk =>
    refine ⟨fun X w st G hk hp m => ?_, sl_no fun _ _ => by unfold mSs <;> rfl⟩
    unfold mS at m
    split at m
    · exact ps_break.weak fun D σ H q => u_bk q
    · cases m
  | sCt =>
    refine ⟨fun X w st G hk hp m => ?_, sl_no fun _ _ => by unfold mSs <;> rfl⟩
    unfold mS at m
    split at m
    · exact ps_continue.weak fun D σ H q => u_ct q
    · cases m
  | sNo =>
    refine ⟨fun X w st G hk hp m => ⟨fun pins s σ H D I q => ?_⟩, sl_no fun _ _ => by unfold mSs <;> rfl⟩
    obtain ⟨B, As, bad, μ, ρ, r, st, e, _⟩ := q
    cases e
  | nil =>
    refine ⟨ss_no fun _ _ => by unfold mS <;> rfl, fun X w st G hk hp m => ?_⟩
    unfold mSs at m
    split at m
    · exact pss_nil.weak fun D σ H q => u_nx q
    · cases m
  | cons s r hs hr =>
    refine ⟨ss_no fun _ _ => by unfold mS <;> rfl, fun X w st G hk hp m => ?_⟩
    unfold mSs at m
    split at m
    · obtain ⟨m1, m2⟩ := and4 m
      exact (pss_cons (hs.1 X w _ G hk hp m1) (hr.2 X w _ G hk hp m2)).weak fun D σ H q => u_seq q
    · cases m
  | _ => exact ⟨ss_no fun _ _ => by unfold mS <;> rfl, sl_no fun _ _ => by unfold mSs <;> rfl⟩
end
end Z
end

section
set_option Elab.async false
set_option autoImplicit false
set_option linter.all false
set_option maxRecDepth 100000
set_option maxHeartbeats 2000000
/-! What statements raise. -/
namespace Z
open PySem PySem.Spec PyProof.Rows L2
/-- a raising statement's reading -/
def rSX (E : En) (f : Rho → Mu → RE) (W : XK) (σ : L2.St) (H : Hp) : Prop := ∃ B As bad μ ρ c x o μ', StR E B As bad H μ σ ρ ∧ f ρ μ = some (.exn c x, o, μ') ∧ FinX E B.As B.bad B.H c x μ' W
section
variable {E : En} {T : Tab} {S : Sta} {call : CallT} {X : Cx} {w : Wh} {ev tg : Expr} {pos : Pos} {t it c a b k es s r : Z.X} {W : XK}
abbrev WxK (W : XK) : WX := fun cls d _ H => W cls d H
theorem x_of {e : Z.X} {f : Rho → Mu → RE} {σ : L2.St} {H : Hp} (q : rSX E f W σ H) : rX E f W σ H := by
  obtain ⟨B, As, bad, μ, ρ, c, x, o, μ', st, e, k⟩ := q
  exact ⟨As, bad, μ, ρ, c, x, o, μ', st.at_, e, k.later st.x⟩
def RS (E : En) (T : Tab) (S : Sta) (call : CallT) (x : Z.X) : Prop := ∀ (X : Cx) (w : Wh) (st : Stmt) (W : XK), Gd X E T S w call → X.env.scope.kind = .function → (PassesOwn (model X.prog X.w) X.A X.env X.xe ∧ TryOk X) → mS S x w st = true → Takes X (WxK W) → PS X st (fun _ σ H => rSX E (qS T call x) W σ H)
def RL (E : En) (T : Tab) (S : Sta) (call : CallT) (x : Z.X) : Prop := ∀ (X : Cx) (w : Wh) (sts : List Stmt) (W : XK), Gd X E T S w call → X.env.scope.kind = .function → (PassesOwn (model X.prog X.w) X.A X.env X.xe ∧ TryOk X) → mSs S x w sts = true → Takes X (WxK W) → PSs X sts (fun _ σ H => rSX E (qS T call x) W σ H)
theorem r_none (h : ∀ ρ μ, qS T call s ρ μ = none) : RS E T S call s := fun X w st W G _ _ m tk => ⟨fun pins s σ H D I q => by
  obtain ⟨B, As, bad, μ, ρ, c, x, o, μ', _, e, _⟩ := q
  rw [h] at e
  cases e⟩
theorem rl_no (h : ∀ w st, mSs S s w st = false) : RL E T S call s := fun X w st W G _ _ m => by
  rw [h] at m
  cases m
theorem r_asg {i : Nat} {x : Z.X} {n : Str} {p pos : Pos} (G : Gd X E T S w call) (hk : X.env.scope.kind = .function) (tk : Takes X (WxK W)) (m : asgB S w i x n p ev = true) : PS X (.Assign [.Name n p] ev pos) (fun _ σ H => rSX E (qE T call x) W σ H) := by
  unfold asgB at m
  obtain ⟨m1, m4⟩ := and4 m
  obtain ⟨m1, m3⟩ := and4 m1
  obtain ⟨m1, m2⟩ := and4 m1
  obtain ⟨k1, k2⟩ := loc_of G m2
  have hi : X.N[i]? = some n := by
    rw [G.N]
    exact of_decide_eq_true m1
  cases hb : swB w n p ev with
  | false =>
    rw [hb] at m4
    have hsw : swapsWith ev (some (.Name n p)) pos.line X.env = pure false := by
      cases h2 : noComp ev with
      | true => exact sw_false h2
      | false =>
        rw [h2] at m4
        have m5 : isLC ev = true := m4
        cases ev <;> first | exact sw_listF G.sc hk hb | cases m5
    exact (ps_set G.nd hi k1 (q_all x X w ev (WxK W) G m3 tk) hsw k2).weak fun D σ H q => x_of (e := x) q
  | true =>
    rw [hb] at m4
    have m4' : isComp x = true := m4
    refine ⟨fun pins s σ H D I q => ?_⟩
    obtain ⟨B, As, bad, μ, ρ, c, y, o, μ', _, e, _⟩ := q
    cases x <;> first
      | (cases m4'; done)
      | exact nomatch e
theorem r_setT {e : Z.X} (G : Gd X E T S w call) (hk : X.env.scope.kind = .function) (tk : Takes X (WxK W)) {ts : List Expr} {kk : Nat} {p : Pos} (m : (mT S t w (.Tuple ts kk p) && mE S e w ev && (match ev with
      | .Tuple vs _ _ => decide (swN w ts vs = some none)
      | _ => true)) = true) : PS X (.Assign [.Tuple ts kk p] ev pos) (fun _ σ H => rSX E (qE T call e) W σ H) := by
  obtain ⟨m, m3⟩ := and4 m
  obtain ⟨m1, m2⟩ := and4 m
  refine (ps_asg (q_all e X w _ (WxK W) G m2 tk) ((st_all t).1 X w _ G m1) ?_ ?_ rfl).weak fun D σ H q => x_of (e := e) q
  · cases ev <;> rfl
  · cases ev <;> first
      | rfl
      | exact sw_none G.sc hk (of_decide_eq_true m3)
theorem r_all : ∀ x : Z.X, RS E T S call x ∧ RL E T S call x := by
  intro x
  induction x with
  | sSet t e _ _ =>
    refine ⟨fun X w st W G hk hp m tk => ?_, rl_no fun _ _ => by unfold mSs <;> rfl⟩
    unfold mS at m
    split at m
    · split at m
      · split at m
        · split at m
          · exact r_asg G hk tk m
          · cases m
        · exact r_setT G hk tk m
        · cases m
      · cases m
    · cases m
  | sRet e _ =>
    refine ⟨fun X w st W G hk hp m tk => ?_, rl_no fun _ _ => by unfold mSs <;> rfl⟩
    unfold mS at m
    split at m
    · cases e with
      | pv i =>
        refine ⟨fun pins s σ H D I q => ?_⟩
        obtain ⟨B, As, bad, μ, ρ, c, y, o, μ', _, e, _⟩ := q
        exact nomatch e
      | _ => exact (ps_ret (q_all _ X w _ (WxK W) G m tk)).weak fun D σ H q => x_of (e := .nil) q
    · cases m
  | sIf c a b _ ha hb =>
    refine ⟨fun X w st W G hk hp m tk => ?_, rl_no fun _ _ => by unfold mSs <;> rfl⟩
    unfold mS at m
    split at m
    · obtain ⟨m, m3⟩ := and4 m
      obtain ⟨m1, m2⟩ := and4 m
      refine (ps_if ((x_all c).1 X w _ G m1).pt (ha.2 X w _ W G hk hp m2 tk) (hb.2 X w _ W G hk hp m3 tk)).weak fun D σ H q => ?_
      obtain ⟨B, As, bad, μ, ρ, c1, x, o, μ', st, e, k⟩ := q
      have e' : (match dE T call c ρ μ with
        | some (.bl true, _, μ1) => qS T call a ρ μ1
        | some (.bl false, _, μ1) => qS T call b ρ μ1
        | _ => none) = some (.exn c1 x, o, μ') := e
      split at e'
      · rename_i o1 μ1 q
        exact ⟨As, bad, μ, ρ, true, o1, μ1, st.at_, q, fun H1 As1 bad1 c2 x2 => ite_t ⟨B, As1, bad1, μ1, ρ, c1, x, o, μ', st.ext c2 x2, e', k⟩⟩
      · rename_i o1 μ1 q
        exact ⟨As, bad, μ, ρ, false, o1, μ1, st.at_, q, fun H1 As1 bad1 c2 x2 => ite_f ⟨B, As1, bad1, μ1, ρ, c1, x, o, μ', st.ext c2 x2, e', k⟩⟩
      · cases e'
    · cases m
  | sEx e _ =>
    refine ⟨fun X w st W G hk hp m tk => ?_, rl_no fun _ _ => by unfold mSs <;> rfl⟩
    unfold mS at m
    split at m
    · obtain ⟨m1, m2⟩ := and4 m
      exact (ps_expr (q_all e X w _ (WxK W) G m2 tk) (sw_false m1)).weak fun D σ H q => x_of (e := e) q
    · cases m
  | sRaise c e _ =>
    refine ⟨fun X w st W G hk hp m tk => ?_, rl_no fun _ _ => by unfold mSs <;> rfl⟩
    unfold mS at m
    split at m
    · split at m
      · split at m
        · obtain ⟨m, m5⟩ := and4 m
          obtain ⟨m, m4⟩ := and4 m
          obtain ⟨m, m3⟩ := and4 m
          obtain ⟨m1, m2⟩ := and4 m
          obtain ⟨C, hC, hm, hin⟩ := G.ex.cls c _ true (of_decide_eq_true m1)
          obtain ⟨fI, fdI, FI, iC, tI⟩ := hin rfl
          refine ⟨fun pins s0 σ H D I q => ?_⟩
          obtain ⟨B, As, bad, μ, ρ, c1, x, o, μ', st, e1, k⟩ := q
          have e' : (match dE T call e ρ μ with
            | some (d, _, μ1) => (match call (RB + RB) [] μ1 with
              | some _ => some (Z.D.exn c d, false, μ1)
              | none => none)
            | none => none) = some (Z.D.exn c1 x, o, μ') := e1
          split at e'
          · rename_i d o1 μ1 hd
            split at e'
            · rename_i z hz
              cases e'
              have rm := G.ex.room _ _ _ hz
              exact (ps_raise G.calm tk (pmk_1 FI iC tI rm (glo_of G m2) hm (plain_of m3).1 ((x_all e).1 X w _ G m5).pe (star_of m4))).run pins s0 σ H D I
                ⟨As, bad, μ, ρ, _, o1, _, st.at_, hd, fun v H1 As1 bad1 c2 x2 r2 d1 nd => k C d1 v _ As1 bad1 hC (new_rel c2 nd _) (st.x.trans (x2.trans (new_ext c2 nd _))) upd_same (c2.nbad nd) (r2.ext (new_ext c2 nd _))⟩
            · cases e'
          · cases e'
        · cases m
      · cases m
    · cases m
  | nil =>
    refine ⟨r_none fun _ _ => rfl, fun X w st W G hk hp m tk => ⟨fun pins s σ H D I q => (by
      obtain ⟨B, As, bad, μ, ρ, c, x, o, μ', _, e, _⟩ := q
      exact (nomatch e))⟩⟩
  | cons s r hs hr =>
    refine ⟨fun X w st W G _ _ m => (by unfold mS at m; cases m), fun X w sts W G hk hp m tk => ?_⟩
    unfold mSs at m
    split at m
    · obtain ⟨m1, m2⟩ := and4 m
      have p1 := pss_cons (hs.1 X w _ W G hk hp m1 tk) (hr.2 X w _ W G hk hp m2 tk)
      have p2 := pss_cons ((s_all s).1 X w _ G hk hp m1) (hr.2 X w _ W G hk hp m2 tk)
      refine ⟨fun pins s0 σ H D I q => ?_⟩
      obtain ⟨B, As, bad, μ, ρ, c1, x, o, μ', st, e, k⟩ := q
      have e' : (match dS T call s ρ μ with
        | some (.nx ρ1 μ1) => qS T call r ρ1 μ1
        | _ => qS T call s ρ μ) = some (.exn c1 x, o, μ') := e
      split at e'
      · rename_i ρ1 μ1 hd
        exact p2.run pins s0 σ H D I ⟨B, As, bad, μ, ρ, _, st, hd, fun σ' H' As' bad' st' _ => ⟨B, As', bad', μ1, ρ1, c1, x, o, μ', st', e', k⟩⟩
      · exact p1.run pins s0 σ H D I ⟨B, As, bad, μ, ρ, c1, x, o, μ', st, e', k⟩
    · cases m
  | _ => exact ⟨r_none fun _ _ => rfl, rl_no fun _ _ => by unfold mSs <;> rfl⟩
end
end Z
end

section
set_option Elab.async false
set_option autoImplicit false
set_option linter.all false
set_option maxRecDepth 100000
set_option maxHeartbeats 2000000
/-! The defs keep what the terms say. -/
namespace Z
open PySem PySem.Spec PyProof.Rows L2

/-- the program: its defs' terms, their parameters, bodies and scopes -/
structure Pg where
  fs : List Def
  cn : List Str
  gl : List Str
  kn : List (List Str)
  cl : List (Str × Bool)
def Pg.sta (G : Pg) (F : Def) : Sta := ⟨F.ns, G.fs.map (·.name), G.cn, G.gl, G.fs.map (·.ps), G.cl⟩
/-- what is known of the def's place -/
structure DefOk (K : PySem.W.Frag) (mg : Str → Option Value) (G : Pg) (F : Def) (a : Addr) (fd : FuncData) : Prop where
  at_ : ∃ (x qual : Str) (params : Arguments) (body : List Stmt) (scope : Scope), FunD K x qual params body scope [] [] a fd ∧ FnScope F.ns F.ps scope ∧ mSs (G.sta F) F.body ⟨scope, none⟩ body = true
  mg : mg F.name = some (.ref a)
  bind : ∀ (s : Shared) (us : List Value), us.length = F.ps.length → BindsTo s fd ⟨us, []⟩ (F.ps.zip us)
  bindk : ∀ (n : Nat) (ks : List Str) (pm : List Nat), kwB F.ps n ks pm = true → ∀ (s : Shared) (us ws : List Value), us.length = n → ws.length = ks.length → BindsTo s fd ⟨us, ks.zip ws⟩ (F.ps.zip (us ++ pmL pm ws))
/-- what is known of the module -/
structure ModOk (P : Program) (K : PySem.W.Frag) (E : En) (mg : Str → Option Value) (G : Pg) (T : Tab) : Prop where
  hK : K = E.K
  sys : SysK K
  few : G.fs.length ≤ RB
  efn : ∀ (f : Nat) (F : Def) (a : Addr), G.fs[f]? = some F → mg F.name = some (.ref a) → E.F f = some a
  efi : ∀ (f : Nat) (a : Addr), E.F f = some a → ∃ F, G.fs[f]? = some F
  fld : ∀ c C, E.C c = some C → XfC K C ∧ PySem.W.findIn K (.ref C) "value" = some none
  cls : ∀ (c : Nat) (x : Str) (b : Bool), G.cl[c]? = some (x, b) → ∃ C, E.C c = some C ∧ mg x = some (.ref C) ∧ (b = true → ∃ fI fd, InitF P K mg C fI fd ∧ PySem.W.findIn K (.ref C) "__init__" = some (some (.ref fI)) ∧ PySem.W.typeIn K (.ref fI) = some (.type "function"))
  sub : ∀ (c d : Nat) (b : Bool) (C D : Addr), E.C c = some C → E.C d = some D → T.sub c d = some b → PySem.W.exmOne K (.ref C) (.ref D) = some b
  mg0 : ∀ x : Str, x ∈ G.gl → mg x = none
  con : ∀ (j : Nat) (x : Str), G.cn[j]? = some x → ∃ u v d, mg x = some u ∧ RelV v u ∧ T.cons[j]? = some d ∧ ∀ As H bad, Rep E As H bad v d
  fs : ∀ (i : Nat) (F : Def), G.fs[i]? = some F → ∃ a fd, DefOk K mg G F a fd
section
variable {P : Program} {w : World} {K : PySem.W.Frag} {mg : Str → Option Value} {base : Heap} {E : En} {G : Pg} {T : Tab}
theorem start_srel {As : List Addr} {bad : Addr → Prop} {H : Hp} {N : List Str} {vs : List V} {ds : List D} (r : Reps E As H bad vs ds) : SRel E H As bad H (start N vs) (ds.map (fun d => some (d, false)) ++ List.replicate (N.length - ds.length) none) := by
  have hl := r.length
  have no : ∀ {i : Nat} {d : D}, (ds.map (fun d => some (d, false)) ++ List.replicate (N.length - ds.length) none)[i]? ≠ some (some (d, true)) := fun {i d} h => by
    by_cases hi : i < ds.length
    · rw [List.getElem?_append_left (by simpa using hi), List.getElem?_map] at h
      cases q : ds[i]? with
      | none =>
        rw [q] at h
        cases h
      | some z =>
        rw [q] at h
        cases h
    · rw [List.getElem?_append_right (by simpa using hi), List.getElem?_replicate] at h
      split at h <;> cases h
  refine ⟨?_, fun i d h => ?_, fun i d h => absurd h no, fun i j d e a h => absurd h no⟩
  · unfold L2.start
    rw [List.length_append, List.length_append, List.length_map, List.length_map, List.length_replicate, List.length_replicate, hl]
  · by_cases hi : i < ds.length
    · rw [List.getElem?_append_left (by simpa using hi), List.getElem?_map] at h
      cases q : ds[i]? with
      | none =>
        rw [q] at h
        cases h
      | some z =>
        rw [q] at h
        cases h
        obtain ⟨v, h1, h2⟩ := r.get q
        refine ⟨v, ?_, h2⟩
        unfold L2.start
        rw [List.getElem?_append_left (by simpa [hl] using hi), List.getElem?_map, h1]
        rfl
    · rw [List.getElem?_append_right (by simpa using hi), List.getElem?_replicate] at h
      split at h <;> cases h
theorem DefOk.binds {F : Def} {a : Addr} {fd : FuncData} (d : DefOk K mg G F a fd) : Binds K fd F.ps [] := fun s us _ hl => by
  rw [List.append_nil] at hl ⊢
  exact d.bind s us hl
theorem DefOk.kp {F : Def} {a : Addr} {fd : FuncData} (d : DefOk K mg G F a fd) : PySem.W.keepIn K (.ref a) = true := let ⟨_, _, _, _, _, FD, _⟩ := d.at_; FD.kp
/-- a def's own context -/
theorem gd_of {CX : CXT} {k : Nat} {F : Def} {x qual : Str} {params : Arguments} {body : List Stmt} {scope : Scope} {a : Addr} {fd : FuncData} {cdv : Value} {A : Around} {out : List Env} {s : Shared} {H : Hp} {E' : XK} (M : ModOk P K E mg G T) (FD : FunD K x qual params body scope [] [] a fd) (sc : FnScope F.ns F.ps scope)
    (ih : (∀ (i : Nat) (F : Def) (a : Addr) (fd : FuncData), G.fs[i]? = some F → DefOk K mg G F a fd → FnG P w K mg base CX0 k a fd F.ps (spC E (dCall T G.fs k i))) ∧
      ∀ (i : Nat) (F : Def) (a : Addr) (fd : FuncData), G.fs[i]? = some F → DefOk K mg G F a fd → FnG P w K mg base (L2.CX P w) k a fd F.ps (spR E (dCall T G.fs k (RB + i))))
    (hr : Room k (A.deeper (envOfC qual scope s.heap.objs.size a cdv))) (hg : A.guards = some []) : Gd (cxOf CX P w K mg base F.ns qual scope a cdv A out s H E') E T (G.sta F) ⟨scope, none⟩ (dCall T G.fs k) := by
  have at_ : ∀ {f : Nat} {y : Str}, (G.sta F).fs[f]? = some y → ∃ F', G.fs[f]? = some F' ∧ F'.name = y := fun {f y} hy => by
    have hy' : (G.fs.map (·.name))[f]? = some y := hy
    rw [List.getElem?_map] at hy'
    cases q : G.fs[f]? with
    | none =>
      rw [q] at hy'
      cases hy'
    | some F' =>
      rw [q] at hy'
      exact ⟨F', rfl, Option.some.inj hy'⟩
  refine ⟨M.hK, rfl, rfl, sc.nd, rfl, ?_, ?_, fun _ _ => rfl, M.sys, ⟨fun f y b hy hm => ?_, fun f b hb => ?_, M.fld, M.cls, fun ds μ z hz => ?_, M.sub, fun f y hy => ?_⟩, M.mg0, M.con, fun f y hy => ?_⟩
  · exact hg
  · have := hr.un
    show (A.deeper _).units + 100 < cLine
    omega
  · obtain ⟨F', q, rfl⟩ := at_ hy
    exact M.efn f F' b q hm
  · obtain ⟨F', q⟩ := M.efi f b hb
    exact ⟨F'.name, by show (G.fs.map (·.name))[f]? = some F'.name; rw [List.getElem?_map, q]; rfl⟩
  · have hk : 2 ≤ k := by
      cases k with
      | zero => cases hz
      | succ k =>
        unfold dCall at hz
        have h1 : G.fs[RB + RB]? = none := List.getElem?_eq_none (by have := M.few; omega)
        have h2 : G.fs[RB + RB - RB]? = none := List.getElem?_eq_none (by have := M.few; omega)
        rw [h1] at hz
        dsimp only at hz
        rw [h2, if_pos (by omega : RB ≤ RB + RB)] at hz
        dsimp only at hz
        split at hz
        · rename_i hh
          omega
        · cases hz
    exact hr.mono hk
  · obtain ⟨F', q, rfl⟩ := at_ hy
    obtain ⟨a', fd', dk'⟩ := M.fs f F' q
    exact ⟨a', fd', F'.ps, k, ih.2 f F' a' fd' q dk', hr, dk'.mg, dk'.kp, dk'.binds, by show (G.fs.map (·.ps))[f]? = some F'.ps; rw [List.getElem?_map, q]; rfl, dk'.bindk⟩
  · obtain ⟨F', q, rfl⟩ := at_ hy
    obtain ⟨a', fd', dk'⟩ := M.fs f F' q
    exact ⟨a', fd', F'.ps, k, ih.1 f F' a' fd' q dk', hr, dk'.mg, dk'.kp, dk'.binds, by show (G.fs.map (·.ps))[f]? = some F'.ps; rw [List.getElem?_map, q]; rfl, dk'.bindk⟩
/-- THE LEVELS: the defs, k calls deep -/
theorem lvls (M : ModOk P K E mg G T) : ∀ k : Nat, (∀ (i : Nat) (F : Def) (a : Addr) (fd : FuncData), G.fs[i]? = some F → DefOk K mg G F a fd → FnG P w K mg base CX0 k a fd F.ps (spC E (dCall T G.fs k i))) ∧
    ∀ (i : Nat) (F : Def) (a : Addr) (fd : FuncData), G.fs[i]? = some F → DefOk K mg G F a fd → FnG P w K mg base (L2.CX P w) k a fd F.ps (spR E (dCall T G.fs k (RB + i)))
  | 0 => by
    refine ⟨fun i F a fd hF _ => ⟨fun vs H Q E' h => ?_, fun A out s H ar us vs Q E' _ _ _ _ _ h => ?_⟩, fun i F a fd hF _ => ⟨fun vs H Q E' h => ?_, fun A out s H ar us vs Q E' _ _ _ _ _ h => ?_⟩⟩
    · obtain ⟨_, _, _, _, _, _, _, _, _, e, _⟩ := h
      cases e
    · obtain ⟨_, _, _, _, _, _, _, _, _, e, _⟩ := h
      cases e
    · obtain ⟨_, _, _, _, _, _, _, _, _, _, e, _⟩ := h
      cases e
    · obtain ⟨_, _, _, _, _, _, _, _, _, _, e, _⟩ := h
      cases e
  | k + 1 => by
    have ih := lvls M k
    refine ⟨fun i F a fd hF dk => ?_, fun i F a fd hF dk => ?_⟩
    · obtain ⟨x, qual, params, body, scope, FD, sc, ck⟩ := dk.at_
      refine Z.FunD.okG FD sc (fun vs H Q E' h => ?_) (fun cdv A out s H vs Q E' hr hg h => ?_)
      · obtain ⟨As, bad, μ, ds, d, o, μ', c, r, e, _⟩ := h
        unfold dCall at e
        rw [hF] at e
        dsimp only at e
        split at e
        · rename_i hl
          rw [r.length, hl]
        · cases e
      · have gd := gd_of (CX := CX0) (out := out) (s := s) (H := H) (E' := E') M FD sc ih hr hg
        refine ⟨_, (s_all F.body).2 _ _ body gd sc.kind ⟨passes_of rfl, rfl, rfl, rfl⟩ ck, ?_⟩
        obtain ⟨As, bad, μ, ds, d, o, μ', c, r, e, kf⟩ := h
        unfold dCall at e
        rw [hF] at e
        dsimp only at e
        split at e
        · rename_i hl
          split at e
          · rename_i d1 o1 μ1 q
            cases e
            have sr := start_srel (N := F.ns) r
            rw [hl] at sr
            refine ⟨⟨As, bad, H, μ⟩, As, bad, μ, _, _, ⟨c, c, sr, c.ext0⟩, q, fun v H' As' bad' c' x' r' => kf v H' As' bad' c' x' r'⟩
          · rename_i ρ1 μ1 q
            cases e
            have sr := start_srel (N := F.ns) r
            rw [hl] at sr
            refine ⟨⟨As, bad, H, μ⟩, As, bad, μ, _, _, ⟨c, c, sr, c.ext0⟩, q, fun σ' H' As' bad' s' x' => kf .non H' As' bad' s'.c s'.x .non⟩
          · cases e
        · cases e
    · obtain ⟨x, qual, params, body, scope, FD, sc, ck⟩ := dk.at_
      have no : G.fs[RB + i]? = none := List.getElem?_eq_none (by have := M.few; omega)
      have yes : G.fs[RB + i - RB]? = some F := by
        rw [Nat.add_sub_cancel_left]
        exact hF
      refine Z.FunD.okG FD sc (fun vs H Q E' h => ?_) (fun cdv A out s H vs Q E' hr hg h => ?_)
      · obtain ⟨As, bad, μ, ds, c1, x1, o, μ', c, r, e, _⟩ := h
        unfold dCall at e
        rw [no] at e
        dsimp only at e
        rw [yes, if_pos (Nat.le_add_right ..)] at e
        dsimp only at e
        split at e
        · rename_i hl
          rw [r.length, hl]
        · cases e
      · have gd := gd_of (CX := L2.CX P w) (out := out) (s := s) (H := H) (E' := E') M FD sc ih hr hg
        refine ⟨_, (r_all F.body).2 _ _ body E' gd sc.kind ⟨passes_of rfl, rfl, rfl, rfl⟩ ck (takes_of rfl rfl rfl rfl), ?_⟩
        obtain ⟨As, bad, μ, ds, c1, x1, o, μ', c, r, e, kf⟩ := h
        unfold dCall at e
        rw [no] at e
        dsimp only at e
        rw [yes, if_pos (Nat.le_add_right ..)] at e
        dsimp only at e
        split at e
        · rename_i hl
          have sr := start_srel (N := F.ns) r
          rw [hl] at sr
          exact ⟨⟨As, bad, H, μ⟩, As, bad, μ, _, _, _, _, _, ⟨c, c, sr, c.ext0⟩, e, kf⟩
        · cases e
theorem lvl (M : ModOk P K E mg G T) (k i : Nat) (F : Def) (a : Addr) (fd : FuncData) (hF : G.fs[i]? = some F) (dk : DefOk K mg G F a fd) : FnG P w K mg base CX0 k a fd F.ps (spC E (dCall T G.fs k i)) := (lvls M k).1 i F a fd hF dk
end
end Z
end

section
set_option Elab.async false
set_option autoImplicit false
set_option linter.all false
set_option maxRecDepth 100000
set_option maxHeartbeats 2000000
/-! The head: constants of the module, the law's call. -/
namespace Z
open PySem PySem.Spec PyProof.Rows L2

mutual
/-- u is the tree d, all in the written part -/
def repB (K : PySem.W.Frag) : D → Value → Bool
  | .non, u => (match u with
    | .none => true
    | _ => false)
  | .bl b, u => (match u with
    | .bool c => b == c
    | _ => false)
  | .int i, u => (match u with
    | .int j _ => decide (i = j)
    | _ => false)
  | .str x, u => (match u with
    | .str y _ => decide (x = y)
    | _ => false)
  | .tup ds, u => (match u with
    | .ref a => (match K.lookup a with
      | some ⟨.type c, none, .seq its _, sl⟩ => decide (c = "tuple") && decide (sl = #[]) && decide (its.size ≤ sizeLine) && repBs K ds its.toList
      | _ => false)
    | _ => false)
  | .lst ds, u => (match u with
    | .ref a => (match K.lookup a with
      | some ⟨.type c, none, .seq its _, sl⟩ => decide (c = "list") && decide (sl = #[]) && decide (its.size ≤ sizeLine) && repBs K ds its.toList
      | _ => false)
    | _ => false)
  | _, _ => false
def repBs (K : PySem.W.Frag) : List D → List Value → Bool
  | [], us => (match us with
    | [] => true
    | _ => false)
  | d :: ds, us => (match us with
    | u :: us => repB K d u && repBs K ds us
    | _ => false)
end
section
variable {E : En}
mutual
theorem repB_ok : ∀ {d : D} {u : Value}, repB E.K d u = true → ∃ v, RelV v u ∧ ∀ As H bad, Rep E As H bad v d
  | .non, u, h => by
    cases u <;> first
      | exact ⟨.non, rfl, fun _ _ _ => .non⟩
      | (unfold repB at h; cases h)
  | .bl b, u, h => by
    cases u <;> first
      | (unfold repB at h
         have e := eq_of_beq h
         subst e
         exact ⟨.bl _, rfl, fun _ _ _ => .bl _⟩)
      | (unfold repB at h; cases h)
  | .int i, u, h => by
    cases u <;> first
      | (unfold repB at h
         have e := of_decide_eq_true h
         subst e
         exact ⟨.int _, ⟨_, rfl⟩, fun _ _ _ => .int _⟩)
      | (unfold repB at h; cases h)
  | .str x, u, h => by
    cases u <;> first
      | (unfold repB at h
         have e := of_decide_eq_true h
         subst e
         exact ⟨.str _, ⟨_, rfl⟩, fun _ _ _ => .str _⟩)
      | (unfold repB at h; cases h)
  | .tup ds, u, h => by
    unfold repB at h
    split at h
    · rename_i a
      split at h
      · rename_i c its n sl q
        obtain ⟨h, h4⟩ := and4 h
        obtain ⟨h, h3⟩ := and4 h
        obtain ⟨h1, h2⟩ := and4 h
        obtain ⟨vs, r1, r2⟩ := repBs_ok h4
        have e1 := of_decide_eq_true h1
        have e2 := of_decide_eq_true h2
        subst e1 e2
        exact ⟨.ref a, rfl, fun As H bad => .tupK ⟨its.toList, n, by rw [q], by simpa using of_decide_eq_true h3, r1⟩ (r2 As H bad)⟩
      · cases h
    · cases h
  | .lst ds, u, h => by
    unfold repB at h
    split at h
    · rename_i a
      split at h
      · rename_i c its n sl q
        obtain ⟨h, h4⟩ := and4 h
        obtain ⟨h, h3⟩ := and4 h
        obtain ⟨h1, h2⟩ := and4 h
        obtain ⟨vs, r1, r2⟩ := repBs_ok h4
        have e1 := of_decide_eq_true h1
        have e2 := of_decide_eq_true h2
        subst e1 e2
        exact ⟨.ref a, rfl, fun As H bad => .lstK ⟨its.toList, n, by rw [q], by simpa using of_decide_eq_true h3, r1⟩ (r2 As H bad)⟩
      · cases h
    · cases h
  | .dct _, u, h => by
    unfold repB at h
    cases h
  | .cell _, u, h => by
    unfold repB at h
    cases h
  | .fn _, u, h => by
    unfold repB at h
    cases h
  | .exn _ _, u, h => by
    unfold repB at h
    cases h
theorem repBs_ok : ∀ {ds : List D} {us : List Value}, repBs E.K ds us = true → ∃ vs, Vals vs us ∧ ∀ As H bad, Reps E As H bad vs ds
  | [], us, h => by
    unfold repBs at h
    split at h
    · exact ⟨[], .nil, fun _ _ _ => .nil⟩
    · cases h
  | d :: ds, us, h => by
    unfold repBs at h
    split at h
    · obtain ⟨h1, h2⟩ := and4 h
      obtain ⟨v, r1, q1⟩ := repB_ok h1
      obtain ⟨vs, r2, q2⟩ := repBs_ok h2
      exact ⟨v :: vs, .cons r1 r2, fun As H bad => .cons (q1 As H bad) (q2 As H bad)⟩
    · cases h
end
end
/-- a constant of the module -/
def conB (K : PySem.W.Frag) (p : Str × D) : Bool := match PySem.W.nsIn K mainGlobals p.1 with
  | some (some u) => repB K p.2 u
  | _ => false
/-- where sys.modules stands is a dict -/
def sysB (K : PySem.W.Frag) : Bool := match K.lookup sysModules with
  | some o => decide (o.cls = .type "dict")
  | none => false
theorem sysB_ok {K : PySem.W.Frag} (h : sysB K = true) : SysK K := by
  unfold sysB at h
  split at h
  · rename_i o q
    exact ⟨o, q, of_decide_eq_true h⟩
  · cases h
/-- an own exception class -/
def oexB (K : PySem.W.Frag) (C : Addr) : Bool := (match K.lookup C with
  | some ⟨cl, _, .cls cd, sl⟩ => decide (cl = .type "type") && (match cd.mro, sl.toList with
    | c1 :: bm, [_, _, _, _, some nw, _] => decide (c1 = .ref C) && decide (nw = .builtin "ValueError.__new__") && cd.hasDict && !cd.hasDel && PySem.HandSPX.refsVE bm
    | _, _ => false)
  | _ => false) && decide (PySem.W.findIn K (.ref C) "__setattr__" = some (some (.builtin "object.__setattr__"))) && decide (PySem.W.subIn K (.ref C) (.type "BaseException") = some true) && decide (PySem.W.typeIn K (.ref C) = some (.type "type")) && PySem.W.keepIn K (.ref C)
theorem oexB_ok {K : PySem.W.Frag} {C : Addr} (h : oexB K C = true) : OexC K C := by
  unfold oexB at h
  obtain ⟨h, h5⟩ := and4 h
  obtain ⟨h, h4⟩ := and4 h
  obtain ⟨h, h3⟩ := and4 h
  obtain ⟨h1, h2⟩ := and4 h
  refine ⟨?_, of_decide_eq_true h2, of_decide_eq_true h3, of_decide_eq_true h4, h5⟩
  split at h1
  · rename_i cl dd cd sl q
    obtain ⟨g1, g2⟩ := and4 h1
    split at g2
    · rename_i c1 bm k0 k1 k2 k3 nw k5 e1 e2
      obtain ⟨g2, g7⟩ := and4 g2
      obtain ⟨g2, g6⟩ := and4 g2
      obtain ⟨g2, g5⟩ := and4 g2
      obtain ⟨g3, g4⟩ := and4 g2
      obtain ⟨nm, bs, mro, ns, qn, hd, sn, sb, ab, co, dl⟩ := cd
      dsimp only at e1 g5 g6
      have z1 := of_decide_eq_true g1
      have z2 := of_decide_eq_true g3
      have z3 := of_decide_eq_true g4
      subst z1 z2 z3 e1 g5
      have g6' : dl = false := by simpa using g6
      subst g6'
      have e3 : sl = #[k0, k1, k2, k3, some (.builtin "ValueError.__new__"), k5] := by
        rw [← Array.toList_inj]
        exact e2
      subst e3
      exact ⟨nm, qn, ns, bs, bm, sn, sb, ab, co, dd, k0, k1, k2, k3, k5, q, g7⟩
    · cases g2
  · cases h1
def iB1 (st : Stmt) : Bool := match st with
  | .Expr e _ => (match e with
    | .Call fn args kws p4 => (match fn, args, kws with
      | .Attribute o nm p2, [ea], [] => (match o, ea with
        | .Call f2 a2 k2 _, .Name v _ => (match f2, a2, k2 with
          | .Name sp _, [], [] => decide (sp = ("super" : Str)) && decide (nm = ("__init__" : Str)) && decide (v = ("value" : Str)) && (p2.endLine == p4.line)
          | _, _, _ => false)
        | _, _ => false)
      | _, _, _ => false)
    | _ => false)
  | _ => false
theorem iB1_ok {st : Stmt} (h : iB1 st = true) : ∃ p0 p1 p2 p3 p4 p5, st = iS1 p0 p1 p2 p3 p4 p5 ∧ (p2.endLine == p4.line) = true := by
  unfold iB1 at h
  split at h
  · split at h
    · split at h
      · split at h
        · split at h
          · obtain ⟨h, h4⟩ := and4 h
            obtain ⟨h, h3⟩ := and4 h
            obtain ⟨h1, h2⟩ := and4 h
            have z1 := of_decide_eq_true h1
            have z2 := of_decide_eq_true h2
            have z3 := of_decide_eq_true h3
            subst z1 z2 z3
            exact ⟨_, _, _, _, _, _, rfl, h4⟩
          · cases h
        · cases h
      · cases h
    · cases h
  · cases h
def iB2 (st : Stmt) : Bool := match st with
  | .Assign tgs ev _ => (match tgs, ev with
    | [tg], .Name v _ => (match tg with
      | .Attribute o nm _ => (match o with
        | .Name sf _ => decide (sf = ("self" : Str)) && decide (nm = ("value" : Str)) && decide (v = ("value" : Str))
        | _ => false)
      | _ => false)
    | _, _ => false)
  | _ => false
theorem iB2_ok {st : Stmt} (h : iB2 st = true) : ∃ p6 p7 p8 p9, st = iS2 p6 p7 p8 p9 := by
  unfold iB2 at h
  split at h
  · split at h
    · split at h
      · split at h
        · obtain ⟨h, h3⟩ := and4 h
          obtain ⟨h1, h2⟩ := and4 h
          have z1 := of_decide_eq_true h1
          have z2 := of_decide_eq_true h2
          have z3 := of_decide_eq_true h3
          subst z1 z2 z3
          exact ⟨_, _, _, _, rfl⟩
        · cases h
      · cases h
    · cases h
  · cases h
def iPar (p : Arguments) : Bool := p.posonlyargs.isEmpty && p.vararg.isNone && p.kwonlyargs.isEmpty && p.kw_defaults.isEmpty && p.kwarg.isNone && decide (p.args.map (·.arg) = ssv)
/-- its __init__ -/
def iFd (P : Program) (K : PySem.W.Frag) (C : Addr) (fd : FuncData) : Bool := decide (fd.name = ("__init__" : Str)) && decide (fd.globals = mainGlobals) && decide (fd.builtins = builtinsNs) && iPar fd.params && (match fd.closure with
  | [(x, cc)] => decide (x = ("__class__" : Str)) && (match K.lookup cc with
    | some ⟨_, _, .cell (some u), _⟩ => decide (u = .ref C)
    | _ => false)
  | _ => false) && (match fd.defaults with
  | .ref T => (match K.lookup T with
    | some ⟨_, _, .seq its _, _⟩ => decide (its.size = 1)
    | _ => false)
  | _ => false) && (match fd.code with
  | .ref cda => PySem.W.codeIn K (.ref cda) fd.qualname && (match K.lookup cda with
    | some ⟨_, _, .fields vs, _⟩ => (match (vs[2]? : Option Value) with
      | some (.str file _) => (P.main.file : Str) == file
      | _ => false)
    | _ => false)
  | _ => false) && NdefX.nscB ["self", "value", "__class__"] ssv ["__class__"] fd.scope && decide (fd.scope.names.lookup ("super" : Str) = some .globalImplicit) && (match fd.body with
  | .stmts [s1, s2] => iB1 s1 && iB2 s2
  | _ => false)
def initB (P : Program) (K : PySem.W.Frag) (C : Addr) : Bool := oexB K C && decide (PySem.W.ks_superIn K C C "__init__" = some (some (.builtin "ValueError.__init__"))) && decide (PySem.W.subIn K (.ref C) (.type "ValueError") = some true) && decide (PySem.W.mroIn K C (.ref C) = some true) &&
  decide (PySem.W.nsIn K cStatics "thirdparty.any" = some none) && decide (PySem.W.nsIn K mainGlobals "super" = some none) && !(P.main.scope.names.lookup ("super" : Str)).isSome && (match PySem.W.findIn K (.ref C) "__init__" with
  | some (some (.ref f)) => decide (PySem.W.typeIn K (.ref f) = some (.type "function")) && (match K.lookup f with
    | some ⟨_, _, .func fd, _⟩ => iFd P K C fd
    | _ => false)
  | _ => false)
theorem initB_ok {P : Program} {K : PySem.W.Frag} {C : Addr} {h : Heap} {mg : Str → Option Value} (X : K.In h) (N : h.Ns mainGlobals mg) (no : PySem.W.findIn K (.ref C) "value" = some none) (q : initB P K C = true) :
    ∃ fI fd, InitF P K mg C fI fd ∧ PySem.W.findIn K (.ref C) "__init__" = some (some (.ref fI)) ∧ PySem.W.typeIn K (.ref fI) = some (.type "function") := by
  unfold initB at q
  obtain ⟨q, q8⟩ := and4 q
  obtain ⟨q, q7⟩ := and4 q
  obtain ⟨q, q6⟩ := and4 q
  obtain ⟨q, q5⟩ := and4 q
  obtain ⟨q, q4⟩ := and4 q
  obtain ⟨q, q3⟩ := and4 q
  obtain ⟨q1, q2⟩ := and4 q
  split at q8
  · rename_i f hf
    obtain ⟨q8, q9⟩ := and4 q8
    split at q9
    · rename_i oc od fd osl lk
      refine ⟨f, fd, ⟨oexB_ok q1, no, of_decide_eq_true q2, of_decide_eq_true q3, of_decide_eq_true q4, of_decide_eq_true q5, PySem.W.mg_none_of X N (of_decide_eq_true q6), by simpa using q7, ?_⟩, hf, of_decide_eq_true q8⟩
      unfold iFd at q9
      obtain ⟨w1, r10⟩ := and4 q9
      obtain ⟨w2, r9⟩ := and4 w1
      obtain ⟨w3, r8⟩ := and4 w2
      obtain ⟨w4, r7⟩ := and4 w3
      obtain ⟨w5, r6⟩ := and4 w4
      obtain ⟨w6, r5⟩ := and4 w5
      obtain ⟨w7, r4⟩ := and4 w6
      obtain ⟨w8, r3⟩ := and4 w7
      obtain ⟨r1, r2⟩ := and4 w8
      clear q9 w1 w2 w3 w4 w5 w6 w7 w8
      obtain ⟨name, qual, params, body, scope, globals, closure, dfl, kV, doc, pm, an, code, ct, bns⟩ := fd
      dsimp only at *
      have z1 := of_decide_eq_true r1
      have z2 := of_decide_eq_true r2
      have z3 := of_decide_eq_true r3
      subst z1 z2 z3
      split at r5
      · rename_i x cc
        obtain ⟨r5, r5'⟩ := and4 r5
        have z4 := of_decide_eq_true r5
        subst z4
        split at r5'
        · rename_i cl cld u csl lcc
          have z5 := of_decide_eq_true r5'
          subst z5
          split at r6
          · rename_i T
            split at r6
            · rename_i tc td its tn tsl lT
              split at r7
              · rename_i cda
                obtain ⟨r7, r7'⟩ := and4 r7
                split at r7'
                · rename_i ccl cdd vs ccs lcd
                  split at r7'
                  · rename_i file tf hvs
                    split at r10
                    · rename_i s1 s2
                      obtain ⟨t1, t2⟩ := and4 r10
                      obtain ⟨p0, p1, p2, p3, p4, p5, rfl, hl⟩ := iB1_ok t1
                      obtain ⟨p6, p7, p8, p9, rfl⟩ := iB2_ok t2
                      unfold iPar at r4
                      obtain ⟨r4, u6⟩ := and4 r4
                      obtain ⟨r4, u5⟩ := and4 r4
                      obtain ⟨r4, u4⟩ := and4 r4
                      obtain ⟨r4, u3⟩ := and4 r4
                      obtain ⟨u1, u2⟩ := and4 r4
                      obtain ⟨po, ar, va, ko, kd, ka, df⟩ := params
                      dsimp only at u1 u2 u3 u4 u5 u6
                      have v1 := List.isEmpty_iff.mp u1
                      have v2 := Option.isNone_iff_eq_none.mp u2
                      have v3 := List.isEmpty_iff.mp u3
                      have v4 := List.isEmpty_iff.mp u4
                      have v5 := Option.isNone_iff_eq_none.mp u5
                      subst v1 v2 v3 v4 v5
                      exact ⟨oc, od, osl, qual, _, scope, df, ar, T, cda, cc, kV, doc, pm, ct, an, p0, p1, p2, p3, p4, p5, p6, p7, p8, p9, rfl, lk, r7, ⟨ccl, cdd, vs, ccs, file, tf, lcd, hvs, r7'⟩, ⟨cl, cld, csl, lcc⟩, rfl, of_decide_eq_true u6,
                        ⟨_, its.toList, tn, lT, by simp, by simpa using of_decide_eq_true r6⟩, NdefX.nscope_by r8, of_decide_eq_true r9, hl⟩
                    · cases r10
                  · cases r7'
                · cases r7'
              · cases r7
            · cases r6
          · cases r6
        · cases r5'
      · cases r5
    · cases q9
  · cases q8
/-- where a global stands -/
def gaO (K : PySem.W.Frag) (x : Str) : Option Addr := match PySem.W.nsIn K mainGlobals x with
  | some (some (.ref a)) => some a
  | _ => none
def clsB (P : Program) (K : PySem.W.Frag) (p : Str × Bool) : Bool := match gaO K p.1 with
  | some C => xfB K C && decide (PySem.W.findIn K (.ref C) "value" = some none) && (!p.2 || initB P K C)
  | none => false
/-- which class is under which -/
def subsB (K : PySem.W.Frag) (cl : List (Str × Bool)) (subs : List (List Bool)) : Bool := (List.range cl.length).all fun i => (List.range cl.length).all fun j => (match cl[i]?, cl[j]?, (subs[i]?).bind (fun l => l[j]?) with
  | some (x, _), some (y, _), some b => (match gaO K x, gaO K y with
    | some C, some D => decide (PySem.W.exmOne K (.ref C) (.ref D) = some b)
    | _, _ => false)
  | _, _, _ => true)
def excB (P : Program) (K : PySem.W.Frag) (cl : List (Str × Bool)) (subs : List (List Bool)) (fs : List Str) : Bool := cl.all (clsB P K) && subsB K cl subs && fs.all fun x => (gaO K x).isSome
def cellsZ (g : Addr → Option Obj) (as : List Addr) : List Addr := as.flatMap fun a => match g a with
  | some ⟨_, _, .func fd, _⟩ => fd.closure.map (·.2)
  | _ => []
def frZ (g : Addr → Option Obj) (n : Nat) : PySem.W.Frag := He.frG g (He.asD g n ++ [sysModules, cStatics] ++ cellsZ g (He.asD g n))
/-- the head's look: the defs, the facts, the constants, the names that are free -/
def obsZ (P : Program) (cl : List (Str × Bool)) (subs : List (List Bool)) (fs : List Str) (n : Nat) (fa : List He.Fa) (fn : List He.DefD) (cs : List (Str × D)) (g : Addr → Option Obj) : He.AlD × Bool :=
  (He.obsD fa fn (frZ g n), (cs.all (conB (frZ g n)) && sysB (frZ g n)) && excB P (frZ g n) cl subs fs)
def hookZ (P : Program) (cl : List (Str × Bool)) (subs : List (List Bool)) (fs : List Str) (n : Nat) (fa : List He.Fa) (fn : List He.DefD) (cs : List (Str × D)) : PySem.W.Hook where
  α := He.AlD × Bool
  obs := fun s => obsZ P cl subs fs n fa fn cs s.heap.get?
  val := fun _ => (He.valD fn, true)
  says := fun _ h => ∃ K : PySem.W.Frag, K.In h ∧ He.SaysD fa fn K ∧ ((cs.all (conB K) && sysB K) && excB P K cl subs fs) = true
  of := fun _ s e => ⟨_, He.frG_in, congrArg (fun z : He.AlD × Bool => z.1) e, congrArg (fun z : He.AlD × Bool => z.2) e⟩
  keeps := fun _ _ _ ⟨K, hK, c⟩ k => ⟨K, PySem.W.Frag.In.keeps hK k, c⟩
theorem obsZ_eq {P : Program} {cl : List (Str × Bool)} {subs : List (List Bool)} {fs : List Str} {n : Nat} {fa : List He.Fa} {fn : List He.DefD} {cs : List (Str × D)} {g : Addr → Option Obj} {s : Shared} (h : ∀ a, g a = s.heap.get? a) : obsZ P cl subs fs n fa fn cs g = (hookZ P cl subs fs n fa fn cs).obs s := by
  have e : g = s.heap.get? := funext h
  rw [e] <;> rfl
end Z
end

section
set_option Elab.async false
set_option autoImplicit false
set_option linter.all false
set_option maxRecDepth 100000
set_option maxHeartbeats 2000000
/-! The law's own call. -/
namespace Z
open PySem PySem.Spec PyProof.Rows L2

/-- a caller outside, the script alone known -/
theorem enterG {P : Program} {w : World} {E : En} {mg mb : Str → Option Value} {k : Nat} {fa a : Addr} {fd : FuncData} {x : Str} {c : List D → Mu → RE} {t : Shared} {H : Hp} {so : Obj} {ns : List Int} {o : Bool} {μ' : Mu}
    (inK : E.K.In t.heap) (nm : t.heap.Ns mainGlobals mg) (nb : t.heap.Ns builtinsNs mb) (bb : ∀ y : Str, y ≠ "__name__" → mb y = bootBuiltins y) (lim : t.heap.NoLimit) (gen : t.gens = #[]) (room : Room k callerA)
    (F : ∀ base : Heap, E.K.In base → base.Ns mainGlobals mg → FnG P w E.K mg base CX0 k fa fd [x] (spC E c)) (bind : ∀ (s : Shared) (u : Value), BindsTo s fd ⟨[u], []⟩ [(x, u)])
    (at_ : t.heap.get? a = some so) (nd : ∀ es ep, so.data ≠ .dict es ep) (ok : HOk P w H t.heap) (only : ∀ b u, H b = some u → b = a ∧ E.K.lookup a = none ∧ ∃ xs, u = .frz so (.lst xs))
    (rp : Rep E [] H (fun _ => False) (.ref a) (.lst (ns.map .int))) (ans : c [.lst (ns.map .int)] [] = some (.bl true, o, μ')) :
    codeAny (model P w) callerA (.call (.ref fa) ⟨[.ref a], []⟩) (fun r s' => r = .ok (.ret (.bool true)) ∧ OldK t.heap s'.heap ∧ s'.os = t.os ∧ AllBare s'.gens) t := by
  have free : ∀ {b : Addr} {ob : Obj}, t.heap.get? b = some ob → (b = a → E.K.lookup a ≠ none ∨ ∃ es ep, ob.data = .dict es ep) → H b = none := fun {b ob} g z => by
    cases hb : H b with
    | none => rfl
    | some u =>
      obtain ⟨rfl, h2, _⟩ := only b u hb
      rcases z rfl with z | ⟨es, ep, z⟩
      · exact absurd h2 z
      · rw [at_] at g
        cases g
        exact absurd z (nd es ep)
  have ns1 : ∀ {b : Addr} {m : Str → Option Value}, t.heap.Ns b m → (hidT t.heap H).Ns b m := fun {b m} z => by
    obtain ⟨ob, es, ep, g, gd, rest⟩ := z
    exact ⟨ob, es, ep, hidT_get g (free g fun _ => .inr ⟨es, ep, gd⟩), gd, rest⟩
  have inB : E.K.In (hidT t.heap H) := fun b ob g => hidT_get (inK b ob g) (free (inK b ob g) fun z => .inl (by rw [← z, g]; simp))
  obtain ⟨mc, l1, l2⟩ := lim
  have en : Env0 P w E.K mg (hidT t.heap H) callerA [] t H := by
    refine ⟨rfl, ⟨inB, ns1 nm, ⟨mb, ns1 nb, bb⟩, ⟨mc, ns1 l1, l2⟩⟩, fun b ob g => of_hidT g, ?_, True.intro, fun b m => ?_, ok, AllBare.of_eq gen⟩
    · rw [hidT_size]
      exact Nat.le_refl _
    · cases m
  have c0 : CRel E [] (fun _ => False) H [] := by
    refine ⟨List.nodup_nil, fun b m => ?_, fun b z => z.elim, rfl, fun n b ds h => ?_⟩
    · cases m
    · cases h
  have pr : spC E c [.ref a] H (fun v _ => v = .bl true) E0 := by
    refine ⟨[], _, [], _, _, o, μ', c0, .cons rp .nil, ans, fun v H' As' bad' cc xx r => repO_bl r⟩
  have go := (F _ inB (ns1 nm)).run callerA [] t H ⟨[.ref a], []⟩ [.ref a] [.ref a] _ _ room rfl en (bind t (.ref a)) (.cons rfl .nil) pr
  refine codeAny_mono go fun r s' q => ?_
  cases r with
  | error e => exact False.elim q
  | ok fl => cases fl with
    | ret u =>
      obtain ⟨v, H', h1, h2, h3, h4, h5, h6⟩ := q
      have h6' : v = .bl true := h6
      subst h6'
      have h5' : u = .bool true := h5
      subst h5'
      refine ⟨rfl, OldK.of_keep fun b ob g => ?_, h1, h2⟩
      cases hb : H b with
      | none => exact h3.keep b ob g hb (fun m => nomatch m) (fun m => nomatch m)
      | some u =>
        obtain ⟨rfl, _, xs, rfl⟩ := only b u hb
        obtain ⟨g1, _⟩ := ok b _ hb
        obtain ⟨g2, _⟩ := h4 b _ (h3.frzs b so _ hb)
        rw [g] at g1
        cases g1
        exact g2
    | next => exact False.elim q
    | brk => exact False.elim q
    | cont => exact False.elim q
theorem ints_reps {E : En} {As : List Addr} {H : Hp} {bad : Addr → Prop} : ∀ ns : List Int, Reps E As H bad (ns.map V.int) (ns.map D.int)
  | [] => .nil
  | i :: ns => .cons (.int i) (ints_reps ns)
/-- one thing alone -/
def oneH (a : Addr) (o : Obj) (vs : List V) : Hp := fun b => if b = a then some (.frz o (.lst vs)) else none
theorem oneH_at {a : Addr} {o : Obj} {vs : List V} : oneH a o vs a = some (.frz o (.lst vs)) := if_pos rfl
theorem oneH_of {a b : Addr} {o : Obj} {vs : List V} {u : HO} (h : oneH a o vs b = some u) : b = a ∧ u = .frz o (.lst vs) := by
  unfold oneH at h
  split at h
  · cases h
    exact ⟨by assumption, rfl⟩
  · cases h
/-- the walk of a law whose def is a term -/
theorem walkG {l : PySem.W.OpenLaw} {n k : Nat} {q : Program} {loose : List Str} {XP : (Str → Option Value) → Heap → Prop} {YP : World → Heap → Prop} {d : DefRec} {x : Str}
    (hn : l.most = some n) (hn2 : n ≤ sizeLine) (hdf : d.params.defaults = []) (room : Room k callerA)
    (F : ∀ (w : World) (mg : Str → Option Value) (fa : Addr) (h : Heap), YP w h → h.Ns mainGlobals mg → mg d.name = some (.ref fa) →
      ∃ (E : En) (fd : FuncData) (c : List D → Mu → RE), E.K.In h ∧ (∀ (s : Shared) (u : Value), BindsTo s fd ⟨[u], []⟩ [(x, u)]) ∧
        (∀ ns : List Int, ns.length ≤ n → (∀ z ∈ ns, Builtin.Int.intBits z ≤ 1048576) → ∃ o μ', c [.lst (ns.map .int)] [] = some (.bl true, o, μ')) ∧
        ∀ base : Heap, E.K.In base → base.Ns mainGlobals mg → FnG l.prog w E.K mg base CX0 k fa fd [x] (spC E c)) :
    PySem.W.WalkO q loose XP YP l.row.toRowW d [] (fun f vs => PySem.call f vs) := by
  refine Att.attach_callB hn hdf fun w s0 t mg mb fa fo pm cd doc a us ns G Y _ _ _ hm at_ iis hl bits gen => ?_
  obtain ⟨E, fd, c, inK, bind, ans, FF⟩ := F w mg fa _ Y G.T.g hm
  obtain ⟨o, μ', an⟩ := ans ns hl bits
  have rv := vals_ints iis
  have len := iis.length
  have hz : ns.length ≤ sizeLine := Nat.le_trans hl hn2
  have nod : ∀ es ep, ({ cls := .type "list", data := .seq us.toArray } : Obj).data ≠ .dict es ep := fun es ep z => by cases z
  cases hk : E.K.lookup a with
  | some so =>
    have e := inK a so hk
    rw [at_] at e
    cases e
    refine enterG (H := fun _ => none) inK G.T.g G.T.b G.T.builtins G.T.nolimit gen room FF bind at_ nod (fun b u z => nomatch z) (fun b u z => nomatch z) (.lstK (vs := ns.map V.int) ⟨us, _, hk, ?_, rv⟩ (ints_reps ns)) an
    rw [len]
    exact hz
  | none =>
    refine enterG (H := oneH a { cls := .type "list", data := .seq us.toArray } (ns.map V.int)) inK G.T.g G.T.b G.T.builtins G.T.nolimit gen room FF bind at_ nod (fun b u z => ?_) (fun b u z => ?_) (.lst (vs := ns.map V.int) (.inr ⟨_, oneH_at⟩) (fun z => z) (ints_reps ns)) an
    · obtain ⟨rfl, rfl⟩ := oneH_of z
      exact ⟨at_, by rw [List.length_map]; exact hz, us, _, rv, at_⟩
    · obtain ⟨rfl, rfl⟩ := oneH_of z
      exact ⟨rfl, hk, _, rfl⟩
end Z
end

section
set_option Elab.async false
set_option autoImplicit false
set_option linter.all false
set_option maxRecDepth 100000
set_option maxHeartbeats 2000000
/-! Plain parameters; all that a law's row is asked. -/
namespace Z
open PySem PySem.Spec PyProof.Rows L2

/-- parameters without more -/
def argB (p : Arguments) (ps : List Str) : Bool := p.posonlyargs.isEmpty && p.vararg.isNone && p.kwonlyargs.isEmpty && p.kwarg.isNone && p.defaults.isEmpty && decide (p.args.map (·.arg) = ps) && decide ps.Nodup
theorem fm_congr {α β : Type} {f g : α → Option β} : ∀ {l : List α}, (∀ x ∈ l, f x = g x) → l.filterMap f = l.filterMap g
  | [], _ => rfl
  | x :: l, h => by
    rw [List.filterMap_cons, List.filterMap_cons, h x (List.mem_cons_self), fm_congr fun y hy => h y (List.mem_cons_of_mem _ hy)]
theorem look_zip {ps : List Str} (nd : ps.Nodup) : ∀ {us : List Value}, us.length = ps.length → ps.filterMap (fun n => ((ps.zip us).lookup n).map (n, ·)) = ps.zip us := by
  induction ps with
  | nil =>
    intro us h
    rfl
  | cons p ps ih =>
    intro us h
    cases us with
    | nil => cases h
    | cons u us =>
      obtain ⟨h1, h2⟩ := List.nodup_cons.mp nd
      have hl : us.length = ps.length := by simpa using h
      rw [List.filterMap_cons]
      have e1 : ((p :: ps).zip (u :: us)).lookup p = some u := by
        rw [List.zip_cons_cons, List.lookup_cons]
        simp
      rw [e1]
      show (p, u) :: ps.filterMap _ = (p, u) :: ps.zip us
      congr 1
      rw [← ih h2 hl]
      apply fm_congr
      intro n hn
      have hne : (n == p) = false := by
        apply beq_eq_false_iff_ne.mpr
        intro e
        exact h1 (e ▸ hn)
      rw [List.zip_cons_cons, List.lookup_cons, hne]
theorem look_some {ps : List Str} : ∀ {us : List Value}, us.length = ps.length → ∀ n ∈ ps, ((ps.zip us).lookup n).isNone = false := by
  induction ps with
  | nil =>
    intro us h n hn
    cases hn
  | cons p ps ih =>
    intro us h n hn
    cases us with
    | nil => cases h
    | cons u us =>
      rw [List.zip_cons_cons, List.lookup_cons]
      cases q : n == p with
      | true => rfl
      | false =>
        rcases List.mem_cons.mp hn with rfl | hn
        · simp at q
        · exact ih (by simpa using h) n hn
theorem bind_plain {x qual : Str} {p : Arguments} {body : List Stmt} {scope : Scope} {ps : List Str} {kV doc pm : Value} {an : Option Addr} {cdv ct : Value} {us : List Value} (h : argB p ps = true) (hl : us.length = ps.length) :
    bindArgs (PySem.W.fnOf x qual p body scope .none kV doc pm an cdv ct) ⟨us, []⟩ = pure (ps.zip us) := by
  unfold argB at h
  obtain ⟨h, h7⟩ := and4 h
  obtain ⟨h, h6⟩ := and4 h
  obtain ⟨h, h5⟩ := and4 h
  obtain ⟨h, h4⟩ := and4 h
  obtain ⟨h, h3⟩ := and4 h
  obtain ⟨h1, h2⟩ := and4 h
  obtain ⟨po, ar, va, ko, kd, ka, df⟩ := p
  cases po with
  | cons _ _ => cases h1
  | nil =>
  cases va with
  | some _ => cases h2
  | none =>
  cases ko with
  | cons _ _ => cases h3
  | nil =>
  cases ka with
  | some _ => cases h4
  | none =>
  have e6 : ar.map (·.arg) = ps := of_decide_eq_true h6
  have nd : ps.Nodup := of_decide_eq_true h7
  have hm : (ps.take ps.length).filter (fun n => ((ps.zip us).lookup n).isNone) = [] := by
    rw [List.filter_eq_nil_iff]
    intro n hn
    rw [look_some hl n (List.mem_of_mem_take hn)]
    decide
  have hz := look_zip nd hl
  have hs : seqItems? Value.none = pure none := rfl
  have hgt : ¬ us.length > ps.length := by omega
  unfold bindArgs
  simp only [PySem.W.fnOf, List.map_nil, List.nil_append, e6, hs, List.forIn_nil, pure_bind, Option.getD_none, List.append_nil, List.length_nil, Nat.zero_sub, List.drop_zero, Nat.sub_zero, List.drop_length, List.zip_nil_left, List.zip_nil_right, hm, List.isEmpty_nil, Bool.not_true, hgt, decide_false, Bool.false_and, Bool.false_eq_true, if_false, hz]
theorem lk_nth {α : Type} {xs : List Str} {ys : List α} (nd : xs.Nodup) : ∀ {i : Nat} {x : Str} {y : α}, xs[i]? = some x → ys[i]? = some y → (xs.zip ys).lookup x = some y := by
  induction xs generalizing ys with
  | nil => intro i x y h; cases h
  | cons a xs ih =>
    intro i x y h1 h2
    obtain ⟨n1, n2⟩ := List.nodup_cons.mp nd
    cases ys with
    | nil => cases h2
    | cons b ys =>
      rw [List.zip_cons_cons, List.lookup_cons]
      cases i with
      | zero =>
        cases h1
        cases h2
        simp
      | succ i =>
        have h1' : xs[i]? = some x := by simpa using h1
        have hne : (x == a) = false := by
          apply beq_eq_false_iff_ne.mpr
          intro e
          exact n1 (e ▸ List.mem_of_getElem? h1')
        rw [hne]
        exact ih n2 h1' (by simpa using h2)
theorem lk_none {α : Type} {x : Str} : ∀ {xs : List Str} {ys : List α}, x ∉ xs → (xs.zip ys).lookup x = none
  | [], _, _ => rfl
  | _ :: _, [], _ => rfl
  | a :: xs, b :: ys, h => by
    rw [List.zip_cons_cons, List.lookup_cons]
    have hne : (x == a) = false := by
      apply beq_eq_false_iff_ne.mpr
      intro e
      exact h (e ▸ List.mem_cons_self)
    rw [hne]
    exact lk_none fun m => h (List.mem_cons_of_mem _ m)
theorem pm_get {α : Type} {ws : List α} : ∀ {pm : List Nat}, (∀ i ∈ pm, i < ws.length) → ∀ j : Nat, (pmL pm ws)[j]? = pm[j]?.bind (ws[·]?)
  | [], _, j => rfl
  | i :: pm, h, j => by
    have hi := h i List.mem_cons_self
    have e : pmL (i :: pm) ws = ws[i] :: pmL pm ws := by
      unfold pmL
      rw [List.filterMap_cons, List.getElem?_eq_getElem hi]
    rw [e]
    cases j with
    | zero => show some _ = _; rw [List.getElem?_cons_zero]; show some _ = ws[i]?; rw [List.getElem?_eq_getElem hi]
    | succ j => rw [List.getElem?_cons_succ, List.getElem?_cons_succ]; exact pm_get (fun i hi => h i (List.mem_cons_of_mem _ hi)) j
theorem lk_first {α : Type} {ps : List Str} {n i : Nat} {x : Str} {us : List α} (nd : ps.Nodup) (l1 : us.length = n) (hin : n ≤ i) (hi : ps[i]? = some x) : (ps.zip us).lookup x = none := by
  cases q : (ps.zip us).lookup x with
  | none => rfl
  | some u =>
    exfalso
    have hm : (x, u) ∈ ps.zip us := by
      clear hi nd l1 hin
      induction ps generalizing us with
      | nil => cases q
      | cons p ps ih =>
        cases us with
        | nil => cases q
        | cons v us =>
          rw [List.zip_cons_cons, List.lookup_cons] at q
          rw [List.zip_cons_cons]
          cases e : x == p with
          | true =>
            rw [e] at q
            cases q
            rw [eq_of_beq e]
            exact List.mem_cons_self
          | false =>
            rw [e] at q
            exact List.mem_cons_of_mem _ (ih q)
    obtain ⟨j, hj⟩ := List.mem_iff_getElem?.mp hm
    obtain ⟨a1, a2⟩ := List.getElem?_zip_eq_some.mp hj
    obtain ⟨b1, b2⟩ := List.getElem?_eq_some_iff.mp a1
    obtain ⟨c1, c2⟩ := List.getElem?_eq_some_iff.mp hi
    have := (List.getElem_inj nd).mp (b2.trans c2.symm)
    have := (List.getElem?_eq_some_iff.mp a2).1
    omega
theorem pm_len {α : Type} {ws : List α} : ∀ {pm : List Nat}, (∀ i ∈ pm, i < ws.length) → (pmL pm ws).length = pm.length
  | [], _ => rfl
  | i :: pm, h => by
    unfold pmL
    rw [List.filterMap_cons, List.getElem?_eq_getElem (h i List.mem_cons_self)]
    show (pmL pm ws).length + 1 = pm.length + 1
    rw [pm_len fun i hi => h i (List.mem_cons_of_mem _ hi)]
theorem kw_look {ps ks : List Str} {n : Nat} {pm : List Nat} {us ws : List Value} (nd : ps.Nodup) (h : kwB ps n ks pm = true) (l1 : us.length = n) (l2 : ws.length = ks.length) : ∀ x ∈ ps, (ps.zip us ++ ks.zip ws).lookup x = (ps.zip (us ++ pmL pm ws)).lookup x := by
  unfold kwB at h
  obtain ⟨h, h5⟩ := and4 h
  obtain ⟨h, h4⟩ := and4 h
  obtain ⟨h, h3⟩ := and4 h
  obtain ⟨h1, h2⟩ := and4 h
  have h1' : ks.Nodup := of_decide_eq_true h1
  have h2' : n ≤ ps.length := of_decide_eq_true h2
  have h3' : ps.drop n = pmL pm ks := of_decide_eq_true h3
  have h4' : ∀ i ∈ pm, i < ks.length := fun i hi => of_decide_eq_true (List.all_eq_true.mp h4 i hi)
  intro x hx
  obtain ⟨i, hi⟩ := List.mem_iff_getElem?.mp hx
  rw [List.lookup_append]
  by_cases hin : i < n
  · have hu : us[i]? = some us[i] := List.getElem?_eq_getElem (by omega)
    rw [lk_nth nd hi hu, lk_nth nd hi (y := us[i]) (by rw [List.getElem?_append_left (by omega)]; exact hu)]
    rfl
  · have hd : (ps.drop n)[i - n]? = some x := by
      rw [List.getElem?_drop]
      rw [show n + (i - n) = i by omega]
      exact hi
    have hno : (ps.zip us).lookup x = none := lk_first nd l1 (by omega) hi
    rw [hno, Option.none_or]
    rw [h3', pm_get h4'] at hd
    cases hp : pm[i - n]? with
    | none =>
      rw [hp] at hd
      cases hd
    | some j =>
      rw [hp] at hd
      have hd' : ks[j]? = some x := hd
      have hj : j < ws.length := by
        have := (List.getElem?_eq_some_iff.mp hd').1
        omega
      have hw : ws[j]? = some ws[j] := List.getElem?_eq_getElem hj
      rw [lk_nth h1' hd' hw, lk_nth nd hi (y := ws[j])]
      rw [List.getElem?_append_right (by omega), l1, pm_get (by rw [l2]; exact h4'), hp]
      exact hw
theorem forIn_inv {α β : Type} {F : α → β → Sem (ForInStep β)} (g : β → α → β) (P : List α → β → Prop) (step : ∀ a l b, P (a :: l) b → F a b = pure (.yield (g b a)) ∧ P l (g b a)) : ∀ l b, P l b → forIn l b F = pure (l.foldl g b)
  | [], b, _ => rfl
  | a :: l, b, h => by
    obtain ⟨h1, h2⟩ := step a l b h
    rw [List.forIn_cons, h1, pure_bind]
    exact forIn_inv g P step l _ h2
theorem bindsK {K : PySem.W.Frag} {x qual : Str} {params : Arguments} {body : List Stmt} {scope : Scope} {kws : List (Str × V)} {f : Addr} {fd : FuncData} {us : List Value} {kw binds : List (Str × Value)} (F : FunD K x qual params body scope [] kws f fd)
    (h : ∀ (kV doc pm : Value) (an : Option Addr) (cdv ct : Value), bindArgs (PySem.W.fnOf x qual params body scope .none kV doc pm an cdv ct) ⟨us, kw⟩ = pure binds) (s : Shared) : BindsTo s fd ⟨us, kw⟩ binds := by
  obtain ⟨oc, od, dV, kV, doc, pm, an, cdv, ct, osl, rfl, lk, hcd, hD, hK⟩ := F.ex
  rcases hD with ⟨_, rfl⟩ | ⟨e, _⟩
  · exact .of_eq (h kV doc pm an cdv ct)
  · exact absurd rfl e
theorem bind_kw {x qual : Str} {p : Arguments} {body : List Stmt} {scope : Scope} {ps ks : List Str} {kV doc pm' : Value} {an : Option Addr} {cdv ct : Value} {us ws : List Value} {n : Nat} {pm : List Nat} (h : argB p ps = true) (hk : kwB ps n ks pm = true) (l1 : us.length = n) (l2 : ws.length = ks.length) :
    bindArgs (PySem.W.fnOf x qual p body scope .none kV doc pm' an cdv ct) ⟨us, ks.zip ws⟩ = pure (ps.zip (us ++ pmL pm ws)) := by
  unfold argB at h
  obtain ⟨h, h7⟩ := and4 h
  obtain ⟨h, h6⟩ := and4 h
  obtain ⟨h, h5⟩ := and4 h
  obtain ⟨h, h4⟩ := and4 h
  obtain ⟨h, h3⟩ := and4 h
  obtain ⟨h1, h2⟩ := and4 h
  obtain ⟨po, ar, va, ko, kd, ka, df⟩ := p
  cases po with
  | cons _ _ => cases h1
  | nil =>
  cases va with
  | some _ => cases h2
  | none =>
  cases ko with
  | cons _ _ => cases h3
  | nil =>
  cases ka with
  | some _ => cases h4
  | none =>
  have e6 : ar.map (·.arg) = ps := of_decide_eq_true h6
  have nd : ps.Nodup := of_decide_eq_true h7
  have lk := kw_look nd hk l1 l2
  unfold kwB at hk
  obtain ⟨hk, k5⟩ := and4 hk
  obtain ⟨hk, k4⟩ := and4 hk
  obtain ⟨hk, k3⟩ := and4 hk
  obtain ⟨k1, k2⟩ := and4 hk
  have k2' : n ≤ ps.length := of_decide_eq_true k2
  have k3' : ps.drop n = pmL pm ks := of_decide_eq_true k3
  have hlp : (pmL pm ws).length = ps.length - n := by
    have e : ∀ {α : Type} {zs : List α}, zs.length = ks.length → (pmL pm zs).length = pm.length := fun {α zs} hz => pm_len fun i hi => by rw [hz]; exact of_decide_eq_true (List.all_eq_true.mp k4 i hi)
    rw [e l2, ← e rfl, ← k3', List.length_drop]
  have hl : (us ++ pmL pm ws).length = ps.length := by
    rw [List.length_append, hlp, l1]
    omega
  have hm : (ps.take ps.length).filter (fun n => ((ps.zip us ++ ks.zip ws).lookup n).isNone) = [] := by
    rw [List.filter_eq_nil_iff]
    intro x hx
    have hx' := List.mem_of_mem_take hx
    rw [lk x hx', look_some hl x hx']
    decide
  have hz : ps.filterMap (fun n => ((ps.zip us ++ ks.zip ws).lookup n).map (n, ·)) = ps.zip (us ++ pmL pm ws) := by
    rw [← look_zip nd hl]
    apply fm_congr
    intro x hx
    rw [lk x hx]
  have hs : seqItems? Value.none = pure none := rfl
  have hgt : ¬ us.length > ps.length := by omega
  unfold bindArgs
  simp only [PySem.W.fnOf, List.map_nil, List.nil_append, e6, hs, List.forIn_nil, pure_bind, Option.getD_none, List.append_nil, List.length_nil, Nat.zero_sub, List.drop_zero, Nat.sub_zero, List.drop_length, List.zip_nil_left, List.zip_nil_right, hgt, decide_false, Bool.false_and, Bool.false_eq_true, if_false]
  have hP : (fun (l : List (Str × Value)) (b : List (Str × Value) × List (Str × Value)) => (l.map (·.1)).Nodup ∧ ∀ kv ∈ l, ps.contains kv.1 = true ∧ b.1.lookup kv.1 = none) (ks.zip ws) (ps.zip us, []) := by
    have hkeys : (ks.zip ws).map (·.1) = ks := by
      have : (ks.zip ws).map Prod.fst = ks := List.map_fst_zip (by omega)
      exact this
    refine ⟨by rw [hkeys]; exact of_decide_eq_true k1, fun kv hkv => ?_⟩
    have hmem : kv.1 ∈ ks := by
      rw [← hkeys]
      exact List.mem_map_of_mem hkv
    have hd : kv.1 ∈ ps.drop n := by
      have := List.all_eq_true.mp k5 _ hmem
      simpa using this
    refine ⟨by simpa using List.mem_of_mem_drop hd, ?_⟩
    obtain ⟨j, hj⟩ := List.mem_iff_getElem?.mp hd
    rw [List.getElem?_drop] at hj
    exact lk_first nd l1 (by omega : n ≤ n + j) hj
  rw [forIn_inv (g := fun b kv => (b.1 ++ [kv], b.2)) (P := fun l b => (l.map (·.1)).Nodup ∧ ∀ kv ∈ l, ps.contains kv.1 = true ∧ b.1.lookup kv.1 = none) (fun a l b h => ?_) _ _ hP]
  · have fl : ∀ (l : List (Str × Value)) (b : List (Str × Value) × List (Str × Value)), l.foldl (fun b kv => (b.1 ++ [kv], b.2)) b = (b.1 ++ l, b.2) := by
      intro l
      induction l with
      | nil => intro b; rw [List.append_nil]; rfl
      | cons a l ih => intro b; rw [List.foldl_cons, ih, List.append_assoc]; rfl
    rw [fl, pure_bind]
    simp only [hm, List.isEmpty_nil, Bool.not_true, Bool.false_eq_true, if_false, hz]
  · obtain ⟨h8, h9⟩ := h
    obtain ⟨g1, g2⟩ := h9 a List.mem_cons_self
    rw [List.map_cons] at h8
    obtain ⟨n1, n2⟩ := List.nodup_cons.mp h8
    refine ⟨?_, n2, fun kv hkv => ⟨(h9 kv (List.mem_cons_of_mem _ hkv)).1, ?_⟩⟩
    · rw [g1, g2]
      rfl
    · show (b.1 ++ [a]).lookup kv.1 = none
      rw [List.lookup_append, (h9 kv (List.mem_cons_of_mem _ hkv)).2, Option.none_or]
      obtain ⟨a1, a2⟩ := a
      have hne : (kv.1 == a1) = false := by
        apply beq_eq_false_iff_ne.mpr
        intro e
        have hm : kv.1 ∈ l.map (·.1) := List.mem_map_of_mem hkv
        rw [e] at hm
        exact n1 hm
      rw [List.lookup_cons, hne]
      rfl
def scB (N P : List Str) (sc : Scope) : Bool := (match sc.kind with
  | .function => true
  | _ => false) && !sc.isCoroutine && !sc.isGenerator && decide N.Nodup && decide (N.take P.length = P) && (P.all fun x => match sc.names.lookup x with
  | some .local => true
  | some .cell => true
  | _ => false) && (sc.names.all fun y => match y.2 with
  | .free => false
  | _ => true)
theorem scB_ok {N P : List Str} {sc : Scope} (h : scB N P sc = true) : FnScope N P sc := by
  unfold scB at h
  obtain ⟨h, h7⟩ := and4 h
  obtain ⟨h, h6⟩ := and4 h
  obtain ⟨h, h5⟩ := and4 h
  obtain ⟨h, h4⟩ := and4 h
  obtain ⟨h, h3⟩ := and4 h
  obtain ⟨h1, h2⟩ := and4 h
  refine ⟨?_, by simpa using h2, by simpa using h3, of_decide_eq_true h4, of_decide_eq_true h5, fun x hx => ?_, fun y hy e => ?_⟩
  · split at h1
    · assumption
    · cases h1
  · have q := List.all_eq_true.mp h6 x hx
    split at q
    · exact .inl (by assumption)
    · exact .inr (by assumption)
    · cases q
  · have q := List.all_eq_true.mp h7 y hy
    rw [e] at q
    cases q
/-- a def's place in the text -/
def defOk (G : Pg) (F : Def) (d : He.DefD) : Bool := decide (d.at_ = (F.name, none)) && d.dfl.isEmpty && d.kwd.isEmpty && scB F.ns F.ps d.scope && argB d.params F.ps && mSs (G.sta F) F.body ⟨d.scope, none⟩ d.body
def allOk (G : Pg) : List Def → List He.DefD → Bool
  | [], [] => true
  | F :: fs, d :: ds => defOk G F d && allOk G fs ds
  | _, _ => false
theorem allOk_at {G : Pg} : ∀ {fs : List Def} {ds : List He.DefD} {i : Nat} {F : Def}, allOk G fs ds = true → fs[i]? = some F → ∃ d, ds[i]? = some d ∧ defOk G F d = true
  | [], _, i, F, _, h => by cases h
  | _ :: _, [], _, _, h, _ => by cases h
  | F :: fs, d :: ds, 0, _, h, e => by
    cases e
    exact ⟨d, rfl, (and4 h).1⟩
  | F :: fs, d :: ds, i + 1, F', h, e => by
    obtain ⟨d', h1, h2⟩ := allOk_at (i := i) (and4 h).2 (by simpa using e)
    exact ⟨d', by simpa using h1, h2⟩
/-- the facts that the head is asked: each def a global, each name that is asked for free -/
def facts (G : Pg) (bl : List Str) : List He.Fa := G.fs.map (fun F => He.Fa.glo F.name) ++ bl.map He.Fa.free
section
variable {P : Program} {w : World} {G : Pg} {T : Tab} {subs : List (List Bool)} {bl : List Str} {fn : List He.DefD} {cs : List (Str × D)} {K : PySem.W.Frag} {h : Heap} {mg : Str → Option Value}
theorem cs_get {i : Nat} {x : Str} (hx : (cs.map (·.1))[i]? = some x) : ∃ d, cs[i]? = some (x, d) := by
  rw [List.getElem?_map] at hx
  cases q : cs[i]? with
  | none =>
    rw [q] at hx
    cases hx
  | some p =>
    rw [q] at hx
    cases hx
    exact ⟨p.2, rfl⟩
/-- the classes and the defs by their places -/
def enZ (K : PySem.W.Frag) (G : Pg) : En := ⟨K, fun f => (G.fs[f]?).bind fun F => gaO K F.name, fun c => (G.cl[c]?).bind fun p => gaO K p.1⟩
theorem gaO_ok (X : K.In h) (N : h.Ns mainGlobals mg) {x : Str} {a : Addr} (q : gaO K x = some a) : mg x = some (.ref a) := by
  unfold gaO at q
  split at q
  · rename_i b hb
    cases q
    exact PySem.W.mg_of X N hb
  · cases q
theorem subsB_ok {cl : List (Str × Bool)} {c d : Nat} {b : Bool} {C D : Addr} (h : subsB K cl subs = true) (hC : ((cl[c]?).bind fun p => gaO K p.1) = some C) (hD : ((cl[d]?).bind fun p => gaO K p.1) = some D) (hs : ((subs[c]?).bind fun l => l[d]?) = some b) : PySem.W.exmOne K (.ref C) (.ref D) = some b := by
  cases q1 : cl[c]? with
  | none =>
    rw [q1] at hC
    cases hC
  | some p1 =>
    cases q2 : cl[d]? with
    | none =>
      rw [q2] at hD
      cases hD
    | some p2 =>
      obtain ⟨x, bx⟩ := p1
      obtain ⟨y, byy⟩ := p2
      rw [q1] at hC
      rw [q2] at hD
      have hC' : gaO K x = some C := hC
      have hD' : gaO K y = some D := hD
      unfold subsB at h
      have h1 := List.all_eq_true.mp h c (List.mem_range.mpr (List.getElem?_eq_some_iff.mp q1).1)
      have h2 := List.all_eq_true.mp h1 d (List.mem_range.mpr (List.getElem?_eq_some_iff.mp q2).1)
      rw [q1, q2, hs] at h2
      dsimp only at h2
      rw [hC', hD'] at h2
      exact of_decide_eq_true h2
/-- the module, from the head's look -/
theorem mod_of (X : K.In h) (N : h.Ns mainGlobals mg) (c : He.SaysD (facts G bl) fn K) (cc0 : ((cs.all (conB K) && sysB K) && excB P K G.cl subs (G.fs.map (·.name))) = true) (hG : G.cn = cs.map (·.1)) (hT : T.cons = cs.map (·.2)) (hS : T.subs = subs) (few : G.fs.length ≤ RB) (ok : allOk G G.fs fn = true) (hl : G.gl = bl) : ModOk P K (enZ K G) mg G T := by
  obtain ⟨cc0, ex0⟩ := and4 cc0
  obtain ⟨cc, cs0⟩ := and4 cc0
  unfold excB at ex0
  obtain ⟨ex0, ex3⟩ := and4 ex0
  obtain ⟨ex1, ex2⟩ := and4 ex0
  have clsAt : ∀ {c : Nat} {x : Str} {b : Bool}, G.cl[c]? = some (x, b) → ∃ C, gaO K x = some C ∧ XfC K C ∧ PySem.W.findIn K (.ref C) "value" = some none ∧ (b = true → initB P K C = true) := fun {c x b} hc => by
    have q := List.all_eq_true.mp ex1 _ (List.mem_of_getElem? hc)
    unfold clsB at q
    dsimp only at q
    split at q
    · rename_i C hg
      obtain ⟨q, q3⟩ := and4 q
      obtain ⟨q1, q2⟩ := and4 q
      exact ⟨C, hg, xfB_ok q1, of_decide_eq_true q2, fun z => by
        subst z
        simpa using q3⟩
    · cases q
  have eC : ∀ {c : Nat} {C : Addr}, (enZ K G).C c = some C → ∃ x b, G.cl[c]? = some (x, b) ∧ gaO K x = some C := fun {c C} hc => by
    have hc' : ((G.cl[c]?).bind fun p => gaO K p.1) = some C := hc
    cases q : G.cl[c]? with
    | none =>
      rw [q] at hc'
      cases hc'
    | some p =>
      rw [q] at hc'
      exact ⟨p.1, p.2, rfl, hc'⟩
  refine ⟨rfl, sysB_ok cs0, few, fun f F a hF hm => ?_, fun f a hf => ?_, fun c C hc => ?_, fun c x b hc => ?_, fun c d b C D hC hD hs => ?_, fun x hx => ?_, fun j x hx => ?_, fun i F hF => ?_⟩
  · have q := List.all_eq_true.mp ex3 F.name (List.mem_map.mpr ⟨F, List.mem_of_getElem? hF, rfl⟩)
    obtain ⟨b, hb⟩ := Option.isSome_iff_exists.mp q
    have z := gaO_ok X N hb
    rw [hm] at z
    cases z
    show ((G.fs[f]?).bind fun F => gaO K F.name) = some a
    rw [hF]
    exact hb
  · have hf' : ((G.fs[f]?).bind fun F => gaO K F.name) = some a := hf
    cases q : G.fs[f]? with
    | none =>
      rw [q] at hf'
      cases hf'
    | some F => exact ⟨F, rfl⟩
  · obtain ⟨x, b, h1, h2⟩ := eC hc
    obtain ⟨C', g1, g2, g3, _⟩ := clsAt h1
    rw [h2] at g1
    cases g1
    exact ⟨g2, g3⟩
  · obtain ⟨C, g1, g2, g3, g4⟩ := clsAt hc
    refine ⟨C, ?_, gaO_ok X N g1, fun z => initB_ok X N g3 (g4 z)⟩
    show ((G.cl[c]?).bind fun p => gaO K p.1) = some C
    rw [hc]
    exact g1
  · refine subsB_ok ex2 hC hD ?_
    rw [← hS]
    exact hs
  · rw [hl] at hx
    obtain ⟨i, hi⟩ := List.mem_iff_getElem?.mp hx
    refine He.free_ok X N (x := x) (He.SaysD.fact c (G.fs.length + i) ?_)
    unfold facts
    rw [List.getElem?_append_right (by rw [List.length_map]; omega), List.length_map, Nat.add_sub_cancel_left, List.getElem?_map, hi]
    rfl
  · rw [hG] at hx
    obtain ⟨d, hd⟩ := cs_get hx
    have q := List.all_eq_true.mp cc _ (List.mem_of_getElem? hd)
    unfold conB at q
    dsimp only at q
    split at q
    · rename_i u hu
      obtain ⟨v, r1, r2⟩ := repB_ok (E := enZ K G) q
      refine ⟨u, v, d, PySem.W.mg_of X N hu, r1, ?_, r2⟩
      rw [hT, List.getElem?_map, hd]
      rfl
    · cases q
  · obtain ⟨d, h1, h2⟩ := allOk_at ok hF
    unfold defOk at h2
    obtain ⟨h2, k6⟩ := and4 h2
    obtain ⟨h2, k5⟩ := and4 h2
    obtain ⟨h2, k4⟩ := and4 h2
    obtain ⟨h2, k3⟩ := and4 h2
    obtain ⟨k1, k2⟩ := and4 h2
    obtain ⟨fd, FD⟩ := He.SaysD.def_ c i h1
    have e1 : d.dvs K = [] := by
      unfold He.DefD.dvs
      rw [List.isEmpty_iff.mp k2]
      rfl
    have e2 : d.kws K = [] := by
      unfold He.DefD.kws
      rw [List.isEmpty_iff.mp k3]
      rfl
    rw [e1, e2] at FD
    have e3 : He.fAd K d.at_ = He.ga K F.name := by
      rw [of_decide_eq_true k1]
      rfl
    rw [e3] at FD
    have g := He.glo_ok X N (x := F.name) (He.SaysD.fact c i (by
      unfold facts
      rw [List.getElem?_append_left (by rw [List.length_map]; exact (List.getElem?_eq_some_iff.mp hF).1), List.getElem?_map, hF]
      rfl))
    exact ⟨He.ga K F.name, fd, ⟨d.name, d.qual, d.params, d.body, d.scope, FD, scB_ok k4, k6⟩, g, fun s us hl => FD.bindsA (fun _ _ _ _ _ _ us hl => bind_plain k5 hl) s us hl, fun n ks pm hk s us ws l1 l2 => bindsK FD (fun _ _ _ _ _ _ => bind_kw k5 hk l1 l2) s⟩
/-- the law's def, for walkG -/
theorem law_of {i k n : Nat} {F : Def} {x : Str} {fa : Addr} (X : K.In h) (N : h.Ns mainGlobals mg) (c : He.SaysD (facts G bl) fn K) (cc0 : ((cs.all (conB K) && sysB K) && excB P K G.cl subs (G.fs.map (·.name))) = true) (hG : G.cn = cs.map (·.1)) (hT : T.cons = cs.map (·.2)) (hS : T.subs = subs) (few : G.fs.length ≤ RB) (ok : allOk G G.fs fn = true) (hl : G.gl = bl)
    (hF : G.fs[i]? = some F) (hp : F.ps = [x]) (hm : mg F.name = some (.ref fa)) (ans : ∀ ns : List Int, ns.length ≤ n → (∀ z ∈ ns, Builtin.Int.intBits z ≤ 1048576) → ∃ o μ', dCall T G.fs k i [.lst (ns.map .int)] [] = some (.bl true, o, μ')) :
    ∃ (E : En) (fd : FuncData) (c : List D → Mu → RE), E.K.In h ∧ (∀ (s : Shared) (u : Value), BindsTo s fd ⟨[u], []⟩ [(x, u)]) ∧
        (∀ ns : List Int, ns.length ≤ n → (∀ z ∈ ns, Builtin.Int.intBits z ≤ 1048576) → ∃ o μ', c [.lst (ns.map .int)] [] = some (.bl true, o, μ')) ∧
        ∀ base : Heap, E.K.In base → base.Ns mainGlobals mg → FnG P w E.K mg base CX0 k fa fd [x] (spC E c) := by
  have M := mod_of (P := P) (T := T) (G := G) X N c cc0 hG hT hS few ok hl
  obtain ⟨a, fd, dk⟩ := M.fs i F hF
  have e := dk.mg.symm.trans hm
  cases e
  refine ⟨enZ K G, fd, dCall T G.fs k i, X, fun s u => ?_, ans, fun base _ _ => ?_⟩
  · have b := dk.bind s [u] (by rw [hp]; rfl)
    rw [hp] at b
    exact b
  · rw [← hp]
    exact lvl M k i F fa fd hF dk
end
end Z
end

section
set_option Elab.async false
set_option autoImplicit false
set_option linter.all false
set_option maxRecDepth 100000
set_option maxHeartbeats 1000000
/-! Terms worked out step by step: what follows a step is a named thing, and waits for the step. -/
namespace Z
open PySem
section
variable {α : Type}
def bR (r : RE) (k : D → Bool → Mu → Option α) : Option α := match r with
  | some (d, o, μ) => k d o μ
  | none => none
def bP (r : Option (D × Mu)) (k : D → Mu → Option α) : Option α := match r with
  | some (d, μ) => k d μ
  | none => none
def bL (r : Option (List D × Mu)) (k : List D → Mu → Option α) : Option α := match r with
  | some (d, μ) => k d μ
  | none => none
def bM (r : Option (List (D × Bool) × Mu)) (k : List (D × Bool) → Mu → Option α) : Option α := match r with
  | some (d, μ) => k d μ
  | none => none
def bZ (r : Option (D × Bool)) (k : D → Bool → Option α) : Option α := match r with
  | some (d, o) => k d o
  | none => none
def bB (r : RE) (k : Bool → Mu → Option α) : Option α := match r with
  | some (.bl b, _, μ) => k b μ
  | _ => none
def bI (r : RE) (k : Int → Mu → Option α) : Option α := match r with
  | some (.int i, _, μ) => k i μ
  | _ => none
def bO (r : Option (Option Int × Mu)) (k : Option Int → Mu → Option α) : Option α := match r with
  | some (d, μ) => k d μ
  | none => none
def bG {β : Type} (r : Option β) (k : β → Option α) : Option α := match r with
  | some b => k b
  | none => none
def bS (r : Option SR) (k : Rho → Mu → Option SR) : Option SR := match r with
  | some (.nx ρ μ) => k ρ μ
  | o => o
theorem bR_s {d : D} {o : Bool} {μ : Mu} {k : D → Bool → Mu → Option α} : bR (some (d, o, μ)) k = k d o μ := rfl
theorem bP_s {d : D} {μ : Mu} {k : D → Mu → Option α} : bP (some (d, μ)) k = k d μ := rfl
theorem bL_s {d : List D} {μ : Mu} {k : List D → Mu → Option α} : bL (some (d, μ)) k = k d μ := rfl
theorem bM_s {d : List (D × Bool)} {μ : Mu} {k : List (D × Bool) → Mu → Option α} : bM (some (d, μ)) k = k d μ := rfl
theorem bZ_s {d : D} {o : Bool} {k : D → Bool → Option α} : bZ (some (d, o)) k = k d o := rfl
theorem bB_s {b o : Bool} {μ : Mu} {k : Bool → Mu → Option α} : bB (some (.bl b, o, μ)) k = k b μ := rfl
theorem bI_s {i : Int} {o : Bool} {μ : Mu} {k : Int → Mu → Option α} : bI (some (.int i, o, μ)) k = k i μ := rfl
theorem bO_s {d : Option Int} {μ : Mu} {k : Option Int → Mu → Option α} : bO (some (d, μ)) k = k d μ := rfl
theorem bG_s {β : Type} {b : β} {k : β → Option α} : bG (some b) k = k b := rfl
theorem bS_n {ρ : Rho} {μ : Mu} {k : Rho → Mu → Option SR} : bS (some (.nx ρ μ)) k = k ρ μ := rfl
theorem bS_r {d : D} {o : Bool} {μ : Mu} {k : Rho → Mu → Option SR} : bS (some (.rt d o μ)) k = some (.rt d o μ) := rfl
theorem bS_b {ρ : Rho} {μ : Mu} {k : Rho → Mu → Option SR} : bS (some (.bk ρ μ)) k = some (.bk ρ μ) := rfl
theorem bS_t {ρ : Rho} {μ : Mu} {k : Rho → Mu → Option SR} : bS (some (.ct ρ μ)) k = some (.ct ρ μ) := rfl
end
/-! what follows -/
def gR (o : Option (Option (D × Bool))) (μ : Mu) : RE := match o with
  | some (some (d, false)) => some (d, false, μ)
  | _ => none
theorem gR_s (d : D) (μ : Mu) : gR (some (some (d, false))) μ = some (d, false, μ) := rfl
def gT (o : Option (Option (D × Bool))) (μ : Mu) : Option SR := match o with
  | some (some (d, w)) => some (.rt d w μ)
  | _ => none
theorem gT_s (d : D) (w : Bool) (μ : Mu) : gT (some (some (d, w))) μ = some (.rt d w μ) := rfl
def sz1 (n : Nat) (x : RE) : RE := if n ≤ sizeLine then x else none
theorem sz1_s {n : Nat} {x : RE} (h : n ≤ 100000) : sz1 n x = x := if_pos (Nat.le_trans h (by decide))
def kVl (μ : Mu) (d : D) : RE := some (d, false, μ)
def kT (ds : List D) (μ : Mu) : RE := sz1 ds.length (some (.tup ds, false, μ))
def kLs (ds : List D) (μ : Mu) : RE := sz1 ds.length (some (.lst ds, true, μ))
def kW (μ : Mu) (d : D) (w : Bool) : RE := some (d, w, μ)
def kBl (μ : Mu) (b : Bool) : RE := some (.bl b, false, μ)
def kNt (b : Bool) (μ : Mu) : RE := some (.bl (!b), false, μ)
def kNg (i : Int) (μ : Mu) : RE := some (.int (-i), false, μ)
def kOp2 (q : Op) (x : D) (y : D) (μ : Mu) : RE := bZ (opD q x y) (kW μ)
def kCp2 (q : Cp) (x : D) (y : D) (μ : Mu) : RE := bG (cpD q x y) (kBl μ)
def kSb2 (x : D) (y : D) (μ : Mu) : RE := bG (subC μ x y) (kVl μ)
def kIs (q : String) (x : D) (μ : Mu) : RE := if plain1 x then some (.bl (isT q x), false, μ) else none
def kBi (q : Bi) (ds : List D) (μ : Mu) : RE := bZ (biD q ds) (kW μ)
def kMd2 (q : Md) (x : D) (ds : List D) (μ : Mu) : RE := bZ (mdD q x ds) (kW μ)
def kRv (x : D) (μ : Mu) : RE := bZ (revD x) (kW μ)
def kSl3 (x : D) (l : Option Int) (h : Option Int) (μ : Mu) : RE := bZ (slcD x l h) (kW μ)
def kMk (d : D) (o : Bool) (μ : Mu) : RE := match d, o with
  | .lst ds, true => some (.cell μ.length, false, μ ++ [ds])
  | _, _ => none
def kGv (d : D) (o : Bool) (μ : Mu) : RE := some (d, false, μ)
def kLc (ys : List D) (μ : Mu) : RE := some (.lst ys, true, μ)
def kPr (d : D) (ds : List D) (μ : Mu) : Option (List D × Mu) := some (d :: ds, μ)
def kPo (d : D) (w : Bool) (ds : List (D × Bool)) (μ : Mu) : Option (List (D × Bool) × Mu) := some ((d, w) :: ds, μ)
def kRt (d : D) (o : Bool) (μ : Mu) : Option SR := some (.rt d o μ)
def kNxt (μ : Mu) (ρ : Rho) : Option SR := some (.nx ρ μ)
def kExS (ρ : Rho) (d : D) (o : Bool) (μ : Mu) : Option SR := some (.nx ρ μ)
def kStO (i : Nat) (ρ : Rho) (d : D) (o : Bool) (μ : Mu) : Option SR := match d, o with
  | .lst ds, true => if i < ρ.length then some (.nx (ρ.set i (some (.lst ds, true))) μ) else none
  | d, false => if i < ρ.length then some (.nx (ρ.set i (some (d, false))) μ) else none
  | _, _ => none
def gA (i : Nat) (ρ : Rho) (d : D) (μ : Mu) (o : Option (Option (D × Bool))) : Option SR := match o with
  | some (some (.lst ds, true)) => if ds.length < sizeLine then some (.nx (ρ.set i (some (.lst (ds ++ [d]), true))) μ) else none
  | _ => none
theorem gA_s {i : Nat} {ρ : Rho} {d : D} {μ : Mu} {ds : List D} (h : ds.length < 100000) : gA i ρ d μ (some (some (.lst ds, true))) = some (.nx (ρ.set i (some (.lst (ds ++ [d]), true))) μ) := if_pos (Nat.lt_of_lt_of_le h (by decide))
def kAp (i : Nat) (ρ : Rho) (d : D) (o : Bool) (μ : Mu) : Option SR := gA i ρ d μ ρ[i]?
def gI (i : Nat) (ρ : Rho) (z : Int) (d : D) (μ : Mu) (o : Option (Option (D × Bool))) : Option SR := match o with
  | some (some (.lst ds, true)) => if 0 ≤ z ∧ z < 2 ^ 62 ∧ ds.length < sizeLine then some (.nx (ρ.set i (some (.lst (ds.take z.toNat ++ [d] ++ ds.drop z.toNat), true))) μ) else none
  | _ => none
theorem gI_s {i : Nat} {ρ : Rho} {z : Int} {d : D} {μ : Mu} {ds : List D} (h0 : 0 ≤ z) (h1 : z < 2 ^ 62) (h : ds.length < 100000) : gI i ρ z d μ (some (some (.lst ds, true))) = some (.nx (ρ.set i (some (.lst (ds.take z.toNat ++ [d] ++ ds.drop z.toNat), true))) μ) := if_pos ⟨h0, h1, Nat.lt_of_lt_of_le h (by decide)⟩
def kIn3 (i : Nat) (ρ : Rho) (z : Int) (d : D) (o : Bool) (μ : Mu) : Option SR := gI i ρ z d μ ρ[i]?
def kSb3 (i : Nat) (ρ : Rho) (d : D) (z : Int) (μ : Mu) : Option SR := match ρ[i]? with
  | some (some (.lst ds, true)) => bG (L2.ixN ds.length z) fun j => some (.nx (ρ.set i (some (.lst (ds.set j d), true))) μ)
  | _ => none
def gC (ρ : Rho) (d : D) (z : Int) (μ : Mu) (o : Option (Option (D × Bool))) : Option SR := match o with
  | some (some (.cell n, false)) => bG μ[n]? fun ds => bG (L2.ixN ds.length z) fun j => some (.nx ρ (μ.set n (ds.set j d)))
  | _ => none
def kSc3 (i : Nat) (ρ : Rho) (d : D) (z : Int) (μ : Mu) : Option SR := gC ρ d z μ ρ[i]?
def kSq (o : Option (List D)) (μ : Mu) : Option (List D × Mu) := bG o fun ds => some (ds, μ)
def kEx1 (x : D) (μ : Mu) : Option (List D × Mu) := bG (seqD x) fun ds => some (ds, μ)
def rngD (ds : List D) (μ1 : Mu) : Option (List D × Mu) := match ds with
  | [.int n] => if -(2 ^ 62) ≤ n ∧ n ≤ sizeLine then some (rngL n.toNat 0, μ1) else none
  | [.int a, .int b] => if -(2 ^ 62) ≤ a ∧ a < 2 ^ 62 ∧ -(2 ^ 62) ≤ b ∧ b < 2 ^ 62 ∧ b - a ≤ sizeLine then some (rngL (b - a).toNat a, μ1) else none
  | _ => none
section
variable (T : Tab) (call : CallT)
def kOp (q : Op) (b : X) (ρ : Rho) (x : D) (μ : Mu) : RE := bP (pkR b ρ μ (dE T call b ρ μ)) (kOp2 q x)
def kCp (q : Cp) (b : X) (ρ : Rho) (x : D) (μ : Mu) : RE := bP (pkR b ρ μ (dE T call b ρ μ)) (kCp2 q x)
def kCh2 (c' : Cp) (e : X) (ρ : Rho) (y : D) (μ : Mu) (t : Bool) : RE := match t with
  | true => bP (pkR e ρ μ (dE T call e ρ μ)) (kCp2 c' y)
  | false => some (.bl false, false, μ)
def kCh1 (c c' : Cp) (e : X) (ρ : Rho) (x y : D) (μ : Mu) : RE := bG (cpD c x y) (kCh2 T call c' e ρ y μ)
def kCh (c c' : Cp) (b e : X) (ρ : Rho) (x : D) (μ : Mu) : RE := bP (pkR b ρ μ (dE T call b ρ μ)) (kCh1 T call c c' e ρ x)
def kSb (b : X) (ρ : Rho) (x : D) (μ : Mu) : RE := bP (pkR b ρ μ (dE T call b ρ μ)) (kSb2 x)
def kMd (q : Md) (es : X) (ρ : Rho) (x : D) (μ : Mu) : RE := bL (dPs T call es ρ μ) (kMd2 q x)
def kSl2 (hi : X) (ρ : Rho) (x : D) (l : Option Int) (μ : Mu) : RE := bO (opO hi μ (dE T call hi ρ μ)) (kSl3 x l)
def kSl (lo hi : X) (ρ : Rho) (x : D) (μ : Mu) : RE := bO (opO lo μ (dE T call lo ρ μ)) (kSl2 T call hi ρ x)
def kAnd (r : X) (ρ : Rho) (b : Bool) (μ : Mu) : RE := match b with
  | true => dE T call r ρ μ
  | false => some (.bl false, false, μ)
def kOr (r : X) (ρ : Rho) (b : Bool) (μ : Mu) : RE := match b with
  | true => some (.bl true, false, μ)
  | false => dE T call r ρ μ
def kIte (x y : X) (ρ : Rho) (b : Bool) (μ : Mu) : RE := match b with
  | true => dE T call x ρ μ
  | false => dE T call y ρ μ
def kCl (f : Nat) (ds : List D) (μ : Mu) : RE := call f ds μ
def kTe2 (y : D) (o : Bool) (μ : Mu) : Option (Option D × Mu) := some (some y, μ)
def kTe (e : X) (ρ2 : Rho) (k : Bool) (μ : Mu) : Option (Option D × Mu) := match k with
  | true => bR (dE T call e ρ2 μ) kTe2
  | false => some (none, μ)
def kTn (c e : X) (μ : Mu) (ρ2 : Rho) : Option (Option D × Mu) := bB (dE T call c ρ2 μ) (kTe T call e ρ2)
/-- one turn of a comprehension -/
def turnC (t c e : X) (own : List Nat) (ρ : Rho) (d : D) (μ : Mu) : Option (Option D × Mu) := bG (dT t d (wipeR ρ own)) (kTn T call c e μ)
def kCm (t c e : X) (own : List Nat) (ρ : Rho) (ds : List D) (μ : Mu) : RE := sz1 ds.length (bL (foldC (turnC T call t c e own ρ) ds μ) kLc)
def kCns (r : X) (ρ : Rho) (d : D) (o : Bool) (μ : Mu) : Option (List D × Mu) := bL (dEs T call r ρ μ) (kPr d)
def kCnp (r : X) (ρ : Rho) (d : D) (μ : Mu) : Option (List D × Mu) := bL (dPs T call r ρ μ) (kPr d)
def kCno (r : X) (ρ : Rho) (d : D) (o : Bool) (μ : Mu) : Option (List (D × Bool) × Mu) := bM (dOs T call r ρ μ) (kPo d o)
def kSeqS (r : X) (ρ : Rho) (μ : Mu) : Option SR := dS T call r ρ μ
def kStT (t : X) (ρ : Rho) (d : D) (o : Bool) (μ : Mu) : Option SR := bG (dT t d ρ) (kNxt μ)
def kPrS (is : List Nat) (ρ : Rho) (ds : List (D × Bool)) (μ : Mu) : Option SR := bG (setR ρ is ds) (kNxt μ)
def kIfS (a b : X) (ρ : Rho) (k : Bool) (μ : Mu) : Option SR := match k with
  | true => dS T call a ρ μ
  | false => dS T call b ρ μ
def kTb (b : X) (μ : Mu) (ρ : Rho) : Option SR := dS T call b ρ μ
/-- one turn of a loop -/
def turnS (t b : X) (d : D) (ρ : Rho) (μ : Mu) : Option SR := bG (dT t d ρ) (kTb T call b μ)
def kFo (t b : X) (ρ : Rho) (ds : List D) (μ : Mu) : Option SR := foldS (turnS T call t b) ds ρ μ
def kCk2 (f : Nat) (pm : List Nat) (ds ds2 : List D) (μ : Mu) : RE := call f (ds ++ pmL pm ds2) μ
def kCk (f : Nat) (pm : List Nat) (ks : X) (ρ : Rho) (ds : List D) (μ : Mu) : RE := bL (dEs T call ks ρ μ) (kCk2 call f pm ds)
def kIn2 (i : Nat) (e : X) (ρ : Rho) (z : Int) (μ : Mu) : Option SR := bR (dE T call e ρ μ) (kIn3 i ρ z)
def kS2 (i : Nat) (k : X) (ρ : Rho) (d : D) (o : Bool) (μ : Mu) : Option SR := bI (dE T call k ρ μ) (kSb3 i ρ d)
def kC2 (i : Nat) (k : X) (ρ : Rho) (d : D) (o : Bool) (μ : Mu) : Option SR := bI (dE T call k ρ μ) (kSc3 i ρ d)
def kEn (x : D) (μ : Mu) : Option (List D × Mu) := match x with
  | .lst ds => some (enumL ds 0, μ)
  | .tup ds => some (enumL ds 0, μ)
  | _ => none
def kZp2 (x y : D) (μ : Mu) : Option (List D × Mu) := bG (zipD x y) fun ds => some (ds, μ)
def kZp (pk : Bool) (b : X) (ρ : Rho) (x : D) (μ : Mu) : Option (List D × Mu) := bP (pkB pk b ρ μ (dE T call b ρ μ)) (kZp2 x)
def kZs2 (x y : D) (μ : Mu) : Option (List D × Mu) := bG (zipSD x y) fun ds => some (ds, μ)
def kZs (pk : Bool) (b : X) (ρ : Rho) (x : D) (μ : Mu) : Option (List D × Mu) := bP (pkB pk b ρ μ (dE T call b ρ μ)) (kZs2 x)
end
section
variable (T : Tab) (call : CallT) (a b c r e t it o es lo hi : X) (ρ : Rho) (μ : Mu)
theorem kAnd_t : kAnd T call r ρ true μ = dE T call r ρ μ := rfl
theorem kAnd_f : kAnd T call r ρ false μ = some (.bl false, false, μ) := rfl
theorem kOr_t : kOr T call r ρ true μ = some (.bl true, false, μ) := rfl
theorem kOr_f : kOr T call r ρ false μ = dE T call r ρ μ := rfl
theorem kIte_t : kIte T call a b ρ true μ = dE T call a ρ μ := rfl
theorem kIte_f : kIte T call a b ρ false μ = dE T call b ρ μ := rfl
theorem kTe_t : kTe T call e ρ true μ = bR (dE T call e ρ μ) kTe2 := rfl
theorem kTe_f : kTe T call e ρ false μ = some (none, μ) := rfl
theorem kIfS_t : kIfS T call a b ρ true μ = dS T call a ρ μ := rfl
theorem kIfS_f : kIfS T call a b ρ false μ = dS T call b ρ μ := rfl
theorem kCh2_t (q : Cp) (y : D) : kCh2 T call q e ρ y μ true = bP (pkR e ρ μ (dE T call e ρ μ)) (kCp2 q y) := rfl
theorem kCh2_f (q : Cp) (y : D) : kCh2 T call q e ρ y μ false = some (.bl false, false, μ) := rfl
theorem e_var (i : Nat) : dE T call (.var i) ρ μ = gR ρ[i]? μ := rfl
theorem e_cst (d : D) : dE T call (.cst d) ρ μ = if scalar d then some (d, false, μ) else none := rfl
theorem e_con (j : Nat) : dE T call (.con j) ρ μ = bG T.cons[j]? (kVl μ) := by
  have q0 : dE T call (.con j) ρ μ = (match T.cons[j]? with
    | some d => some (d, false, μ)
    | none => none) := rfl
  rw [q0]
  cases T.cons[j]? <;> rfl
theorem e_tup : dE T call (.tup es) ρ μ = bL (dEs T call es ρ μ) kT := by
  have q0 : dE T call (.tup es) ρ μ = (match dEs T call es ρ μ with
    | some (ds, μ1) => if ds.length ≤ sizeLine then some (.tup ds, false, μ1) else none
    | none => none) := rfl
  rw [q0]
  cases dEs T call es ρ μ <;> rfl
theorem e_lst : dE T call (.lst es) ρ μ = bL (dEs T call es ρ μ) kLs := by
  have q0 : dE T call (.lst es) ρ μ = (match dEs T call es ρ μ with
    | some (ds, μ1) => if ds.length ≤ sizeLine then some (.lst ds, true, μ1) else none
    | none => none) := rfl
  rw [q0]
  cases dEs T call es ρ μ <;> rfl
theorem e_bin (q : Op) : dE T call (.bin q a b) ρ μ = bP (pkR a ρ μ (dE T call a ρ μ)) (kOp T call q b ρ) := by
  have q0 : dE T call (.bin q a b) ρ μ = (match pkR a ρ μ (dE T call a ρ μ) with
    | some (x, μ1) => (match pkR b ρ μ1 (dE T call b ρ μ1) with
      | some (y, μ2) => (match opD q x y with
        | some (z, w) => some (z, w, μ2)
        | none => none)
      | none => none)
    | none => none) := rfl
  rw [q0]
  rcases pkR a ρ μ (dE T call a ρ μ) with _ | ⟨x, μ1⟩
  · rfl
  · unfold bP kOp
    dsimp only
    rcases pkR b ρ μ1 (dE T call b ρ μ1) with _ | ⟨y, μ2⟩
    · rfl
    · unfold bP kOp2
      dsimp only
      cases opD q x y <;> rfl
theorem e_neg : dE T call (.neg a) ρ μ = bI (dE T call a ρ μ) kNg := by
  have q0 : dE T call (.neg a) ρ μ = (match dE T call a ρ μ with
    | some (.int i, _, μ1) => some (.int (-i), false, μ1)
    | _ => none) := rfl
  rw [q0]
  rcases dE T call a ρ μ with _ | ⟨d, w, μ1⟩
  · rfl
  · cases d <;> rfl
theorem e_not : dE T call (.not a) ρ μ = bB (dE T call a ρ μ) kNt := by
  have q0 : dE T call (.not a) ρ μ = (match dE T call a ρ μ with
    | some (.bl b, _, μ1) => some (.bl (!b), false, μ1)
    | _ => none) := rfl
  rw [q0]
  rcases dE T call a ρ μ with _ | ⟨d, w, μ1⟩
  · rfl
  · cases d <;> rfl
theorem e_and : dE T call (.and a r) ρ μ = bB (dE T call a ρ μ) (kAnd T call r ρ) := by
  have q0 : dE T call (.and a r) ρ μ = (match dE T call a ρ μ with
    | some (.bl true, _, μ1) => dE T call r ρ μ1
    | some (.bl false, _, μ1) => some (.bl false, false, μ1)
    | _ => none) := rfl
  rw [q0]
  rcases dE T call a ρ μ with _ | ⟨d, w, μ1⟩
  · rfl
  · cases d with
    | bl b => cases b <;> rfl
    | _ => rfl
theorem e_or : dE T call (.or a r) ρ μ = bB (dE T call a ρ μ) (kOr T call r ρ) := by
  have q0 : dE T call (.or a r) ρ μ = (match dE T call a ρ μ with
    | some (.bl true, _, μ1) => some (.bl true, false, μ1)
    | some (.bl false, _, μ1) => dE T call r ρ μ1
    | _ => none) := rfl
  rw [q0]
  rcases dE T call a ρ μ with _ | ⟨d, w, μ1⟩
  · rfl
  · cases d with
    | bl b => cases b <;> rfl
    | _ => rfl
theorem e_one : dE T call (.one a) ρ μ = dE T call a ρ μ := rfl
theorem e_ite : dE T call (.ite c a b) ρ μ = bB (dE T call c ρ μ) (kIte T call a b ρ) := by
  have q0 : dE T call (.ite c a b) ρ μ = (match dE T call c ρ μ with
    | some (.bl true, _, μ1) => dE T call a ρ μ1
    | some (.bl false, _, μ1) => dE T call b ρ μ1
    | _ => none) := rfl
  rw [q0]
  rcases dE T call c ρ μ with _ | ⟨d, w, μ1⟩
  · rfl
  · cases d with
    | bl b => cases b <;> rfl
    | _ => rfl
theorem e_cmp (q : Cp) : dE T call (.cmp q a b) ρ μ = bP (pkR a ρ μ (dE T call a ρ μ)) (kCp T call q b ρ) := by
  have q0 : dE T call (.cmp q a b) ρ μ = (match pkR a ρ μ (dE T call a ρ μ) with
    | some (x, μ1) => (match pkR b ρ μ1 (dE T call b ρ μ1) with
      | some (y, μ2) => (match cpD q x y with
        | some k => some (.bl k, false, μ2)
        | none => none)
      | none => none)
    | none => none) := rfl
  rw [q0]
  rcases pkR a ρ μ (dE T call a ρ μ) with _ | ⟨x, μ1⟩
  · rfl
  · unfold bP kCp
    dsimp only
    rcases pkR b ρ μ1 (dE T call b ρ μ1) with _ | ⟨y, μ2⟩
    · rfl
    · unfold bP kCp2
      dsimp only
      cases cpD q x y <;> rfl
theorem e_chn (q q' : Cp) : dE T call (.chn q q' a b e) ρ μ = bP (pkR a ρ μ (dE T call a ρ μ)) (kCh T call q q' b e ρ) := by
  have q0 : dE T call (.chn q q' a b e) ρ μ = (match pkR a ρ μ (dE T call a ρ μ) with
    | some (x, μ1) => (match pkR b ρ μ1 (dE T call b ρ μ1) with
      | some (y, μ2) => (match cpD q x y with
        | some true => (match pkR e ρ μ2 (dE T call e ρ μ2) with
          | some (z, μ3) => (match cpD q' y z with
            | some k => some (.bl k, false, μ3)
            | none => none)
          | none => none)
        | some false => some (.bl false, false, μ2)
        | none => none)
      | none => none)
    | none => none) := rfl
  rw [q0]
  rcases pkR a ρ μ (dE T call a ρ μ) with _ | ⟨x, μ1⟩
  · rfl
  · unfold bP kCh
    dsimp only
    rcases pkR b ρ μ1 (dE T call b ρ μ1) with _ | ⟨y, μ2⟩
    · rfl
    · unfold bP kCh1
      dsimp only
      rcases cpD q x y with _ | _ | _
      · rfl
      · rfl
      · unfold bG kCh2
        dsimp only
        rcases pkR e ρ μ2 (dE T call e ρ μ2) with _ | ⟨z, μ3⟩
        · rfl
        · unfold bP kCp2
          dsimp only
          cases cpD q' y z <;> rfl
theorem e_call (f : Nat) : dE T call (.call f es) ρ μ = bL (dEs T call es ρ μ) (kCl call f) := by
  have q0 : dE T call (.call f es) ρ μ = (match dEs T call es ρ μ with
    | some (ds, μ1) => call f ds μ1
    | none => none) := rfl
  rw [q0]
  cases dEs T call es ρ μ <;> rfl
theorem e_callk (f : Nat) (pm : List Nat) (ks : X) : dE T call (.callk f pm es ks) ρ μ = bL (dEs T call es ρ μ) (kCk T call f pm ks ρ) := by
  have q0 : dE T call (.callk f pm es ks) ρ μ = (match dEs T call es ρ μ with
    | some (ds, μ1) => (match dEs T call ks ρ μ1 with
      | some (ds2, μ2) => call f (ds ++ pmL pm ds2) μ2
      | none => none)
    | none => none) := rfl
  rw [q0]
  rcases dEs T call es ρ μ with _ | ⟨x, μ1⟩
  · rfl
  · unfold bL kCk
    dsimp only
    rcases dEs T call ks ρ μ1 with _ | ⟨y, μ2⟩ <;> rfl
theorem e_bi (q : Bi) : dE T call (.bi q es) ρ μ = bL (dPs T call es ρ μ) (kBi q) := by
  have q0 : dE T call (.bi q es) ρ μ = (match dPs T call es ρ μ with
    | some (ds, μ1) => (match biD q ds with
      | some (z, w) => some (z, w, μ1)
      | none => none)
    | none => none) := rfl
  rw [q0]
  rcases dPs T call es ρ μ with _ | ⟨x, μ1⟩
  · rfl
  · unfold bL kBi
    dsimp only
    cases biD q x <;> rfl
theorem e_md (q : Md) : dE T call (.md q o es) ρ μ = bP (pkR o ρ μ (dE T call o ρ μ)) (kMd T call q es ρ) := by
  have q0 : dE T call (.md q o es) ρ μ = (match pkR o ρ μ (dE T call o ρ μ) with
    | some (x, μ1) => (match dPs T call es ρ μ1 with
      | some (ds, μ2) => (match mdD q x ds with
        | some (z, w) => some (z, w, μ2)
        | none => none)
      | none => none)
    | none => none) := rfl
  rw [q0]
  rcases pkR o ρ μ (dE T call o ρ μ) with _ | ⟨x, μ1⟩
  · rfl
  · unfold bP kMd
    dsimp only
    rcases dPs T call es ρ μ1 with _ | ⟨y, μ2⟩
    · rfl
    · unfold bL kMd2
      dsimp only
      cases mdD q x y <;> rfl
theorem e_isi (q : String) : dE T call (.isi a q) ρ μ = bP (pkR a ρ μ (dE T call a ρ μ)) (kIs q) := by
  have q0 : dE T call (.isi a q) ρ μ = (match pkR a ρ μ (dE T call a ρ μ) with
    | some (x, μ1) => if plain1 x then some (.bl (isT q x), false, μ1) else none
    | none => none) := rfl
  rw [q0]
  cases pkR a ρ μ (dE T call a ρ μ) <;> rfl
theorem e_sub : dE T call (.sub a b) ρ μ = bP (pkR a ρ μ (dE T call a ρ μ)) (kSb T call b ρ) := by
  have q0 : dE T call (.sub a b) ρ μ = (match pkR a ρ μ (dE T call a ρ μ) with
    | some (x, μ1) => (match pkR b ρ μ1 (dE T call b ρ μ1) with
      | some (y, μ2) => (match subC μ2 x y with
        | some d => some (d, false, μ2)
        | none => none)
      | none => none)
    | none => none) := rfl
  rw [q0]
  rcases pkR a ρ μ (dE T call a ρ μ) with _ | ⟨x, μ1⟩
  · rfl
  · unfold bP kSb
    dsimp only
    rcases pkR b ρ μ1 (dE T call b ρ μ1) with _ | ⟨y, μ2⟩
    · rfl
    · unfold bP kSb2
      dsimp only
      cases subC μ2 x y <;> rfl
theorem e_slc : dE T call (.slc a lo hi) ρ μ = bP (pkR a ρ μ (dE T call a ρ μ)) (kSl T call lo hi ρ) := by
  have q0 : dE T call (.slc a lo hi) ρ μ = (match pkR a ρ μ (dE T call a ρ μ) with
    | some (x, μ1) => (match opO lo μ1 (dE T call lo ρ μ1) with
      | some (l, μ2) => (match opO hi μ2 (dE T call hi ρ μ2) with
        | some (h, μ3) => (match slcD x l h with
          | some (z, w) => some (z, w, μ3)
          | none => none)
        | none => none)
      | none => none)
    | none => none) := rfl
  rw [q0]
  rcases pkR a ρ μ (dE T call a ρ μ) with _ | ⟨x, μ1⟩
  · rfl
  · unfold bP kSl
    dsimp only
    rcases opO lo μ1 (dE T call lo ρ μ1) with _ | ⟨y, μ2⟩
    · rfl
    · unfold bO kSl2
      dsimp only
      rcases opO hi μ2 (dE T call hi ρ μ2) with _ | ⟨z, μ3⟩
      · rfl
      · unfold bO kSl3
        dsimp only
        cases slcD x y z <;> rfl
theorem e_rev : dE T call (.rev a) ρ μ = bP (pkR a ρ μ (dE T call a ρ μ)) kRv := by
  have q0 : dE T call (.rev a) ρ μ = (match pkR a ρ μ (dE T call a ρ μ) with
    | some (x, μ1) => (match revD x with
      | some (z, w) => some (z, w, μ1)
      | none => none)
    | none => none) := rfl
  rw [q0]
  rcases pkR a ρ μ (dE T call a ρ μ) with _ | ⟨x, μ1⟩
  · rfl
  · unfold bP kRv
    dsimp only
    cases revD x <;> rfl
theorem e_comp (own : List Nat) : dE T call (.comp e t it c own) ρ μ = bL (dI T call true it ρ μ) (kCm T call t c e own ρ) := by
  have ht : (fun d μ2 => match dT t d (wipeR ρ own) with
        | none => none
        | some ρ2 => (match dE T call c ρ2 μ2 with
          | some (.bl true, _, μ3) => (match dE T call e ρ2 μ3 with
            | some (y, _, μ4) => some (some y, μ4)
            | none => none)
          | some (.bl false, _, μ3) => some (none, μ3)
          | _ => none)) = turnC T call t c e own ρ := by
    funext d μ2
    unfold turnC
    cases dT t d (wipeR ρ own) with
    | none => rfl
    | some ρ2 =>
      unfold bG kTn
      dsimp only
      rcases dE T call c ρ2 μ2 with _ | ⟨z, w, μ3⟩
      · rfl
      · cases z with
        | bl k => cases k with
          | true =>
            unfold bB kTe
            dsimp only
            rcases dE T call e ρ2 μ3 with _ | ⟨y, w2, μ4⟩ <;> rfl
          | false => rfl
        | _ => rfl
  have q0 : dE T call (.comp e t it c own) ρ μ = (match dI T call true it ρ μ with
    | some (ds, μ1) => if ds.length ≤ sizeLine then (match foldC (turnC T call t c e own ρ) ds μ1 with
      | some (ys, μ5) => some (.lst ys, true, μ5)
      | none => none) else none
    | none => none) := by rw [← ht]; rfl
  rw [q0]
  rcases dI T call true it ρ μ with _ | ⟨ds, μ1⟩
  · rfl
  · unfold bL kCm sz1
    dsimp only
    split
    · rcases foldC (turnC T call t c e own ρ) ds μ1 with _ | ⟨ys, μ5⟩ <;> rfl
    · rfl
theorem e_mk : dE T call (.mk a) ρ μ = bR (dE T call a ρ μ) kMk := by
  have q0 : dE T call (.mk a) ρ μ = (match dE T call a ρ μ with
    | some (.lst ds, true, μ1) => some (.cell μ1.length, false, μ1 ++ [ds])
    | _ => none) := rfl
  rw [q0]
  rcases dE T call a ρ μ with _ | ⟨d, w, μ1⟩
  · rfl
  · cases d with
    | lst ds => cases w <;> rfl
    | _ => rfl
theorem e_giv : dE T call (.giv a) ρ μ = bR (dE T call a ρ μ) kGv := by
  have q0 : dE T call (.giv a) ρ μ = (match dE T call a ρ μ with
    | some (d, _, μ1) => some (d, false, μ1)
    | none => none) := rfl
  rw [q0]
  rcases dE T call a ρ μ with _ | ⟨d, w, μ1⟩ <;> rfl
theorem l_nil : dEs T call .nil ρ μ = some ([], μ) := rfl
theorem l_cons : dEs T call (.cons a r) ρ μ = bR (dE T call a ρ μ) (kCns T call r ρ) := by
  have q0 : dEs T call (.cons a r) ρ μ = (match dE T call a ρ μ with
    | some (d, _, μ1) => (match dEs T call r ρ μ1 with
      | some (ds, μ2) => some (d :: ds, μ2)
      | none => none)
    | none => none) := rfl
  rw [q0]
  rcases dE T call a ρ μ with _ | ⟨d, w, μ1⟩
  · rfl
  · unfold bR kCns
    dsimp only
    cases dEs T call r ρ μ1 <;> rfl
theorem p_nil : dPs T call .nil ρ μ = some ([], μ) := rfl
theorem p_cons : dPs T call (.cons a r) ρ μ = bP (pkR a ρ μ (dE T call a ρ μ)) (kCnp T call r ρ) := by
  have q0 : dPs T call (.cons a r) ρ μ = (match pkR a ρ μ (dE T call a ρ μ) with
    | some (d, μ1) => (match dPs T call r ρ μ1 with
      | some (ds, μ2) => some (d :: ds, μ2)
      | none => none)
    | none => none) := rfl
  rw [q0]
  rcases pkR a ρ μ (dE T call a ρ μ) with _ | ⟨d, μ1⟩
  · rfl
  · unfold bP kCnp
    dsimp only
    cases dPs T call r ρ μ1 <;> rfl
theorem o_nil : dOs T call .nil ρ μ = some ([], μ) := rfl
theorem o_cons : dOs T call (.cons a r) ρ μ = bR (dE T call a ρ μ) (kCno T call r ρ) := by
  have q0 : dOs T call (.cons a r) ρ μ = (match dE T call a ρ μ with
    | some (d, w, μ1) => (match dOs T call r ρ μ1 with
      | some (ds, μ2) => some ((d, w) :: ds, μ2)
      | none => none)
    | none => none) := rfl
  rw [q0]
  rcases dE T call a ρ μ with _ | ⟨d, w, μ1⟩
  · rfl
  · unfold bR kCno
    dsimp only
    cases dOs T call r ρ μ1 <;> rfl
/-! statements -/
theorem s_nil : dS T call .nil ρ μ = some (.nx ρ μ) := rfl
theorem s_cons : dS T call (.cons a r) ρ μ = bS (dS T call a ρ μ) (kSeqS T call r) := by
  have q0 : dS T call (.cons a r) ρ μ = (match dS T call a ρ μ with
    | some (.nx ρ1 μ1) => dS T call r ρ1 μ1
    | o => o) := rfl
  rw [q0]
  rcases dS T call a ρ μ with _ | (_ | _ | _ | _) <;> rfl
theorem s_set : dS T call (.sSet t e) ρ μ = bR (dE T call e ρ μ) (kStT t ρ) := by
  have q0 : dS T call (.sSet t e) ρ μ = (match dE T call e ρ μ with
    | some (d, _, μ1) => (match dT t d ρ with
      | some ρ1 => some (.nx ρ1 μ1)
      | none => none)
    | none => none) := rfl
  rw [q0]
  rcases dE T call e ρ μ with _ | ⟨d, w, μ1⟩
  · rfl
  · unfold bR kStT
    dsimp only
    cases dT t d ρ <;> rfl
theorem s_setO (i : Nat) : dS T call (.sSetO i e) ρ μ = bR (dE T call e ρ μ) (kStO i ρ) := by
  have q0 : dS T call (.sSetO i e) ρ μ = (match dE T call e ρ μ with
    | some (.lst ds, true, μ1) => if i < ρ.length then some (.nx (ρ.set i (some (.lst ds, true))) μ1) else none
    | some (d, false, μ1) => if i < ρ.length then some (.nx (ρ.set i (some (d, false))) μ1) else none
    | _ => none) := rfl
  rw [q0]
  rcases dE T call e ρ μ with _ | ⟨d, w, μ1⟩
  · rfl
  · cases d <;> cases w <;> rfl
theorem s_par (is : List Nat) : dS T call (.sPar is es) ρ μ = bM (dOs T call es ρ μ) (kPrS is ρ) := by
  have q0 : dS T call (.sPar is es) ρ μ = (match dOs T call es ρ μ with
    | some (ds, μ1) => (match setR ρ is ds with
      | some ρ1 => some (.nx ρ1 μ1)
      | none => none)
    | none => none) := rfl
  rw [q0]
  rcases dOs T call es ρ μ with _ | ⟨d, μ1⟩
  · rfl
  · unfold bM kPrS
    dsimp only
    cases setR ρ is d <;> rfl
theorem s_retN : dS T call .sRetN ρ μ = some (.rt .non false μ) := rfl
def retX (e : X) (ρ : Rho) (μ : Mu) (x : RE) : Option SR := match e with
  | .pv i => gT ρ[i]? μ
  | _ => bR x kRt
theorem s_ret : dS T call (.sRet e) ρ μ = retX e ρ μ (dE T call e ρ μ) := by
  have q : ∀ x : RE, (match x with
      | some (d, o, μ1) => some (SR.rt d o μ1)
      | none => none) = bR x kRt := by
    intro x
    rcases x with _ | ⟨d, w, μ1⟩ <;> rfl
  cases e with
  | pv i => rfl
  | _ => first
    | exact q (dE T call _ ρ μ)
    | rfl
theorem s_if : dS T call (.sIf c a b) ρ μ = bB (dE T call c ρ μ) (kIfS T call a b ρ) := by
  have q0 : dS T call (.sIf c a b) ρ μ = (match dE T call c ρ μ with
    | some (.bl true, _, μ1) => dS T call a ρ μ1
    | some (.bl false, _, μ1) => dS T call b ρ μ1
    | _ => none) := rfl
  rw [q0]
  rcases dE T call c ρ μ with _ | ⟨d, w, μ1⟩
  · rfl
  · cases d with
    | bl k => cases k <;> rfl
    | _ => rfl
theorem s_for : dS T call (.sFor t it b) ρ μ = bL (dI T call false it ρ μ) (kFo T call t b ρ) := by
  have ht : (fun d ρ2 μ2 => match dT t d ρ2 with
      | some ρ3 => dS T call b ρ3 μ2
      | none => none) = turnS T call t b := by
    funext d ρ2 μ2
    unfold turnS
    cases dT t d ρ2 <;> rfl
  have q0 : dS T call (.sFor t it b) ρ μ = (match dI T call false it ρ μ with
    | some (ds, μ1) => foldS (turnS T call t b) ds ρ μ1
    | none => none) := by rw [← ht]; rfl
  rw [q0]
  rcases dI T call false it ρ μ with _ | ⟨d, μ1⟩ <;> rfl
theorem s_ex : dS T call (.sEx e) ρ μ = bR (dE T call e ρ μ) (kExS ρ) := by
  have q0 : dS T call (.sEx e) ρ μ = (match dE T call e ρ μ with
    | some (_, _, μ1) => some (.nx ρ μ1)
    | none => none) := rfl
  rw [q0]
  rcases dE T call e ρ μ with _ | ⟨d, w, μ1⟩ <;> rfl
theorem s_app (i : Nat) : dS T call (.sApp i e) ρ μ = bR (dE T call e ρ μ) (kAp i ρ) := by
  have q0 : dS T call (.sApp i e) ρ μ = (match dE T call e ρ μ with
    | some (d, _, μ1) => (match ρ[i]? with
      | some (some (.lst ds, true)) => if ds.length < sizeLine then some (.nx (ρ.set i (some (.lst (ds ++ [d]), true))) μ1) else none
      | _ => none)
    | none => none) := rfl
  rw [q0]
  rcases dE T call e ρ μ with _ | ⟨d, w, μ1⟩ <;> rfl
theorem s_ins (i : Nat) (k : X) : dS T call (.sIns i k e) ρ μ = bI (dE T call k ρ μ) (kIn2 T call i e ρ) := by
  have q0 : dS T call (.sIns i k e) ρ μ = (match dE T call k ρ μ with
    | some (.int z, _, μ1) => (match dE T call e ρ μ1 with
      | some (d, _, μ2) => (match ρ[i]? with
        | some (some (.lst ds, true)) => if 0 ≤ z ∧ z < 2 ^ 62 ∧ ds.length < sizeLine then some (.nx (ρ.set i (some (.lst (ds.take z.toNat ++ [d] ++ ds.drop z.toNat), true))) μ2) else none
        | _ => none)
      | none => none)
    | _ => none) := rfl
  rw [q0]
  rcases dE T call k ρ μ with _ | ⟨d, w, μ1⟩
  · rfl
  · cases d with
    | int z =>
      unfold bI kIn2
      dsimp only
      rcases dE T call e ρ μ1 with _ | ⟨d, w, μ2⟩ <;> rfl
    | _ => rfl
theorem s_sub (i : Nat) (k : X) : dS T call (.sSub i k e) ρ μ = bR (dE T call e ρ μ) (kS2 T call i k ρ) := by
  have q0 : dS T call (.sSub i k e) ρ μ = (match dE T call e ρ μ with
    | some (d, _, μ1) => (match dE T call k ρ μ1 with
      | some (.int z, _, μ2) => (match ρ[i]? with
        | some (some (.lst ds, true)) => (match L2.ixN ds.length z with
          | some j => some (.nx (ρ.set i (some (.lst (ds.set j d), true))) μ2)
          | none => none)
        | _ => none)
      | _ => none)
    | none => none) := rfl
  rw [q0]
  rcases dE T call e ρ μ with _ | ⟨d, w, μ1⟩
  · rfl
  · unfold bR kS2
    dsimp only
    rcases dE T call k ρ μ1 with _ | ⟨z, w2, μ2⟩
    · rfl
    · cases z with
      | int z =>
        unfold bI kSb3
        dsimp only
        rcases ρ[i]? with _ | _ | ⟨d, _ | _⟩
        · rfl
        · rfl
        · cases d <;> rfl
        · cases d with
          | lst ds =>
            dsimp only
            cases L2.ixN ds.length z <;> rfl
          | _ => rfl
      | _ => rfl
theorem s_subC (i : Nat) (k : X) : dS T call (.sSubC i k e) ρ μ = bR (dE T call e ρ μ) (kC2 T call i k ρ) := by
  have q0 : dS T call (.sSubC i k e) ρ μ = (match dE T call e ρ μ with
    | some (d, _, μ1) => (match dE T call k ρ μ1 with
      | some (.int z, _, μ2) => (match ρ[i]? with
        | some (some (.cell n, false)) => (match μ2[n]? with
          | some ds => (match L2.ixN ds.length z with
            | some j => some (.nx ρ (μ2.set n (ds.set j d)))
            | none => none)
          | none => none)
        | _ => none)
      | _ => none)
    | none => none) := rfl
  rw [q0]
  rcases dE T call e ρ μ with _ | ⟨d, w, μ1⟩
  · rfl
  · unfold bR kC2
    dsimp only
    rcases dE T call k ρ μ1 with _ | ⟨z, w2, μ2⟩
    · rfl
    · cases z with
      | int z =>
        unfold bI kSc3 gC
        dsimp only
        rcases ρ[i]? with _ | _ | ⟨d, _ | _⟩
        · rfl
        · rfl
        · cases d with
          | cell n =>
            dsimp only
            cases μ2[n]? with
            | none => rfl
            | some ds =>
              unfold bG
              dsimp only
              cases L2.ixN ds.length z <;> rfl
          | _ => rfl
        · cases d <;> rfl
      | _ => rfl
theorem s_dis (i : Nat) : dS T call (.sDis i a) ρ μ = dS T call a (disown ρ i) μ := rfl
theorem s_pass : dS T call .sPass ρ μ = some (.nx ρ μ) := rfl
theorem i_ex (pk : Bool) : dI T call pk (.iEx a) ρ μ = bP (pkB pk a ρ μ (dE T call a ρ μ)) kEx1 := by
  have q : dI T call pk (.iEx a) ρ μ = (match pkB pk a ρ μ (dE T call a ρ μ) with
    | some (x, μ1) => (match seqD x with
      | some ds => some (ds, μ1)
      | none => none)
    | none => none) := by cases pk <;> rfl
  rw [q]
  rcases pkB pk a ρ μ (dE T call a ρ μ) with _ | ⟨d, μ1⟩
  · rfl
  · unfold bP kEx1
    dsimp only
    cases seqD d <;> rfl
theorem i_rng (pk : Bool) : dI T call pk (.iRng es) ρ μ = bL (dPs T call es ρ μ) rngD := by
  have q : dI T call pk (.iRng es) ρ μ = (match dPs T call es ρ μ with
    | some ([.int n], μ1) => if -(2 ^ 62) ≤ n ∧ n ≤ sizeLine then some (rngL n.toNat 0, μ1) else none
    | some ([.int a, .int b], μ1) => if -(2 ^ 62) ≤ a ∧ a < 2 ^ 62 ∧ -(2 ^ 62) ≤ b ∧ b < 2 ^ 62 ∧ b - a ≤ sizeLine then some (rngL (b - a).toNat a, μ1) else none
    | _ => none) := by cases pk <;> rfl
  rw [q]
  rcases dPs T call es ρ μ with _ | ⟨ds, μ1⟩
  · rfl
  · unfold bL rngD
    dsimp only
    rcases ds with _ | ⟨x, _ | ⟨y, _ | ⟨z, r⟩⟩⟩
    · rfl
    · cases x <;> rfl
    · cases x <;> cases y <;> rfl
    · cases x <;> first | rfl | (cases y <;> rfl)
theorem i_enum (pk : Bool) : dI T call pk (.iEnum a) ρ μ = bP (pkB pk a ρ μ (dE T call a ρ μ)) kEn := by
  have q : dI T call pk (.iEnum a) ρ μ = (match pkB pk a ρ μ (dE T call a ρ μ) with
    | some (x, μ1) => (match x with
      | .lst ds => some (enumL ds 0, μ1)
      | .tup ds => some (enumL ds 0, μ1)
      | _ => none)
    | none => none) := by cases pk <;> rfl
  rw [q]
  rcases pkB pk a ρ μ (dE T call a ρ μ) with _ | ⟨d, μ1⟩
  · rfl
  · cases d <;> rfl
theorem i_zip (pk : Bool) : dI T call pk (.iZip a b) ρ μ = bP (pkB pk a ρ μ (dE T call a ρ μ)) (kZp T call pk b ρ) := by
  have q : dI T call pk (.iZip a b) ρ μ = (match pkB pk a ρ μ (dE T call a ρ μ) with
    | some (x, μ1) => (match pkB pk b ρ μ1 (dE T call b ρ μ1) with
      | some (y, μ2) => (match zipD x y with
        | some ds => some (ds, μ2)
        | none => none)
      | none => none)
    | none => none) := by cases pk <;> rfl
  rw [q]
  rcases pkB pk a ρ μ (dE T call a ρ μ) with _ | ⟨d, μ1⟩
  · rfl
  · unfold bP kZp
    dsimp only
    rcases pkB pk b ρ μ1 (dE T call b ρ μ1) with _ | ⟨y, μ2⟩
    · rfl
    · unfold bP kZp2
      dsimp only
      cases zipD d y <;> rfl
theorem i_zipS (pk : Bool) : dI T call pk (.iZipS a b) ρ μ = bP (pkB pk a ρ μ (dE T call a ρ μ)) (kZs T call pk b ρ) := by
  have q : dI T call pk (.iZipS a b) ρ μ = (match pkB pk a ρ μ (dE T call a ρ μ) with
    | some (x, μ1) => (match pkB pk b ρ μ1 (dE T call b ρ μ1) with
      | some (y, μ2) => (match zipSD x y with
        | some ds => some (ds, μ2)
        | none => none)
      | none => none)
    | none => none) := by cases pk <;> rfl
  rw [q]
  rcases pkB pk a ρ μ (dE T call a ρ μ) with _ | ⟨d, μ1⟩
  · rfl
  · unfold bP kZs
    dsimp only
    rcases pkB pk b ρ μ1 (dE T call b ρ μ1) with _ | ⟨y, μ2⟩
    · rfl
    · unfold bP kZs2
      dsimp only
      cases zipSD d y <;> rfl
/-! operands -/
def cut1 (x : RE) : Option (D × Mu) := match x with
  | some (d, _, μ1) => some (d, μ1)
  | none => none
theorem cut1_s (d : D) (w : Bool) : cut1 (some (d, w, μ)) = some (d, μ) := rfl
def gP (o : Option (Option (D × Bool))) (μ : Mu) : Option (D × Mu) := match o with
  | some (some (d, _)) => some (d, μ)
  | _ => none
theorem gP_s (d : D) (w : Bool) : gP (some (some (d, w))) μ = some (d, μ) := rfl
theorem pk_pv (i : Nat) (x : RE) : pkR (.pv i) ρ μ x = gP ρ[i]? μ := by
  unfold pkR peekD gP
  dsimp only
  rcases ρ[i]? with _ | _ | ⟨d, w⟩ <;> rfl
theorem pkB_t (x : RE) : pkB true a ρ μ x = pkR a ρ μ x := rfl
theorem pkB_f (x : RE) : pkB false a ρ μ x = cut1 x := rfl
def cutO (x : RE) : Option (Option Int × Mu) := match x with
  | some (.int i, _, μ1) => some (some i, μ1)
  | _ => none
theorem cutO_s (i : Int) (w : Bool) : cutO (some (.int i, w, μ)) = some (some i, μ) := rfl
theorem op_noX (x : RE) : opO .noX μ x = some (none, μ) := rfl
end
section
end
section
variable (ρ : Rho) (μ : Mu)
end
section
variable (ρ : Rho) (μ : Mu)
theorem rx_pv (i : Nat) (x : RE) : retX (.pv i) ρ μ x = gT ρ[i]? μ := rfl
theorem rx_var (i : Nat) (x : RE) : retX (.var i) ρ μ x = bR x kRt := rfl
theorem px_var (i : Nat) (x : RE) : pkR (.var i) ρ μ x = cut1 x := rfl
theorem ox_var (i : Nat) (x : RE) : opO (.var i) μ x = cutO x := rfl
theorem rx_cst (d : D) (x : RE) : retX (.cst d) ρ μ x = bR x kRt := rfl
theorem px_cst (d : D) (x : RE) : pkR (.cst d) ρ μ x = cut1 x := rfl
theorem ox_cst (d : D) (x : RE) : opO (.cst d) μ x = cutO x := rfl
theorem rx_con (i : Nat) (x : RE) : retX (.con i) ρ μ x = bR x kRt := rfl
theorem px_con (i : Nat) (x : RE) : pkR (.con i) ρ μ x = cut1 x := rfl
theorem ox_con (i : Nat) (x : RE) : opO (.con i) μ x = cutO x := rfl
theorem rx_tup (a : X) (x : RE) : retX (.tup a) ρ μ x = bR x kRt := rfl
theorem px_tup (a : X) (x : RE) : pkR (.tup a) ρ μ x = cut1 x := rfl
theorem ox_tup (a : X) (x : RE) : opO (.tup a) μ x = cutO x := rfl
theorem rx_lst (a : X) (x : RE) : retX (.lst a) ρ μ x = bR x kRt := rfl
theorem px_lst (a : X) (x : RE) : pkR (.lst a) ρ μ x = cut1 x := rfl
theorem ox_lst (a : X) (x : RE) : opO (.lst a) μ x = cutO x := rfl
theorem rx_bin (q : Op) (a b : X) (x : RE) : retX (.bin q a b) ρ μ x = bR x kRt := rfl
theorem px_bin (q : Op) (a b : X) (x : RE) : pkR (.bin q a b) ρ μ x = cut1 x := rfl
theorem ox_bin (q : Op) (a b : X) (x : RE) : opO (.bin q a b) μ x = cutO x := rfl
theorem rx_neg (a : X) (x : RE) : retX (.neg a) ρ μ x = bR x kRt := rfl
theorem px_neg (a : X) (x : RE) : pkR (.neg a) ρ μ x = cut1 x := rfl
theorem ox_neg (a : X) (x : RE) : opO (.neg a) μ x = cutO x := rfl
theorem rx_not (a : X) (x : RE) : retX (.not a) ρ μ x = bR x kRt := rfl
theorem px_not (a : X) (x : RE) : pkR (.not a) ρ μ x = cut1 x := rfl
theorem ox_not (a : X) (x : RE) : opO (.not a) μ x = cutO x := rfl
theorem rx_and (a b : X) (x : RE) : retX (.and a b) ρ μ x = bR x kRt := rfl
theorem px_and (a b : X) (x : RE) : pkR (.and a b) ρ μ x = cut1 x := rfl
theorem ox_and (a b : X) (x : RE) : opO (.and a b) μ x = cutO x := rfl
theorem rx_or (a b : X) (x : RE) : retX (.or a b) ρ μ x = bR x kRt := rfl
theorem px_or (a b : X) (x : RE) : pkR (.or a b) ρ μ x = cut1 x := rfl
theorem ox_or (a b : X) (x : RE) : opO (.or a b) μ x = cutO x := rfl
theorem rx_one (a : X) (x : RE) : retX (.one a) ρ μ x = bR x kRt := rfl
theorem px_one (a : X) (x : RE) : pkR (.one a) ρ μ x = cut1 x := rfl
theorem ox_one (a : X) (x : RE) : opO (.one a) μ x = cutO x := rfl
theorem rx_cmp (q : Cp) (a b : X) (x : RE) : retX (.cmp q a b) ρ μ x = bR x kRt := rfl
theorem px_cmp (q : Cp) (a b : X) (x : RE) : pkR (.cmp q a b) ρ μ x = cut1 x := rfl
theorem ox_cmp (q : Cp) (a b : X) (x : RE) : opO (.cmp q a b) μ x = cutO x := rfl
theorem rx_chn (q r : Cp) (a b c : X) (x : RE) : retX (.chn q r a b c) ρ μ x = bR x kRt := rfl
theorem px_chn (q r : Cp) (a b c : X) (x : RE) : pkR (.chn q r a b c) ρ μ x = cut1 x := rfl
theorem ox_chn (q r : Cp) (a b c : X) (x : RE) : opO (.chn q r a b c) μ x = cutO x := rfl
theorem rx_ite (a b c : X) (x : RE) : retX (.ite a b c) ρ μ x = bR x kRt := rfl
theorem px_ite (a b c : X) (x : RE) : pkR (.ite a b c) ρ μ x = cut1 x := rfl
theorem ox_ite (a b c : X) (x : RE) : opO (.ite a b c) μ x = cutO x := rfl
theorem rx_call (i : Nat) (a : X) (x : RE) : retX (.call i a) ρ μ x = bR x kRt := rfl
theorem px_call (i : Nat) (a : X) (x : RE) : pkR (.call i a) ρ μ x = cut1 x := rfl
theorem ox_call (i : Nat) (a : X) (x : RE) : opO (.call i a) μ x = cutO x := rfl
theorem rx_callk (i : Nat) (pm : List Nat) (a b : X) (x : RE) : retX (.callk i pm a b) ρ μ x = bR x kRt := rfl
theorem px_callk (i : Nat) (pm : List Nat) (a b : X) (x : RE) : pkR (.callk i pm a b) ρ μ x = cut1 x := rfl
theorem ox_callk (i : Nat) (pm : List Nat) (a b : X) (x : RE) : opO (.callk i pm a b) μ x = cutO x := rfl
theorem rx_bi (q : Bi) (a : X) (x : RE) : retX (.bi q a) ρ μ x = bR x kRt := rfl
theorem px_bi (q : Bi) (a : X) (x : RE) : pkR (.bi q a) ρ μ x = cut1 x := rfl
theorem ox_bi (q : Bi) (a : X) (x : RE) : opO (.bi q a) μ x = cutO x := rfl
theorem rx_md (q : Md) (a b : X) (x : RE) : retX (.md q a b) ρ μ x = bR x kRt := rfl
theorem px_md (q : Md) (a b : X) (x : RE) : pkR (.md q a b) ρ μ x = cut1 x := rfl
theorem ox_md (q : Md) (a b : X) (x : RE) : opO (.md q a b) μ x = cutO x := rfl
theorem rx_isi (a : X) (q : String) (x : RE) : retX (.isi a q) ρ μ x = bR x kRt := rfl
theorem px_isi (a : X) (q : String) (x : RE) : pkR (.isi a q) ρ μ x = cut1 x := rfl
theorem ox_isi (a : X) (q : String) (x : RE) : opO (.isi a q) μ x = cutO x := rfl
theorem rx_sub (a b : X) (x : RE) : retX (.sub a b) ρ μ x = bR x kRt := rfl
theorem px_sub (a b : X) (x : RE) : pkR (.sub a b) ρ μ x = cut1 x := rfl
theorem ox_sub (a b : X) (x : RE) : opO (.sub a b) μ x = cutO x := rfl
theorem rx_slc (a b c : X) (x : RE) : retX (.slc a b c) ρ μ x = bR x kRt := rfl
theorem px_slc (a b c : X) (x : RE) : pkR (.slc a b c) ρ μ x = cut1 x := rfl
theorem ox_slc (a b c : X) (x : RE) : opO (.slc a b c) μ x = cutO x := rfl
theorem rx_rev (a : X) (x : RE) : retX (.rev a) ρ μ x = bR x kRt := rfl
theorem px_rev (a : X) (x : RE) : pkR (.rev a) ρ μ x = cut1 x := rfl
theorem ox_rev (a : X) (x : RE) : opO (.rev a) μ x = cutO x := rfl
theorem rx_comp (a b c d : X) (l : List Nat) (x : RE) : retX (.comp a b c d l) ρ μ x = bR x kRt := rfl
theorem px_comp (a b c d : X) (l : List Nat) (x : RE) : pkR (.comp a b c d l) ρ μ x = cut1 x := rfl
theorem ox_comp (a b c d : X) (l : List Nat) (x : RE) : opO (.comp a b c d l) μ x = cutO x := rfl
theorem rx_mk (a : X) (x : RE) : retX (.mk a) ρ μ x = bR x kRt := rfl
theorem px_mk (a : X) (x : RE) : pkR (.mk a) ρ μ x = cut1 x := rfl
theorem ox_mk (a : X) (x : RE) : opO (.mk a) μ x = cutO x := rfl
theorem rx_lend (l : List Nat) (a : X) (x : RE) : retX (.lend l a) ρ μ x = bR x kRt := rfl
theorem px_lend (l : List Nat) (a : X) (x : RE) : pkR (.lend l a) ρ μ x = cut1 x := rfl
theorem ox_lend (l : List Nat) (a : X) (x : RE) : opO (.lend l a) μ x = cutO x := rfl
end
section
variable (ρ : Rho) (μ : Mu)
/-- the end of a call -/
def retD (x : Option SR) : RE := match x with
  | some (.rt d o μ1) => some (d, o, μ1)
  | some (.nx _ μ1) => some (.non, false, μ1)
  | _ => none
theorem retD_r (d : D) (w : Bool) : retD (some (.rt d w μ)) = some (d, w, μ) := rfl
theorem retD_n : retD (some (.nx ρ μ)) = some (.non, false, μ) := rfl
theorem dCall_eq {T : Tab} {Δ : List Def} {k f : Nat} {F : Def} {ds : List D} {μ : Mu} (h : Δ[f]? = some F) (hl : ds.length = F.ps.length) :
    dCall T Δ (k + 1) f ds μ = retD (dS T (dCall T Δ k) F.body (ds.map (fun d => some (d, false)) ++ List.replicate (F.ns.length - F.ps.length) none) μ) := by
  unfold dCall
  rw [h]
  dsimp only
  rw [if_pos hl]
  rcases dS T (dCall T Δ k) F.body _ μ with _ | (_ | _ | _ | _) <;> rfl
/-! targets -/
theorem t_name (i : Nat) (d : D) : dT (.tName i) d ρ = if i < ρ.length then some (ρ.set i (some (d, false))) else none := rfl
end
/-! tables -/
section
theorem it_int_non  : isT "int" .non = false := rfl
theorem it_int_bl (x : Bool) : isT "int" (.bl x) = true := rfl
theorem it_int_int (x : Int) : isT "int" (.int x) = true := rfl
theorem it_int_str (x : Str) : isT "int" (.str x) = false := rfl
theorem it_int_tup (x : List D) : isT "int" (.tup x) = false := rfl
theorem it_int_lst (x : List D) : isT "int" (.lst x) = false := rfl
theorem it_bool_non  : isT "bool" .non = false := rfl
theorem it_bool_bl (x : Bool) : isT "bool" (.bl x) = true := rfl
theorem it_bool_int (x : Int) : isT "bool" (.int x) = false := rfl
theorem it_bool_str (x : Str) : isT "bool" (.str x) = false := rfl
theorem it_bool_tup (x : List D) : isT "bool" (.tup x) = false := rfl
theorem it_bool_lst (x : List D) : isT "bool" (.lst x) = false := rfl
theorem it_str_non  : isT "str" .non = false := rfl
theorem it_str_bl (x : Bool) : isT "str" (.bl x) = false := rfl
theorem it_str_int (x : Int) : isT "str" (.int x) = false := rfl
theorem it_str_str (x : Str) : isT "str" (.str x) = true := rfl
theorem it_str_tup (x : List D) : isT "str" (.tup x) = false := rfl
theorem it_str_lst (x : List D) : isT "str" (.lst x) = false := rfl
theorem it_tuple_non  : isT "tuple" .non = false := rfl
theorem it_tuple_bl (x : Bool) : isT "tuple" (.bl x) = false := rfl
theorem it_tuple_int (x : Int) : isT "tuple" (.int x) = false := rfl
theorem it_tuple_str (x : Str) : isT "tuple" (.str x) = false := rfl
theorem it_tuple_tup (x : List D) : isT "tuple" (.tup x) = true := rfl
theorem it_tuple_lst (x : List D) : isT "tuple" (.lst x) = false := rfl
theorem it_list_non  : isT "list" .non = false := rfl
theorem it_list_bl (x : Bool) : isT "list" (.bl x) = false := rfl
theorem it_list_int (x : Int) : isT "list" (.int x) = false := rfl
theorem it_list_str (x : Str) : isT "list" (.str x) = false := rfl
theorem it_list_tup (x : List D) : isT "list" (.tup x) = false := rfl
theorem it_list_lst (x : List D) : isT "list" (.lst x) = true := rfl
theorem it_dict_non  : isT "dict" .non = false := rfl
theorem it_dict_bl (x : Bool) : isT "dict" (.bl x) = false := rfl
theorem it_dict_int (x : Int) : isT "dict" (.int x) = false := rfl
theorem it_dict_str (x : Str) : isT "dict" (.str x) = false := rfl
theorem it_dict_tup (x : List D) : isT "dict" (.tup x) = false := rfl
theorem it_dict_lst (x : List D) : isT "dict" (.lst x) = false := rfl
theorem p1_non  : plain1 .non = true := rfl
theorem p1_bl (x : Bool) : plain1 (.bl x) = true := rfl
theorem p1_int (x : Int) : plain1 (.int x) = true := rfl
theorem p1_str (x : Str) : plain1 (.str x) = true := rfl
theorem p1_tup (x : List D) : plain1 (.tup x) = true := rfl
theorem p1_lst (x : List D) : plain1 (.lst x) = true := rfl
end
/-! operators -/
theorem mul_r {i j : Int} (h1 : -18446744073709551616 < j) (h2 : j < 18446744073709551616) : opD .mul (.int i) (.int j) = some (.int (i * j), false) := by
  have h : mulOk i j = true := by
    unfold mulOk
    rw [decide_eq_true (p := -(2 ^ 64) < j ∧ j < 2 ^ 64) ⟨by omega, by omega⟩, Bool.or_true, Bool.true_or]
  show (if mulOk i j then some (D.int (i * j), false) else none) = _
  rw [if_pos h]
theorem mul_l {i j : Int} (h1 : -18446744073709551616 < i) (h2 : i < 18446744073709551616) : opD .mul (.int i) (.int j) = some (.int (i * j), false) := by
  have h : mulOk i j = true := by
    unfold mulOk
    rw [decide_eq_true (p := -(2 ^ 64) < i ∧ i < 2 ^ 64) ⟨by omega, by omega⟩, Bool.true_or, Bool.true_or]
  show (if mulOk i j then some (D.int (i * j), false) else none) = _
  rw [if_pos h]
theorem add_i {i j : Int} : opD .add (.int i) (.int j) = some (.int (i + j), false) := rfl
theorem sub_i {i j : Int} : opD .sub (.int i) (.int j) = some (.int (i - j), false) := rfl
theorem mod_i {i j : Int} (h : 0 < j) : opD .mod (.int i) (.int j) = some (.int (i % j), false) := if_pos h
theorem div_i {i j : Int} (h : 0 < j) (h2 : j < 2 ^ 1000) : opD .fdiv (.int i) (.int j) = some (.int (i / j), false) := by
  have h9 : divOk j = true := by
    unfold divOk
    refine decide_eq_true ⟨h, ?_⟩
    have e : (2 : Int) ^ 1000 = ((2 ^ 1000 : Nat) : Int) := by norm_cast
    have h3 : j.natAbs < 2 ^ 1000 := by omega
    exact Nat.lt_trans h3 (Nat.pow_lt_pow_right (by decide) (by decide))
  show (if divOk j then some (D.int (i / j), false) else none) = _
  rw [if_pos h9]
theorem add_l {x y : List D} (h : x.length + y.length ≤ 100000) : opD .add (.lst x) (.lst y) = some (.lst (x ++ y), true) := if_pos (Nat.le_trans h (by decide))
theorem add_t {x y : List D} (h : x.length + y.length ≤ 100000) : opD .add (.tup x) (.tup y) = some (.tup (x ++ y), false) := if_pos (Nat.le_trans h (by decide))
theorem div_s {i j : Int} (h : 0 < j) (h2 : j < 18446744073709551616) : opD .fdiv (.int i) (.int j) = some (.int (i / j), false) := div_i h (Int.lt_trans h2 (by decide))
theorem subC_l {μ : Mu} {xs : List D} {i : Int} : subC μ (.lst xs) (.int i) = L2.atI xs i := rfl
theorem subC_t {μ : Mu} {xs : List D} {i : Int} : subC μ (.tup xs) (.int i) = L2.atI xs i := rfl
theorem subC_c {μ : Mu} {n : Nat} {xs : List D} {i : Int} (h : μ[n]? = some xs) : subC μ (.cell n) (.int i) = L2.atI xs i := by
  unfold subC
  dsimp only
  rw [h]
theorem gt_i {i j : Int} : cpD .gt (.int i) (.int j) = some (decide (j < i)) := rfl
theorem ge_i {i j : Int} : cpD .ge (.int i) (.int j) = some (decide (j ≤ i)) := rfl
theorem lt_i {i j : Int} : cpD .lt (.int i) (.int j) = some (decide (i < j)) := rfl
theorem le_i {i j : Int} : cpD .le (.int i) (.int j) = some (decide (i ≤ j)) := rfl
theorem at_n {xs : List D} {i : Nat} {d : D} (h : xs[i]? = some d) : L2.atI xs (i : Int) = some d := by
  unfold L2.atI L2.ixN
  have hl : i < xs.length := (List.getElem?_eq_some_iff.mp h).1
  rw [if_pos (by omega), if_pos (by omega)]
  show xs[(i : Int).toNat]? = some d
  rw [Int.toNat_natCast]
  exact h
theorem isn_non  : cpD .is_ .non .non = some true := rfl
theorem nin_non  : cpD .isNot .non .non = some false := rfl
theorem isn_bl (x : Bool) : cpD .is_ (.bl x) .non = some false := rfl
theorem nin_bl (x : Bool) : cpD .isNot (.bl x) .non = some true := rfl
theorem isn_int (x : Int) : cpD .is_ (.int x) .non = some false := rfl
theorem nin_int (x : Int) : cpD .isNot (.int x) .non = some true := rfl
theorem isn_str (x : Str) : cpD .is_ (.str x) .non = some false := rfl
theorem nin_str (x : Str) : cpD .isNot (.str x) .non = some true := rfl
theorem isn_tup (x : List D) : cpD .is_ (.tup x) .non = some false := rfl
theorem nin_tup (x : List D) : cpD .isNot (.tup x) .non = some true := rfl
theorem isn_lst (x : List D) : cpD .is_ (.lst x) .non = some false := rfl
theorem nin_lst (x : List D) : cpD .isNot (.lst x) .non = some true := rfl
theorem isb {a b : Bool} : cpD .is_ (.bl a) (.bl b) = some (a == b) := rfl
theorem inb {a b : Bool} : cpD .isNot (.bl a) (.bl b) = some (!(a == b)) := rfl
theorem rng_1 {n : Int} {μ : Mu} (h1 : -4611686018427387904 ≤ n) (h2 : n ≤ 100000) : rngD [.int n] μ = some (rngL n.toNat 0, μ) := if_pos ⟨by omega, Int.le_trans h2 (by decide)⟩
/-! == -/
mutual
def nd : D → Nat
  | .tup ds => ndL ds + 1
  | .lst ds => ndL ds + 1
  | _ => 0
def ndL : List D → Nat
  | [] => 0
  | d :: ds => max (nd d) (ndL ds)
end
mutual
/-- no dict, no cell, no def, good texts -/
def okS : D → Bool
  | .non => true
  | .bl _ => true
  | .int _ => true
  | .str x => PyData.strOk x
  | .tup xs => okSL xs
  | .lst xs => okSL xs
  | .dct _ => false
  | .cell _ => false
  | .fn _ => false
  | .exn _ _ => false
def okSL : List D → Bool
  | [] => true
  | d :: ds => okS d && okSL ds
end
mutual
theorem okS_pl : ∀ d : D, okS d = true → pl d = true ∧ (py d).canLay0 = true ∧ (py d).depth = nd d
  | .non, _ => ⟨rfl, rfl, rfl⟩
  | .bl _, _ => ⟨rfl, rfl, rfl⟩
  | .int _, _ => ⟨rfl, rfl, rfl⟩
  | .str x, h => ⟨rfl, h, rfl⟩
  | .tup xs, h => by
    obtain ⟨h1, h2, h3⟩ := okSL_pl xs h
    exact ⟨h1, h2, by show PyData.depthAll (pyL xs) + 1 = ndL xs + 1; rw [h3]⟩
  | .lst xs, h => by
    obtain ⟨h1, h2, h3⟩ := okSL_pl xs h
    exact ⟨h1, h2, by show PyData.depthAll (pyL xs) + 1 = ndL xs + 1; rw [h3]⟩
  | .dct _, h => by cases h
  | .cell _, h => by cases h
  | .fn _, h => by cases h
  | .exn _ _, h => by cases h
theorem okSL_pl : ∀ ds : List D, okSL ds = true → plL ds = true ∧ PyData.canLayAll0 (pyL ds) = true ∧ PyData.depthAll (pyL ds) = ndL ds
  | [], _ => ⟨rfl, rfl, rfl⟩
  | d :: ds, h => by
    obtain ⟨h1, h2⟩ := Bool.and_eq_true_iff.mp (show (okS d && okSL ds) = true from h)
    obtain ⟨a1, a2, a3⟩ := okS_pl d h1
    obtain ⟨b1, b2, b3⟩ := okSL_pl ds h2
    exact ⟨Bool.and_eq_true_iff.mpr ⟨a1, b1⟩, Bool.and_eq_true_iff.mpr ⟨a2, b2⟩, by show max (py d).depth (PyData.depthAll (pyL ds)) = max (nd d) (ndL ds); rw [a3, b3]⟩
end
theorem eqOk_s {d : D} (h1 : okS d = true) (h2 : nd d ≤ 64) : eqOk d = true := by
  obtain ⟨a1, a2, a3⟩ := okS_pl d h1
  unfold eqOk SeqAt.shaped
  rw [a1, a2, decide_eq_true (by rw [a3]; exact h2)]
  rfl
theorem eq_s {x y : Str} : cpD .eq (.str x) (.str y) = some (decide (x = y)) := rfl
theorem ne_s {x y : Str} : cpD .ne (.str x) (.str y) = some (!decide (x = y)) := rfl
theorem eq_d {d e : D} (h : strEq d e = none) (h1 : okS d = true) (h2 : nd d ≤ 64) (h3 : okS e = true) (h4 : nd e ≤ 64) : cpD .eq d e = some (eqD d e) := by
  show (match strEq d e with
    | some b => some b
    | none => if eqOk d && eqOk e then some (eqD d e) else lenEq d e) = _
  rw [h, eqOk_s h1 h2, eqOk_s h3 h4]
  rfl
theorem ne_d {d e : D} (h : strEq d e = none) (h1 : okS d = true) (h2 : nd d ≤ 64) (h3 : okS e = true) (h4 : nd e ≤ 64) : cpD .ne d e = some (!eqD d e) := by
  show (match strEq d e with
    | some b => some (!b)
    | none => if eqOk d && eqOk e then some (!eqD d e) else (match lenEq d e with
      | some b => some (!b)
      | none => none)) = _
  rw [h, eqOk_s h1 h2, eqOk_s h3 h4]
  rfl
theorem in_l {d : D} {es : List D} (h1 : okS d = true) (h2 : nd d ≤ 64) (h3 : okS (.lst es) = true) (h4 : nd (.lst es) ≤ 64) : cpD .in_ d (.lst es) = some (memD d es) := by
  show (if eqOk d && eqOk (.lst es) then some (memD d es) else none) = _
  rw [eqOk_s h1 h2, eqOk_s h3 h4]
  rfl
theorem nin_l {d : D} {es : List D} (h1 : okS d = true) (h2 : nd d ≤ 64) (h3 : okS (.lst es) = true) (h4 : nd (.lst es) ≤ 64) : cpD .notIn d (.lst es) = some (!memD d es) := by
  show (if eqOk d && eqOk (.lst es) then some (!memD d es) else none) = _
  rw [eqOk_s h1 h2, eqOk_s h3 h4]
  rfl
theorem eq_ii {i j : Int} : cpD .eq (.int i) (.int j) = some (decide (i = j)) := by
  have q : eqD (.int i) (.int j) = decide (i = j) := by
    rw [Bool.eq_iff_iff]
    show (i == j) = true ↔ _
    simp
  rw [eq_d rfl rfl (Nat.zero_le _) rfl (Nat.zero_le _), q]
theorem ne_ii {i j : Int} : cpD .ne (.int i) (.int j) = some (!decide (i = j)) := by
  rw [ne_d rfl rfl (Nat.zero_le _) rfl (Nat.zero_le _)]
  have q : eqD (.int i) (.int j) = decide (i = j) := by
    rw [Bool.eq_iff_iff]
    show (i == j) = true ↔ _
    simp
  rw [q]
/-! folds, turn by turn -/
section
variable {α : Type}
def bX (r : Option (Option D × Mu)) (k : Option D → Mu → Option α) : Option α := match r with
  | some (d, μ) => k d μ
  | none => none
theorem bX_s {d : Option D} {μ : Mu} {k : Option D → Mu → Option α} : bX (some (d, μ)) k = k d μ := rfl
end
def bT (r : Option SR) (k : Rho → Mu → Option SR) : Option SR := match r with
  | some (.nx ρ μ) => k ρ μ
  | some (.ct ρ μ) => k ρ μ
  | some (.bk ρ μ) => some (.nx ρ μ)
  | o => o
theorem bT_n {ρ : Rho} {μ : Mu} {k : Rho → Mu → Option SR} : bT (some (.nx ρ μ)) k = k ρ μ := rfl
theorem bT_c {ρ : Rho} {μ : Mu} {k : Rho → Mu → Option SR} : bT (some (.ct ρ μ)) k = k ρ μ := rfl
theorem bT_b {ρ : Rho} {μ : Mu} {k : Rho → Mu → Option SR} : bT (some (.bk ρ μ)) k = some (.nx ρ μ) := rfl
theorem bT_r {d : D} {o : Bool} {μ : Mu} {k : Rho → Mu → Option SR} : bT (some (.rt d o μ)) k = some (.rt d o μ) := rfl
def consO (r : Option D) (ys : List D) : List D := match r with
  | some y => y :: ys
  | none => ys
theorem consO_s {y : D} {ys : List D} : consO (some y) ys = y :: ys := rfl
theorem consO_n {ys : List D} : consO none ys = ys := rfl
def kFc2 (r : Option D) (ys : List D) (μ : Mu) : Option (List D × Mu) := some (consO r ys, μ)
def kFc (f : D → Mu → Option (Option D × Mu)) (ds : List D) (r : Option D) (μ : Mu) : Option (List D × Mu) := bL (foldC f ds μ) (kFc2 r)
theorem fc_nil {f : D → Mu → Option (Option D × Mu)} {μ : Mu} : foldC f [] μ = some ([], μ) := rfl
theorem fc_cons {f : D → Mu → Option (Option D × Mu)} {d : D} {ds : List D} {μ : Mu} : foldC f (d :: ds) μ = bX (f d μ) (kFc f ds) := by
  have q0 : foldC f (d :: ds) μ = (match f d μ with
    | none => none
    | some (r, μ1) => match foldC f ds μ1 with
      | none => none
      | some (ys, μ2) => some (consO r ys, μ2)) := rfl
  rw [q0]
  rcases f d μ with _ | ⟨r, μ1⟩
  · rfl
  · unfold bX kFc
    dsimp only
    rcases foldC f ds μ1 with _ | ⟨ys, μ2⟩ <;> rfl
def kFs (f : D → Rho → Mu → Option SR) (ds : List D) (ρ : Rho) (μ : Mu) : Option SR := foldS f ds ρ μ
theorem fs_nil {f : D → Rho → Mu → Option SR} {ρ : Rho} {μ : Mu} : foldS f [] ρ μ = some (.nx ρ μ) := rfl
theorem fs_cons {f : D → Rho → Mu → Option SR} {d : D} {ds : List D} {ρ : Rho} {μ : Mu} : foldS f (d :: ds) ρ μ = bT (f d ρ μ) (kFs f ds) := by
  rw [foldS]
  rcases f d ρ μ with _ | (_ | _ | _ | _) <;> rfl
def consP {α : Type} (r : Option α) (ys : List α) : List α := match r with
  | some y => y :: ys
  | none => ys
theorem consP_s {α : Type} {y : α} {ys : List α} : consP (some y) ys = y :: ys := rfl
theorem pm_n {α : Type} {ws : List α} : pmL [] ws = [] := rfl
theorem pm_c {α : Type} {i : Nat} {pm : List Nat} {ws : List α} : pmL (i :: pm) ws = consP ws[i]? (pmL pm ws) := by
  unfold pmL
  rw [List.filterMap_cons]
  cases ws[i]? <;> rfl
theorem rev_t {xs : List D} : revD (.tup xs) = some (.tup xs.reverse, false) := rfl
theorem eq_nl : cpD .eq (.lst []) (.lst []) = some true := by rfl
theorem ne_nl : cpD .ne (.lst []) (.lst []) = some false := by rfl
theorem len_t {xs : List D} : biD .len [.tup xs] = some (.int xs.length, false) := rfl
theorem len_l {xs : List D} : biD .len [.lst xs] = some (.int xs.length, false) := rfl
theorem int_i {i : Int} : biD .int [.int i] = some (.int i, false) := rfl
theorem int_b {b : Bool} : biD .int [.bl b] = some (.int (if b then 1 else 0), false) := rfl
theorem tup_l {xs : List D} : biD .tuple [.lst xs] = some (.tup xs, false) := rfl
theorem tup_t {xs : List D} : biD .tuple [.tup xs] = some (.tup xs, false) := rfl
theorem lst_l {xs : List D} : biD .list [.lst xs] = some (.lst xs, true) := rfl
theorem lst_t {xs : List D} : biD .list [.tup xs] = some (.lst xs, true) := rfl
theorem rev_l {xs : List D} : revD (.lst xs) = some (.lst xs.reverse, true) := rfl
theorem sum_2 {a b : Int} : biD .sum [.tup [.int a, .int b]] = some (.int (a + (b + 0)), false) := rfl
theorem sum_3 {a b c : Int} : biD .sum [.tup [.int a, .int b, .int c]] = some (.int (a + (b + (c + 0))), false) := rfl
theorem len_tup0 : biD .len [.tup []] = some (.int 0, false) := rfl
theorem len_lst0 : biD .len [.lst []] = some (.int 0, false) := rfl
theorem len_tup1 {a : D} : biD .len [.tup [a]] = some (.int 1, false) := rfl
theorem len_lst1 {a : D} : biD .len [.lst [a]] = some (.int 1, false) := rfl
theorem at_1_0 {a : D} : L2.atI [a] 0 = some a := rfl
theorem len_tup2 {a b : D} : biD .len [.tup [a, b]] = some (.int 2, false) := rfl
theorem len_lst2 {a b : D} : biD .len [.lst [a, b]] = some (.int 2, false) := rfl
theorem at_2_0 {a b : D} : L2.atI [a, b] 0 = some a := rfl
theorem at_2_1 {a b : D} : L2.atI [a, b] 1 = some b := rfl
theorem len_tup3 {a b c : D} : biD .len [.tup [a, b, c]] = some (.int 3, false) := rfl
theorem len_lst3 {a b c : D} : biD .len [.lst [a, b, c]] = some (.int 3, false) := rfl
theorem at_3_0 {a b c : D} : L2.atI [a, b, c] 0 = some a := rfl
theorem at_3_1 {a b c : D} : L2.atI [a, b, c] 1 = some b := rfl
theorem at_3_2 {a b c : D} : L2.atI [a, b, c] 2 = some c := rfl
theorem len_tup4 {a b c d : D} : biD .len [.tup [a, b, c, d]] = some (.int 4, false) := rfl
theorem len_lst4 {a b c d : D} : biD .len [.lst [a, b, c, d]] = some (.int 4, false) := rfl
theorem at_4_0 {a b c d : D} : L2.atI [a, b, c, d] 0 = some a := rfl
theorem at_4_1 {a b c d : D} : L2.atI [a, b, c, d] 1 = some b := rfl
theorem at_4_2 {a b c d : D} : L2.atI [a, b, c, d] 2 = some c := rfl
theorem at_4_3 {a b c d : D} : L2.atI [a, b, c, d] 3 = some d := rfl
theorem len_tup5 {a b c d e : D} : biD .len [.tup [a, b, c, d, e]] = some (.int 5, false) := rfl
theorem len_lst5 {a b c d e : D} : biD .len [.lst [a, b, c, d, e]] = some (.int 5, false) := rfl
theorem at_5_0 {a b c d e : D} : L2.atI [a, b, c, d, e] 0 = some a := rfl
theorem at_5_1 {a b c d e : D} : L2.atI [a, b, c, d, e] 1 = some b := rfl
theorem at_5_2 {a b c d e : D} : L2.atI [a, b, c, d, e] 2 = some c := rfl
theorem at_5_3 {a b c d e : D} : L2.atI [a, b, c, d, e] 3 = some d := rfl
theorem at_5_4 {a b c d e : D} : L2.atI [a, b, c, d, e] 4 = some e := rfl
end Z
end

section
set_option Elab.async false
set_option linter.all false
set_option maxRecDepth 100000
set_option maxHeartbeats 1000000
/-! All that works out terms, put together. -/
namespace Z
open PySem
def kLd (d : D) (o : Bool) (μ : Mu) : RE := if scalar d && μ.all scalL then some (d, false, μ) else none
theorem e_lend {T : Tab} {call : CallT} {a : X} {ρ : Rho} {μ : Mu} (is : List Nat) : dE T call (.lend is a) ρ μ = bR (dE T call a (disowns ρ is) μ) kLd := by
  have q0 : dE T call (.lend is a) ρ μ = (match dE T call a (disowns ρ is) μ with
    | some (d, _, μ1) => if scalar d && μ1.all scalL then some (d, false, μ1) else none
    | none => none) := rfl
  rw [q0]
  rcases dE T call a (disowns ρ is) μ with _ | ⟨d, w, μ1⟩ <;> rfl
theorem kLd_b {b o : Bool} {μ : Mu} (h : μ.all scalL = true) : kLd (.bl b) o μ = some (.bl b, false, μ) := by
  unfold kLd
  rw [h]
  rfl
theorem dn0 : type_of% (And.intro (And.intro (And.intro (And.intro (And.intro @bR_s @bP_s) (And.intro @bL_s (And.intro @bM_s @bZ_s))) (And.intro (And.intro @bB_s @bI_s) (And.intro @bO_s (And.intro @bG_s @bS_n)))) (And.intro (And.intro (And.intro @bS_r @bS_b) (And.intro @bS_t (And.intro @gR_s @gT_s))) (And.intro (And.intro @gP_s @cut1_s) (And.intro @cutO_s (And.intro @kAnd_t @kAnd_f))))) (And.intro (And.intro (And.intro (And.intro @kOr_t @kOr_f) (And.intro @kIte_t (And.intro @kIte_f @kTe_t))) (And.intro (And.intro @kTe_f @kIfS_t) (And.intro @kIfS_f (And.intro @kCh2_t @kCh2_f)))) (And.intro (And.intro (And.intro @e_var @e_cst) (And.intro @e_con (And.intro @e_tup @e_lst))) (And.intro (And.intro @e_bin @e_neg) (And.intro @e_not (And.intro @e_and @e_or)))))) := (And.intro (And.intro (And.intro (And.intro (And.intro @bR_s @bP_s) (And.intro @bL_s (And.intro @bM_s @bZ_s))) (And.intro (And.intro @bB_s @bI_s) (And.intro @bO_s (And.intro @bG_s @bS_n)))) (And.intro (And.intro (And.intro @bS_r @bS_b) (And.intro @bS_t (And.intro @gR_s @gT_s))) (And.intro (And.intro @gP_s @cut1_s) (And.intro @cutO_s (And.intro @kAnd_t @kAnd_f))))) (And.intro (And.intro (And.intro (And.intro @kOr_t @kOr_f) (And.intro @kIte_t (And.intro @kIte_f @kTe_t))) (And.intro (And.intro @kTe_f @kIfS_t) (And.intro @kIfS_f (And.intro @kCh2_t @kCh2_f)))) (And.intro (And.intro (And.intro @e_var @e_cst) (And.intro @e_con (And.intro @e_tup @e_lst))) (And.intro (And.intro @e_bin @e_neg) (And.intro @e_not (And.intro @e_and @e_or))))))
theorem dn1 : type_of% (And.intro (And.intro (And.intro (And.intro (And.intro @e_one @e_ite) (And.intro @e_cmp (And.intro @e_chn @e_call))) (And.intro (And.intro @e_bi @e_md) (And.intro @e_isi (And.intro @e_sub @e_slc)))) (And.intro (And.intro (And.intro @e_rev @e_comp) (And.intro @e_mk (And.intro @e_giv @l_nil))) (And.intro (And.intro @l_cons @p_nil) (And.intro @p_cons (And.intro @o_nil @o_cons))))) (And.intro (And.intro (And.intro (And.intro @s_nil @s_cons) (And.intro @s_set (And.intro @s_setO @s_par))) (And.intro (And.intro @s_retN @s_ret) (And.intro @s_if (And.intro @s_for @s_ex)))) (And.intro (And.intro (And.intro @s_app @s_sub) (And.intro @s_subC (And.intro @s_dis @s_pass))) (And.intro (And.intro @i_ex @i_rng) (And.intro @i_enum (And.intro (And.intro @i_zip @i_zipS) @rx_pv)))))) := (And.intro (And.intro (And.intro (And.intro (And.intro @e_one @e_ite) (And.intro @e_cmp (And.intro @e_chn @e_call))) (And.intro (And.intro @e_bi @e_md) (And.intro @e_isi (And.intro @e_sub @e_slc)))) (And.intro (And.intro (And.intro @e_rev @e_comp) (And.intro @e_mk (And.intro @e_giv @l_nil))) (And.intro (And.intro @l_cons @p_nil) (And.intro @p_cons (And.intro @o_nil @o_cons))))) (And.intro (And.intro (And.intro (And.intro @s_nil @s_cons) (And.intro @s_set (And.intro @s_setO @s_par))) (And.intro (And.intro @s_retN @s_ret) (And.intro @s_if (And.intro @s_for @s_ex)))) (And.intro (And.intro (And.intro @s_app @s_sub) (And.intro @s_subC (And.intro @s_dis @s_pass))) (And.intro (And.intro @i_ex @i_rng) (And.intro @i_enum (And.intro (And.intro @i_zip @i_zipS) @rx_pv))))))
theorem dn2 : type_of% (And.intro (And.intro (And.intro (And.intro (And.intro @rx_var @px_var) (And.intro @ox_var (And.intro @rx_cst @px_cst))) (And.intro (And.intro @ox_cst @rx_con) (And.intro @px_con (And.intro @ox_con @rx_tup)))) (And.intro (And.intro (And.intro @px_tup @ox_tup) (And.intro @rx_lst (And.intro @px_lst @ox_lst))) (And.intro (And.intro @rx_bin @px_bin) (And.intro @ox_bin (And.intro @rx_neg @px_neg))))) (And.intro (And.intro (And.intro (And.intro @ox_neg @rx_not) (And.intro @px_not (And.intro @ox_not @rx_and))) (And.intro (And.intro @px_and @ox_and) (And.intro @rx_or (And.intro @px_or @ox_or)))) (And.intro (And.intro (And.intro @rx_one @px_one) (And.intro @ox_one (And.intro @rx_cmp @px_cmp))) (And.intro (And.intro @ox_cmp @rx_chn) (And.intro @px_chn (And.intro @ox_chn @rx_ite)))))) := (And.intro (And.intro (And.intro (And.intro (And.intro @rx_var @px_var) (And.intro @ox_var (And.intro @rx_cst @px_cst))) (And.intro (And.intro @ox_cst @rx_con) (And.intro @px_con (And.intro @ox_con @rx_tup)))) (And.intro (And.intro (And.intro @px_tup @ox_tup) (And.intro @rx_lst (And.intro @px_lst @ox_lst))) (And.intro (And.intro @rx_bin @px_bin) (And.intro @ox_bin (And.intro @rx_neg @px_neg))))) (And.intro (And.intro (And.intro (And.intro @ox_neg @rx_not) (And.intro @px_not (And.intro @ox_not @rx_and))) (And.intro (And.intro @px_and @ox_and) (And.intro @rx_or (And.intro @px_or @ox_or)))) (And.intro (And.intro (And.intro @rx_one @px_one) (And.intro @ox_one (And.intro @rx_cmp @px_cmp))) (And.intro (And.intro @ox_cmp @rx_chn) (And.intro @px_chn (And.intro @ox_chn @rx_ite))))))
theorem dn3 : type_of% (And.intro (And.intro (And.intro (And.intro (And.intro @px_ite @ox_ite) (And.intro @rx_call (And.intro @px_call @ox_call))) (And.intro (And.intro @rx_callk @px_callk) (And.intro @ox_callk (And.intro @rx_bi @px_bi)))) (And.intro (And.intro (And.intro @ox_bi @rx_md) (And.intro @px_md (And.intro @ox_md @rx_isi))) (And.intro (And.intro @px_isi @ox_isi) (And.intro @rx_sub (And.intro @px_sub @ox_sub))))) (And.intro (And.intro (And.intro (And.intro @rx_slc @px_slc) (And.intro @ox_slc (And.intro @rx_rev @px_rev))) (And.intro (And.intro @ox_rev @rx_comp) (And.intro @px_comp (And.intro @ox_comp @rx_mk)))) (And.intro (And.intro (And.intro @px_mk @ox_mk) (And.intro @rx_lend (And.intro @px_lend @ox_lend))) (And.intro (And.intro @pk_pv @pkB_t) (And.intro @pkB_f (And.intro @op_noX @retD_r)))))) := (And.intro (And.intro (And.intro (And.intro (And.intro @px_ite @ox_ite) (And.intro @rx_call (And.intro @px_call @ox_call))) (And.intro (And.intro @rx_callk @px_callk) (And.intro @ox_callk (And.intro @rx_bi @px_bi)))) (And.intro (And.intro (And.intro @ox_bi @rx_md) (And.intro @px_md (And.intro @ox_md @rx_isi))) (And.intro (And.intro @px_isi @ox_isi) (And.intro @rx_sub (And.intro @px_sub @ox_sub))))) (And.intro (And.intro (And.intro (And.intro @rx_slc @px_slc) (And.intro @ox_slc (And.intro @rx_rev @px_rev))) (And.intro (And.intro @ox_rev @rx_comp) (And.intro @px_comp (And.intro @ox_comp @rx_mk)))) (And.intro (And.intro (And.intro @px_mk @ox_mk) (And.intro @rx_lend (And.intro @px_lend @ox_lend))) (And.intro (And.intro @pk_pv @pkB_t) (And.intro @pkB_f (And.intro @op_noX @retD_r))))))
theorem dn4 : type_of% (And.intro (And.intro (And.intro (And.intro (And.intro @retD_n @it_int_non) (And.intro @it_int_bl (And.intro @it_int_int @it_int_str))) (And.intro (And.intro @it_int_tup @it_int_lst) (And.intro @it_bool_non (And.intro @it_bool_bl @it_bool_int)))) (And.intro (And.intro (And.intro @it_bool_str @it_bool_tup) (And.intro @it_bool_lst (And.intro @it_str_non @it_str_bl))) (And.intro (And.intro @it_str_int @it_str_str) (And.intro @it_str_tup (And.intro @it_str_lst @it_tuple_non))))) (And.intro (And.intro (And.intro (And.intro @it_tuple_bl @it_tuple_int) (And.intro @it_tuple_str (And.intro @it_tuple_tup @it_tuple_lst))) (And.intro (And.intro @it_list_non @it_list_bl) (And.intro @it_list_int (And.intro @it_list_str @it_list_tup)))) (And.intro (And.intro (And.intro @it_list_lst @it_dict_non) (And.intro @it_dict_bl (And.intro @it_dict_int @it_dict_str))) (And.intro (And.intro @it_dict_tup @it_dict_lst) (And.intro @p1_non (And.intro @p1_bl @p1_int)))))) := (And.intro (And.intro (And.intro (And.intro (And.intro @retD_n @it_int_non) (And.intro @it_int_bl (And.intro @it_int_int @it_int_str))) (And.intro (And.intro @it_int_tup @it_int_lst) (And.intro @it_bool_non (And.intro @it_bool_bl @it_bool_int)))) (And.intro (And.intro (And.intro @it_bool_str @it_bool_tup) (And.intro @it_bool_lst (And.intro @it_str_non @it_str_bl))) (And.intro (And.intro @it_str_int @it_str_str) (And.intro @it_str_tup (And.intro @it_str_lst @it_tuple_non))))) (And.intro (And.intro (And.intro (And.intro @it_tuple_bl @it_tuple_int) (And.intro @it_tuple_str (And.intro @it_tuple_tup @it_tuple_lst))) (And.intro (And.intro @it_list_non @it_list_bl) (And.intro @it_list_int (And.intro @it_list_str @it_list_tup)))) (And.intro (And.intro (And.intro @it_list_lst @it_dict_non) (And.intro @it_dict_bl (And.intro @it_dict_int @it_dict_str))) (And.intro (And.intro @it_dict_tup @it_dict_lst) (And.intro @p1_non (And.intro @p1_bl @p1_int))))))
theorem dn5 : type_of% (And.intro (And.intro (And.intro (And.intro (And.intro @p1_str @p1_tup) (And.intro @p1_lst (And.intro @add_i @sub_i))) (And.intro (And.intro @eq_ii @ne_ii) (And.intro @eq_s (And.intro @ne_s @isb)))) (And.intro (And.intro (And.intro @inb @rng_1) (And.intro @isn_non (And.intro @nin_non @isn_bl))) (And.intro (And.intro @nin_bl @isn_int) (And.intro @nin_int (And.intro @isn_str @nin_str))))) (And.intro (And.intro (And.intro (And.intro @isn_tup @nin_tup) (And.intro @isn_lst (And.intro @nin_lst @gt_i))) (And.intro (And.intro @ge_i @lt_i) (And.intro @le_i (And.intro @int_i @int_b)))) (And.intro (And.intro (And.intro @tup_l @tup_t) (And.intro @lst_l (And.intro @lst_t @len_tup0))) (And.intro (And.intro @len_lst0 @len_tup1) (And.intro @len_lst1 (And.intro @at_1_0 @len_tup2)))))) := (And.intro (And.intro (And.intro (And.intro (And.intro @p1_str @p1_tup) (And.intro @p1_lst (And.intro @add_i @sub_i))) (And.intro (And.intro @eq_ii @ne_ii) (And.intro @eq_s (And.intro @ne_s @isb)))) (And.intro (And.intro (And.intro @inb @rng_1) (And.intro @isn_non (And.intro @nin_non @isn_bl))) (And.intro (And.intro @nin_bl @isn_int) (And.intro @nin_int (And.intro @isn_str @nin_str))))) (And.intro (And.intro (And.intro (And.intro @isn_tup @nin_tup) (And.intro @isn_lst (And.intro @nin_lst @gt_i))) (And.intro (And.intro @ge_i @lt_i) (And.intro @le_i (And.intro @int_i @int_b)))) (And.intro (And.intro (And.intro @tup_l @tup_t) (And.intro @lst_l (And.intro @lst_t @len_tup0))) (And.intro (And.intro @len_lst0 @len_tup1) (And.intro @len_lst1 (And.intro @at_1_0 @len_tup2))))))
theorem dn6 : type_of% (And.intro (And.intro (And.intro (And.intro (And.intro @len_lst2 @at_2_0) (And.intro @at_2_1 (And.intro @len_tup3 @len_lst3))) (And.intro (And.intro @at_3_0 @at_3_1) (And.intro @at_3_2 (And.intro @len_tup4 @len_lst4)))) (And.intro (And.intro (And.intro @at_4_0 @at_4_1) (And.intro @at_4_2 (And.intro @at_4_3 @len_tup5))) (And.intro (And.intro @len_lst5 @at_5_0) (And.intro @at_5_1 (And.intro @at_5_2 @at_5_3))))) (And.intro (And.intro (And.intro (And.intro @at_5_4 @rev_l) (And.intro @sum_2 (And.intro @sum_3 @eq_nl))) (And.intro (And.intro @ne_nl @bX_s) (And.intro @bT_n (And.intro @bT_c @bT_b)))) (And.intro (And.intro (And.intro @bT_r @consO_s) (And.intro @consO_n (And.intro @fc_nil @fc_cons))) (And.intro (And.intro @fs_nil @fs_cons) (And.intro @subC_l (And.intro @subC_t @Bool.false_eq_true)))))) := (And.intro (And.intro (And.intro (And.intro (And.intro @len_lst2 @at_2_0) (And.intro @at_2_1 (And.intro @len_tup3 @len_lst3))) (And.intro (And.intro @at_3_0 @at_3_1) (And.intro @at_3_2 (And.intro @len_tup4 @len_lst4)))) (And.intro (And.intro (And.intro @at_4_0 @at_4_1) (And.intro @at_4_2 (And.intro @at_4_3 @len_tup5))) (And.intro (And.intro @len_lst5 @at_5_0) (And.intro @at_5_1 (And.intro @at_5_2 @at_5_3))))) (And.intro (And.intro (And.intro (And.intro @at_5_4 @rev_l) (And.intro @sum_2 (And.intro @sum_3 @eq_nl))) (And.intro (And.intro @ne_nl @bX_s) (And.intro @bT_n (And.intro @bT_c @bT_b)))) (And.intro (And.intro (And.intro @bT_r @consO_s) (And.intro @consO_n (And.intro @fc_nil @fc_cons))) (And.intro (And.intro @fs_nil @fs_cons) (And.intro @subC_l (And.intro @subC_t @Bool.false_eq_true))))))
theorem dn7 : type_of% (And.intro (And.intro (And.intro (And.intro @Bool.not_true @Bool.true_and) (And.intro @Bool.false_and @Bool.and_true)) (And.intro (And.intro @Bool.and_false @Bool.true_or) (And.intro @Bool.false_or @Bool.or_true))) (And.intro (And.intro (And.intro @Bool.or_false @Bool.not_false) (And.intro @e_callk @s_ins)) (And.intro (And.intro @pm_n @pm_c) (And.intro @consP_s @rev_t)))) := (And.intro (And.intro (And.intro (And.intro @Bool.not_true @Bool.true_and) (And.intro @Bool.false_and @Bool.and_true)) (And.intro (And.intro @Bool.and_false @Bool.true_or) (And.intro @Bool.false_or @Bool.or_true))) (And.intro (And.intro (And.intro @Bool.or_false @Bool.not_false) (And.intro @e_callk @s_ins)) (And.intro (And.intro @pm_n @pm_c) (And.intro @consP_s @rev_t))))
theorem dnx0 : type_of% (And.intro (And.intro (And.intro @dn0 @dn1) (And.intro @dn2 @dn3)) (And.intro (And.intro @dn4 @dn5) (And.intro @dn6 @dn7))) := (And.intro (And.intro (And.intro @dn0 @dn1) (And.intro @dn2 @dn3)) (And.intro (And.intro @dn4 @dn5) (And.intro @dn6 @dn7)))
theorem e_dnew {T : Tab} {call : CallT} {ρ : Rho} {μ : Mu} : dE T call .dnew ρ μ = some (.dct [], false, μ) := rfl
theorem p1_dct (x : List (L2.Key × D)) : plain1 (.dct x) = true := rfl
theorem p1_cell (n : Nat) : plain1 (.cell n) = true := rfl
theorem it_int_dct (x : List (L2.Key × D)) : isT "int" (.dct x) = false := rfl
theorem it_int_cell (n : Nat) : isT "int" (.cell n) = false := rfl
theorem it_bool_dct (x : List (L2.Key × D)) : isT "bool" (.dct x) = false := rfl
theorem it_bool_cell (n : Nat) : isT "bool" (.cell n) = false := rfl
theorem it_str_dct (x : List (L2.Key × D)) : isT "str" (.dct x) = false := rfl
theorem it_str_cell (n : Nat) : isT "str" (.cell n) = false := rfl
theorem it_tuple_dct (x : List (L2.Key × D)) : isT "tuple" (.dct x) = false := rfl
theorem it_tuple_cell (n : Nat) : isT "tuple" (.cell n) = false := rfl
theorem it_list_dct (x : List (L2.Key × D)) : isT "list" (.dct x) = false := rfl
theorem it_list_cell (n : Nat) : isT "list" (.cell n) = true := rfl
theorem it_dict_dct (x : List (L2.Key × D)) : isT "dict" (.dct x) = true := rfl
theorem it_dict_cell (n : Nat) : isT "dict" (.cell n) = false := rfl
theorem dnx : type_of% (And.intro (And.intro (And.intro (And.intro @dnx0 @e_dnew) (And.intro @p1_dct @p1_cell)) (And.intro (And.intro @it_int_dct @it_int_cell) (And.intro @it_bool_dct @it_bool_cell))) (And.intro (And.intro (And.intro @it_str_dct @it_str_cell) (And.intro @it_tuple_dct @it_tuple_cell)) (And.intro (And.intro @it_list_dct @it_list_cell) (And.intro @it_dict_dct @it_dict_cell)))) := (And.intro (And.intro (And.intro (And.intro @dnx0 @e_dnew) (And.intro @p1_dct @p1_cell)) (And.intro (And.intro @it_int_dct @it_int_cell) (And.intro @it_bool_dct @it_bool_cell))) (And.intro (And.intro (And.intro @it_str_dct @it_str_cell) (And.intro @it_tuple_dct @it_tuple_cell)) (And.intro (And.intro @it_list_dct @it_list_cell) (And.intro @it_dict_dct @it_dict_cell))))
end Z
end

section
set_option Elab.async false
set_option linter.all false
set_option maxRecDepth 100000
set_option maxHeartbeats 1000000
/-! What works out terms of exceptions. -/
namespace Z
open PySem
section
variable {α : Type} {T : Tab} {call : CallT} {ρ : Rho} {μ : Mu} {a b c e es r s : X}
theorem bR_0 (k : D → Bool → Mu → Option α) : bR none k = none := rfl
theorem bP_0 (k : D → Mu → Option α) : bP none k = none := rfl
theorem bS_0 (k : Rho → Mu → Option SR) : bS none k = none := rfl
theorem bB_0 (k : Bool → Mu → Option α) : bB none k = none := rfl
theorem bL_0 (k : List D → Mu → Option α) : bL none k = none := rfl
theorem retD_0 : retD none = none := rfl
theorem cut1_0 : cut1 none = none := rfl
theorem e_fnv (f : Nat) : dE T call (.fnv f) ρ μ = some (.fn f, false, μ) := rfl
def kAt (d : D) (o : Bool) (μ : Mu) : RE := match d with
  | .exn _ v => some (v, false, μ)
  | _ => none
theorem kAt_s (k : Nat) (v : D) (o : Bool) : kAt (.exn k v) o μ = some (v, false, μ) := rfl
theorem e_att : dE T call (.att a) ρ μ = bR (dE T call a ρ μ) kAt := by
  have q0 : dE T call (.att a) ρ μ = (match dE T call a ρ μ with
    | some (.exn _ v, _, μ1) => some (v, false, μ1)
    | _ => none) := rfl
  rw [q0]
  rcases dE T call a ρ μ with _ | ⟨d, w, μ1⟩
  · rfl
  · cases d <;> rfl
def kCv (T : Tab) (call : CallT) (n : Nat) (es : X) (ρ : Rho) (d : D) (o : Bool) (μ : Mu) : RE := match d with
  | .fn f => bL (dEs T call es ρ μ) (kCl call (n + f))
  | _ => none
theorem kCv_0 (f : Nat) (o : Bool) : kCv T call 0 es ρ (.fn f) o μ = bL (dEs T call es ρ μ) (kCl call f) := by
  show bL _ (kCl call (0 + f)) = _
  rw [Nat.zero_add]
theorem kCv_q (f : Nat) (o : Bool) : kCv T call RB es ρ (.fn f) o μ = bL (dEs T call es ρ μ) (kCl call (RB + f)) := rfl
theorem e_callv : dE T call (.callv a es) ρ μ = bR (dE T call a ρ μ) (kCv T call 0 es ρ) := by
  have q0 : dE T call (.callv a es) ρ μ = (match dE T call a ρ μ with
    | some (.fn f, _, μ1) => (match dEs T call es ρ μ1 with
      | some (ds, μ2) => call f ds μ2
      | none => none)
    | _ => none) := rfl
  rw [q0]
  rcases dE T call a ρ μ with _ | ⟨d, w, μ1⟩
  · rfl
  · cases d <;> try rfl
    rename_i f
    refine Eq.trans ?_ (kCv_0 (T := T) (call := call) (ρ := ρ) (μ := μ1) (es := es) f w).symm
    dsimp only
    rcases dEs T call es ρ μ1 with _ | ⟨ds, μ2⟩ <;> rfl
theorem qe_callv : qE T call (.callv a es) ρ μ = bR (dE T call a ρ μ) (kCv T call RB es ρ) := by
  have q0 : qE T call (.callv a es) ρ μ = (match dE T call a ρ μ with
    | some (.fn f, _, μ1) => (match dEs T call es ρ μ1 with
      | some (ds, μ2) => call (RB + f) ds μ2
      | none => none)
    | _ => none) := rfl
  rw [q0]
  rcases dE T call a ρ μ with _ | ⟨d, w, μ1⟩
  · rfl
  · cases d <;> try rfl
theorem qe_call (f : Nat) : qE T call (.call f es) ρ μ = bL (dEs T call es ρ μ) (kCl call (RB + f)) := by
  have q0 : qE T call (.call f es) ρ μ = (match dEs T call es ρ μ with
    | some (ds, μ1) => call (RB + f) ds μ1
    | none => none) := rfl
  rw [q0]
  rcases dEs T call es ρ μ with _ | ⟨ds, μ1⟩ <;> rfl
theorem qe_callk (f : Nat) (pm : List Nat) (ks : X) : qE T call (.callk f pm es ks) ρ μ = bL (dEs T call es ρ μ) (kCk T call (RB + f) pm ks ρ) := by
  have q0 : qE T call (.callk f pm es ks) ρ μ = (match dEs T call es ρ μ with
    | some (ds, μ1) => (match dEs T call ks ρ μ1 with
      | some (ds2, μ2) => call (RB + f) (ds ++ pmL pm ds2) μ2
      | none => none)
    | none => none) := rfl
  have e0 := e_callk (T := T) (call := fun g => call g) (ρ := ρ) (μ := μ) (es := es) (RB + f) pm ks
  rw [q0]
  exact e0
theorem qe_sub : qE T call (.sub a b) ρ μ = qE T call a ρ μ := rfl
def tryS (T : Tab) (n q : RE) (i c j : Nat) (ρ : Rho) : Option SR := match n with
  | some (_, _, μ1) => some (.nx ρ μ1)
  | none => (match q with
    | some (.exn k v, _, μ1) => (match T.sub k c with
      | some true => if i < ρ.length ∧ j < ρ.length ∧ i ≠ j then some (.nx ((ρ.set j (some (.exn k v, false))).set i none) μ1) else none
      | _ => none)
    | _ => none)
theorem s_try (i c j : Nat) : dS T call (.sTry (.sEx e) i c j) ρ μ = tryS T (dE T call e ρ μ) (qE T call e ρ μ) i c j ρ := rfl
theorem tryS_s (d : D) (o : Bool) (q : RE) (i c j : Nat) : tryS T (some (d, o, μ)) q i c j ρ = some (.nx ρ μ) := rfl
theorem tryS_x {k i c j : Nat} (h : T.sub k c = some true) (v : D) (o : Bool) (h2 : (decide (i < ρ.length) && (decide (j < ρ.length) && decide (i ≠ j))) = true) : tryS T none (some (.exn k v, o, μ)) i c j ρ = some (.nx ((ρ.set j (some (.exn k v, false))).set i none) μ) := by
  have h3 : i < ρ.length ∧ j < ρ.length ∧ i ≠ j := by simpa using h2
  show (match T.sub k c with
      | some true => if i < ρ.length ∧ j < ρ.length ∧ i ≠ j then some (SR.nx ((ρ.set j (some (.exn k v, false))).set i none) μ) else none
      | _ => none) = _
  rw [h]
  exact if_pos h3
theorem s_raise (k : Nat) : dS T call (.sRaise k e) ρ μ = none := rfl
theorem s_no : dS T call .sNo ρ μ = none := rfl
def seqQ (T : Tab) (call : CallT) (n : Option SR) (r : X) (z : RE) : RE := match n with
  | some (.nx ρ1 μ1) => qS T call r ρ1 μ1
  | _ => z
theorem seqQ_n (ρ1 : Rho) (μ1 : Mu) (z : RE) : seqQ T call (some (.nx ρ1 μ1)) r z = qS T call r ρ1 μ1 := rfl
theorem seqQ_0 (z : RE) : seqQ T call none r z = z := rfl
theorem q_cons : qS T call (.cons s r) ρ μ = seqQ T call (dS T call s ρ μ) r (qS T call s ρ μ) := by
  have q0 : qS T call (.cons s r) ρ μ = (match dS T call s ρ μ with
    | some (.nx ρ1 μ1) => qS T call r ρ1 μ1
    | _ => qS T call s ρ μ) := rfl
  rw [q0]
  rcases dS T call s ρ μ with _ | (_ | _ | _ | _) <;> rfl
def kQi (T : Tab) (call : CallT) (a b : X) (ρ : Rho) (k : Bool) (μ : Mu) : RE := match k with
  | true => qS T call a ρ μ
  | false => qS T call b ρ μ
theorem kQi_t : kQi T call a b ρ true μ = qS T call a ρ μ := rfl
theorem kQi_f : kQi T call a b ρ false μ = qS T call b ρ μ := rfl
theorem q_if : qS T call (.sIf c a b) ρ μ = bB (dE T call c ρ μ) (kQi T call a b ρ) := by
  have q0 : qS T call (.sIf c a b) ρ μ = (match dE T call c ρ μ with
    | some (.bl true, _, μ1) => qS T call a ρ μ1
    | some (.bl false, _, μ1) => qS T call b ρ μ1
    | _ => none) := rfl
  rw [q0]
  rcases dE T call c ρ μ with _ | ⟨d, w, μ1⟩
  · rfl
  · cases d <;> try rfl
    rename_i k
    cases k <;> rfl
theorem q_ex : qS T call (.sEx e) ρ μ = qE T call e ρ μ := rfl
theorem q_ret : qS T call (.sRet e) ρ μ = qE T call e ρ μ := rfl
theorem q_set (t : X) : qS T call (.sSet t e) ρ μ = qE T call e ρ μ := rfl
def kQr (call : CallT) (k : Nat) (d : D) (o : Bool) (μ : Mu) : RE := match call (RB + RB) [] μ with
  | some _ => some (.exn k d, false, μ)
  | none => none
theorem q_raise (k : Nat) : qS T call (.sRaise k e) ρ μ = bR (dE T call e ρ μ) (kQr call k) := by
  have q0 : qS T call (.sRaise k e) ρ μ = (match dE T call e ρ μ with
    | some (d, _, μ1) => (match call (RB + RB) [] μ1 with
      | some _ => some (.exn k d, false, μ1)
      | none => none)
    | none => none) := rfl
  rw [q0]
  rcases dE T call e ρ μ with _ | ⟨d, w, μ1⟩ <;> rfl
theorem kQr_s {k : Nat} {z : D × Bool × Mu} (h : call (RB + RB) [] μ = some z) (d : D) (o : Bool) : kQr call k d o μ = some (.exn k d, false, μ) := by
  unfold kQr
  rw [h]
/-- a raising call -/
theorem qCall_eq {T : Tab} {Δ : List Def} {k f : Nat} {F : Def} {ds : List D} {μ : Mu} (h : Δ[f]? = some F) (h0 : Δ[RB + f]? = none) (hl : ds.length = F.ps.length) :
    dCall T Δ (k + 1) (RB + f) ds μ = qS T (dCall T Δ k) F.body (ds.map (fun d => some (d, false)) ++ List.replicate (F.ns.length - F.ps.length) none) μ := by
  unfold dCall
  rw [h0, Nat.add_sub_cancel_left, h]
  dsimp only
  rw [if_pos (Nat.le_add_right ..), if_pos hl]
theorem room_ok {T : Tab} {Δ : List Def} (h : Δ.length ≤ RB) (k : Nat) (ds : List D) (μ : Mu) : dCall T Δ (k + 2) (RB + RB) ds μ = some (.non, false, μ) := by
  have h1 : Δ[RB + RB]? = none := List.getElem?_eq_none (by omega)
  have h2 : Δ[RB + RB - RB]? = none := List.getElem?_eq_none (by omega)
  unfold dCall
  rw [h1, h2]
  dsimp only
  rw [if_pos (by omega), if_pos ⟨rfl, by omega⟩]
theorem isn_exn (k : Nat) (v : D) : cpD .is_ (.exn k v) .non = some false := rfl
theorem nin_exn (k : Nat) (v : D) : cpD .isNot (.exn k v) .non = some true := rfl
end
theorem rx_att (a : X) (x : RE) : retX (.att a) ρ μ x = bR x kRt := rfl
theorem px_att (a : X) (x : RE) : pkR (.att a) ρ μ x = cut1 x := rfl
theorem ox_att (a : X) (x : RE) : opO (.att a) μ x = cutO x := rfl
theorem rx_callv (a b : X) (x : RE) : retX (.callv a b) ρ μ x = bR x kRt := rfl
theorem px_callv (a b : X) (x : RE) : pkR (.callv a b) ρ μ x = cut1 x := rfl
theorem ox_callv (a b : X) (x : RE) : opO (.callv a b) μ x = cutO x := rfl
theorem rx_fnv (i : Nat) (x : RE) : retX (.fnv i) ρ μ x = bR x kRt := rfl
theorem px_fnv (i : Nat) (x : RE) : pkR (.fnv i) ρ μ x = cut1 x := rfl
theorem ox_fnv (i : Nat) (x : RE) : opO (.fnv i) μ x = cutO x := rfl
theorem rx_dnew  (x : RE) : retX (.dnew) ρ μ x = bR x kRt := rfl
theorem px_dnew  (x : RE) : pkR (.dnew) ρ μ x = cut1 x := rfl
theorem ox_dnew  (x : RE) : opO (.dnew) μ x = cutO x := rfl
theorem kCl_s {call : CallT} (f : Nat) (ds : List D) (μ : Mu) : kCl call f ds μ = call f ds μ := by
  cases μ <;> rfl
theorem dqx : type_of% (And.intro (And.intro (And.intro (And.intro (And.intro @bR_0 @bP_0) (And.intro @bS_0 (And.intro @bB_0 @bL_0))) (And.intro (And.intro @retD_0 (And.intro @cut1_0 @e_fnv)) (And.intro @kAt_s (And.intro @e_att @kCv_0)))) (And.intro (And.intro (And.intro @kCv_q @e_callv) (And.intro @qe_callv (And.intro @qe_call @qe_callk))) (And.intro (And.intro @qe_sub (And.intro @s_try @tryS_s)) (And.intro @s_raise (And.intro @s_no @seqQ_n))))) (And.intro (And.intro (And.intro (And.intro @seqQ_0 @q_cons) (And.intro @kQi_t (And.intro @kQi_f @q_if))) (And.intro (And.intro @q_ex (And.intro @q_ret @q_set)) (And.intro @q_raise (And.intro @isn_exn @nin_exn)))) (And.intro (And.intro (And.intro @rx_att (And.intro @px_att @ox_att)) (And.intro @rx_callv (And.intro @px_callv @ox_callv))) (And.intro (And.intro @rx_fnv (And.intro @px_fnv @ox_fnv)) (And.intro @rx_dnew (And.intro @px_dnew @ox_dnew)))))) := (And.intro (And.intro (And.intro (And.intro (And.intro @bR_0 @bP_0) (And.intro @bS_0 (And.intro @bB_0 @bL_0))) (And.intro (And.intro @retD_0 (And.intro @cut1_0 @e_fnv)) (And.intro @kAt_s (And.intro @e_att @kCv_0)))) (And.intro (And.intro (And.intro @kCv_q @e_callv) (And.intro @qe_callv (And.intro @qe_call @qe_callk))) (And.intro (And.intro @qe_sub (And.intro @s_try @tryS_s)) (And.intro @s_raise (And.intro @s_no @seqQ_n))))) (And.intro (And.intro (And.intro (And.intro @seqQ_0 @q_cons) (And.intro @kQi_t (And.intro @kQi_f @q_if))) (And.intro (And.intro @q_ex (And.intro @q_ret @q_set)) (And.intro @q_raise (And.intro @isn_exn @nin_exn)))) (And.intro (And.intro (And.intro @rx_att (And.intro @px_att @ox_att)) (And.intro @rx_callv (And.intro @px_callv @ox_callv))) (And.intro (And.intro @rx_fnv (And.intro @px_fnv @ox_fnv)) (And.intro @rx_dnew (And.intro @px_dnew @ox_dnew))))))
end Z
end

section
set_option Elab.async false
set_option linter.all false
set_option maxRecDepth 100000
set_option maxHeartbeats 0
namespace ZL
open PySem PySem.Spec PyProof.Rows L2 Z
def f_0 : Def := ⟨"is_whole", ["value"], ["value"],
      (.cons (.sRet (.and (.isi (.var 0) "int") (.one (.not (.isi (.var 0) "bool")))))
      .nil)⟩
def f_1 : Def := ⟨"is_between", ["value", "low", "high"], ["value", "low", "high"],
      (.cons (.sIf (.not (.call 0 (.cons (.var 0) .nil)))
      (.cons (.sRet (.cst (.bl false)))
      .nil)
      .nil)
      (.cons (.sRet (.and (.or (.cmp .is_ (.var 1) (.cst .non)) (.one (.cmp .ge (.var 0) (.var 1)))) (.one (.or (.cmp .is_ (.var 2) (.cst .non)) (.one (.cmp .le (.var 0) (.var 2)))))))
      .nil))⟩
def f_2_c0 : X := (.not (.call 1 (.cons (.var 1) (.cons (.cst (.int (1))) (.cons (.cst .non) .nil)))))
def f_2 : Def := ⟨"link_fits", ["value"], ["value", "item"],
      (.cons (.sIf (.or (.not (.isi (.var 0) "tuple")) (.one (.cmp .ne (.bi .len (.cons (.var 0) .nil)) (.cst (.int (4))))))
      (.cons (.sRet (.cst (.bl false)))
      .nil)
      .nil)
      (.cons (.sRet (.cmp .eq (.comp (.var 1) (.tName 1) (.iEx (.var 0)) f_2_c0 [1]) (.lst .nil)))
      .nil))⟩
def f_3 : Def := ⟨"check_link", ["link"], ["link"],
      (.cons (.sIf (.not (.call 2 (.cons (.var 0) .nil)))
      (.cons .sNo
      .nil)
      .nil)
      .nil)⟩
def f_4 : Def := ⟨"bit_fits", ["value"], ["value"],
      (.cons (.sRet (.call 1 (.cons (.var 0) (.cons (.cst (.int (0))) (.cons (.cst (.int (1))) .nil)))))
      .nil)⟩
def f_5_c0 : X := (.not (.call 1 (.cons (.var 3) (.cons (.cst (.int (0))) (.cons (.cst .non) .nil)))))
def f_5 : Def := ⟨"counts_fit", ["value", "size", "most"], ["value", "size", "most", "item"],
      (.cons (.sIf (.or (.not (.isi (.var 0) "tuple")) (.one (.cmp .ne (.bi .len (.cons (.var 0) .nil)) (.var 1))))
      (.cons (.sRet (.cst (.bl false)))
      .nil)
      .nil)
      (.cons (.sIf (.cmp .ne (.comp (.var 3) (.tName 3) (.iEx (.var 0)) f_5_c0 [3]) (.lst .nil))
      (.cons (.sRet (.cst (.bl false)))
      .nil)
      .nil)
      (.cons (.sRet (.cmp .le (.bi .sum (.cons (.var 0) .nil)) (.var 2)))
      .nil)))⟩
def f_6_s0 : X := (.sIf (.or (.not (.isi (.var 1) "tuple")) (.or (.cmp .ne (.bi .len (.cons (.var 1) .nil)) (.cst (.int (2)))) (.one (.not (.isi (.sub (.var 1) (.cst (.int (0)))) "str")))))
      (.cons (.sRet (.cst (.bl false)))
      .nil)
      .nil)
def f_6_s1 : X := (.sIf (.or (.cmp .notIn (.sub (.var 1) (.cst (.int (0)))) (.lst (.cons (.cst (.str "new")) (.cons (.cst (.str "old")) .nil)))) (.one (.and (.cmp .eq (.sub (.var 1) (.cst (.int (0)))) (.cst (.str "new"))) (.one (.var 2)))))
      (.cons (.sRet (.cst (.bl false)))
      .nil)
      .nil)
def f_6 : Def := ⟨"lot_fits", ["link", "value", "alike"], ["link", "value", "alike"],
      (.cons (.sIf (.cmp .is_ (.var 1) (.cst .non))
      (.cons (.sRet (.cst (.bl true)))
      .nil)
      .nil)
      (.cons f_6_s0
      (.cons f_6_s1
      (.cons (.sRet (.call 1 (.cons (.sub (.var 1) (.cst (.int (1)))) (.cons (.cst (.int (1))) (.cons (.bin .sub (.sub (.var 0) (.cst (.int (2)))) (.cst (.int (1)))) .nil)))))
      .nil))))⟩
def f_7_s0 : X := (.sIf (.or (.not (.isi (.var 1) "tuple")) (.or (.cmp .ne (.bi .len (.cons (.var 1) .nil)) (.cst (.int (2)))) (.or (.not (.isi (.var 2) "tuple")) (.one (.cmp .ne (.bi .len (.cons (.var 2) .nil)) (.cst (.int (3))))))))
      (.cons (.sRet (.cst (.bl false)))
      .nil)
      .nil)
def f_7_s1 : X := (.sIf (.or (.not (.call 4 (.cons (.sub (.var 1) (.cst (.int (0)))) .nil))) (.one (.not (.call 1 (.cons (.sub (.var 1) (.cst (.int (1)))) (.cons (.cst (.int (0))) (.cons (.bin .sub (.sub (.var 0) (.cst (.int (3)))) (.cst (.int (1)))) .nil)))))))
      (.cons (.sRet (.cst (.bl false)))
      .nil)
      .nil)
def f_7 : Def := ⟨"hosts_fit", ["link", "sender", "receiver"], ["link", "sender", "receiver"],
      (.cons f_7_s0
      (.cons f_7_s1
      (.cons (.sIf (.or (.not (.call 4 (.cons (.sub (.var 2) (.cst (.int (0)))) .nil))) (.one (.not (.isi (.sub (.var 2) (.cst (.int (2)))) "bool"))))
      (.cons (.sRet (.cst (.bl false)))
      .nil)
      .nil)
      (.cons (.sRet (.call 6 (.cons (.var 0) (.cons (.sub (.var 2) (.cst (.int (1)))) (.cons (.cmp .eq (.sub (.var 1) (.cst (.int (0)))) (.sub (.var 2) (.cst (.int (0))))) .nil)))))
      .nil))))⟩
def f_8_s0 : X := (.sIf (.or (.not (.isi (.var 1) "tuple")) (.or (.cmp .ne (.bi .len (.cons (.var 1) .nil)) (.cst (.int (4)))) (.one (.not (.call 7 (.cons (.var 0) (.cons (.sub (.var 1) (.cst (.int (0)))) (.cons (.sub (.var 1) (.cst (.int (1)))) .nil))))))))
      (.cons (.sRet (.cst (.bl false)))
      .nil)
      .nil)
def f_8 : Def := ⟨"contents_fit", ["link", "value"], ["link", "value"],
      (.cons f_8_s0
      (.cons (.sRet (.and (.call 5 (.cons (.sub (.var 1) (.cst (.int (2)))) (.cons (.cst (.int (3))) (.cons (.sub (.var 0) (.cst (.int (0)))) .nil)))) (.one (.call 5 (.cons (.sub (.var 1) (.cst (.int (3)))) (.cons (.cst (.int (2))) (.cons (.sub (.var 0) (.cst (.int (1)))) .nil)))))))
      .nil))⟩
def f_9 : Def := ⟨"check_contents", ["link", "contents"], ["link", "contents"],
      (.cons (.sEx (.call 3 (.cons (.var 0) .nil)))
      (.cons (.sIf (.not (.call 8 (.cons (.var 0) (.cons (.var 1) .nil))))
      (.cons .sNo
      .nil)
      .nil)
      .nil))⟩
def f_10 : Def := ⟨"old_of", ["contents", "bit"], ["contents", "bit"],
      (.cons (.sRet (.sub (.sub (.var 0) (.cst (.int (2)))) (.bin .add (.cst (.int (1))) (.var 1))))
      .nil)⟩
def f_11 : Def := ⟨"answers_of", ["contents", "bit"], ["contents", "bit"],
      (.cons (.sRet (.sub (.sub (.var 0) (.cst (.int (3)))) (.var 1)))
      .nil)⟩
def f_12_c0 : X := (.not (.isi (.var 1) "str"))
def f_12 : Def := ⟨"words_fit", ["value"], ["value", "item"],
      (.cons (.sIf (.or (.not (.isi (.var 0) "list")) (.one (.cmp .ne (.comp (.var 1) (.tName 1) (.iEx (.var 0)) f_12_c0 [1]) (.lst .nil))))
      (.cons (.sRet (.cst (.bl false)))
      .nil)
      .nil)
      (.cons (.sRet (.cmp .in_ (.bi .tuple (.cons (.var 0) .nil)) (.con 0)))
      .nil))⟩
def f_13 : Def := ⟨"takable", ["contents"], ["contents"],
      (.cons (.sRet (.tup (.cons (.call 10 (.cons (.var 0) (.cons (.cst (.int (0))) .nil))) (.cons (.call 10 (.cons (.var 0) (.cons (.cst (.int (1))) .nil))) (.cons (.call 11 (.cons (.var 0) (.cons (.cst (.int (0))) .nil))) (.cons (.call 11 (.cons (.var 0) (.cons (.cst (.int (1))) .nil))) .nil))))))
      .nil)⟩
def f_14_c0 : X := (.not (.call 1 (.cons (.sub (.var 1) (.var 2)) (.cons (.cst (.int (0))) (.cons (.var 3) .nil)))))
def f_14 : Def := ⟨"taking_fits", ["contents", "value"], ["contents", "value", "at", "most"],
      (.cons (.sIf (.or (.not (.isi (.var 1) "tuple")) (.one (.cmp .ne (.bi .len (.cons (.var 1) .nil)) (.cst (.int (4))))))
      (.cons (.sRet (.cst (.bl false)))
      .nil)
      .nil)
      (.cons (.sRet (.cmp .eq (.comp (.var 2) (.tTup (.cons (.tName 2) (.cons (.tName 3) .nil))) (.iEnum (.call 13 (.cons (.var 0) .nil))) f_14_c0 [2, 3]) (.lst .nil)))
      .nil))⟩
def f_15 : Def := ⟨"mending_fits", ["contents", "value"], ["contents", "value"],
      (.cons (.sIf (.or (.not (.isi (.var 1) "tuple")) (.one (.cmp .ne (.bi .len (.cons (.var 1) .nil)) (.cst (.int (2))))))
      (.cons (.sRet (.cst (.bl false)))
      .nil)
      .nil)
      (.cons (.sRet (.and (.call 12 (.cons (.sub (.var 1) (.cst (.int (0)))) .nil)) (.one (.call 14 (.cons (.var 0) (.cons (.sub (.var 1) (.cst (.int (1)))) .nil))))))
      .nil))⟩
def f_16 : Def := ⟨"mended_in", ["contents", "mending"], ["contents", "mending", "other", "words", "taking", "lot", "there", "back", "bit", "heard", "done", "new", "zeros", "ones", "low", "high"],
      (.cons (.sSet (.tTup (.cons (.tName 3) (.cons (.tName 4) .nil))) (.var 1))
      (.cons (.sSet (.tTup (.cons (.tTup (.cons (.tName 8) (.cons (.tName 9) .nil))) (.cons (.tTup (.cons (.tName 2) (.cons (.tName 5) (.cons (.tName 10) .nil)))) (.cons (.tTup (.cons (.tName 11) (.cons (.tName 12) (.cons (.tName 13) .nil)))) (.cons (.tTup (.cons (.tName 14) (.cons (.tName 15) .nil))) .nil))))) (.var 0))
      (.cons (.sIf (.or (.cmp .in_ (.cst (.str "clear")) (.var 3)) (.one (.cmp .in_ (.cst (.str "turn")) (.var 3))))
      (.cons (.sSet (.tName 5) (.cst .non))
      .nil)
      .nil)
      (.cons (.sSet (.tName 2) (.ite (.cmp .in_ (.cst (.str "turn")) (.var 3)) (.bin .sub (.cst (.int (1))) (.var 2)) (.var 2)))
      (.cons (.sPar [6, 7] (.cons (.giv (.tup (.cons (.var 11) (.cons (.bin .sub (.var 12) (.sub (.var 4) (.cst (.int (0))))) (.cons (.bin .sub (.var 13) (.sub (.var 4) (.cst (.int (1))))) .nil))))) (.cons (.giv (.tup (.cons (.bin .sub (.var 14) (.sub (.var 4) (.cst (.int (2))))) (.cons (.bin .sub (.var 15) (.sub (.var 4) (.cst (.int (3))))) .nil)))) .nil)))
      (.cons (.sRet (.tup (.cons (.tup (.cons (.var 8) (.cons (.ite (.cmp .in_ (.cst (.str "forget")) (.var 3)) (.cst (.int (0))) (.var 9)) .nil))) (.cons (.tup (.cons (.var 2) (.cons (.var 5) (.cons (.var 10) .nil)))) (.cons (.var 6) (.cons (.var 7) .nil))))))
      .nil))))))⟩
def f_17 : Def := ⟨"cost_in", ["mending"], ["mending"],
      (.cons (.sRet (.bin .add (.bi .len (.cons (.sub (.var 0) (.cst (.int (0)))) .nil)) (.bi .sum (.cons (.sub (.var 0) (.cst (.int (1)))) .nil))))
      .nil)⟩
def f_18 : Def := ⟨"is_mending", ["link", "contents", "value"], ["link", "contents", "value"],
      (.cons (.sEx (.call 9 (.cons (.var 0) (.cons (.var 1) .nil))))
      (.cons (.sRet (.call 15 (.cons (.var 1) (.cons (.var 2) .nil))))
      .nil))⟩
def f_19 : Def := ⟨"check_mending", ["link", "contents", "mending"], ["link", "contents", "mending"],
      (.cons (.sEx (.call 9 (.cons (.var 0) (.cons (.var 1) .nil))))
      (.cons (.sIf (.not (.call 15 (.cons (.var 1) (.cons (.var 2) .nil))))
      (.cons .sNo
      .nil)
      .nil)
      .nil))⟩
def f_20 : Def := ⟨"mended", ["link", "contents", "mending"], ["link", "contents", "mending"],
      (.cons (.sEx (.call 19 (.cons (.var 0) (.cons (.var 1) (.cons (.var 2) .nil)))))
      (.cons (.sRet (.call 16 (.cons (.var 1) (.cons (.var 2) .nil))))
      .nil))⟩
def f_21 : Def := ⟨"cost_of", ["link", "contents", "mending"], ["link", "contents", "mending"],
      (.cons (.sEx (.call 19 (.cons (.var 0) (.cons (.var 1) (.cons (.var 2) .nil)))))
      (.cons (.sRet (.call 17 (.cons (.var 2) .nil)))
      .nil))⟩
def f_22 : Def := ⟨"_law_cell", ["_law_script", "_law_index"], ["_law_script", "_law_index"],
      (.cons (.sIf (.cmp .lt (.var 1) (.bi .len (.cons (.var 0) .nil)))
      (.cons (.sRet (.sub (.var 0) (.var 1)))
      .nil)
      .nil)
      (.cons (.sRet (.bin .mod (.bi .sum (.cons (.slc (.var 0) .noX (.cst (.int (1)))) .nil)) (.cst (.int (1000003)))))
      .nil))⟩
def f_23 : Def := ⟨"_law_hash", ["_law_seed", "_law_index"], ["_law_seed", "_law_index", "_law_mixed"],
      (.cons (.sSet (.tName 2) (.bin .mod (.bi .int (.cons (.bin .add (.bin .add (.bin .add (.bin .mul (.var 0) (.cst (.int (1140671)))) (.bin .mul (.bin .mul (.cst (.int (27644437))) (.var 1)) (.var 1))) (.bin .mul (.cst (.int (131))) (.var 1))) (.cst (.int (19)))) .nil)) (.cst (.int (2147483629)))))
      (.cons (.sSet (.tName 2) (.bin .mod (.bi .int (.cons (.bin .add (.bin .add (.bin .mul (.var 2) (.var 2)) (.bin .mul (.cst (.int (62089))) (.var 1))) (.cst (.int (32416187)))) .nil)) (.cst (.int (2147483587)))))
      (.cons (.sRet (.bin .mod (.bi .int (.cons (.bin .mul (.var 2) (.cst (.int (48271)))) .nil)) (.cst (.int (2147483647)))))
      .nil)))⟩
def f_24 : Def := ⟨"_law_generator", ["_law_script", "_law_index"], ["_law_script", "_law_index", "_law_seed"],
      (.cons (.sSet (.tName 2) (.call 22 (.cons (.var 0) (.cons (.var 1) .nil))))
      (.cons (.sRet (.lst (.cons (.bin .mod (.bi .int (.cons (.bi .max (.cons (.bin .sub (.var 2) (.bin .pow (.cst (.int (10))) (.cst (.int (18))))) (.cons (.cst (.int (0))) .nil))) .nil)) (.bin .pow (.bin .pow (.cst (.int (10))) (.cst (.int (60)))) (.cst (.int (10))))) (.cons (.bin .mod (.bi .int (.cons (.var 2) .nil)) (.cst (.int (2147483647)))) (.cons (.bin .mul (.cst (.int (1000))) (.var 1)) .nil)))))
      .nil))⟩
def f_25_s0 : X := (.sIf (.cmp .gt (.sub (.var 0) (.cst (.int (0)))) (.cst (.int (0))))
      (.cons (.sSet (.tName 2) (.bin .mod (.bi .int (.cons (.sub (.var 0) (.cst (.int (0)))) .nil)) (.var 1)))
      (.cons (.sSubC 0 (.cst (.int (0))) (.bin .fdiv (.sub (.var 0) (.cst (.int (0)))) (.var 1)))
      (.cons (.sRet (.var 2))
      .nil)))
      .nil)
def f_25_b0 : X := (.cons (.sSubC 0 (.cst (.int (2))) (.bin .add (.sub (.var 0) (.cst (.int (2)))) (.cst (.int (1)))))
      (.cons (.sSet (.tName 2) (.bin .add (.bin .mul (.var 2) (.cst (.int (2147483587)))) (.call 23 (.cons (.sub (.var 0) (.cst (.int (1)))) (.cons (.sub (.var 0) (.cst (.int (2)))) .nil)))))
      .nil))
def f_25 : Def := ⟨"_law_random", ["_law_generator_here", "_law_limit"], ["_law_generator_here", "_law_limit", "_law_drawn", "_law_turn"],
      (.cons f_25_s0
      (.cons (.sSet (.tName 2) (.cst (.int (0))))
      (.cons (.sFor (.tName 3) (.iRng (.cons (.bin .add (.cst (.int (1))) (.bin .fdiv (.md .bits (.var 1) .nil) (.cst (.int (30))))) .nil)) f_25_b0)
      (.cons (.sRet (.bin .mod (.bi .int (.cons (.var 2) .nil)) (.var 1)))
      .nil))))⟩
def f_26 : Def := ⟨"_law_link", ["_law_generator_here", "_law_most"], ["_law_generator_here", "_law_most", "_law_places", "_law_back"],
      (.cons (.sPar [2, 3] (.cons (.giv (.bin .add (.cst (.int (1))) (.call 25 (.cons (.var 0) (.cons (.var 1) .nil))))) (.cons (.giv (.bin .add (.cst (.int (1))) (.call 25 (.cons (.var 0) (.cons (.var 1) .nil))))) .nil)))
      (.cons (.sRet (.tup (.cons (.var 2) (.cons (.var 3) (.cons (.bin .add (.var 2) (.call 25 (.cons (.var 0) (.cons (.cst (.int (2))) .nil)))) (.cons (.bin .add (.var 3) (.call 25 (.cons (.var 0) (.cons (.cst (.int (2))) .nil)))) .nil))))))
      .nil))⟩
def f_27 : Def := ⟨"_law_great", ["_law_generator_here"], ["_law_generator_here", "_law_more", "_law_places", "_law_back"],
      (.cons (.sPar [2, 3] (.cons (.giv (.bin .add (.cst (.int (1))) (.call 25 (.cons (.var 0) (.cons (.bin .pow (.cst (.int (10))) (.cst (.int (28)))) .nil))))) (.cons (.giv (.bin .add (.cst (.int (1))) (.call 25 (.cons (.var 0) (.cons (.bin .pow (.cst (.int (10))) (.cst (.int (28)))) .nil))))) .nil)))
      (.cons (.sSet (.tName 1) (.lst (.cons (.cst (.int (0))) (.cons (.cst (.int (1))) (.cons (.bin .pow (.cst (.int (10))) (.cst (.int (27)))) .nil)))))
      (.cons (.sRet (.tup (.cons (.var 2) (.cons (.var 3) (.cons (.bin .add (.var 2) (.sub (.var 1) (.call 25 (.cons (.var 0) (.cons (.cst (.int (3))) .nil))))) (.cons (.bin .add (.var 3) (.sub (.var 1) (.call 25 (.cons (.var 0) (.cons (.cst (.int (3))) .nil))))) .nil))))))
      .nil)))⟩
def f_28 : Def := ⟨"_law_few", ["_law_generator_here", "_law_most"], ["_law_generator_here", "_law_most", "_law_menu"],
      (.cons (.sSet (.tName 2) (.lst (.cons (.cst (.int (0))) (.cons (.cst (.int (1))) (.cons (.bin .sub (.var 1) (.cst (.int (1)))) (.cons (.var 1) (.cons (.call 25 (.cons (.var 0) (.cons (.bin .add (.var 1) (.cst (.int (1)))) .nil))) .nil)))))))
      (.cons (.sRet (.bi .min (.cons (.bi .max (.cons (.sub (.var 2) (.call 25 (.cons (.var 0) (.cons (.cst (.int (5))) .nil)))) (.cons (.cst (.int (0))) .nil))) (.cons (.var 1) .nil))))
      .nil))⟩
def f_29_s0 : X := (.sIf (.and (.cmp .gt (.var 10) (.cst (.int (1)))) (.one (.cmp .gt (.call 25 (.cons (.var 0) (.cons (.cst (.int (3))) .nil))) (.cst (.int (0))))))
      (.cons (.sSet (.tName 16) (.ite (.or (.cmp .eq (.var 12) (.var 13)) (.one (.cmp .gt (.call 25 (.cons (.var 0) (.cons (.cst (.int (3))) .nil))) (.cst (.int (0)))))) (.cst (.str "old")) (.cst (.str "new"))))
      (.cons (.sSet (.tName 15) (.tup (.cons (.var 16) (.cons (.bi .max (.cons (.cst (.int (1))) (.cons (.call 28 (.cons (.var 0) (.cons (.bin .sub (.var 10) (.cst (.int (1)))) .nil))) .nil))) .nil))))
      .nil))
      .nil)
def f_29 : Def := ⟨"_law_contents", ["_law_generator_here", "_law_link_here"], ["_law_generator_here", "_law_link_here", "_law_first", "_law_second", "_law_third", "_law_there", "_law_low", "_law_high", "_law_places", "_law_back", "_law_copies", "_law_answers", "_law_bit", "_law_other", "_law_heard", "_law_lot", "_law_sort"],
      (.cons (.sSet (.tTup (.cons (.tName 8) (.cons (.tName 9) (.cons (.tName 10) (.cons (.tName 11) .nil))))) (.var 1))
      (.cons (.sPar [12, 13] (.cons (.giv (.call 25 (.cons (.var 0) (.cons (.cst (.int (2))) .nil)))) (.cons (.giv (.call 25 (.cons (.var 0) (.cons (.cst (.int (2))) .nil)))) .nil)))
      (.cons (.sPar [14, 15] (.cons (.giv (.call 28 (.cons (.var 0) (.cons (.bin .sub (.var 11) (.cst (.int (1)))) .nil)))) (.cons (.cst .non) .nil)))
      (.cons f_29_s0
      (.cons (.sSet (.tName 2) (.call 28 (.cons (.var 0) (.cons (.var 8) .nil))))
      (.cons (.sSet (.tName 3) (.call 28 (.cons (.var 0) (.cons (.bin .sub (.var 8) (.var 2)) .nil))))
      (.cons (.sSet (.tName 4) (.call 28 (.cons (.var 0) (.cons (.bin .sub (.bin .sub (.var 8) (.var 2)) (.var 3)) .nil))))
      (.cons (.sSet (.tName 5) (.sub (.lst (.cons (.tup (.cons (.var 4) (.cons (.var 2) (.cons (.var 3) .nil)))) (.cons (.tup (.cons (.var 4) (.cons (.var 3) (.cons (.var 2) .nil)))) (.cons (.tup (.cons (.var 2) (.cons (.var 3) (.cons (.var 4) .nil)))) .nil)))) (.call 25 (.cons (.var 0) (.cons (.cst (.int (3))) .nil)))))
      (.cons (.sSet (.tName 6) (.call 28 (.cons (.var 0) (.cons (.var 9) .nil))))
      (.cons (.sSet (.tName 7) (.call 28 (.cons (.var 0) (.cons (.bin .sub (.var 9) (.var 6)) .nil))))
      (.cons (.sRet (.tup (.cons (.tup (.cons (.var 12) (.cons (.var 14) .nil))) (.cons (.tup (.cons (.var 13) (.cons (.var 15) (.cons (.cmp .eq (.call 25 (.cons (.var 0) (.cons (.cst (.int (2))) .nil))) (.cst (.int (0)))) .nil)))) (.cons (.var 5) (.cons (.sub (.lst (.cons (.tup (.cons (.var 6) (.cons (.var 7) .nil))) (.cons (.tup (.cons (.var 7) (.cons (.var 6) .nil))) .nil))) (.call 25 (.cons (.var 0) (.cons (.cst (.int (2))) .nil)))) .nil))))))
      .nil)))))))))))⟩
def f_30 : Def := ⟨"_law_mended", ["_law_contents_here", "_law_words", "_law_taking"], ["_law_contents_here", "_law_words", "_law_taking", "_law_heard", "_law_there", "_law_back", "_law_other", "_law_lot", "_law_bit", "_law_done"],
      (.cons (.sSet (.tTup (.cons (.tTup (.cons (.tName 8) (.cons (.tName 3) .nil))) (.cons (.tTup (.cons (.tName 6) (.cons (.tName 7) (.cons (.tName 9) .nil)))) (.cons (.tName 4) (.cons (.tName 5) .nil))))) (.var 0))
      (.cons (.sIf (.cmp .in_ (.cst (.str "turn")) (.var 1))
      (.cons (.sSet (.tName 6) (.bin .sub (.cst (.int (1))) (.var 6)))
      .nil)
      .nil)
      (.cons (.sIf (.or (.cmp .in_ (.cst (.str "turn")) (.var 1)) (.one (.cmp .in_ (.cst (.str "clear")) (.var 1))))
      (.cons (.sSet (.tName 7) (.cst .non))
      .nil)
      .nil)
      (.cons (.sSet (.tName 3) (.ite (.cmp .in_ (.cst (.str "forget")) (.var 1)) (.cst (.int (0))) (.var 3)))
      (.cons (.sSet (.tName 4) (.tup (.cons (.sub (.var 4) (.cst (.int (0)))) (.cons (.bin .sub (.sub (.var 4) (.cst (.int (1)))) (.sub (.var 2) (.cst (.int (0))))) (.cons (.bin .sub (.sub (.var 4) (.cst (.int (2)))) (.sub (.var 2) (.cst (.int (1))))) .nil)))))
      (.cons (.sRet (.tup (.cons (.tup (.cons (.var 8) (.cons (.var 3) .nil))) (.cons (.tup (.cons (.var 6) (.cons (.var 7) (.cons (.var 9) .nil)))) (.cons (.var 4) (.cons (.tup (.cons (.bin .sub (.sub (.var 5) (.cst (.int (0)))) (.sub (.var 2) (.cst (.int (2))))) (.cons (.bin .sub (.sub (.var 5) (.cst (.int (1)))) (.sub (.var 2) (.cst (.int (3))))) .nil))) .nil))))))
      .nil))))))⟩
def f_31_e0 : X := (.bin .add (.var 2) (.lst (.cons (.var 1) .nil)))
def f_31_b0 : X := (.cons (.sSet (.tName 0) (.bin .add (.var 0) (.comp f_31_e0 (.tName 2) (.iEx (.var 0)) (.cst (.bl true)) [2])))
      .nil)
def f_31 : Def := ⟨"_law_word_lists", [], ["_law_found", "_law_word", "_law_words"],
      (.cons (.sSet (.tName 0) (.lst (.cons (.lst .nil) .nil)))
      (.cons (.sFor (.tName 1) (.iEx (.lst (.cons (.cst (.str "clear")) (.cons (.cst (.str "forget")) (.cons (.cst (.str "turn")) .nil))))) f_31_b0)
      (.cons (.sRet (.bi .sorted (.cons (.var 0) .nil)))
      .nil)))⟩
def f_32_c0 : X := (.not (.isi (.var 7) "str"))
def f_32_s0 : X := (.sIf (.or (.not (.isi (.var 3) "list")) (.or (.cmp .ne (.comp (.var 7) (.tName 7) (.iEx (.var 3)) f_32_c0 [7]) (.lst .nil)) (.one (.cmp .notIn (.var 3) (.call 31 .nil)))))
      (.cons (.sRet (.cst (.bl false)))
      .nil)
      .nil)
def f_32_c1 : X := (.or (.not (.isi (.var 5) "int")) (.one (.isi (.var 5) "bool")))
def f_32_c2 : X := (.not (.chn .le .le (.cst (.int (0))) (.sub (.var 4) (.var 6)) (.sub (.var 2) (.var 6))))
def f_32 : Def := ⟨"_law_fits", ["_law_contents_here", "_law_value"], ["_law_contents_here", "_law_value", "_law_bounds", "_law_words", "_law_taking", "_law_count", "_law_at", "_law_word"],
      (.cons (.sIf (.or (.not (.isi (.var 1) "tuple")) (.one (.cmp .ne (.bi .len (.cons (.var 1) .nil)) (.cst (.int (2))))))
      (.cons (.sRet (.cst (.bl false)))
      .nil)
      .nil)
      (.cons (.sSet (.tTup (.cons (.tName 3) (.cons (.tName 4) .nil))) (.var 1))
      (.cons f_32_s0
      (.cons (.sIf (.or (.not (.isi (.var 4) "tuple")) (.one (.cmp .ne (.bi .len (.cons (.var 4) .nil)) (.cst (.int (4))))))
      (.cons (.sRet (.cst (.bl false)))
      .nil)
      .nil)
      (.cons (.sIf (.cmp .ne (.comp (.var 5) (.tName 5) (.iEx (.var 4)) f_32_c1 [5]) (.lst .nil))
      (.cons (.sRet (.cst (.bl false)))
      .nil)
      .nil)
      (.cons (.sSet (.tName 2) (.lst (.cons (.sub (.sub (.var 0) (.cst (.int (2)))) (.cst (.int (1)))) (.cons (.sub (.sub (.var 0) (.cst (.int (2)))) (.cst (.int (2)))) (.cons (.sub (.sub (.var 0) (.cst (.int (3)))) (.cst (.int (0)))) (.cons (.sub (.sub (.var 0) (.cst (.int (3)))) (.cst (.int (1)))) .nil))))))
      (.cons (.sRet (.cmp .eq (.comp (.var 6) (.tName 6) (.iRng (.cons (.cst (.int (4))) .nil)) f_32_c2 [6]) (.lst .nil)))
      .nil)))))))⟩
def f_33_b0 : X := (.cons (.sSetO 3 (.bin .add (.pv 3) (.lst (.cons (.tup (.cons (.bin .add (.var 5) (.lst (.cons (.var 4) .nil))) (.cons (.var 6) .nil))) (.cons (.tup (.cons (.bin .add (.lst (.cons (.var 4) .nil)) (.var 5)) (.cons (.var 6) .nil))) .nil)))))
      .nil)
def f_33_b1 : X := (.cons (.sApp 3 (.tup (.cons (.var 5) (.cons (.bin .add (.bin .add (.slc (.var 6) .noX (.var 7)) (.tup (.cons (.var 4) .nil))) (.slc (.var 6) (.bin .add (.var 7) (.cst (.int (1)))) .noX)) .nil))))
      .nil)
def f_33 : Def := ⟨"_law_bent", ["_law_generator_here", "_law_contents_here", "_law_mending"], ["_law_generator_here", "_law_contents_here", "_law_mending", "_law_found", "_law_item", "_law_words", "_law_taking", "_law_at", "_law_count"],
      (.cons (.sSet (.tTup (.cons (.tName 5) (.cons (.tName 6) .nil))) (.var 2))
      (.cons (.sPar [7, 8] (.cons (.giv (.call 25 (.cons (.var 0) (.cons (.cst (.int (4))) .nil)))) (.cons (.giv (.call 25 (.cons (.var 0) (.cons (.cst (.int (5))) .nil)))) .nil)))
      (.cons (.sSetO 3 (.lst (.cons (.cst .non) (.cons (.tup .nil) (.cons (.lst .nil) (.cons .dnew (.cons (.cst (.int (5))) (.cons (.cst (.str "turn")) (.cons (.var 5) (.cons (.var 6) (.cons (.lst (.cons (.var 5) (.cons (.var 6) .nil))) (.cons (.tup (.cons (.var 6) (.cons (.var 5) .nil))) (.cons (.tup (.cons (.var 5) .nil)) (.cons (.tup (.cons (.var 5) (.cons (.var 6) (.cons (.cst (.int (0))) .nil)))) (.cons (.tup (.cons (.bi .tuple (.cons (.var 5) .nil)) (.cons (.var 6) .nil))) (.cons (.tup (.cons (.var 5) (.cons (.bi .list (.cons (.var 6) .nil)) .nil))) .nil))))))))))))))))
      (.cons (.sFor (.tName 4) (.iEx (.lst (.cons (.cst (.str "turn")) (.cons (.cst (.str "Turn")) (.cons (.cst (.str "")) (.cons (.cst .non) (.cons (.cst (.int (0))) (.cons (.lst (.cons (.cst (.str "turn")) .nil)) (.cons (.cst (.str "send")) .nil))))))))) f_33_b0)
      (.cons (.sFor (.tName 4) (.iEx (.lst (.cons (.cst .non) (.cons (.neg (.cst (.int (1)))) (.cons (.cst (.bl true)) (.cons (.cst (.bl false)) (.cons (.cst (.str "0")) (.cons (.lst (.cons (.cst (.int (0))) .nil)) (.cons (.bin .pow (.cst (.int (10))) (.cst (.int (29)))) (.cons (.bin .add (.sub (.var 6) (.var 7)) (.cst (.int (1)))) (.cons (.var 8) .nil))))))))))) f_33_b1)
      (.cons (.sRet (.bin .add (.pv 3) (.lst (.cons (.tup (.cons (.rev (.var 5)) (.cons (.var 6) .nil))) (.cons (.tup (.cons (.slc (.var 5) (.cst (.int (1))) .noX) (.cons (.var 6) .nil))) (.cons (.tup (.cons (.bin .add (.var 5) (.var 5)) (.cons (.var 6) .nil))) (.cons (.tup (.cons (.var 5) (.cons (.slc (.var 6) .noX (.cst (.int (3)))) .nil))) (.cons (.tup (.cons (.var 5) (.cons (.bin .add (.var 6) (.tup (.cons (.cst (.int (0))) .nil))) .nil))) (.cons (.tup (.cons (.var 5) (.cons (.rev (.var 6)) .nil))) .nil)))))))))
      .nil))))))⟩
def f_34_e0 : X := (.call 28 (.cons (.var 0) (.cons (.var 15) .nil)))
def f_34_s0 : X := (.sIf (.or (.cmp .isNot (.call 18 (.cons (.var 1) (.cons (.var 2) (.cons (.var 9) .nil)))) (.cst (.bl true))) (.one (.cmp .ne (.bi .repr (.cons (.call 20 (.cons (.var 1) (.cons (.var 2) (.cons (.var 9) .nil)))) .nil)) (.bi .repr (.cons (.var 12) .nil)))))
      (.cons (.sRet (.cst (.bl false)))
      .nil)
      .nil)
def f_34_s1 : X := (.sIf (.or (.cmp .ne (.callk 20 [2, 1, 0] .nil (.cons (.var 9) (.cons (.var 2) (.cons (.var 1) .nil)))) (.var 12)) (.one (.cmp .ne (.bi .repr (.cons (.call 21 (.cons (.var 1) (.cons (.var 2) (.cons (.var 9) .nil)))) .nil)) (.bi .repr (.cons (.bin .add (.bi .len (.cons (.var 7) .nil)) (.bi .sum (.cons (.var 8) .nil))) .nil)))))
      (.cons (.sRet (.cst (.bl false)))
      .nil)
      .nil)
def f_34_s2 : X := (.sIf (.or (.cmp .ne (.callk 21 [2, 1, 0] .nil (.cons (.var 9) (.cons (.var 2) (.cons (.var 1) .nil)))) (.bin .add (.bi .len (.cons (.var 7) .nil)) (.bi .sum (.cons (.var 8) .nil)))) (.or (.cmp .ne (.bi .repr (.cons (.lst (.cons (.var 1) (.cons (.var 2) .nil))) .nil)) (.var 6)) (.one (.cmp .ne (.bi .repr (.cons (.var 9) .nil)) (.var 11)))))
      (.cons (.sRet (.cst (.bl false)))
      .nil)
      .nil)
def f_34_s3 : X := (.sIf (.or (.cmp .ne (.bi .repr (.cons (.call 18 (.cons (.var 1) (.cons (.var 2) (.cons (.var 10) .nil)))) .nil)) (.bi .repr (.cons (.var 14) .nil))) (.or (.cmp .ne (.callk 18 [2, 1, 0] .nil (.cons (.var 10) (.cons (.var 2) (.cons (.var 1) .nil)))) (.var 14)) (.one (.cmp .ne (.bi .repr (.cons (.var 10) .nil)) (.var 13)))))
      (.cons (.sRet (.cst (.bl false)))
      .nil)
      .nil)
def f_34_b0 : X := (.cons (.sPar [13, 14] (.cons (.giv (.bi .repr (.cons (.var 10) .nil))) (.cons (.giv (.call 32 (.cons (.var 2) (.cons (.var 10) .nil)))) .nil)))
      (.cons f_34_s3
      .nil))
def f_34_b1 : X := (.cons (.sSet (.tName 7) (.sub (.var 5) (.call 25 (.cons (.var 0) (.cons (.cst (.int (8))) .nil)))))
      (.cons (.sSet (.tName 8) (.bi .tuple (.cons (.comp f_34_e0 (.tName 15) (.iEx (.var 4)) (.cst (.bl true)) [15]) .nil)))
      (.cons (.sSet (.tName 9) (.tup (.cons (.var 7) (.cons (.var 8) .nil))))
      (.cons (.sPar [11, 12] (.cons (.giv (.bi .repr (.cons (.var 9) .nil))) (.cons (.giv (.call 30 (.cons (.var 2) (.cons (.var 7) (.cons (.var 8) .nil))))) .nil)))
      (.cons f_34_s0
      (.cons f_34_s1
      (.cons f_34_s2
      (.cons (.sFor (.tName 10) (.iEx (.call 33 (.cons (.var 0) (.cons (.var 2) (.cons (.var 9) .nil))))) f_34_b0)
      .nil))))))))
def f_34 : Def := ⟨"_law_right", ["_law_generator_here", "_law_link_here"], ["_law_generator_here", "_law_link_here", "_law_contents_here", "_law_turn", "_law_bounds", "_law_lists", "_law_kept", "_law_words", "_law_taking", "_law_mending", "_law_value", "_law_given", "_law_due", "_law_before", "_law_fits_here", "_law_bound"],
      (.cons (.sSet (.tName 2) (.call 29 (.cons (.var 0) (.cons (.var 1) .nil))))
      (.cons (.sPar [4, 5, 6] (.cons (.giv (.lst (.cons (.sub (.sub (.var 2) (.cst (.int (2)))) (.cst (.int (1)))) (.cons (.sub (.sub (.var 2) (.cst (.int (2)))) (.cst (.int (2)))) (.cons (.sub (.sub (.var 2) (.cst (.int (3)))) (.cst (.int (0)))) (.cons (.sub (.sub (.var 2) (.cst (.int (3)))) (.cst (.int (1)))) .nil)))))) (.cons (.giv (.call 31 .nil)) (.cons (.giv (.bi .repr (.cons (.lst (.cons (.var 1) (.cons (.var 2) .nil))) .nil))) .nil))))
      (.cons (.sFor (.tName 3) (.iRng (.cons (.cst (.int (4))) .nil)) f_34_b1)
      (.cons (.sRet (.cst (.bl true)))
      .nil))))⟩
def f_35_s0 : X := (.sIf (.not (.call 34 (.cons (.var 5) (.cons (.ite (.cmp .eq (.var 1) (.cst (.int (2)))) (.call 27 (.cons (.var 5) .nil)) (.call 26 (.cons (.var 5) (.cons (.cst (.int (3))) .nil)))) .nil))))
      (.cons (.sRet (.cst (.bl false)))
      .nil)
      .nil)
def f_35_b0 : X := (.cons (.sSet (.tName 5) (.mk (.call 24 (.cons (.var 0) (.cons (.var 1) .nil)))))
      (.cons f_35_s0
      .nil))
def f_35_s1 : X := (.sIf (.cmp .ne (.call 20 (.cons (.tup (.cons (.cst (.int (3))) (.cons (.cst (.int (3))) (.cons (.cst (.int (3))) (.cons (.cst (.int (3))) .nil))))) (.cons (.var 2) (.cons (.tup (.cons (.lst (.cons (.cst (.str "clear")) .nil)) (.cons (.tup (.cons (.cst (.int (0))) (.cons (.cst (.int (1))) (.cons (.cst (.int (0))) (.cons (.cst (.int (1))) .nil))))) .nil))) .nil)))) (.tup (.cons (.tup (.cons (.cst (.int (0))) (.cons (.cst (.int (2))) .nil))) (.cons (.tup (.cons (.cst (.int (0))) (.cons (.cst .non) (.cons (.cst (.bl false)) .nil)))) (.cons (.tup (.cons (.cst (.int (0))) (.cons (.cst (.int (1))) (.cons (.cst (.int (1))) .nil)))) (.cons (.tup (.cons (.cst (.int (2))) (.cons (.cst (.int (0))) .nil))) .nil))))))
      (.cons (.sRet (.cst (.bl false)))
      .nil)
      .nil)
def f_35_s2 : X := (.sIf (.cmp .ne (.call 20 (.cons (.tup (.cons (.cst (.int (1))) (.cons (.cst (.int (1))) (.cons (.cst (.int (2))) (.cons (.cst (.int (1))) .nil))))) (.cons (.var 3) (.cons (.tup (.cons (.lst (.cons (.cst (.str "turn")) .nil)) (.cons (.tup (.cons (.cst (.int (0))) (.cons (.cst (.int (0))) (.cons (.cst (.int (0))) (.cons (.cst (.int (1))) .nil))))) .nil))) .nil)))) (.tup (.cons (.tup (.cons (.cst (.int (0))) (.cons (.cst (.int (0))) .nil))) (.cons (.tup (.cons (.cst (.int (0))) (.cons (.cst .non) (.cons (.cst (.bl true)) .nil)))) (.cons (.tup (.cons (.cst (.int (1))) (.cons (.cst (.int (0))) (.cons (.cst (.int (0))) .nil)))) (.cons (.tup (.cons (.cst (.int (0))) (.cons (.cst (.int (0))) .nil))) .nil))))))
      (.cons (.sRet (.cst (.bl false)))
      .nil)
      .nil)
def f_35_s3 : X := (.sIf (.cmp .ne (.call 20 (.cons (.tup (.cons (.cst (.int (3))) (.cons (.cst (.int (1))) (.cons (.cst (.int (1))) (.cons (.cst (.int (1))) .nil))))) (.cons (.var 4) (.cons (.tup (.cons (.lst .nil) (.cons (.tup (.cons (.cst (.int (3))) (.cons (.cst (.int (0))) (.cons (.cst (.int (0))) (.cons (.cst (.int (0))) .nil))))) .nil))) .nil)))) (.tup (.cons (.tup (.cons (.cst (.int (0))) (.cons (.cst (.int (0))) .nil))) (.cons (.tup (.cons (.cst (.int (0))) (.cons (.cst .non) (.cons (.cst (.bl true)) .nil)))) (.cons (.tup (.cons (.cst (.int (0))) (.cons (.cst (.int (0))) (.cons (.cst (.int (0))) .nil)))) (.cons (.tup (.cons (.cst (.int (0))) (.cons (.cst (.int (0))) .nil))) .nil))))))
      (.cons (.sRet (.cst (.bl false)))
      .nil)
      .nil)
def f_35 : Def := ⟨"law", ["_law_script"], ["_law_script", "_law_index", "_law_bad", "_law_loose", "_law_zeros", "_law_generator_here"],
      (.cons (.sFor (.tName 1) (.iRng (.cons (.cst (.int (3))) .nil)) f_35_b0)
      (.cons (.sSet (.tName 2) (.tup (.cons (.tup (.cons (.cst (.int (0))) (.cons (.cst (.int (2))) .nil))) (.cons (.tup (.cons (.cst (.int (0))) (.cons (.tup (.cons (.cst (.str "old")) (.cons (.cst (.int (2))) .nil))) (.cons (.cst (.bl false)) .nil)))) (.cons (.tup (.cons (.cst (.int (0))) (.cons (.cst (.int (1))) (.cons (.cst (.int (2))) .nil)))) (.cons (.tup (.cons (.cst (.int (2))) (.cons (.cst (.int (1))) .nil))) .nil))))))
      (.cons f_35_s1
      (.cons (.sSet (.tName 3) (.tup (.cons (.tup (.cons (.cst (.int (0))) (.cons (.cst (.int (0))) .nil))) (.cons (.tup (.cons (.cst (.int (1))) (.cons (.tup (.cons (.cst (.str "new")) (.cons (.cst (.int (1))) .nil))) (.cons (.cst (.bl true)) .nil)))) (.cons (.tup (.cons (.cst (.int (1))) (.cons (.cst (.int (0))) (.cons (.cst (.int (0))) .nil)))) (.cons (.tup (.cons (.cst (.int (0))) (.cons (.cst (.int (1))) .nil))) .nil))))))
      (.cons f_35_s2
      (.cons (.sSet (.tName 4) (.tup (.cons (.tup (.cons (.cst (.int (0))) (.cons (.cst (.int (0))) .nil))) (.cons (.tup (.cons (.cst (.int (0))) (.cons (.cst .non) (.cons (.cst (.bl true)) .nil)))) (.cons (.tup (.cons (.cst (.int (0))) (.cons (.cst (.int (3))) (.cons (.cst (.int (0))) .nil)))) (.cons (.tup (.cons (.cst (.int (0))) (.cons (.cst (.int (0))) .nil))) .nil))))))
      (.cons f_35_s3
      (.cons (.sRet (.cmp .eq (.call 21 (.cons (.tup (.cons (.cst (.int (1))) (.cons (.cst (.int (1))) (.cons (.cst (.int (2))) (.cons (.cst (.int (1))) .nil))))) (.cons (.var 3) (.cons (.tup (.cons (.lst (.cons (.cst (.str "clear")) (.cons (.cst (.str "forget")) (.cons (.cst (.str "turn")) .nil)))) (.cons (.tup (.cons (.cst (.int (0))) (.cons (.cst (.int (0))) (.cons (.cst (.int (0))) (.cons (.cst (.int (1))) .nil))))) .nil))) .nil)))) (.cst (.int (4)))))
      .nil))))))))⟩
def fs : List Def := [f_0, f_1, f_2, f_3, f_4, f_5, f_6, f_7, f_8, f_9, f_10, f_11, f_12, f_13, f_14, f_15, f_16, f_17, f_18, f_19, f_20, f_21, f_22, f_23, f_24, f_25, f_26, f_27, f_28, f_29, f_30, f_31, f_32, f_33, f_34, f_35]
def cs : List (Str × D) := [("WORD_LISTS", (.lst [(.tup []), (.tup [(.str "clear")]), (.tup [(.str "clear"), (.str "forget")]), (.tup [(.str "clear"), (.str "forget"), (.str "turn")]), (.tup [(.str "clear"), (.str "turn")]), (.tup [(.str "forget")]), (.tup [(.str "forget"), (.str "turn")]), (.tup [(.str "turn")])]))]
def subs : List (List Bool) := []
def cl : List (Str × Bool) := []
def T : Tab := ⟨cs.map (·.2), [], subs⟩
-- classes: 
theorem con_0 : T.cons[0]? = some (.lst [(.tup []), (.tup [(.str "clear")]), (.tup [(.str "clear"), (.str "forget")]), (.tup [(.str "clear"), (.str "forget"), (.str "turn")]), (.tup [(.str "clear"), (.str "turn")]), (.tup [(.str "forget")]), (.tup [(.str "forget"), (.str "turn")]), (.tup [(.str "turn")])]) := rfl
-- consts: WORD_LISTS
theorem at_0 : fs[0]? = some f_0 := rfl
theorem at_1 : fs[1]? = some f_1 := rfl
theorem at_2 : fs[2]? = some f_2 := rfl
theorem at_3 : fs[3]? = some f_3 := rfl
theorem at_4 : fs[4]? = some f_4 := rfl
theorem at_5 : fs[5]? = some f_5 := rfl
theorem at_6 : fs[6]? = some f_6 := rfl
theorem at_7 : fs[7]? = some f_7 := rfl
theorem at_8 : fs[8]? = some f_8 := rfl
theorem at_9 : fs[9]? = some f_9 := rfl
theorem at_10 : fs[10]? = some f_10 := rfl
theorem at_11 : fs[11]? = some f_11 := rfl
theorem at_12 : fs[12]? = some f_12 := rfl
theorem at_13 : fs[13]? = some f_13 := rfl
theorem at_14 : fs[14]? = some f_14 := rfl
theorem at_15 : fs[15]? = some f_15 := rfl
theorem at_16 : fs[16]? = some f_16 := rfl
theorem at_17 : fs[17]? = some f_17 := rfl
theorem at_18 : fs[18]? = some f_18 := rfl
theorem at_19 : fs[19]? = some f_19 := rfl
theorem at_20 : fs[20]? = some f_20 := rfl
theorem at_21 : fs[21]? = some f_21 := rfl
theorem at_22 : fs[22]? = some f_22 := rfl
theorem at_23 : fs[23]? = some f_23 := rfl
theorem at_24 : fs[24]? = some f_24 := rfl
theorem at_25 : fs[25]? = some f_25 := rfl
theorem at_26 : fs[26]? = some f_26 := rfl
theorem at_27 : fs[27]? = some f_27 := rfl
theorem at_28 : fs[28]? = some f_28 := rfl
theorem at_29 : fs[29]? = some f_29 := rfl
theorem at_30 : fs[30]? = some f_30 := rfl
theorem at_31 : fs[31]? = some f_31 := rfl
theorem at_32 : fs[32]? = some f_32 := rfl
theorem at_33 : fs[33]? = some f_33 := rfl
theorem at_34 : fs[34]? = some f_34 := rfl
theorem at_35 : fs[35]? = some f_35 := rfl
end ZL
end

section
set_option Elab.async false
set_option linter.all false
set_option maxRecDepth 100000
set_option maxHeartbeats 4000000
set_option exponentiation.threshold 4000
-- 491cae34ae96c9e28bad4e1b21655756
namespace ZL
open PySem PySem.Spec Z
theorem c_0 (k : Nat) (i : Int) (μ : Mu) : dCall T fs (k + 1) 0 [.int i] μ = some (.bl true, false, μ) := by
  rw [dCall_eq at_0 rfl]
  simp only [f_0]
  simp only [dnx, dqx, e_lend, disowns, sz1_s, decide_true, decide_false, eq_self, kVl, kT, kLs, kW, kBl, kNt, kNg, kOp2, kCp2, kSb2, kIs, kBi, kMd2, kRv, kSl3, kMk, kGv, kLc, kPr, kPo, kRt, kNxt, kExS, kStO, kAp, kSb3, gC, kSc3, kEx1, kOp, kCp, kCh1, kCh, kSb, kMd, kSl2, kSl, kCl_s, kTe2, kTn, turnC, kCm, kCns, kCnp, kCno, kSeqS, kStT, kPrS, kTb, turnS, kFo, kS2, kC2, kEn, kZp2, kZp, kZs2, kZs, dT, dT.dTs, setR, disown, wipeR, scalar, kFc2, kFc, kFs, seqD, kCk, kCk2, kIn2, kIn3, Nat.reduceAdd, Nat.reduceSub, Nat.reduceLT, Nat.reduceLeDiff, ite_true, ite_false, if_true, if_false, reduceCtorEq, List.append_nil, List.cons_append, List.getElem?_cons_succ, List.getElem?_cons_zero, List.length_cons, List.length_nil, List.map_cons, List.map_nil, List.nil_append, List.replicate_succ, List.replicate_zero, List.reverse_cons, List.reverse_nil, List.set_cons_succ, List.set_cons_zero]
theorem c_1 (k : Nat) (i j h : Int) (μ : Mu) : dCall T fs (k + 2) 1 [.int i, .int j, .int h] μ = some (.bl (decide (j ≤ i) && decide (i ≤ h)), false, μ) := by
  rw [dCall_eq at_1 rfl]
  simp only [f_1]
  simp only [dnx, dqx, e_lend, disowns, sz1_s, decide_true, decide_false, eq_self, kVl, kT, kLs, kW, kBl, kNt, kNg, kOp2, kCp2, kSb2, kIs, kBi, kMd2, kRv, kSl3, kMk, kGv, kLc, kPr, kPo, kRt, kNxt, kExS, kStO, kAp, kSb3, gC, kSc3, kEx1, kOp, kCp, kCh1, kCh, kSb, kMd, kSl2, kSl, kCl_s, kTe2, kTn, turnC, kCm, kCns, kCnp, kCno, kSeqS, kStT, kPrS, kTb, turnS, kFo, kS2, kC2, kEn, kZp2, kZp, kZs2, kZs, dT, dT.dTs, setR, disown, wipeR, scalar, kFc2, kFc, kFs, seqD, kCk, kCk2, kIn2, kIn3, Nat.reduceAdd, Nat.reduceSub, Nat.reduceLT, Nat.reduceLeDiff, ite_true, ite_false, if_true, if_false, reduceCtorEq, List.append_nil, List.cons_append, List.getElem?_cons_succ, List.getElem?_cons_zero, List.length_cons, List.length_nil, List.map_cons, List.map_nil, List.nil_append, List.replicate_succ, List.replicate_zero, List.reverse_cons, List.reverse_nil, List.set_cons_succ, List.set_cons_zero, c_0]
  cases decide (j ≤ i)
  · simp only [dnx, dqx, e_lend, disowns, sz1_s, decide_true, decide_false, eq_self, kVl, kT, kLs, kW, kBl, kNt, kNg, kOp2, kCp2, kSb2, kIs, kBi, kMd2, kRv, kSl3, kMk, kGv, kLc, kPr, kPo, kRt, kNxt, kExS, kStO, kAp, kSb3, gC, kSc3, kEx1, kOp, kCp, kCh1, kCh, kSb, kMd, kSl2, kSl, kCl_s, kTe2, kTn, turnC, kCm, kCns, kCnp, kCno, kSeqS, kStT, kPrS, kTb, turnS, kFo, kS2, kC2, kEn, kZp2, kZp, kZs2, kZs, dT, dT.dTs, setR, disown, wipeR, scalar, kFc2, kFc, kFs, seqD, kCk, kCk2, kIn2, kIn3, Nat.reduceAdd, Nat.reduceSub, Nat.reduceLT, Nat.reduceLeDiff, ite_true, ite_false, if_true, if_false, reduceCtorEq, List.append_nil, List.cons_append, List.getElem?_cons_succ, List.getElem?_cons_zero, List.length_cons, List.length_nil, List.map_cons, List.map_nil, List.nil_append, List.replicate_succ, List.replicate_zero, List.reverse_cons, List.reverse_nil, List.set_cons_succ, List.set_cons_zero]
  · simp only [dnx, dqx, e_lend, disowns, sz1_s, decide_true, decide_false, eq_self, kVl, kT, kLs, kW, kBl, kNt, kNg, kOp2, kCp2, kSb2, kIs, kBi, kMd2, kRv, kSl3, kMk, kGv, kLc, kPr, kPo, kRt, kNxt, kExS, kStO, kAp, kSb3, gC, kSc3, kEx1, kOp, kCp, kCh1, kCh, kSb, kMd, kSl2, kSl, kCl_s, kTe2, kTn, turnC, kCm, kCns, kCnp, kCno, kSeqS, kStT, kPrS, kTb, turnS, kFo, kS2, kC2, kEn, kZp2, kZp, kZs2, kZs, dT, dT.dTs, setR, disown, wipeR, scalar, kFc2, kFc, kFs, seqD, kCk, kCk2, kIn2, kIn3, Nat.reduceAdd, Nat.reduceSub, Nat.reduceLT, Nat.reduceLeDiff, ite_true, ite_false, if_true, if_false, reduceCtorEq, List.append_nil, List.cons_append, List.getElem?_cons_succ, List.getElem?_cons_zero, List.length_cons, List.length_nil, List.map_cons, List.map_nil, List.nil_append, List.replicate_succ, List.replicate_zero, List.reverse_cons, List.reverse_nil, List.set_cons_succ, List.set_cons_zero]
def hashM (s i : Int) : Int := ((((s * 1140671 + 27644437 * i * i + 131 * i + 19) % 2147483629) * ((s * 1140671 + 27644437 * i * i + 131 * i + 19) % 2147483629) + 62089 * i + 32416187) % 2147483587 * 48271) % 2147483647
theorem c_14 (k : Nat) (s i : Int) (μ : Mu) (h0 : -18446744073709551616 < i) (h1 : i < 18446744073709551616) : dCall T fs (k + 1) 23 [.int s, .int i] μ = some (.int (hashM s i), false, μ) := by
  have q1 : -18446744073709551616 < (s * 1140671 + 27644437 * i * i + 131 * i + 19) % 2147483629 := by omega
  have q2 : (s * 1140671 + 27644437 * i * i + 131 * i + 19) % 2147483629 < 18446744073709551616 := by omega
  rw [dCall_eq at_23 rfl]
  simp only [f_23]
  simp only [dnx, dqx, e_lend, disowns, sz1_s, decide_true, decide_false, eq_self, kVl, kT, kLs, kW, kBl, kNt, kNg, kOp2, kCp2, kSb2, kIs, kBi, kMd2, kRv, kSl3, kMk, kGv, kLc, kPr, kPo, kRt, kNxt, kExS, kStO, kAp, kSb3, gC, kSc3, kEx1, kOp, kCp, kCh1, kCh, kSb, kMd, kSl2, kSl, kCl_s, kTe2, kTn, turnC, kCm, kCns, kCnp, kCno, kSeqS, kStT, kPrS, kTb, turnS, kFo, kS2, kC2, kEn, kZp2, kZp, kZs2, kZs, dT, dT.dTs, setR, disown, wipeR, scalar, kFc2, kFc, kFs, seqD, kCk, kCk2, kIn2, kIn3, Nat.reduceAdd, Nat.reduceSub, Nat.reduceLT, Nat.reduceLeDiff, ite_true, ite_false, if_true, if_false, reduceCtorEq, List.append_nil, List.cons_append, List.getElem?_cons_succ, List.getElem?_cons_zero, List.length_cons, List.length_nil, List.map_cons, List.map_nil, List.nil_append, List.replicate_succ, List.replicate_zero, List.reverse_cons, List.reverse_nil, List.set_cons_succ, List.set_cons_zero, mul_r, mul_l, mod_i, h0, h1, Int.reduceLT, Int.reduceNeg, q1, q2]
  rfl
/-- the generator's cell -/
def GS (μ : Mu) (n : Nat) (m : Int) : Prop := ∃ a b c : Int, μ[n]? = some [.int a, .int b, .int c] ∧ 0 ≤ a ∧ 0 ≤ c ∧ c ≤ m ∧ μ.all scalL = true
theorem at_i0 (a b c : D) : L2.atI [a, b, c] 0 = some a := rfl
theorem at_i1 (a b c : D) : L2.atI [a, b, c] 1 = some b := rfl
theorem at_i2 (a b c : D) : L2.atI [a, b, c] 2 = some c := rfl
theorem ix_0 : L2.ixN 3 0 = some 0 := rfl
theorem ix_2 : L2.ixN 3 2 = some 2 := rfl
theorem set_at {μ : Mu} {n : Nat} {xs ys : List D} (h : μ[n]? = some xs) : (μ.set n ys)[n]? = some ys := by
  rw [List.getElem?_set_self (List.getElem?_eq_some_iff.mp h).1]
theorem set_scal {μ : Mu} {n : Nat} {xs : List D} (h : μ.all scalL = true) (hx : scalL xs = true) : (μ.set n xs).all scalL = true := by
  rw [List.all_eq_true] at h ⊢
  intro y hy
  rcases List.mem_or_eq_of_mem_set hy with q | q
  · exact h y q
  · rw [q]
    exact hx
theorem rnd_pos (k : Nat) (μ : Mu) (n : Nat) (a b c w : Int) (h : μ[n]? = some [.int a, .int b, .int c]) (ha : 0 < a) (hw : 0 < w) (hw2 : w < 2 ^ 1000) :
    dCall T fs (k + 1) 25 [.cell n, .int w] μ = some (.int (a % w), false, μ.set n [.int (a / w), .int b, .int c]) := by
  rw [dCall_eq at_25 rfl]
  simp only [f_25, f_25_s0]
  simp only [dnx, dqx, e_lend, disowns, sz1_s, decide_true, decide_false, eq_self, kVl, kT, kLs, kW, kBl, kNt, kNg, kOp2, kCp2, kSb2, kIs, kBi, kMd2, kRv, kSl3, kMk, kGv, kLc, kPr, kPo, kRt, kNxt, kExS, kStO, kAp, kSb3, gC, kSc3, kEx1, kOp, kCp, kCh1, kCh, kSb, kMd, kSl2, kSl, kCl_s, kTe2, kTn, turnC, kCm, kCns, kCnp, kCno, kSeqS, kStT, kPrS, kTb, turnS, kFo, kS2, kC2, kEn, kZp2, kZp, kZs2, kZs, dT, dT.dTs, setR, disown, wipeR, scalar, kFc2, kFc, kFs, seqD, kCk, kCk2, kIn2, kIn3, Nat.reduceAdd, Nat.reduceSub, Nat.reduceLT, Nat.reduceLeDiff, ite_true, ite_false, if_true, if_false, reduceCtorEq, List.append_nil, List.cons_append, List.getElem?_cons_succ, List.getElem?_cons_zero, List.length_cons, List.length_nil, List.map_cons, List.map_nil, List.nil_append, List.replicate_succ, List.replicate_zero, List.reverse_cons, List.reverse_nil, List.set_cons_succ, List.set_cons_zero, subC_c h, at_i0, at_i1, at_i2, ix_0, ix_2, mod_i, div_i, ha, hw, hw2, h, decide_true]
theorem rnd_loop (k : Nat) (n : Nat) (a b w : Int) : ∀ (j : Nat) (lo c d : Int) (x : Option (D × Bool)) (μ : Mu), μ[n]? = some [.int a, .int b, .int c] → 0 ≤ c → c + j < 18446744073709551616 →
    ∃ d' x', foldS (turnS T (dCall T fs (k + 1)) (.tName 3) f_25_b0) (rngL j lo) [some (.cell n, false), some (.int w, false), some (.int d, false), x] μ = some (.nx [some (.cell n, false), some (.int w, false), some (.int d', false), x'] (μ.set n [.int a, .int b, .int (c + j)]))
  | 0, lo, c, d, x, μ, h, _, _ => by
    refine ⟨d, x, ?_⟩
    have e : μ.set n [.int a, .int b, .int (c + (0 : Nat))] = μ := by
      have ec : c + ((0 : Nat) : Int) = c := by omega
      rw [ec]
      apply List.ext_getElem?
      intro i
      by_cases q : n = i
      · subst q
        rw [set_at h, h]
      · rw [List.getElem?_set_ne q]
    rw [e]
    rfl
  | j + 1, lo, c, d, x, μ, h, h0, h1 => by
    have h2 := set_at (ys := [.int a, .int b, .int (c + 1)]) h
    have q1 : -18446744073709551616 < c + 1 := by omega
    have q2 : c + 1 < 18446744073709551616 := by omega
    obtain ⟨d', x', ih⟩ := rnd_loop k n a b w j (lo + 1) (c + 1) (d * 2147483587 + hashM b (c + 1)) (some (.int lo, false)) _ h2 (by omega) (by omega)
    refine ⟨d', x', ?_⟩
    have e1 : (μ.set n [.int a, .int b, .int (c + 1)]).set n [.int a, .int b, .int (c + 1 + j)] = μ.set n [.int a, .int b, .int (c + (j + 1 : Nat))] := by
      rw [List.set_set, show c + 1 + (j : Int) = c + ((j + 1 : Nat) : Int) by omega]
    rw [e1] at ih
    rw [← ih]
    show foldS _ (.int lo :: rngL j (lo + 1)) _ _ = _
    rw [foldS]
    have turn : turnS T (dCall T fs (k + 1)) (.tName 3) f_25_b0 (.int lo) [some (.cell n, false), some (.int w, false), some (.int d, false), x] μ = some (.nx [some (.cell n, false), some (.int w, false), some (.int (d * 2147483587 + hashM b (c + 1)), false), some (.int lo, false)] (μ.set n [.int a, .int b, .int (c + 1)])) := by
      simp only [dnx, dqx, e_lend, disowns, sz1_s, decide_true, decide_false, eq_self, kVl, kT, kLs, kW, kBl, kNt, kNg, kOp2, kCp2, kSb2, kIs, kBi, kMd2, kRv, kSl3, kMk, kGv, kLc, kPr, kPo, kRt, kNxt, kExS, kStO, kAp, kSb3, gC, kSc3, kEx1, kOp, kCp, kCh1, kCh, kSb, kMd, kSl2, kSl, kCl_s, kTe2, kTn, turnC, kCm, kCns, kCnp, kCno, kSeqS, kStT, kPrS, kTb, turnS, kFo, kS2, kC2, kEn, kZp2, kZp, kZs2, kZs, dT, dT.dTs, setR, disown, wipeR, scalar, kFc2, kFc, kFs, seqD, kCk, kCk2, kIn2, kIn3, Nat.reduceAdd, Nat.reduceSub, Nat.reduceLT, Nat.reduceLeDiff, ite_true, ite_false, if_true, if_false, reduceCtorEq, List.append_nil, List.cons_append, List.getElem?_cons_succ, List.getElem?_cons_zero, List.length_cons, List.length_nil, List.map_cons, List.map_nil, List.nil_append, List.replicate_succ, List.replicate_zero, List.reverse_cons, List.reverse_nil, List.set_cons_succ, List.set_cons_zero, f_25_b0, subC_c h, subC_c h2, at_i0, at_i1, at_i2, ix_0, ix_2, h, List.set_nil, mul_r, Int.reduceLT, Int.reduceNeg, c_14 k b (c + 1) _ q1 q2]
    rw [turn]
theorem rnd (k : Nat) (μ : Mu) (n : Nat) (m w : Int) (h : GS μ n m) (hm : m < 2 ^ 60) (hw : 0 < w) (hw2 : w < 2 ^ 200) :
    ∃ v μ', dCall T fs (k + 2) 25 [.cell n, .int w] μ = some (.int v, false, μ') ∧ 0 ≤ v ∧ v < w ∧ GS μ' n (m + 10) := by
  obtain ⟨a, b, c, h, ha, hc, hcm, hs⟩ := h
  have hw3 : w < 2 ^ 1000 := Int.lt_trans hw2 (by decide)
  by_cases h0 : 0 < a
  · refine ⟨a % w, _, rnd_pos (k + 1) μ n a b c w h h0 hw hw3, Int.emod_nonneg _ (by omega), Int.emod_lt_of_pos _ hw, a / w, b, c, set_at h, Int.ediv_nonneg ha (by omega), hc, by omega, set_scal hs rfl⟩
  · have hb : Builtin.Int.intBits w ≤ 200 := PyProof.Rows.intBits_le (by
      have e : (2 : Int) ^ 200 = ((2 ^ 200 : Nat) : Int) := by norm_cast
      omega)
    have hn : ((1 : Int) + (Builtin.Int.intBits w : Int) / 30).toNat ≤ 7 := by omega
    have hz : (1 : Int) + (Builtin.Int.intBits w : Int) / 30 ≤ 7 := by omega
    obtain ⟨d', x', lp⟩ := rnd_loop k n a b w ((1 : Int) + (Builtin.Int.intBits w : Int) / 30).toNat 0 c 0 none μ h hc (by omega)
    refine ⟨d' % w, μ.set n [.int a, .int b, .int (c + ((1 : Int) + (Builtin.Int.intBits w : Int) / 30).toNat)], ?_, Int.emod_nonneg _ (by omega), Int.emod_lt_of_pos _ hw, a, b, _, set_at h, ha, by omega, by omega, set_scal hs rfl⟩
    rw [dCall_eq at_25 rfl]
    simp only [f_25, f_25_s0]
    have hz2 : -4611686018427387904 ≤ (1 : Int) + (Builtin.Int.intBits w : Int) / 30 := by omega
    have hz3 : (1 : Int) + (Builtin.Int.intBits w : Int) / 30 ≤ 100000 := by omega
    simp only [dnx, dqx, e_lend, disowns, sz1_s, decide_true, decide_false, eq_self, kVl, kT, kLs, kW, kBl, kNt, kNg, kOp2, kCp2, kSb2, kIs, kBi, kMd2, kRv, kSl3, kMk, kGv, kLc, kPr, kPo, kRt, kNxt, kExS, kStO, kAp, kSb3, gC, kSc3, kEx1, kOp, kCp, kCh1, kCh, kSb, kMd, kSl2, kSl, kCl_s, kTe2, kTn, turnC, kCm, kCns, kCnp, kCno, kSeqS, kStT, kPrS, kTb, turnS, kFo, kS2, kC2, kEn, kZp2, kZp, kZs2, kZs, dT, dT.dTs, setR, disown, wipeR, scalar, kFc2, kFc, kFs, seqD, kCk, kCk2, kIn2, kIn3, Nat.reduceAdd, Nat.reduceSub, Nat.reduceLT, Nat.reduceLeDiff, ite_true, ite_false, if_true, if_false, reduceCtorEq, List.append_nil, List.cons_append, List.getElem?_cons_succ, List.getElem?_cons_zero, List.length_cons, List.length_nil, List.map_cons, List.map_nil, List.nil_append, List.replicate_succ, List.replicate_zero, List.reverse_cons, List.reverse_nil, List.set_cons_succ, List.set_cons_zero, subC_c h, at_i0, at_i1, at_i2, mod_i, div_i, div_s, hw, hw3, h, h0, decide_false, mdD, Int.reduceLT, Int.reducePow, hz2, hz3, lp]
end ZL
end

section
set_option Elab.async false
set_option linter.all false
set_option maxRecDepth 100000
set_option maxHeartbeats 4000000
set_option exponentiation.threshold 4000
-- 322d4e18af8299b3e5557da069627c47
namespace ZL
open PySem PySem.Spec Z
theorem GS.mono {μ : Mu} {n : Nat} {m m' : Int} (h : GS μ n m) (l : m ≤ m') : GS μ n m' := by
  obtain ⟨a, b, c, h1, h2, h3, h4, h5⟩ := h
  exact ⟨a, b, c, h1, h2, h3, by omega, h5⟩
theorem GS.scal {μ : Mu} {n : Nat} {m : Int} (h : GS μ n m) : μ.all scalL = true := by
  obtain ⟨_, _, _, _, _, _, _, h5⟩ := h
  exact h5
theorem slc1 (xs : List D) : slcD (.lst xs) none (some 1) = some (.lst (xs.take 1), true) := by
  show some (D.lst (cutD xs none (some 1)), true) = _
  cases xs with
  | nil => rfl
  | cons a r =>
    have e : HT.sIx (a :: r).length (a :: r).length (some 1) = 1 := by
      refine (HT.sIx_nat _ _ 1).trans ?_
      rw [List.length_cons]
      omega
    unfold cutD
    rw [e]
    rfl
theorem sum1 (ns : List Int) : ∃ z, biD .sum [.lst ((ns.map D.int).take 1)] = some (.int z, false) := by
  cases ns with
  | nil => exact ⟨_, rfl⟩
  | cons a r => exact ⟨_, rfl⟩
theorem lcell (k : Nat) (ns : List Int) (i : Nat) (μ : Mu) : ∃ z, dCall T fs (k + 1) 22 [.lst (ns.map .int), .int i] μ = some (.int z, false, μ) := by
  by_cases h : (i : Int) < ((ns.map D.int).length : Int)
  · have h2 : i < ns.length := by rw [List.length_map] at h; omega
    refine ⟨ns[i], ?_⟩
    have ha : L2.atI (ns.map D.int) (i : Int) = some (.int ns[i]) := at_n (by rw [List.getElem?_map, List.getElem?_eq_getElem h2]; rfl)
    rw [dCall_eq at_22 rfl]
    simp only [f_22]
    simp only [dnx, dqx, e_lend, disowns, sz1_s, decide_true, decide_false, eq_self, kVl, kT, kLs, kW, kBl, kNt, kNg, kOp2, kCp2, kSb2, kIs, kBi, kMd2, kRv, kSl3, kMk, kGv, kLc, kPr, kPo, kRt, kNxt, kExS, kStO, kAp, kSb3, gC, kSc3, kEx1, kOp, kCp, kCh1, kCh, kSb, kMd, kSl2, kSl, kCl_s, kTe2, kTn, turnC, kCm, kCns, kCnp, kCno, kSeqS, kStT, kPrS, kTb, turnS, kFo, kS2, kC2, kEn, kZp2, kZp, kZs2, kZs, dT, dT.dTs, setR, disown, wipeR, scalar, kFc2, kFc, kFs, seqD, kCk, kCk2, kIn2, kIn3, Nat.reduceAdd, Nat.reduceSub, Nat.reduceLT, Nat.reduceLeDiff, ite_true, ite_false, if_true, if_false, reduceCtorEq, List.append_nil, List.cons_append, List.getElem?_cons_succ, List.getElem?_cons_zero, List.length_cons, List.length_nil, List.map_cons, List.map_nil, List.nil_append, List.replicate_succ, List.replicate_zero, List.reverse_cons, List.reverse_nil, List.set_cons_succ, List.set_cons_zero, len_l, h, decide_true, ha]
  · obtain ⟨z, hz⟩ := sum1 ns
    refine ⟨z % 1000003, ?_⟩
    rw [dCall_eq at_22 rfl]
    simp only [f_22]
    have q3 : (0 : Int) < 1000003 := by decide
    simp only [dnx, dqx, e_lend, disowns, sz1_s, decide_true, decide_false, eq_self, kVl, kT, kLs, kW, kBl, kNt, kNg, kOp2, kCp2, kSb2, kIs, kBi, kMd2, kRv, kSl3, kMk, kGv, kLc, kPr, kPo, kRt, kNxt, kExS, kStO, kAp, kSb3, gC, kSc3, kEx1, kOp, kCp, kCh1, kCh, kSb, kMd, kSl2, kSl, kCl_s, kTe2, kTn, turnC, kCm, kCns, kCnp, kCno, kSeqS, kStT, kPrS, kTb, turnS, kFo, kS2, kC2, kEn, kZp2, kZp, kZs2, kZs, dT, dT.dTs, setR, disown, wipeR, scalar, kFc2, kFc, kFs, seqD, kCk, kCk2, kIn2, kIn3, Nat.reduceAdd, Nat.reduceSub, Nat.reduceLT, Nat.reduceLeDiff, ite_true, ite_false, if_true, if_false, reduceCtorEq, List.append_nil, List.cons_append, List.getElem?_cons_succ, List.getElem?_cons_zero, List.length_cons, List.length_nil, List.map_cons, List.map_nil, List.nil_append, List.replicate_succ, List.replicate_zero, List.reverse_cons, List.reverse_nil, List.set_cons_succ, List.set_cons_zero, len_l, h, decide_false, slc1, hz, mod_i, q3]
theorem pw1 : opD .pow (.int 10) (.int 18) = some (.int (10 ^ 18), false) := by kernel_rfl
theorem pw2 : opD .pow (.int 10) (.int 60) = some (.int (10 ^ 60), false) := by kernel_rfl
theorem pw3 : opD .pow (.int (10 ^ 60)) (.int 10) = some (.int ((10 ^ 60) ^ 10), false) := by kernel_rfl
theorem max2 (i j : Int) : biD .max [.int i, .int j] = some (.int (if j > i then j else i), false) := rfl
theorem q600 : (0 : Int) < (10 ^ 60) ^ 10 := by decide
theorem q21 : (0 : Int) < 2147483647 := by decide
theorem lgen (k : Nat) (ns : List Int) (i : Nat) (hi : i < 1000) (μ : Mu) : ∃ a b : Int, dCall T fs (k + 2) 24 [.lst (ns.map .int), .int i] μ = some (.lst [.int a, .int b, .int (1000 * i)], true, μ) ∧ 0 ≤ a := by
  obtain ⟨z, hz⟩ := lcell k ns i μ
  refine ⟨(if (0 : Int) > z - 10 ^ 18 then 0 else z - 10 ^ 18) % ((10 ^ 60) ^ 10), z % 2147483647, ?_, Int.emod_nonneg _ (by decide)⟩
  rw [dCall_eq at_24 rfl]
  simp only [f_24]
  have i1 : -18446744073709551616 < (i : Int) := by omega
  have i2 : (i : Int) < 18446744073709551616 := by omega
  simp only [dnx, dqx, e_lend, disowns, sz1_s, decide_true, decide_false, eq_self, kVl, kT, kLs, kW, kBl, kNt, kNg, kOp2, kCp2, kSb2, kIs, kBi, kMd2, kRv, kSl3, kMk, kGv, kLc, kPr, kPo, kRt, kNxt, kExS, kStO, kAp, kSb3, gC, kSc3, kEx1, kOp, kCp, kCh1, kCh, kSb, kMd, kSl2, kSl, kCl_s, kTe2, kTn, turnC, kCm, kCns, kCnp, kCno, kSeqS, kStT, kPrS, kTb, turnS, kFo, kS2, kC2, kEn, kZp2, kZp, kZs2, kZs, dT, dT.dTs, setR, disown, wipeR, scalar, kFc2, kFc, kFs, seqD, kCk, kCk2, kIn2, kIn3, Nat.reduceAdd, Nat.reduceSub, Nat.reduceLT, Nat.reduceLeDiff, ite_true, ite_false, if_true, if_false, reduceCtorEq, List.append_nil, List.cons_append, List.getElem?_cons_succ, List.getElem?_cons_zero, List.length_cons, List.length_nil, List.map_cons, List.map_nil, List.nil_append, List.replicate_succ, List.replicate_zero, List.reverse_cons, List.reverse_nil, List.set_cons_succ, List.set_cons_zero, hz, sz1_s, pw1, pw2, pw3, max2, mod_i, q600, q21, mul_r, i1, i2, int_i]
theorem gs_new (a b c m : Int) (μ : Mu) (h0 : 0 ≤ a) (h1 : 0 ≤ c) (h2 : c ≤ m) (hs : μ.all scalL = true) : GS (μ ++ [[.int a, .int b, .int c]]) μ.length m :=
  ⟨a, b, c, by rw [List.getElem?_append_right (Nat.le_refl _), Nat.sub_self]; rfl, h0, h1, h2, by rw [List.all_append, hs]; rfl⟩
end ZL
end

section
set_option Elab.async false
set_option linter.all false
set_option maxRecDepth 100000
set_option maxHeartbeats 4000000
set_option exponentiation.threshold 4000
-- 8695d7d507d4f456c9f9b9a30a0c8b5f
namespace ZL
open PySem PySem.Spec Z
def lk (p q r s : Int) : D := .tup [.int p, .int q, .int r, .int s]
theorem at3 (a b c : D) (v : Int) (h0 : 0 ≤ v) (h1 : v < 3) : L2.atI [a, b, c] v = some (if v = 0 then a else if v = 1 then b else c) := by
  have h : v = 0 ∨ v = 1 ∨ v = 2 := by omega
  rcases h with rfl | rfl | rfl <;> rfl
def sumI : List Int → Int
  | [] => 0
  | i :: r => i + sumI r
theorem sumI_app : ∀ xs ys : List Int, sumI (xs ++ ys) = sumI xs + sumI ys
  | [], ys => (Int.zero_add _).symm
  | x :: xs, ys => by
    show x + sumI (xs ++ ys) = x + sumI xs + sumI ys
    rw [sumI_app xs ys]
    omega
theorem sumI_rev : ∀ xs : List Int, sumI xs.reverse = sumI xs
  | [] => rfl
  | x :: xs => by
    rw [List.reverse_cons, sumI_app, sumI_rev xs]
    show sumI xs + (x + 0) = x + sumI xs
    omega
/-- contents -/
structure Co where
  sb : Int
  sh : Int
  rb : Int
  lot : Option (Bool × Int)
  dun : Bool
  t0 : Int
  t1 : Int
  t2 : Int
  b0 : Int
  b1 : Int
def lotD : Option (Bool × Int) → D
  | none => .non
  | some (true, n) => .tup [.str "new", .int n]
  | some (false, n) => .tup [.str "old", .int n]
theorem lotD_n : lotD none = .non := rfl
theorem lotD_w {n : Int} : lotD (some (true, n)) = .tup [.str "new", .int n] := rfl
theorem lotD_o {n : Int} : lotD (some (false, n)) = .tup [.str "old", .int n] := rfl
def co (c : Co) : D := .tup [.tup [.int c.sb, .int c.sh], .tup [.int c.rb, lotD c.lot, .bl c.dun], .tup [.int c.t0, .int c.t1, .int c.t2], .tup [.int c.b0, .int c.b1]]
/-- contents of the link p q r s -/
structure COk (p q r s : Int) (c : Co) : Prop where
  sb : c.sb = 0 ∨ c.sb = 1
  sh0 : 0 ≤ c.sh
  sh1 : c.sh ≤ s - 1
  rb : c.rb = 0 ∨ c.rb = 1
  lot : ∀ b n, c.lot = some (b, n) → 1 ≤ n ∧ n ≤ r - 1 ∧ (b = true → c.sb ≠ c.rb)
  t0 : 0 ≤ c.t0
  t1 : 0 ≤ c.t1
  t2 : 0 ≤ c.t2
  ts : c.t0 + c.t1 + c.t2 ≤ p
  b0 : 0 ≤ c.b0
  b1 : 0 ≤ c.b1
  bs : c.b0 + c.b1 ≤ q
/-- a link of numbers that are not too great -/
structure LOk (p q r s : Int) : Prop where
  p0 : 1 ≤ p
  p1 : p < 2 ^ 150
  q0 : 1 ≤ q
  q1 : q < 2 ^ 150
  r0 : 1 ≤ r
  r1 : r < 2 ^ 150
  s0 : 1 ≤ s
  s1 : s < 2 ^ 150
theorem at4_0 (a b c d : D) : L2.atI [a, b, c, d] 0 = some a := rfl
theorem at4_1 (a b c d : D) : L2.atI [a, b, c, d] 1 = some b := rfl
theorem at4_2 (a b c d : D) : L2.atI [a, b, c, d] 2 = some c := rfl
theorem at4_3 (a b c d : D) : L2.atI [a, b, c, d] 3 = some d := rfl
theorem at2_0 (a b : D) : L2.atI [a, b] 0 = some a := rfl
theorem at2_1 (a b : D) : L2.atI [a, b] 1 = some b := rfl
theorem at2 (a b : D) (v : Int) (h0 : 0 ≤ v) (h1 : v < 2) : L2.atI [a, b] v = some (if v = 0 then a else b) := by
  have h : v = 0 ∨ v = 1 := by omega
  rcases h with rfl | rfl <;> rfl
theorem three {vs : List Int} (h : vs.length = 3) : ∃ a b c, vs = [a, b, c] := by
  match vs, h with
  | [a, b, c], _ => exact ⟨a, b, c, rfl⟩
theorem two {vs : List Int} (h : vs.length = 2) : ∃ a b, vs = [a, b] := by
  match vs, h with
  | [a, b], _ => exact ⟨a, b, rfl⟩
end ZL
end

section
set_option Elab.async false
set_option linter.all false
set_option maxRecDepth 100000
set_option maxHeartbeats 4000000
set_option exponentiation.threshold 4000
-- 995fc88a48806f8385ea2e92f842c41e
namespace ZL
open PySem PySem.Spec Z
/-! loops by what holds on the way -/
theorem fs_pre {α : Type} {F : D → Rho → Mu → Option SR} {g : α → D} (I : List α → Rho → Mu → Prop) (xs : List α)
    (h : ∀ pre x post, xs = pre ++ x :: post → ∀ ρ μ, I pre ρ μ → ∃ ρ' μ', F (g x) ρ μ = some (.nx ρ' μ') ∧ I (pre ++ [x]) ρ' μ') {ρ : Rho} {μ : Mu} (h0 : I [] ρ μ) :
    ∃ ρ' μ', foldS F (xs.map g) ρ μ = some (.nx ρ' μ') ∧ I xs ρ' μ' := by
  have go : ∀ (post pre : List α), xs = pre ++ post → ∀ ρ μ, I pre ρ μ → ∃ ρ' μ', foldS F (post.map g) ρ μ = some (.nx ρ' μ') ∧ I xs ρ' μ' := by
    intro post
    induction post with
    | nil =>
      intro pre e ρ μ hi
      rw [List.append_nil] at e
      subst e
      exact ⟨ρ, μ, rfl, hi⟩
    | cons x post ih =>
      intro pre e ρ μ hi
      obtain ⟨ρ1, μ1, e1, h1⟩ := h pre x post e ρ μ hi
      obtain ⟨ρ2, μ2, e2, h2⟩ := ih (pre ++ [x]) (by rw [List.append_assoc]; exact e) ρ1 μ1 h1
      refine ⟨ρ2, μ2, ?_, h2⟩
      rw [List.map_cons, fs_cons, e1, bT_n]
      exact e2
  exact go xs [] rfl ρ μ h0
theorem fs_rng {F : D → Rho → Mu → Option SR} (I : Nat → Rho → Mu → Prop) (n : Nat) (lo : Int)
    (h : ∀ j : Nat, j < n → ∀ ρ μ, I j ρ μ → ∃ ρ' μ', F (.int (lo + j)) ρ μ = some (.nx ρ' μ') ∧ I (j + 1) ρ' μ') {ρ : Rho} {μ : Mu} (h0 : I 0 ρ μ) :
    ∃ ρ' μ', foldS F (rngL n lo) ρ μ = some (.nx ρ' μ') ∧ I n ρ' μ' := by
  have go : ∀ (r j : Nat), j + r = n → ∀ ρ μ, I j ρ μ → ∃ ρ' μ', foldS F (rngL r (lo + j)) ρ μ = some (.nx ρ' μ') ∧ I n ρ' μ' := by
    intro r
    induction r with
    | zero =>
      intro j e ρ μ hi
      have e' : j = n := e
      subst e'
      exact ⟨ρ, μ, rfl, hi⟩
    | succ r ih =>
      intro j e ρ μ hi
      obtain ⟨ρ1, μ1, e1, h1⟩ := h j (by omega) ρ μ hi
      obtain ⟨ρ2, μ2, e2, h2⟩ := ih (j + 1) (by omega) ρ1 μ1 h1
      refine ⟨ρ2, μ2, ?_, h2⟩
      show foldS F (.int (lo + j) :: rngL r (lo + j + 1)) ρ μ = _
      rw [fs_cons, e1, bT_n]
      rw [show lo + (j : Int) + 1 = lo + ((j + 1 : Nat) : Int) by omega]
      exact e2
  have := go n 0 (by omega) ρ μ h0
  rw [show lo + ((0 : Nat) : Int) = lo by omega] at this
  exact this
/-- a loop of so many turns over any list -/
theorem fs_any {F : D → Rho → Mu → Option SR} (I : Nat → Rho → Mu → Prop) (ds : List D)
    (h : ∀ j d, ds[j]? = some d → ∀ ρ μ, I j ρ μ → ∃ ρ' μ', F d ρ μ = some (.nx ρ' μ') ∧ I (j + 1) ρ' μ') {ρ : Rho} {μ : Mu} (h0 : I 0 ρ μ) :
    ∃ ρ' μ', foldS F ds ρ μ = some (.nx ρ' μ') ∧ I ds.length ρ' μ' := by
  have go : ∀ (post pre : List D), ds = pre ++ post → ∀ ρ μ, I pre.length ρ μ → ∃ ρ' μ', foldS F post ρ μ = some (.nx ρ' μ') ∧ I ds.length ρ' μ' := by
    intro post
    induction post with
    | nil =>
      intro pre e ρ μ hi
      rw [List.append_nil] at e
      subst e
      exact ⟨ρ, μ, rfl, hi⟩
    | cons x post ih =>
      intro pre e ρ μ hi
      obtain ⟨ρ1, μ1, e1, h1⟩ := h pre.length x (by rw [e, List.getElem?_append_right (Nat.le_refl _), Nat.sub_self]; rfl) ρ μ hi
      obtain ⟨ρ2, μ2, e2, h2⟩ := ih (pre ++ [x]) (by rw [List.append_assoc]; exact e) ρ1 μ1 (by rw [List.length_append]; exact h1)
      refine ⟨ρ2, μ2, ?_, h2⟩
      rw [fs_cons, e1, bT_n]
      exact e2
  exact go ds [] rfl ρ μ h0
theorem fc_rng {f : D → Mu → Option (Option D × Mu)} (I : Nat → List D → Mu → Prop) (n : Nat) (lo : Int)
    (h : ∀ j : Nat, j < n → ∀ ys μ, I j ys μ → ∃ y μ', f (.int (lo + j)) μ = some (some y, μ') ∧ I (j + 1) (ys ++ [y]) μ') {μ : Mu} (h0 : I 0 [] μ) :
    ∃ ys μ', foldC f (rngL n lo) μ = some (ys, μ') ∧ I n ys μ' := by
  have go : ∀ (r j : Nat), j + r = n → ∀ ys μ, I j ys μ → ∃ zs μ', foldC f (rngL r (lo + j)) μ = some (zs, μ') ∧ I n (ys ++ zs) μ' := by
    intro r
    induction r with
    | zero =>
      intro j e ys μ hi
      have e' : j = n := e
      subst e'
      exact ⟨[], μ, rfl, by rw [List.append_nil]; exact hi⟩
    | succ r ih =>
      intro j e ys μ hi
      obtain ⟨y, μ1, e1, h1⟩ := h j (by omega) ys μ hi
      obtain ⟨zs, μ2, e2, h2⟩ := ih (j + 1) (by omega) (ys ++ [y]) μ1 h1
      refine ⟨y :: zs, μ2, ?_, by rw [List.append_assoc] at h2; exact h2⟩
      show foldC f (.int (lo + j) :: rngL r (lo + j + 1)) μ = _
      rw [fc_cons, e1, bX_s]
      unfold kFc
      rw [show lo + (j : Int) + 1 = lo + ((j + 1 : Nat) : Int) by omega, e2, bL_s]
      rfl
  have := go n 0 (by omega) [] μ h0
  rw [show lo + ((0 : Nat) : Int) = lo by omega] at this
  exact this
theorem ex2 {F : Option SR} {P : Rho → Mu → Prop} {ρ : Rho} {μ : Mu} (h : F = some (.nx ρ μ)) (h2 : P ρ μ) : ∃ ρ' μ', F = some (.nx ρ' μ') ∧ P ρ' μ' := ⟨ρ, μ, h, h2⟩
/-- a while by a measure -/
theorem wh_inv {call : CallT} {c b : X} (I : Nat → Rho → Mu → Prop) (Q : Rho → Mu → Prop)
    (h : ∀ m ρ μ, I m ρ μ → (∃ o μ', dE T call c ρ μ = some (.bl false, o, μ') ∧ Q ρ μ') ∨
      ∃ o μ1 ρ2 μ2 m', dE T call c ρ μ = some (.bl true, o, μ1) ∧ dS T call b ρ μ1 = some (.nx ρ2 μ2) ∧ m' < m ∧ I m' ρ2 μ2) :
    ∀ (n m : Nat) (ρ : Rho) (μ : Mu), m < n → I m ρ μ → ∃ ρ' μ', dS T call (.sWh n c b) ρ μ = some (.nx ρ' μ') ∧ Q ρ' μ'
  | 0, m, _, _, l, _ => absurd l (Nat.not_lt_zero m)
  | n + 1, m, ρ, μ, l, hi => by
    show ∃ ρ' μ', whileS _ _ (n + 1) ρ μ = _ ∧ _
    rw [whileS]
    (try dsimp only)
    rcases h m ρ μ hi with ⟨o, μ', e, q⟩ | ⟨o, μ1, ρ2, μ2, m', e, eb, lt, hi2⟩
    · rw [e]
      exact ⟨ρ, μ', rfl, q⟩
    · obtain ⟨ρ', μ', e2, q⟩ := wh_inv I Q h n m' ρ2 μ2 (by omega) hi2
      refine ⟨ρ', μ', ?_, q⟩
      rw [e]
      (try dsimp only)
      rw [eb]
      exact e2
theorem fc4 {f : D → Mu → Option (Option D × Mu)} {d0 d1 d2 d3 : D} {y0 y1 y2 y3 : Option D} {m0 m1 m2 m3 m4 : Mu} (h0 : f d0 m0 = some (y0, m1)) (h1 : f d1 m1 = some (y1, m2)) (h2 : f d2 m2 = some (y2, m3)) (h3 : f d3 m3 = some (y3, m4)) :
    foldC f [d0, d1, d2, d3] m0 = some ([y0, y1, y2, y3].filterMap id, m4) := by
  rw [fc_cons, h0, bX_s]
  unfold kFc
  rw [fc_cons, h1, bX_s]
  unfold kFc
  rw [fc_cons, h2, bX_s]
  unfold kFc
  rw [fc_cons, h3, bX_s]
  unfold kFc
  rw [fc_nil]
  cases y0 <;> cases y1 <;> cases y2 <;> cases y3 <;> rfl
end ZL
end

section
set_option Elab.async false
set_option linter.all false
set_option maxRecDepth 100000
set_option maxHeartbeats 4000000
set_option exponentiation.threshold 4000
-- 293427fb9806ebb24ff3f4361991a04d
namespace ZL
open PySem PySem.Spec Z
theorem c_1n (k : Nat) (i j : Int) (μ : Mu) : dCall T fs (k + 2) 1 [.int i, .int j, .non] μ = some (.bl (decide (j ≤ i)), false, μ) := by
  rw [dCall_eq at_1 rfl]
  simp only [f_1]
  simp only [dnx, dqx, e_lend, disowns, sz1_s, decide_true, decide_false, eq_self, kVl, kT, kLs, kW, kBl, kNt, kNg, kOp2, kCp2, kSb2, kIs, kBi, kMd2, kRv, kSl3, kMk, kGv, kLc, kPr, kPo, kRt, kNxt, kExS, kStO, kAp, kSb3, gC, kSc3, kEx1, kOp, kCp, kCh1, kCh, kSb, kMd, kSl2, kSl, kCl_s, kTe2, kTn, turnC, kCm, kCns, kCnp, kCno, kSeqS, kStT, kPrS, kTb, turnS, kFo, kS2, kC2, kEn, kZp2, kZp, kZs2, kZs, dT, dT.dTs, setR, disown, wipeR, scalar, kFc2, kFc, kFs, seqD, kCk, kCk2, kIn2, kIn3, Nat.reduceAdd, Nat.reduceSub, Nat.reduceLT, Nat.reduceLeDiff, ite_true, ite_false, if_true, if_false, reduceCtorEq, List.append_nil, List.cons_append, List.getElem?_cons_succ, List.getElem?_cons_zero, List.length_cons, List.length_nil, List.map_cons, List.map_nil, List.nil_append, List.replicate_succ, List.replicate_zero, List.reverse_cons, List.reverse_nil, List.set_cons_succ, List.set_cons_zero, c_0]
  cases decide (j ≤ i)
  · simp only [dnx, dqx, e_lend, disowns, sz1_s, decide_true, decide_false, eq_self, kVl, kT, kLs, kW, kBl, kNt, kNg, kOp2, kCp2, kSb2, kIs, kBi, kMd2, kRv, kSl3, kMk, kGv, kLc, kPr, kPo, kRt, kNxt, kExS, kStO, kAp, kSb3, gC, kSc3, kEx1, kOp, kCp, kCh1, kCh, kSb, kMd, kSl2, kSl, kCl_s, kTe2, kTn, turnC, kCm, kCns, kCnp, kCno, kSeqS, kStT, kPrS, kTb, turnS, kFo, kS2, kC2, kEn, kZp2, kZp, kZs2, kZs, dT, dT.dTs, setR, disown, wipeR, scalar, kFc2, kFc, kFs, seqD, kCk, kCk2, kIn2, kIn3, Nat.reduceAdd, Nat.reduceSub, Nat.reduceLT, Nat.reduceLeDiff, ite_true, ite_false, if_true, if_false, reduceCtorEq, List.append_nil, List.cons_append, List.getElem?_cons_succ, List.getElem?_cons_zero, List.length_cons, List.length_nil, List.map_cons, List.map_nil, List.nil_append, List.replicate_succ, List.replicate_zero, List.reverse_cons, List.reverse_nil, List.set_cons_succ, List.set_cons_zero]
  · simp only [dnx, dqx, e_lend, disowns, sz1_s, decide_true, decide_false, eq_self, kVl, kT, kLs, kW, kBl, kNt, kNg, kOp2, kCp2, kSb2, kIs, kBi, kMd2, kRv, kSl3, kMk, kGv, kLc, kPr, kPo, kRt, kNxt, kExS, kStO, kAp, kSb3, gC, kSc3, kEx1, kOp, kCp, kCh1, kCh, kSb, kMd, kSl2, kSl, kCl_s, kTe2, kTn, turnC, kCm, kCns, kCnp, kCno, kSeqS, kStT, kPrS, kTb, turnS, kFo, kS2, kC2, kEn, kZp2, kZp, kZs2, kZs, dT, dT.dTs, setR, disown, wipeR, scalar, kFc2, kFc, kFs, seqD, kCk, kCk2, kIn2, kIn3, Nat.reduceAdd, Nat.reduceSub, Nat.reduceLT, Nat.reduceLeDiff, ite_true, ite_false, if_true, if_false, reduceCtorEq, List.append_nil, List.cons_append, List.getElem?_cons_succ, List.getElem?_cons_zero, List.length_cons, List.length_nil, List.map_cons, List.map_nil, List.nil_append, List.replicate_succ, List.replicate_zero, List.reverse_cons, List.reverse_nil, List.set_cons_succ, List.set_cons_zero]
variable {p q r s : Int} {c c' : Co} (L : LOk p q r s) (C : COk p q r s c)
include L
theorem link_ok (k : Nat) (μ : Mu) : dCall T fs (k + 3) 2 [lk p q r s] μ = some (.bl true, false, μ) := by
  obtain ⟨hp0, hp1, hq0, hq1, hr0, hr1, hs0, hs1⟩ := L
  rw [dCall_eq at_2 rfl]
  simp only [f_2, lk]
  simp only [dnx, dqx, e_lend, disowns, sz1_s, decide_true, decide_false, eq_self, kVl, kT, kLs, kW, kBl, kNt, kNg, kOp2, kCp2, kSb2, kIs, kBi, kMd2, kRv, kSl3, kMk, kGv, kLc, kPr, kPo, kRt, kNxt, kExS, kStO, kAp, kSb3, gC, kSc3, kEx1, kOp, kCp, kCh1, kCh, kSb, kMd, kSl2, kSl, kCl_s, kTe2, kTn, turnC, kCm, kCns, kCnp, kCno, kSeqS, kStT, kPrS, kTb, turnS, kFo, kS2, kC2, kEn, kZp2, kZp, kZs2, kZs, dT, dT.dTs, setR, disown, wipeR, scalar, kFc2, kFc, kFs, seqD, kCk, kCk2, kIn2, kIn3, Nat.reduceAdd, Nat.reduceSub, Nat.reduceLT, Nat.reduceLeDiff, ite_true, ite_false, if_true, if_false, reduceCtorEq, List.append_nil, List.cons_append, List.getElem?_cons_succ, List.getElem?_cons_zero, List.length_cons, List.length_nil, List.map_cons, List.map_nil, List.nil_append, List.replicate_succ, List.replicate_zero, List.reverse_cons, List.reverse_nil, List.set_cons_succ, List.set_cons_zero, c_1n, hp0, hq0, hr0, hs0, decide_true, decide_false, Int.reduceEq, sz1_s, f_2_c0]
theorem check_link (k : Nat) (μ : Mu) : dCall T fs (k + 4) 3 [lk p q r s] μ = some (.non, false, μ) := by
  rw [dCall_eq at_3 rfl]
  simp only [f_3]
  simp only [dnx, dqx, e_lend, disowns, sz1_s, decide_true, decide_false, eq_self, kVl, kT, kLs, kW, kBl, kNt, kNg, kOp2, kCp2, kSb2, kIs, kBi, kMd2, kRv, kSl3, kMk, kGv, kLc, kPr, kPo, kRt, kNxt, kExS, kStO, kAp, kSb3, gC, kSc3, kEx1, kOp, kCp, kCh1, kCh, kSb, kMd, kSl2, kSl, kCl_s, kTe2, kTn, turnC, kCm, kCns, kCnp, kCno, kSeqS, kStT, kPrS, kTb, turnS, kFo, kS2, kC2, kEn, kZp2, kZp, kZs2, kZs, dT, dT.dTs, setR, disown, wipeR, scalar, kFc2, kFc, kFs, seqD, kCk, kCk2, kIn2, kIn3, Nat.reduceAdd, Nat.reduceSub, Nat.reduceLT, Nat.reduceLeDiff, ite_true, ite_false, if_true, if_false, reduceCtorEq, List.append_nil, List.cons_append, List.getElem?_cons_succ, List.getElem?_cons_zero, List.length_cons, List.length_nil, List.map_cons, List.map_nil, List.nil_append, List.replicate_succ, List.replicate_zero, List.reverse_cons, List.reverse_nil, List.set_cons_succ, List.set_cons_zero, link_ok L]
omit L
theorem bit_ok (k : Nat) (i : Int) (h : i = 0 ∨ i = 1) (μ : Mu) : dCall T fs (k + 3) 4 [.int i] μ = some (.bl true, false, μ) := by
  have h0 : (0 : Int) ≤ i := by omega
  have h1 : i ≤ 1 := by omega
  rw [dCall_eq at_4 rfl]
  simp only [f_4]
  simp only [dnx, dqx, e_lend, disowns, sz1_s, decide_true, decide_false, eq_self, kVl, kT, kLs, kW, kBl, kNt, kNg, kOp2, kCp2, kSb2, kIs, kBi, kMd2, kRv, kSl3, kMk, kGv, kLc, kPr, kPo, kRt, kNxt, kExS, kStO, kAp, kSb3, gC, kSc3, kEx1, kOp, kCp, kCh1, kCh, kSb, kMd, kSl2, kSl, kCl_s, kTe2, kTn, turnC, kCm, kCns, kCnp, kCno, kSeqS, kStT, kPrS, kTb, turnS, kFo, kS2, kC2, kEn, kZp2, kZp, kZs2, kZs, dT, dT.dTs, setR, disown, wipeR, scalar, kFc2, kFc, kFs, seqD, kCk, kCk2, kIn2, kIn3, Nat.reduceAdd, Nat.reduceSub, Nat.reduceLT, Nat.reduceLeDiff, ite_true, ite_false, if_true, if_false, reduceCtorEq, List.append_nil, List.cons_append, List.getElem?_cons_succ, List.getElem?_cons_zero, List.length_cons, List.length_nil, List.map_cons, List.map_nil, List.nil_append, List.replicate_succ, List.replicate_zero, List.reverse_cons, List.reverse_nil, List.set_cons_succ, List.set_cons_zero, c_1, h0, h1, decide_true]
theorem counts3 (k : Nat) (a b d m : Int) (μ : Mu) (ha : 0 ≤ a) (hb : 0 ≤ b) (hd : 0 ≤ d) (hm : a + b + d ≤ m) : dCall T fs (k + 3) 5 [.tup [.int a, .int b, .int d], .int 3, .int m] μ = some (.bl true, false, μ) := by
  have hm' : a + (b + (d + 0)) ≤ m := by omega
  rw [dCall_eq at_5 rfl]
  simp only [f_5]
  simp only [dnx, dqx, e_lend, disowns, sz1_s, decide_true, decide_false, eq_self, kVl, kT, kLs, kW, kBl, kNt, kNg, kOp2, kCp2, kSb2, kIs, kBi, kMd2, kRv, kSl3, kMk, kGv, kLc, kPr, kPo, kRt, kNxt, kExS, kStO, kAp, kSb3, gC, kSc3, kEx1, kOp, kCp, kCh1, kCh, kSb, kMd, kSl2, kSl, kCl_s, kTe2, kTn, turnC, kCm, kCns, kCnp, kCno, kSeqS, kStT, kPrS, kTb, turnS, kFo, kS2, kC2, kEn, kZp2, kZp, kZs2, kZs, dT, dT.dTs, setR, disown, wipeR, scalar, kFc2, kFc, kFs, seqD, kCk, kCk2, kIn2, kIn3, Nat.reduceAdd, Nat.reduceSub, Nat.reduceLT, Nat.reduceLeDiff, ite_true, ite_false, if_true, if_false, reduceCtorEq, List.append_nil, List.cons_append, List.getElem?_cons_succ, List.getElem?_cons_zero, List.length_cons, List.length_nil, List.map_cons, List.map_nil, List.nil_append, List.replicate_succ, List.replicate_zero, List.reverse_cons, List.reverse_nil, List.set_cons_succ, List.set_cons_zero, c_1n, ha, hb, hd, hm', decide_true, decide_false, Int.reduceEq, sz1_s, f_5_c0]
theorem counts2 (k : Nat) (a b m : Int) (μ : Mu) (ha : 0 ≤ a) (hb : 0 ≤ b) (hm : a + b ≤ m) : dCall T fs (k + 3) 5 [.tup [.int a, .int b], .int 2, .int m] μ = some (.bl true, false, μ) := by
  have hm' : a + (b + 0) ≤ m := by omega
  rw [dCall_eq at_5 rfl]
  simp only [f_5]
  simp only [dnx, dqx, e_lend, disowns, sz1_s, decide_true, decide_false, eq_self, kVl, kT, kLs, kW, kBl, kNt, kNg, kOp2, kCp2, kSb2, kIs, kBi, kMd2, kRv, kSl3, kMk, kGv, kLc, kPr, kPo, kRt, kNxt, kExS, kStO, kAp, kSb3, gC, kSc3, kEx1, kOp, kCp, kCh1, kCh, kSb, kMd, kSl2, kSl, kCl_s, kTe2, kTn, turnC, kCm, kCns, kCnp, kCno, kSeqS, kStT, kPrS, kTb, turnS, kFo, kS2, kC2, kEn, kZp2, kZp, kZs2, kZs, dT, dT.dTs, setR, disown, wipeR, scalar, kFc2, kFc, kFs, seqD, kCk, kCk2, kIn2, kIn3, Nat.reduceAdd, Nat.reduceSub, Nat.reduceLT, Nat.reduceLeDiff, ite_true, ite_false, if_true, if_false, reduceCtorEq, List.append_nil, List.cons_append, List.getElem?_cons_succ, List.getElem?_cons_zero, List.length_cons, List.length_nil, List.map_cons, List.map_nil, List.nil_append, List.replicate_succ, List.replicate_zero, List.reverse_cons, List.reverse_nil, List.set_cons_succ, List.set_cons_zero, c_1n, ha, hb, hm', decide_true, decide_false, Int.reduceEq, sz1_s, f_5_c0]
theorem ni_new : cpD .notIn (.str "new") (.lst [.str "new", .str "old"]) = some false := by kernel_rfl
theorem ni_old : cpD .notIn (.str "old") (.lst [.str "new", .str "old"]) = some false := by kernel_rfl
theorem lot_ok (k : Nat) (l : Option (Bool × Int)) (al : Bool) (μ : Mu) (h : ∀ b n, l = some (b, n) → 1 ≤ n ∧ n ≤ r - 1 ∧ (b = true → al = false)) : dCall T fs (k + 3) 6 [lk p q r s, lotD l, .bl al] μ = some (.bl true, false, μ) := by
  rw [dCall_eq at_6 rfl]
  simp only [f_6]
  cases l with
  | none =>
    simp only [lotD]
    simp only [dnx, dqx, e_lend, disowns, sz1_s, decide_true, decide_false, eq_self, kVl, kT, kLs, kW, kBl, kNt, kNg, kOp2, kCp2, kSb2, kIs, kBi, kMd2, kRv, kSl3, kMk, kGv, kLc, kPr, kPo, kRt, kNxt, kExS, kStO, kAp, kSb3, gC, kSc3, kEx1, kOp, kCp, kCh1, kCh, kSb, kMd, kSl2, kSl, kCl_s, kTe2, kTn, turnC, kCm, kCns, kCnp, kCno, kSeqS, kStT, kPrS, kTb, turnS, kFo, kS2, kC2, kEn, kZp2, kZp, kZs2, kZs, dT, dT.dTs, setR, disown, wipeR, scalar, kFc2, kFc, kFs, seqD, kCk, kCk2, kIn2, kIn3, Nat.reduceAdd, Nat.reduceSub, Nat.reduceLT, Nat.reduceLeDiff, ite_true, ite_false, if_true, if_false, reduceCtorEq, List.append_nil, List.cons_append, List.getElem?_cons_succ, List.getElem?_cons_zero, List.length_cons, List.length_nil, List.map_cons, List.map_nil, List.nil_append, List.replicate_succ, List.replicate_zero, List.reverse_cons, List.reverse_nil, List.set_cons_succ, List.set_cons_zero]
  | some z =>
    obtain ⟨b, n⟩ := z
    obtain ⟨h1, h2, h3⟩ := h b n rfl
    cases b with
    | true =>
      have h4 := h3 rfl
      subst h4
      simp only [lotD, lk]
      simp only [dnx, dqx, e_lend, disowns, sz1_s, decide_true, decide_false, eq_self, kVl, kT, kLs, kW, kBl, kNt, kNg, kOp2, kCp2, kSb2, kIs, kBi, kMd2, kRv, kSl3, kMk, kGv, kLc, kPr, kPo, kRt, kNxt, kExS, kStO, kAp, kSb3, gC, kSc3, kEx1, kOp, kCp, kCh1, kCh, kSb, kMd, kSl2, kSl, kCl_s, kTe2, kTn, turnC, kCm, kCns, kCnp, kCno, kSeqS, kStT, kPrS, kTb, turnS, kFo, kS2, kC2, kEn, kZp2, kZp, kZs2, kZs, dT, dT.dTs, setR, disown, wipeR, scalar, kFc2, kFc, kFs, seqD, kCk, kCk2, kIn2, kIn3, Nat.reduceAdd, Nat.reduceSub, Nat.reduceLT, Nat.reduceLeDiff, ite_true, ite_false, if_true, if_false, reduceCtorEq, List.append_nil, List.cons_append, List.getElem?_cons_succ, List.getElem?_cons_zero, List.length_cons, List.length_nil, List.map_cons, List.map_nil, List.nil_append, List.replicate_succ, List.replicate_zero, List.reverse_cons, List.reverse_nil, List.set_cons_succ, List.set_cons_zero, f_6_s0, f_6_s1, ni_new, c_1, h1, h2, decide_true, decide_false, Int.reduceEq, sz1_s]
    | false =>
      have hs : decide (Str.ofString "old" = Str.ofString "new") = false := by decide
      simp only [lotD, lk]
      simp only [dnx, dqx, e_lend, disowns, sz1_s, decide_true, decide_false, eq_self, kVl, kT, kLs, kW, kBl, kNt, kNg, kOp2, kCp2, kSb2, kIs, kBi, kMd2, kRv, kSl3, kMk, kGv, kLc, kPr, kPo, kRt, kNxt, kExS, kStO, kAp, kSb3, gC, kSc3, kEx1, kOp, kCp, kCh1, kCh, kSb, kMd, kSl2, kSl, kCl_s, kTe2, kTn, turnC, kCm, kCns, kCnp, kCno, kSeqS, kStT, kPrS, kTb, turnS, kFo, kS2, kC2, kEn, kZp2, kZp, kZs2, kZs, dT, dT.dTs, setR, disown, wipeR, scalar, kFc2, kFc, kFs, seqD, kCk, kCk2, kIn2, kIn3, Nat.reduceAdd, Nat.reduceSub, Nat.reduceLT, Nat.reduceLeDiff, ite_true, ite_false, if_true, if_false, reduceCtorEq, List.append_nil, List.cons_append, List.getElem?_cons_succ, List.getElem?_cons_zero, List.length_cons, List.length_nil, List.map_cons, List.map_nil, List.nil_append, List.replicate_succ, List.replicate_zero, List.reverse_cons, List.reverse_nil, List.set_cons_succ, List.set_cons_zero, f_6_s0, f_6_s1, ni_old, c_1, h1, h2, hs, decide_true, decide_false, Int.reduceEq, sz1_s]
theorem hosts_ok (C : COk p q r s c) (k : Nat) (μ : Mu) : dCall T fs (k + 4) 7 [lk p q r s, .tup [.int c.sb, .int c.sh], .tup [.int c.rb, lotD c.lot, .bl c.dun]] μ = some (.bl true, false, μ) := by
  have hl := lot_ok (p := p) (q := q) (r := r) (s := s) k c.lot (decide (c.sb = c.rb)) μ fun b n h => by
    obtain ⟨h1, h2, h3⟩ := C.lot b n h
    exact ⟨h1, h2, fun z => decide_eq_false (h3 z)⟩
  have q1 := bit_ok k c.sb C.sb μ
  have q2 := bit_ok k c.rb C.rb μ
  rw [dCall_eq at_7 rfl]
  simp only [f_7]
  have q3 := C.sh0
  have q4 := C.sh1
  have e : lk p q r s = .tup [.int p, .int q, .int r, .int s] := rfl
  simp only [dnx, dqx, e_lend, disowns, sz1_s, decide_true, decide_false, eq_self, kVl, kT, kLs, kW, kBl, kNt, kNg, kOp2, kCp2, kSb2, kIs, kBi, kMd2, kRv, kSl3, kMk, kGv, kLc, kPr, kPo, kRt, kNxt, kExS, kStO, kAp, kSb3, gC, kSc3, kEx1, kOp, kCp, kCh1, kCh, kSb, kMd, kSl2, kSl, kCl_s, kTe2, kTn, turnC, kCm, kCns, kCnp, kCno, kSeqS, kStT, kPrS, kTb, turnS, kFo, kS2, kC2, kEn, kZp2, kZp, kZs2, kZs, dT, dT.dTs, setR, disown, wipeR, scalar, kFc2, kFc, kFs, seqD, kCk, kCk2, kIn2, kIn3, Nat.reduceAdd, Nat.reduceSub, Nat.reduceLT, Nat.reduceLeDiff, ite_true, ite_false, if_true, if_false, reduceCtorEq, List.append_nil, List.cons_append, List.getElem?_cons_succ, List.getElem?_cons_zero, List.length_cons, List.length_nil, List.map_cons, List.map_nil, List.nil_append, List.replicate_succ, List.replicate_zero, List.reverse_cons, List.reverse_nil, List.set_cons_succ, List.set_cons_zero, f_7_s0, f_7_s1]
  simp only [dnx, dqx, e_lend, disowns, sz1_s, decide_true, decide_false, eq_self, kVl, kT, kLs, kW, kBl, kNt, kNg, kOp2, kCp2, kSb2, kIs, kBi, kMd2, kRv, kSl3, kMk, kGv, kLc, kPr, kPo, kRt, kNxt, kExS, kStO, kAp, kSb3, gC, kSc3, kEx1, kOp, kCp, kCh1, kCh, kSb, kMd, kSl2, kSl, kCl_s, kTe2, kTn, turnC, kCm, kCns, kCnp, kCno, kSeqS, kStT, kPrS, kTb, turnS, kFo, kS2, kC2, kEn, kZp2, kZp, kZs2, kZs, dT, dT.dTs, setR, disown, wipeR, scalar, kFc2, kFc, kFs, seqD, kCk, kCk2, kIn2, kIn3, Nat.reduceAdd, Nat.reduceSub, Nat.reduceLT, Nat.reduceLeDiff, ite_true, ite_false, if_true, if_false, reduceCtorEq, List.append_nil, List.cons_append, List.getElem?_cons_succ, List.getElem?_cons_zero, List.length_cons, List.length_nil, List.map_cons, List.map_nil, List.nil_append, List.replicate_succ, List.replicate_zero, List.reverse_cons, List.reverse_nil, List.set_cons_succ, List.set_cons_zero, q1, q2, subC_t, e, c_1, q3, q4, decide_true, decide_false, Int.reduceEq]
  rw [e] at hl
  simp only [dnx, dqx, e_lend, disowns, sz1_s, decide_true, decide_false, eq_self, kVl, kT, kLs, kW, kBl, kNt, kNg, kOp2, kCp2, kSb2, kIs, kBi, kMd2, kRv, kSl3, kMk, kGv, kLc, kPr, kPo, kRt, kNxt, kExS, kStO, kAp, kSb3, gC, kSc3, kEx1, kOp, kCp, kCh1, kCh, kSb, kMd, kSl2, kSl, kCl_s, kTe2, kTn, turnC, kCm, kCns, kCnp, kCno, kSeqS, kStT, kPrS, kTb, turnS, kFo, kS2, kC2, kEn, kZp2, kZp, kZs2, kZs, dT, dT.dTs, setR, disown, wipeR, scalar, kFc2, kFc, kFs, seqD, kCk, kCk2, kIn2, kIn3, Nat.reduceAdd, Nat.reduceSub, Nat.reduceLT, Nat.reduceLeDiff, ite_true, ite_false, if_true, if_false, reduceCtorEq, List.append_nil, List.cons_append, List.getElem?_cons_succ, List.getElem?_cons_zero, List.length_cons, List.length_nil, List.map_cons, List.map_nil, List.nil_append, List.replicate_succ, List.replicate_zero, List.reverse_cons, List.reverse_nil, List.set_cons_succ, List.set_cons_zero, hl]
theorem fit_ok (C : COk p q r s c) (k : Nat) (μ : Mu) : dCall T fs (k + 5) 8 [lk p q r s, co c] μ = some (.bl true, false, μ) := by
  have h1 := hosts_ok C k μ
  have h2 := counts3 (k + 1) c.t0 c.t1 c.t2 p μ C.t0 C.t1 C.t2 C.ts
  have h3 := counts2 (k + 1) c.b0 c.b1 q μ C.b0 C.b1 C.bs
  have e : lk p q r s = .tup [.int p, .int q, .int r, .int s] := rfl
  rw [dCall_eq at_8 rfl]
  simp only [f_8, co]
  simp only [dnx, dqx, e_lend, disowns, sz1_s, decide_true, decide_false, eq_self, kVl, kT, kLs, kW, kBl, kNt, kNg, kOp2, kCp2, kSb2, kIs, kBi, kMd2, kRv, kSl3, kMk, kGv, kLc, kPr, kPo, kRt, kNxt, kExS, kStO, kAp, kSb3, gC, kSc3, kEx1, kOp, kCp, kCh1, kCh, kSb, kMd, kSl2, kSl, kCl_s, kTe2, kTn, turnC, kCm, kCns, kCnp, kCno, kSeqS, kStT, kPrS, kTb, turnS, kFo, kS2, kC2, kEn, kZp2, kZp, kZs2, kZs, dT, dT.dTs, setR, disown, wipeR, scalar, kFc2, kFc, kFs, seqD, kCk, kCk2, kIn2, kIn3, Nat.reduceAdd, Nat.reduceSub, Nat.reduceLT, Nat.reduceLeDiff, ite_true, ite_false, if_true, if_false, reduceCtorEq, List.append_nil, List.cons_append, List.getElem?_cons_succ, List.getElem?_cons_zero, List.length_cons, List.length_nil, List.map_cons, List.map_nil, List.nil_append, List.replicate_succ, List.replicate_zero, List.reverse_cons, List.reverse_nil, List.set_cons_succ, List.set_cons_zero, f_8_s0, h1, decide_true, decide_false, Int.reduceEq]
  simp only [dnx, dqx, e_lend, disowns, sz1_s, decide_true, decide_false, eq_self, kVl, kT, kLs, kW, kBl, kNt, kNg, kOp2, kCp2, kSb2, kIs, kBi, kMd2, kRv, kSl3, kMk, kGv, kLc, kPr, kPo, kRt, kNxt, kExS, kStO, kAp, kSb3, gC, kSc3, kEx1, kOp, kCp, kCh1, kCh, kSb, kMd, kSl2, kSl, kCl_s, kTe2, kTn, turnC, kCm, kCns, kCnp, kCno, kSeqS, kStT, kPrS, kTb, turnS, kFo, kS2, kC2, kEn, kZp2, kZp, kZs2, kZs, dT, dT.dTs, setR, disown, wipeR, scalar, kFc2, kFc, kFs, seqD, kCk, kCk2, kIn2, kIn3, Nat.reduceAdd, Nat.reduceSub, Nat.reduceLT, Nat.reduceLeDiff, ite_true, ite_false, if_true, if_false, reduceCtorEq, List.append_nil, List.cons_append, List.getElem?_cons_succ, List.getElem?_cons_zero, List.length_cons, List.length_nil, List.map_cons, List.map_nil, List.nil_append, List.replicate_succ, List.replicate_zero, List.reverse_cons, List.reverse_nil, List.set_cons_succ, List.set_cons_zero, e, h2, h3]
include L
theorem chk_ok (C : COk p q r s c) (k : Nat) (μ : Mu) : dCall T fs (k + 6) 9 [lk p q r s, co c] μ = some (.non, false, μ) := by
  rw [dCall_eq at_9 rfl]
  simp only [f_9]
  simp only [dnx, dqx, e_lend, disowns, sz1_s, decide_true, decide_false, eq_self, kVl, kT, kLs, kW, kBl, kNt, kNg, kOp2, kCp2, kSb2, kIs, kBi, kMd2, kRv, kSl3, kMk, kGv, kLc, kPr, kPo, kRt, kNxt, kExS, kStO, kAp, kSb3, gC, kSc3, kEx1, kOp, kCp, kCh1, kCh, kSb, kMd, kSl2, kSl, kCl_s, kTe2, kTn, turnC, kCm, kCns, kCnp, kCno, kSeqS, kStT, kPrS, kTb, turnS, kFo, kS2, kC2, kEn, kZp2, kZp, kZs2, kZs, dT, dT.dTs, setR, disown, wipeR, scalar, kFc2, kFc, kFs, seqD, kCk, kCk2, kIn2, kIn3, Nat.reduceAdd, Nat.reduceSub, Nat.reduceLT, Nat.reduceLeDiff, ite_true, ite_false, if_true, if_false, reduceCtorEq, List.append_nil, List.cons_append, List.getElem?_cons_succ, List.getElem?_cons_zero, List.length_cons, List.length_nil, List.map_cons, List.map_nil, List.nil_append, List.replicate_succ, List.replicate_zero, List.reverse_cons, List.reverse_nil, List.set_cons_succ, List.set_cons_zero, check_link L, fit_ok C]
end ZL
end

section
set_option Elab.async false
set_option linter.all false
set_option maxRecDepth 100000
set_option maxHeartbeats 4000000
set_option exponentiation.threshold 4000
-- b5d7e58f85b786dc0867a7f917122722
namespace ZL
open PySem PySem.Spec Z
def rb (b : Bool) : Str := if b then Str.ofString "True" else Str.ofString "False"
theorem repr_b (b : Bool) : biD .repr [.bl b] = some (.str (rb b), false) := by
  cases b <;> kernel_rfl
theorem rb_inj (a b : Bool) : decide (rb a = rb b) = (a == b) := by
  cases a <;> cases b <;> decide +kernel
theorem log_ok {i : Int} (h0 : 0 ≤ i) (h1 : i < 2 ^ 150) : decide (i.natAbs.log2 < 1920) = true := by
  have h2 : i.natAbs < 2 ^ 1920 := by
    have e : (2 : Int) ^ 150 < ((2 ^ 1920 : Nat) : Int) := by decide
    omega
  refine decide_eq_true ?_
  by_cases z : i.natAbs = 0
  · rw [z]
    decide
  · exact (Nat.log2_lt z).mpr h2
theorem co_show {p q r s : Int} (L : LOk p q r s) {c : Co} (C : COk p q r s c) : (py (co c)).showable = true := by
  obtain ⟨sb, sh, rbb, l, d, t0, t1, t2, b0, b1⟩ := c
  obtain ⟨csb, csh0, csh1, crb, clot, ct0, ct1, ct2, cts, cb0, cb1, cbs⟩ := C
  dsimp only at csb csh0 csh1 crb clot ct0 ct1 ct2 cts cb0 cb1 cbs
  have := L.p1
  have := L.q1
  have := L.r1
  have := L.s1
  have big : (2 : Int) ^ 150 > 10 := by decide
  have g1 := log_ok (i := sb) (by omega) (by omega)
  have g2 := log_ok (i := sh) (by omega) (by omega)
  have g3 := log_ok (i := rbb) (by omega) (by omega)
  have g4 := log_ok (i := t0) (by omega) (by omega)
  have g5 := log_ok (i := t1) (by omega) (by omega)
  have g6 := log_ok (i := t2) (by omega) (by omega)
  have g7 := log_ok (i := b0) (by omega) (by omega)
  have g8 := log_ok (i := b1) (by omega) (by omega)
  cases l with
  | none =>
    simp only [co, lotD, py, pyL, PyData.showable, PyData.showableAll, g1, g2, g3, g4, g5, g6, g7, g8, Bool.and_self, Bool.and_true]
  | some z =>
    obtain ⟨b, n⟩ := z
    obtain ⟨n0, n1, _⟩ := clot b n rfl
    have g9 := log_ok (i := n) (by omega) (by omega)
    cases b <;> simp only [co, lotD, py, pyL, PyData.showable, PyData.showableAll, g1, g2, g3, g4, g5, g6, g7, g8, g9, Bool.and_self, Bool.and_true]
/-! whatever data of small whole numbers: repr tells -/
mutual
def smD : D → Prop
  | .int i => i.natAbs < 2 ^ 1900
  | .tup xs => smL xs
  | .lst xs => smL xs
  | .dct kvs => kvs = []
  | .cell _ => False
  | .fn _ => False
  | .exn _ _ => False
  | .non => True
  | .bl _ => True
  | .str _ => True
def smL : List D → Prop
  | [] => True
  | d :: ds => smD d ∧ smL ds
end
theorem log_ok2 {i : Int} (h : i.natAbs < 2 ^ 1900) : decide (i.natAbs.log2 < 1920) = true := by
  refine decide_eq_true ?_
  by_cases z : i.natAbs = 0
  · rw [z]
    decide
  · exact (Nat.log2_lt z).mpr (Nat.lt_trans h (Nat.pow_lt_pow_right (by decide) (by decide)))
mutual
theorem sm_show : ∀ d : D, smD d → (py d).showable = true
  | .int i, h => by
    simp only [py, PyData.showable]
    exact log_ok2 (by simpa only [smD] using h)
  | .tup xs, h => by
    simp only [py, PyData.showable]
    exact sm_showL xs (by simpa only [smD] using h)
  | .lst xs, h => by
    simp only [py, PyData.showable]
    exact sm_showL xs (by simpa only [smD] using h)
  | .dct kvs, h => by
    have e : kvs = [] := by simpa only [smD] using h
    subst e
    simp only [py, pyK, PyData.showable, PyData.showableKv]
  | .cell _, h => by simp only [smD] at h
  | .fn _, h => by simp only [smD] at h
  | .exn _ _, h => by simp only [smD] at h
  | .non, _ => by simp only [py, PyData.showable]
  | .bl _, _ => by simp only [py, PyData.showable]
  | .str _, _ => by simp only [py, PyData.showable]
theorem sm_showL : ∀ ds : List D, smL ds → PyData.showableAll (pyL ds) = true
  | [], _ => by simp only [pyL, PyData.showableAll]
  | d :: ds, h => by
    have h' : smD d ∧ smL ds := by simpa only [smL] using h
    simp only [pyL, PyData.showableAll, sm_show d h'.1, sm_showL ds h'.2, Bool.and_self]
end
mutual
theorem pl_plx : ∀ d : D, pl d = true → plx d = true
  | .non, _ => rfl
  | .bl _, _ => rfl
  | .int _, _ => rfl
  | .str _, _ => rfl
  | .tup xs, h => plL_plx xs h
  | .lst xs, h => plL_plx xs h
  | .dct _, h => by cases h
  | .cell _, h => by cases h
  | .fn _, h => by cases h
  | .exn _ _, h => by cases h
theorem plL_plx : ∀ ds : List D, plL ds = true → plxL ds = true
  | [], _ => rfl
  | d :: ds, h => by
    have h' : (pl d && plL ds) = true := h
    obtain ⟨h1, h2⟩ := Bool.and_eq_true_iff.mp h'
    show (plx d && plxL ds) = true
    rw [pl_plx d h1, plL_plx ds h2]
    rfl
end
/-- what repr wants of the shape alone -/
def shp (d : D) : Bool := plx d && decide (sz d ≤ sizeLine) && decide ((py d).depth ≤ 60)
theorem rp {d : D} (h : smD d) (h2 : shp d = true) : biD .repr [d] = some (.str (py d).shown, false) := by
  have h3 : showOk d = true := by
    unfold shp at h2
    unfold showOk
    obtain ⟨h2, a3⟩ := Bool.and_eq_true_iff.mp h2
    obtain ⟨a1, a2⟩ := Bool.and_eq_true_iff.mp h2
    rw [a1, a2, a3, sm_show d h]
    rfl
  exact if_pos h3
theorem small {i : Int} (h0 : -(2 ^ 1800) < i) (h1 : i < 2 ^ 1800) : i.natAbs < 2 ^ 1900 := by
  have e : (2 : Int) ^ 1800 < ((2 ^ 1900 : Nat) : Int) := by decide
  omega
section
variable {p q r s : Int} {c : Co}
theorem co_sm (L : LOk p q r s) (C : COk p q r s c) : smD (co c) := by
  obtain ⟨sb, sh, rbb, l, d, t0, t1, t2, b0, b1⟩ := c
  obtain ⟨csb, csh0, csh1, crb, clot, ct0, ct1, ct2, cts, cb0, cb1, cbs⟩ := C
  dsimp only at csb csh0 csh1 crb clot ct0 ct1 ct2 cts cb0 cb1 cbs
  have := L.p1
  have := L.q1
  have := L.r1
  have := L.s1
  have big : (2 : Int) ^ 150 < 2 ^ 1800 := by decide
  have big2 : (10 : Int) < 2 ^ 150 := by decide
  have hl : smD (lotD l) := by
    rcases l with _ | ⟨_ | _, n⟩
    · simp only [lotD, smD]
    · have := clot _ _ rfl
      simp only [lotD, smD, smL, and_true, true_and]
      exact small (by omega) (by omega)
    · have := clot _ _ rfl
      simp only [lotD, smD, smL, and_true, true_and]
      exact small (by omega) (by omega)
  simp only [co, smD, smL, hl, and_true, true_and]
  refine ⟨⟨small (by omega) (by omega), small (by omega) (by omega)⟩, small (by omega) (by omega), ⟨small (by omega) (by omega), small (by omega) (by omega), small (by omega) (by omega)⟩, small (by omega) (by omega), small (by omega) (by omega)⟩
theorem lk_sm (L : LOk p q r s) : smD (lk p q r s) := by
  obtain ⟨h1, h2, h3, h4, h5, h6, h7, h8⟩ := L
  have big : (2 : Int) ^ 150 < 2 ^ 1800 := by decide
  simp only [lk, smD, smL, and_true]
  exact ⟨small (by omega) (by omega), small (by omega) (by omega), small (by omega) (by omega), small (by omega) (by omega)⟩
end
end ZL
end

section
set_option Elab.async false
set_option linter.all false
set_option maxRecDepth 100000
set_option maxHeartbeats 4000000
set_option exponentiation.threshold 4000
-- 30db39d28269d2db0a8c8860b8c34d4a
namespace ZL
open PySem PySem.Spec Z
/-! what repr wants: small pieces, lists of them -/
structure PO (d : D) : Prop where
  pl : plx d = true
  sm : smD d
  sz : sz d ≤ 20000
  dp : (py d).depth ≤ 5
structure VO (d : D) : Prop where
  pl : plx d = true
  sm : smD d
  sz : Z.sz d ≤ 400000
  dp : (py d).depth ≤ 6
theorem VO.rep {d : D} (h : VO d) : biD .repr [d] = some (.str (py d).shown, false) := rp h.sm (by
  unfold shp
  have hl : 400000 ≤ sizeLine := by decide
  rw [h.pl, decide_eq_true (Nat.le_trans h.sz hl), decide_eq_true (show (py d).depth ≤ 60 from Nat.le_trans h.dp (by decide))]
  rfl)
theorem PO.vo {d : D} (h : PO d) : VO d := ⟨h.pl, h.sm, Nat.le_trans h.sz (by decide), Nat.le_trans h.dp (by decide)⟩
theorem pos_all : ∀ (ds : List D), (∀ d ∈ ds, PO d) → plxL ds = true ∧ smL ds ∧ szL ds ≤ 20002 * ds.length ∧ PyData.depthAll (pyL ds) ≤ 5
  | [], _ => ⟨rfl, trivial, Nat.le_refl _, Nat.zero_le _⟩
  | d :: ds, h => by
    obtain ⟨h1, h2, h3, h4⟩ := pos_all ds fun e he => h e (List.mem_cons_of_mem _ he)
    have q := h d (List.mem_cons_self ..)
    refine ⟨?_, ?_, ?_, ?_⟩
    · show (plx d && plxL ds) = true
      rw [q.pl, h1]
      rfl
    · show smD d ∧ smL ds
      exact ⟨q.sm, h2⟩
    · show Z.sz d + 2 + szL ds ≤ 20002 * (ds.length + 1)
      have := q.sz
      omega
    · have := q.dp
      simp only [pyL, PyData.depthAll]
      omega
theorem vo_tup {ds : List D} (h : ∀ d ∈ ds, PO d) (hl : ds.length ≤ 12) : VO (.tup ds) := by
  obtain ⟨h1, h2, h3, h4⟩ := pos_all ds h
  refine ⟨h1, by simpa only [smD] using h2, ?_, ?_⟩
  · show szL ds + 3 ≤ _
    omega
  · simp only [py, PyData.depth]
    omega
theorem vo_lst {ds : List D} (h : ∀ d ∈ ds, PO d) (hl : ds.length ≤ 12) : VO (.lst ds) := by
  obtain ⟨h1, h2, h3, h4⟩ := pos_all ds h
  refine ⟨h1, by simpa only [smD] using h2, ?_, ?_⟩
  · show szL ds + 3 ≤ _
    omega
  · simp only [py, PyData.depth]
    omega
theorem po_int {i : Int} (h0 : -(2 ^ 1800) < i) (h1 : i < 2 ^ 1800) : PO (.int i) := by
  refine ⟨rfl, by simpa only [smD] using small h0 h1, by show 1921 ≤ 20000; decide, Nat.zero_le _⟩
theorem po_two {i j : Int} (h0 : -(2 ^ 1800) < i) (h1 : i < 2 ^ 1800) (h2 : -(2 ^ 1800) < j) (h3 : j < 2 ^ 1800) : PO (.tup [.int i, .int j]) := by
  refine ⟨rfl, ?_, by show 1921 + 2 + (1921 + 2 + 0) + 3 ≤ 20000; decide, by show _ ≤ 5; simp only [py, pyL, PyData.depth, PyData.depthAll]; decide⟩
  simp only [smD, smL, and_true]
  exact ⟨small h0 h1, small h2 h3⟩
theorem e1800 : (2 : Int) ^ 150 + 1000 < 2 ^ 1800 := by decide
theorem po_lit (d : D) (h : (plx d && (py d).showable && decide (sz d ≤ 20000) && decide ((py d).depth ≤ 5)) = true) (h2 : smD d) : PO d := by
  simp only [Bool.and_eq_true, decide_eq_true_eq] at h
  exact ⟨h.1.1.1, h2, h.1.2, h.2⟩
section
variable {p q r s : Int} (L : LOk p q r s)
include L
theorem po_lk : PO (lk p q r s) := by
  refine ⟨rfl, lk_sm L, (by decide : 1921 + 2 + (1921 + 2 + (1921 + 2 + (1921 + 2 + 0))) + 3 ≤ 20000), ?_⟩
  simp only [lk, py, pyL, PyData.depth, PyData.depthAll]
  decide
theorem po_co {c : Co} (C : COk p q r s c) : PO (co c) := by
  have h := co_sm L C
  obtain ⟨sb, sh, rb, l, d, t0, t1, t2, b0, b1⟩ := c
  refine ⟨?_, h, ?_, ?_⟩
  · rcases l with _ | ⟨_ | _, i⟩ <;> rfl
  · rcases l with _ | ⟨_ | _, i⟩
    · exact (by decide : 1921 + 2 + (1921 + 2 + 0) + 3 + 2 + ((1921 + 2 + (4 + 2 + (5 + 2 + 0)) + 3) + 2 + ((1921 + 2 + (1921 + 2 + (1921 + 2 + 0)) + 3) + 2 + ((1921 + 2 + (1921 + 2 + 0) + 3) + 2 + 0))) + 3 ≤ 20000)
    · have e : (reprText "old").length = 5 := by decide +kernel
      show 1921 + 2 + (1921 + 2 + 0) + 3 + 2 + ((1921 + 2 + (((reprText "old").length + 2 + (1921 + 2 + 0) + 3) + 2 + (5 + 2 + 0)) + 3) + 2 + ((1921 + 2 + (1921 + 2 + (1921 + 2 + 0)) + 3) + 2 + ((1921 + 2 + (1921 + 2 + 0) + 3) + 2 + 0))) + 3 ≤ 20000
      rw [e]
      decide
    · have e : (reprText "new").length = 5 := by decide +kernel
      show 1921 + 2 + (1921 + 2 + 0) + 3 + 2 + ((1921 + 2 + (((reprText "new").length + 2 + (1921 + 2 + 0) + 3) + 2 + (5 + 2 + 0)) + 3) + 2 + ((1921 + 2 + (1921 + 2 + (1921 + 2 + 0)) + 3) + 2 + ((1921 + 2 + (1921 + 2 + 0) + 3) + 2 + 0))) + 3 ≤ 20000
      rw [e]
      decide
  · rcases l with _ | ⟨_ | _, i⟩ <;> (simp only [co, lotD, py, pyL, PyData.depth, PyData.depthAll]; decide)
end
theorem vo_two {x y : D} (h1 : PO x) (h2 : PO y) : VO (.lst [x, y]) := vo_lst (fun t ht => by
  simp only [List.mem_cons, List.not_mem_nil, or_false] at ht
  rcases ht with rfl | rfl <;> assumption) (by show 2 ≤ 12; decide)
theorem vo_three {x y z : D} (h1 : PO x) (h2 : PO y) (h3 : PO z) : VO (.lst [x, y, z]) := vo_lst (fun t ht => by
  simp only [List.mem_cons, List.not_mem_nil, or_false] at ht
  rcases ht with rfl | rfl | rfl <;> assumption) (by show 3 ≤ 12; decide)
theorem po_bl (b : Bool) : PO (.bl b) := ⟨rfl, by simp only [smD], (by decide : 5 ≤ 20000), Nat.zero_le _⟩
end ZL
end

section
set_option Elab.async false
set_option linter.all false
set_option maxRecDepth 100000
set_option maxHeartbeats 4000000
set_option exponentiation.threshold 4000
-- 29fffaed6bb8d763168989980b5a45a7
namespace ZL
open PySem PySem.Spec Z
/-! any value: words and takings -/
def isI : D → Bool
  | .int _ => true
  | _ => false
def btB (d : D) (lo hi : Int) : Bool := match d with
  | .int i => decide (lo ≤ i) && decide (i ≤ hi)
  | _ => false
theorem plx_p {d : D} (h : plx d = true) : plain1 d = true := by
  cases d <;> first | rfl | exact absurd h (by simp only [plx, reduceCtorEq, not_false_eq_true])
theorem whole (k : Nat) (d : D) (h : plain1 d = true) (μ : Mu) : dCall T fs (k + 1) 0 [d] μ = some (.bl (isI d), false, μ) := by
  rw [dCall_eq at_0 rfl]
  simp only [f_0]
  cases d
  case fn => exact absurd h (by simp only [plain1, reduceCtorEq, not_false_eq_true])
  case exn => exact absurd h (by simp only [plain1, reduceCtorEq, not_false_eq_true])
  all_goals rfl
theorem betw (k : Nat) (d : D) (h : plain1 d = true) (lo hi : Int) (μ : Mu) : dCall T fs (k + 2) 1 [d, .int lo, .int hi] μ = some (.bl (btB d lo hi), false, μ) := by
  by_cases hi : isI d = true
  · obtain ⟨i, rfl⟩ : ∃ i, d = .int i := by
      cases d <;> first | exact ⟨_, rfl⟩ | exact absurd hi (by simp only [isI, reduceCtorEq, not_false_eq_true])
    exact c_1 k i lo _ μ
  · have h1 := whole k d h μ
    rw [Bool.eq_false_iff.mpr hi] at h1
    have h2 : btB d lo ‹Int› = false := by
      cases d <;> first | rfl | exact absurd rfl hi
    rw [h2, dCall_eq at_1 rfl]
    simp only [f_1]
    simp only [dnx, dqx, e_lend, disowns, sz1_s, decide_true, decide_false, eq_self, kVl, kT, kLs, kW, kBl, kNt, kNg, kOp2, kCp2, kSb2, kIs, kBi, kMd2, kRv, kSl3, kMk, kGv, kLc, kPr, kPo, kRt, kNxt, kExS, kStO, kAp, kSb3, gC, kSc3, kEx1, kOp, kCp, kCh1, kCh, kSb, kMd, kSl2, kSl, kCl_s, kTe2, kTn, turnC, kCm, kCns, kCnp, kCno, kSeqS, kStT, kPrS, kTb, turnS, kFo, kS2, kC2, kEn, kZp2, kZp, kZs2, kZs, dT, dT.dTs, setR, disown, wipeR, scalar, kFc2, kFc, kFs, seqD, kCk, kCk2, kIn2, kIn3, Nat.reduceAdd, Nat.reduceSub, Nat.reduceLT, Nat.reduceLeDiff, ite_true, ite_false, if_true, if_false, reduceCtorEq, List.append_nil, List.cons_append, List.getElem?_cons_succ, List.getElem?_cons_zero, List.length_cons, List.length_nil, List.map_cons, List.map_nil, List.nil_append, List.replicate_succ, List.replicate_zero, List.reverse_cons, List.reverse_nil, List.set_cons_succ, List.set_cons_zero, h1]
/-- a tuple of n, or none -/
def isTn (n : Nat) (d : D) : Bool := match d with
  | .tup xs => decide (xs.length = n)
  | _ => false
theorem isTn_2 {d : D} (h : isTn 2 d = true) : ∃ a b, d = .tup [a, b] := by
  cases d
  case tup xs =>
    have hx : xs.length = 2 := of_decide_eq_true h
    match xs, hx with
    | [a, b], _ => exact ⟨a, b, rfl⟩
  all_goals exact absurd h (by simp only [isTn, reduceCtorEq, not_false_eq_true])
theorem isTn_4 {d : D} (h : isTn 4 d = true) : ∃ a b c e, d = .tup [a, b, c, e] := by
  cases d
  case tup xs =>
    have hx : xs.length = 4 := of_decide_eq_true h
    match xs, hx with
    | [a, b, c, e], _ => exact ⟨a, b, c, e, rfl⟩
  all_goals exact absurd h (by simp only [isTn, reduceCtorEq, not_false_eq_true])
theorem no_tup {d : D} (h : ∀ xs, d ≠ .tup xs) : isT "tuple" d = false := by
  cases d
  case tup xs => exact absurd rfl (h xs)
  all_goals rfl
theorem no_lst {d : D} (h : ∀ xs, d ≠ .lst xs) (hp : plx d = true) : isT "list" d = false := by
  cases d
  case lst xs => exact absurd rfl (h xs)
  case cell n => exact absurd hp (by simp only [plx, reduceCtorEq, not_false_eq_true])
  all_goals rfl
theorem tup_cases {d : D} (n : Nat) (h : isTn n d = false) : (isT "tuple" d = false) ∨ ∃ xs, d = .tup xs ∧ ¬ ((xs.length : Int) = (n : Int)) := by
  by_cases ht : ∃ xs, d = .tup xs
  · obtain ⟨xs, rfl⟩ := ht
    refine .inr ⟨xs, rfl, fun e => ?_⟩
    exact absurd h (by simp only [isTn]; rw [decide_eq_true (show xs.length = n by omega)]; simp)
  · exact .inl (no_tup fun xs e => ht ⟨xs, e⟩)
theorem plx2 {a b : D} (h : plx (.tup [a, b]) = true) : plx a = true ∧ plx b = true := by
  simpa only [plx, plxL, Bool.and_true, Bool.and_eq_true] using h
theorem plx4 {a b c e : D} (h : plx (.tup [a, b, c, e]) = true) : plx a = true ∧ plx b = true ∧ plx c = true ∧ plx e = true := by
  simpa only [plx, plxL, Bool.and_true, Bool.and_eq_true] using h
theorem ne_nl (x : D) (xs : List D) : cpD .ne (.lst (x :: xs)) (.lst []) = some true := by
  show (if _ then _ else _) = _
  split
  · rfl
  · rfl
theorem len_t (xs : List D) : biD .len [.tup xs] = some (.int xs.length, false) := rfl
/-- a comprehension that keeps some of any list -/
theorem keep_any {call : CallT} {c : X} {ρ : Rho} {f : D → Bool} {μ : Mu} {i : Nat} {own : List Nat} : ∀ (es : List D), (∀ e ∈ es, turnC T call (.tName i) c (.var i) own ρ e μ = some (if f e then some e else none, μ)) →
    foldC (turnC T call (.tName i) c (.var i) own ρ) es μ = some (es.filter f, μ)
  | [], _ => rfl
  | e :: es, h => by
    rw [fc_cons, h e (List.mem_cons_self), bX_s]
    unfold kFc
    rw [keep_any es fun e' h' => h e' (List.mem_cons_of_mem _ h')]
    rw [bL_s]
    unfold kFc2
    rw [List.filter_cons]
    cases f e <;> rfl
theorem ne_some {f : D → Bool} (xs : List D) : cpD .ne (.lst (xs.filter f)) (.lst []) = some (xs.any f) := by
  cases h : xs.filter f with
  | nil =>
    have h2 : xs.any f = false := by
      rw [Bool.eq_false_iff]
      intro z
      obtain ⟨x, hx, hf⟩ := List.any_eq_true.mp z
      exact absurd (List.mem_filter.mpr ⟨hx, hf⟩) (by rw [h]; simp)
    rw [h2]
    kernel_rfl
  | cons y ys =>
    have h2 : xs.any f = true := by
      have hm : y ∈ xs.filter f := by rw [h]; exact List.mem_cons_self
      exact List.any_eq_true.mpr ⟨y, (List.mem_filter.mp hm).1, (List.mem_filter.mp hm).2⟩
    rw [h2]
    exact ne_nl y ys
def isS : D → Bool
  | .str _ => true
  | _ => false
theorem isS_t (d : D) : isT "str" d = isS d := by cases d <;> rfl
theorem plxL_mem : ∀ {xs : List D}, plxL xs = true → ∀ d ∈ xs, plx d = true
  | x :: xs, h, d, hd => by
    obtain ⟨h1, h2⟩ := Bool.and_eq_true_iff.mp (show (plx x && plxL xs) = true from h)
    rcases List.mem_cons.mp hd with rfl | hd
    · exact h1
    · exact plxL_mem h2 d hd
def WT : List D := [.tup [], .tup [.str "clear"], .tup [.str "clear", .str "forget"], .tup [.str "clear", .str "forget", .str "turn"], .tup [.str "clear", .str "turn"], .tup [.str "forget"], .tup [.str "forget", .str "turn"], .tup [.str "turn"]]
def WL : List D := [.lst [], .lst [.str "clear"], .lst [.str "clear", .str "forget"], .lst [.str "clear", .str "forget", .str "turn"], .lst [.str "clear", .str "turn"], .lst [.str "forget"], .lst [.str "forget", .str "turn"], .lst [.str "turn"]]
theorem WT_c : T.cons[0]? = some (.lst WT) := con_0
theorem wls (k : Nat) (μ : Mu) : dCall T fs (k + 1) 31 [] μ = some (.lst WL, true, μ) := by kernel_rfl
end ZL
namespace ZL
open PySem PySem.Spec Z
def wdB (d : D) : Bool := match d with
  | .lst xs => !(xs.any fun d => !isS d) && memD (.tup xs) WT
  | _ => false
def okW (d : D) : Prop := ∀ xs, d = .lst xs → xs.length ≤ 1000 ∧ okSL xs = true ∧ ndL xs ≤ 60
theorem in_wt {xs : List D} (h1 : okSL xs = true) (h2 : ndL xs ≤ 60) : cpD .in_ (.tup xs) (.lst WT) = some (memD (.tup xs) WT) := by
  have e1 : eqOk (.tup xs) = true := eqOk_s (d := .tup xs) h1 (by show ndL xs + 1 ≤ 64; omega)
  have e2 : eqOk (.lst WT) = true := by kernel_rfl
  show (if eqOk (.tup xs) && eqOk (.lst WT) then some (memD (.tup xs) WT) else none) = _
  rw [e1, e2]
  rfl
theorem ni_wl {xs : List D} (h1 : okSL xs = true) (h2 : ndL xs ≤ 60) : cpD .notIn (.lst xs) (.lst WL) = some (!memD (.tup xs) WT) := by
  have e1 : eqOk (.lst xs) = true := eqOk_s (d := .lst xs) h1 (by show ndL xs + 1 ≤ 64; omega)
  have e2 : eqOk (.lst WL) = true := by kernel_rfl
  have e3 : memD (.lst xs) WL = memD (.tup xs) WT := rfl
  show (if eqOk (.lst xs) && eqOk (.lst WL) then some (!memD (.lst xs) WL) else none) = _
  rw [e1, e2, e3]
  rfl
theorem words_t (k : Nat) (xs : List D) (μ : Mu) (h : plx (.lst xs) = true) : ∀ e ∈ xs, turnC T (dCall T fs k) (.tName 1) f_12_c0 (.var 1) [1] [some (.lst xs, false), none] e μ = some (if !isS e then some e else none, μ) := by
  intro e he
  have hp := plx_p (plxL_mem h e he)
  have hs := isS_t e
  cases hq : isS e with
  | true =>
    rw [hq] at hs
    simp only [dnx, dqx, e_lend, disowns, sz1_s, decide_true, decide_false, eq_self, kVl, kT, kLs, kW, kBl, kNt, kNg, kOp2, kCp2, kSb2, kIs, kBi, kMd2, kRv, kSl3, kMk, kGv, kLc, kPr, kPo, kRt, kNxt, kExS, kStO, kAp, kSb3, gC, kSc3, kEx1, kOp, kCp, kCh1, kCh, kSb, kMd, kSl2, kSl, kCl_s, kTe2, kTn, turnC, kCm, kCns, kCnp, kCno, kSeqS, kStT, kPrS, kTb, turnS, kFo, kS2, kC2, kEn, kZp2, kZp, kZs2, kZs, dT, dT.dTs, setR, disown, wipeR, scalar, kFc2, kFc, kFs, seqD, kCk, kCk2, kIn2, kIn3, Nat.reduceAdd, Nat.reduceSub, Nat.reduceLT, Nat.reduceLeDiff, ite_true, ite_false, if_true, if_false, reduceCtorEq, List.append_nil, List.cons_append, List.getElem?_cons_succ, List.getElem?_cons_zero, List.length_cons, List.length_nil, List.map_cons, List.map_nil, List.nil_append, List.replicate_succ, List.replicate_zero, List.reverse_cons, List.reverse_nil, List.set_cons_succ, List.set_cons_zero, f_12_c0, hs, hp, Bool.not_true]
  | false =>
    rw [hq] at hs
    simp only [dnx, dqx, e_lend, disowns, sz1_s, decide_true, decide_false, eq_self, kVl, kT, kLs, kW, kBl, kNt, kNg, kOp2, kCp2, kSb2, kIs, kBi, kMd2, kRv, kSl3, kMk, kGv, kLc, kPr, kPo, kRt, kNxt, kExS, kStO, kAp, kSb3, gC, kSc3, kEx1, kOp, kCp, kCh1, kCh, kSb, kMd, kSl2, kSl, kCl_s, kTe2, kTn, turnC, kCm, kCns, kCnp, kCno, kSeqS, kStT, kPrS, kTb, turnS, kFo, kS2, kC2, kEn, kZp2, kZp, kZs2, kZs, dT, dT.dTs, setR, disown, wipeR, scalar, kFc2, kFc, kFs, seqD, kCk, kCk2, kIn2, kIn3, Nat.reduceAdd, Nat.reduceSub, Nat.reduceLT, Nat.reduceLeDiff, ite_true, ite_false, if_true, if_false, reduceCtorEq, List.append_nil, List.cons_append, List.getElem?_cons_succ, List.getElem?_cons_zero, List.length_cons, List.length_nil, List.map_cons, List.map_nil, List.nil_append, List.replicate_succ, List.replicate_zero, List.reverse_cons, List.reverse_nil, List.set_cons_succ, List.set_cons_zero, f_12_c0, hs, hp, Bool.not_false]
theorem wordsv (k : Nat) (d : D) (h : plx d = true) (hw : okW d) (μ : Mu) : dCall T fs (k + 1) 12 [d] μ = some (.bl (wdB d), false, μ) := by
  have i2 := plx_p h
  by_cases hl : ∃ xs, d = .lst xs
  · obtain ⟨xs, rfl⟩ := hl
    obtain ⟨w1, w2, w3⟩ := hw xs rfl
    have hf := keep_any (f := fun d => !isS d) (i := 1) (own := [1]) (ρ := [some (.lst xs, false), none]) (call := dCall T fs k) (c := f_12_c0) (μ := μ) xs (words_t k xs μ h)
    have hn := ne_some (f := fun d => !isS d) xs
    have hi := in_wt w2 w3
    have w1' : xs.length ≤ 100000 := by omega
    have hc := WT_c
    rw [dCall_eq at_12 rfl]
    simp only [f_12, wdB]
    generalize WT = W at *
    generalize f_12_c0 = C0 at *
    simp only [dnx, dqx, e_lend, disowns, sz1_s, decide_true, decide_false, eq_self, kVl, kT, kLs, kW, kBl, kNt, kNg, kOp2, kCp2, kSb2, kIs, kBi, kMd2, kRv, kSl3, kMk, kGv, kLc, kPr, kPo, kRt, kNxt, kExS, kStO, kAp, kSb3, gC, kSc3, kEx1, kOp, kCp, kCh1, kCh, kSb, kMd, kSl2, kSl, kCl_s, kTe2, kTn, turnC, kCm, kCns, kCnp, kCno, kSeqS, kStT, kPrS, kTb, turnS, kFo, kS2, kC2, kEn, kZp2, kZp, kZs2, kZs, dT, dT.dTs, setR, disown, wipeR, scalar, kFc2, kFc, kFs, seqD, kCk, kCk2, kIn2, kIn3, Nat.reduceAdd, Nat.reduceSub, Nat.reduceLT, Nat.reduceLeDiff, ite_true, ite_false, if_true, if_false, reduceCtorEq, List.append_nil, List.cons_append, List.getElem?_cons_succ, List.getElem?_cons_zero, List.length_cons, List.length_nil, List.map_cons, List.map_nil, List.nil_append, List.replicate_succ, List.replicate_zero, List.reverse_cons, List.reverse_nil, List.set_cons_succ, List.set_cons_zero, hf, hn, hi, hc, sz1_s, w1']
    cases xs.any fun d => !isS d <;> simp only [dnx, dqx, e_lend, disowns, sz1_s, decide_true, decide_false, eq_self, kVl, kT, kLs, kW, kBl, kNt, kNg, kOp2, kCp2, kSb2, kIs, kBi, kMd2, kRv, kSl3, kMk, kGv, kLc, kPr, kPo, kRt, kNxt, kExS, kStO, kAp, kSb3, gC, kSc3, kEx1, kOp, kCp, kCh1, kCh, kSb, kMd, kSl2, kSl, kCl_s, kTe2, kTn, turnC, kCm, kCns, kCnp, kCno, kSeqS, kStT, kPrS, kTb, turnS, kFo, kS2, kC2, kEn, kZp2, kZp, kZs2, kZs, dT, dT.dTs, setR, disown, wipeR, scalar, kFc2, kFc, kFs, seqD, kCk, kCk2, kIn2, kIn3, Nat.reduceAdd, Nat.reduceSub, Nat.reduceLT, Nat.reduceLeDiff, ite_true, ite_false, if_true, if_false, reduceCtorEq, List.append_nil, List.cons_append, List.getElem?_cons_succ, List.getElem?_cons_zero, List.length_cons, List.length_nil, List.map_cons, List.map_nil, List.nil_append, List.replicate_succ, List.replicate_zero, List.reverse_cons, List.reverse_nil, List.set_cons_succ, List.set_cons_zero, hi, hc]
  · have c := no_lst (fun xs e => hl ⟨xs, e⟩) h
    have hb : wdB d = false := by
      unfold wdB
      split
      · exact absurd ⟨_, rfl⟩ hl
      · rfl
    rw [hb, dCall_eq at_12 rfl]
    simp only [f_12]
    simp only [dnx, dqx, e_lend, disowns, sz1_s, decide_true, decide_false, eq_self, kVl, kT, kLs, kW, kBl, kNt, kNg, kOp2, kCp2, kSb2, kIs, kBi, kMd2, kRv, kSl3, kMk, kGv, kLc, kPr, kPo, kRt, kNxt, kExS, kStO, kAp, kSb3, gC, kSc3, kEx1, kOp, kCp, kCh1, kCh, kSb, kMd, kSl2, kSl, kCl_s, kTe2, kTn, turnC, kCm, kCns, kCnp, kCno, kSeqS, kStT, kPrS, kTb, turnS, kFo, kS2, kC2, kEn, kZp2, kZp, kZs2, kZs, dT, dT.dTs, setR, disown, wipeR, scalar, kFc2, kFc, kFs, seqD, kCk, kCk2, kIn2, kIn3, Nat.reduceAdd, Nat.reduceSub, Nat.reduceLT, Nat.reduceLeDiff, ite_true, ite_false, if_true, if_false, reduceCtorEq, List.append_nil, List.cons_append, List.getElem?_cons_succ, List.getElem?_cons_zero, List.length_cons, List.length_nil, List.map_cons, List.map_nil, List.nil_append, List.replicate_succ, List.replicate_zero, List.reverse_cons, List.reverse_nil, List.set_cons_succ, List.set_cons_zero, c, i2]
end ZL
end

section
set_option Elab.async false
set_option linter.all false
set_option maxRecDepth 100000
set_option maxHeartbeats 4000000
set_option exponentiation.threshold 4000
-- 54cbb052366f303bde075170e85898d0
namespace ZL
open PySem PySem.Spec Z
def tkB (b0 b1 b2 b3 : Int) (d : D) : Bool := match d with
  | .tup [a, b, c, e] => btB a 0 b0 && btB b 0 b1 && btB c 0 b2 && btB e 0 b3
  | _ => false
theorem tkB_n {b0 b1 b2 b3 : Int} {d : D} (h : isTn 4 d = false) : tkB b0 b1 b2 b3 d = false := by
  unfold tkB
  split
  · exact absurd h (by simp [isTn])
  · rfl
def keepN (b : Bool) (i : Int) : Option D := if b then none else some (.int i)
theorem tk_t (k : Nat) (C0 : D) (xs : List D) (i m : Int) (a : D) (ha : L2.atI xs i = some a) (hp : plain1 a = true) (μ : Mu) :
    turnC T (dCall T fs (k + 2)) (.tTup (.cons (.tName 2) (.cons (.tName 3) .nil))) f_14_c0 (.var 2) [2, 3] [some (C0, false), some (.tup xs, false), none, none] (.tup [.int i, .int m]) μ = some (keepN (btB a 0 m) i, μ) := by
  have e1 := betw k a hp 0 m μ
  simp only [dnx, dqx, e_lend, disowns, sz1_s, decide_true, decide_false, eq_self, kVl, kT, kLs, kW, kBl, kNt, kNg, kOp2, kCp2, kSb2, kIs, kBi, kMd2, kRv, kSl3, kMk, kGv, kLc, kPr, kPo, kRt, kNxt, kExS, kStO, kAp, kSb3, gC, kSc3, kEx1, kOp, kCp, kCh1, kCh, kSb, kMd, kSl2, kSl, kCl_s, kTe2, kTn, turnC, kCm, kCns, kCnp, kCno, kSeqS, kStT, kPrS, kTb, turnS, kFo, kS2, kC2, kEn, kZp2, kZp, kZs2, kZs, dT, dT.dTs, setR, disown, wipeR, scalar, kFc2, kFc, kFs, seqD, kCk, kCk2, kIn2, kIn3, Nat.reduceAdd, Nat.reduceSub, Nat.reduceLT, Nat.reduceLeDiff, ite_true, ite_false, if_true, if_false, reduceCtorEq, List.append_nil, List.cons_append, List.getElem?_cons_succ, List.getElem?_cons_zero, List.length_cons, List.length_nil, List.map_cons, List.map_nil, List.nil_append, List.replicate_succ, List.replicate_zero, List.reverse_cons, List.reverse_nil, List.set_cons_succ, List.set_cons_zero, f_14_c0, ha, e1]
  cases btB a 0 m
  · simp only [dnx, dqx, e_lend, disowns, sz1_s, decide_true, decide_false, eq_self, kVl, kT, kLs, kW, kBl, kNt, kNg, kOp2, kCp2, kSb2, kIs, kBi, kMd2, kRv, kSl3, kMk, kGv, kLc, kPr, kPo, kRt, kNxt, kExS, kStO, kAp, kSb3, gC, kSc3, kEx1, kOp, kCp, kCh1, kCh, kSb, kMd, kSl2, kSl, kCl_s, kTe2, kTn, turnC, kCm, kCns, kCnp, kCno, kSeqS, kStT, kPrS, kTb, turnS, kFo, kS2, kC2, kEn, kZp2, kZp, kZs2, kZs, dT, dT.dTs, setR, disown, wipeR, scalar, kFc2, kFc, kFs, seqD, kCk, kCk2, kIn2, kIn3, Nat.reduceAdd, Nat.reduceSub, Nat.reduceLT, Nat.reduceLeDiff, ite_true, ite_false, if_true, if_false, reduceCtorEq, List.append_nil, List.cons_append, List.getElem?_cons_succ, List.getElem?_cons_zero, List.length_cons, List.length_nil, List.map_cons, List.map_nil, List.nil_append, List.replicate_succ, List.replicate_zero, List.reverse_cons, List.reverse_nil, List.set_cons_succ, List.set_cons_zero, Bool.not_false]
    rfl
  · simp only [dnx, dqx, e_lend, disowns, sz1_s, decide_true, decide_false, eq_self, kVl, kT, kLs, kW, kBl, kNt, kNg, kOp2, kCp2, kSb2, kIs, kBi, kMd2, kRv, kSl3, kMk, kGv, kLc, kPr, kPo, kRt, kNxt, kExS, kStO, kAp, kSb3, gC, kSc3, kEx1, kOp, kCp, kCh1, kCh, kSb, kMd, kSl2, kSl, kCl_s, kTe2, kTn, turnC, kCm, kCns, kCnp, kCno, kSeqS, kStT, kPrS, kTb, turnS, kFo, kS2, kC2, kEn, kZp2, kZp, kZs2, kZs, dT, dT.dTs, setR, disown, wipeR, scalar, kFc2, kFc, kFs, seqD, kCk, kCk2, kIn2, kIn3, Nat.reduceAdd, Nat.reduceSub, Nat.reduceLT, Nat.reduceLeDiff, ite_true, ite_false, if_true, if_false, reduceCtorEq, List.append_nil, List.cons_append, List.getElem?_cons_succ, List.getElem?_cons_zero, List.length_cons, List.length_nil, List.map_cons, List.map_nil, List.nil_append, List.replicate_succ, List.replicate_zero, List.reverse_cons, List.reverse_nil, List.set_cons_succ, List.set_cons_zero, Bool.not_true]
    rfl
theorem takable_ok (k : Nat) (c : Co) (μ : Mu) : dCall T fs (k + 2) 13 [co c] μ = some (.tup [.int c.t1, .int c.t2, .int c.b0, .int c.b1], false, μ) := by kernel_rfl
theorem enum4 (a b c d : D) : enumL [a, b, c, d] 0 = [.tup [.int 0, a], .tup [.int 1, b], .tup [.int 2, c], .tup [.int 3, d]] := rfl
theorem eq_keep (x y z w : Bool) : cpD .eq (.lst ([keepN x 0, keepN y 1, keepN z 2, keepN w 3].filterMap id)) (.lst []) = some (x && y && z && w) := by
  cases x <;> cases y <;> cases z <;> cases w <;> kernel_rfl
theorem keep_l (x y z w : Bool) : ([keepN x 0, keepN y 1, keepN z 2, keepN w 3].filterMap id).length ≤ 100000 := by
  cases x <;> cases y <;> cases z <;> cases w <;> decide
theorem takev (k : Nat) (c : Co) (d : D) (h : plx d = true) (μ : Mu) : dCall T fs (k + 3) 14 [co c, d] μ = some (.bl (tkB c.t1 c.t2 c.b0 c.b1 d), false, μ) := by
  have i2 := plx_p h
  by_cases ht : isTn 4 d = true
  · obtain ⟨a, b, u, e, rfl⟩ := isTn_4 ht
    obtain ⟨h0, h1, h2, h3⟩ := plx4 h
    have e1 := tk_t k (co c) [a, b, u, e] 0 c.t1 a rfl (plx_p h0) μ
    have e2 := tk_t k (co c) [a, b, u, e] 1 c.t2 b rfl (plx_p h1) μ
    have e3 := tk_t k (co c) [a, b, u, e] 2 c.b0 u rfl (plx_p h2) μ
    have e4 := tk_t k (co c) [a, b, u, e] 3 c.b1 e rfl (plx_p h3) μ
    have ef := fc4 e1 e2 e3 e4
    have et := takable_ok k c μ
    have eq := eq_keep (btB a 0 c.t1) (btB b 0 c.t2) (btB u 0 c.b0) (btB e 0 c.b1)
    have el := keep_l (btB a 0 c.t1) (btB b 0 c.t2) (btB u 0 c.b0) (btB e 0 c.b1)
    have qv : tkB c.t1 c.t2 c.b0 c.b1 (.tup [a, b, u, e]) = (btB a 0 c.t1 && btB b 0 c.t2 && btB u 0 c.b0 && btB e 0 c.b1) := rfl
    rw [qv]
    generalize ([keepN (btB a 0 c.t1) 0, keepN (btB b 0 c.t2) 1, keepN (btB u 0 c.b0) 2, keepN (btB e 0 c.b1) 3].filterMap id) = R at *
    generalize co c = CC at *
    rw [dCall_eq at_14 rfl]
    simp only [f_14]
    generalize f_14_c0 = C0 at *
    simp only [dnx, dqx, e_lend, disowns, sz1_s, decide_true, decide_false, eq_self, kVl, kT, kLs, kW, kBl, kNt, kNg, kOp2, kCp2, kSb2, kIs, kBi, kMd2, kRv, kSl3, kMk, kGv, kLc, kPr, kPo, kRt, kNxt, kExS, kStO, kAp, kSb3, gC, kSc3, kEx1, kOp, kCp, kCh1, kCh, kSb, kMd, kSl2, kSl, kCl_s, kTe2, kTn, turnC, kCm, kCns, kCnp, kCno, kSeqS, kStT, kPrS, kTb, turnS, kFo, kS2, kC2, kEn, kZp2, kZp, kZs2, kZs, dT, dT.dTs, setR, disown, wipeR, scalar, kFc2, kFc, kFs, seqD, kCk, kCk2, kIn2, kIn3, Nat.reduceAdd, Nat.reduceSub, Nat.reduceLT, Nat.reduceLeDiff, ite_true, ite_false, if_true, if_false, reduceCtorEq, List.append_nil, List.cons_append, List.getElem?_cons_succ, List.getElem?_cons_zero, List.length_cons, List.length_nil, List.map_cons, List.map_nil, List.nil_append, List.replicate_succ, List.replicate_zero, List.reverse_cons, List.reverse_nil, List.set_cons_succ, List.set_cons_zero, sz1_s, Int.reduceEq, et, enum4, ef, eq, el]
  · have ht := Bool.eq_false_iff.mpr ht
    rw [tkB_n ht, dCall_eq at_14 rfl]
    simp only [f_14]
    rcases tup_cases 4 ht with c | ⟨xs, rfl, ne⟩
    · simp only [dnx, dqx, e_lend, disowns, sz1_s, decide_true, decide_false, eq_self, kVl, kT, kLs, kW, kBl, kNt, kNg, kOp2, kCp2, kSb2, kIs, kBi, kMd2, kRv, kSl3, kMk, kGv, kLc, kPr, kPo, kRt, kNxt, kExS, kStO, kAp, kSb3, gC, kSc3, kEx1, kOp, kCp, kCh1, kCh, kSb, kMd, kSl2, kSl, kCl_s, kTe2, kTn, turnC, kCm, kCns, kCnp, kCno, kSeqS, kStT, kPrS, kTb, turnS, kFo, kS2, kC2, kEn, kZp2, kZp, kZs2, kZs, dT, dT.dTs, setR, disown, wipeR, scalar, kFc2, kFc, kFs, seqD, kCk, kCk2, kIn2, kIn3, Nat.reduceAdd, Nat.reduceSub, Nat.reduceLT, Nat.reduceLeDiff, ite_true, ite_false, if_true, if_false, reduceCtorEq, List.append_nil, List.cons_append, List.getElem?_cons_succ, List.getElem?_cons_zero, List.length_cons, List.length_nil, List.map_cons, List.map_nil, List.nil_append, List.replicate_succ, List.replicate_zero, List.reverse_cons, List.reverse_nil, List.set_cons_succ, List.set_cons_zero, c, i2]
    · have ne2 : ¬ ((xs.length : Int) = 4) := ne
      simp only [dnx, dqx, e_lend, disowns, sz1_s, decide_true, decide_false, eq_self, kVl, kT, kLs, kW, kBl, kNt, kNg, kOp2, kCp2, kSb2, kIs, kBi, kMd2, kRv, kSl3, kMk, kGv, kLc, kPr, kPo, kRt, kNxt, kExS, kStO, kAp, kSb3, gC, kSc3, kEx1, kOp, kCp, kCh1, kCh, kSb, kMd, kSl2, kSl, kCl_s, kTe2, kTn, turnC, kCm, kCns, kCnp, kCno, kSeqS, kStT, kPrS, kTb, turnS, kFo, kS2, kC2, kEn, kZp2, kZp, kZs2, kZs, dT, dT.dTs, setR, disown, wipeR, scalar, kFc2, kFc, kFs, seqD, kCk, kCk2, kIn2, kIn3, Nat.reduceAdd, Nat.reduceSub, Nat.reduceLT, Nat.reduceLeDiff, ite_true, ite_false, if_true, if_false, reduceCtorEq, List.append_nil, List.cons_append, List.getElem?_cons_succ, List.getElem?_cons_zero, List.length_cons, List.length_nil, List.map_cons, List.map_nil, List.nil_append, List.replicate_succ, List.replicate_zero, List.reverse_cons, List.reverse_nil, List.set_cons_succ, List.set_cons_zero, len_t, ne2, decide_false]
def mdB (c : Co) (d : D) : Bool := match d with
  | .tup [w, t] => wdB w && tkB c.t1 c.t2 c.b0 c.b1 t
  | _ => false
theorem mdB_n {c : Co} {d : D} (h : isTn 2 d = false) : mdB c d = false := by
  unfold mdB
  split
  · exact absurd h (by simp [isTn])
  · rfl
def okM (d : D) : Prop := ∀ w t, d = .tup [w, t] → okW w
theorem mendv (k : Nat) (c : Co) (d : D) (h : plx d = true) (hm : okM d) (μ : Mu) : dCall T fs (k + 4) 15 [co c, d] μ = some (.bl (mdB c d), false, μ) := by
  have i2 := plx_p h
  by_cases ht : isTn 2 d = true
  · obtain ⟨w, t, rfl⟩ := isTn_2 ht
    obtain ⟨h0, h1⟩ := plx2 h
    have e1 := wordsv (k + 2) w h0 (hm w t rfl) μ
    have e2 := takev k c t h1 μ
    have qv : mdB c (.tup [w, t]) = (wdB w && tkB c.t1 c.t2 c.b0 c.b1 t) := rfl
    rw [qv, dCall_eq at_15 rfl]
    simp only [f_15]
    simp only [dnx, dqx, e_lend, disowns, sz1_s, decide_true, decide_false, eq_self, kVl, kT, kLs, kW, kBl, kNt, kNg, kOp2, kCp2, kSb2, kIs, kBi, kMd2, kRv, kSl3, kMk, kGv, kLc, kPr, kPo, kRt, kNxt, kExS, kStO, kAp, kSb3, gC, kSc3, kEx1, kOp, kCp, kCh1, kCh, kSb, kMd, kSl2, kSl, kCl_s, kTe2, kTn, turnC, kCm, kCns, kCnp, kCno, kSeqS, kStT, kPrS, kTb, turnS, kFo, kS2, kC2, kEn, kZp2, kZp, kZs2, kZs, dT, dT.dTs, setR, disown, wipeR, scalar, kFc2, kFc, kFs, seqD, kCk, kCk2, kIn2, kIn3, Nat.reduceAdd, Nat.reduceSub, Nat.reduceLT, Nat.reduceLeDiff, ite_true, ite_false, if_true, if_false, reduceCtorEq, List.append_nil, List.cons_append, List.getElem?_cons_succ, List.getElem?_cons_zero, List.length_cons, List.length_nil, List.map_cons, List.map_nil, List.nil_append, List.replicate_succ, List.replicate_zero, List.reverse_cons, List.reverse_nil, List.set_cons_succ, List.set_cons_zero, sz1_s, Int.reduceEq, e1]
    cases wdB w
    · simp only [dnx, dqx, e_lend, disowns, sz1_s, decide_true, decide_false, eq_self, kVl, kT, kLs, kW, kBl, kNt, kNg, kOp2, kCp2, kSb2, kIs, kBi, kMd2, kRv, kSl3, kMk, kGv, kLc, kPr, kPo, kRt, kNxt, kExS, kStO, kAp, kSb3, gC, kSc3, kEx1, kOp, kCp, kCh1, kCh, kSb, kMd, kSl2, kSl, kCl_s, kTe2, kTn, turnC, kCm, kCns, kCnp, kCno, kSeqS, kStT, kPrS, kTb, turnS, kFo, kS2, kC2, kEn, kZp2, kZp, kZs2, kZs, dT, dT.dTs, setR, disown, wipeR, scalar, kFc2, kFc, kFs, seqD, kCk, kCk2, kIn2, kIn3, Nat.reduceAdd, Nat.reduceSub, Nat.reduceLT, Nat.reduceLeDiff, ite_true, ite_false, if_true, if_false, reduceCtorEq, List.append_nil, List.cons_append, List.getElem?_cons_succ, List.getElem?_cons_zero, List.length_cons, List.length_nil, List.map_cons, List.map_nil, List.nil_append, List.replicate_succ, List.replicate_zero, List.reverse_cons, List.reverse_nil, List.set_cons_succ, List.set_cons_zero]
      try rfl
    · simp only [dnx, dqx, e_lend, disowns, sz1_s, decide_true, decide_false, eq_self, kVl, kT, kLs, kW, kBl, kNt, kNg, kOp2, kCp2, kSb2, kIs, kBi, kMd2, kRv, kSl3, kMk, kGv, kLc, kPr, kPo, kRt, kNxt, kExS, kStO, kAp, kSb3, gC, kSc3, kEx1, kOp, kCp, kCh1, kCh, kSb, kMd, kSl2, kSl, kCl_s, kTe2, kTn, turnC, kCm, kCns, kCnp, kCno, kSeqS, kStT, kPrS, kTb, turnS, kFo, kS2, kC2, kEn, kZp2, kZp, kZs2, kZs, dT, dT.dTs, setR, disown, wipeR, scalar, kFc2, kFc, kFs, seqD, kCk, kCk2, kIn2, kIn3, Nat.reduceAdd, Nat.reduceSub, Nat.reduceLT, Nat.reduceLeDiff, ite_true, ite_false, if_true, if_false, reduceCtorEq, List.append_nil, List.cons_append, List.getElem?_cons_succ, List.getElem?_cons_zero, List.length_cons, List.length_nil, List.map_cons, List.map_nil, List.nil_append, List.replicate_succ, List.replicate_zero, List.reverse_cons, List.reverse_nil, List.set_cons_succ, List.set_cons_zero, e2]
      try rfl
  · have ht := Bool.eq_false_iff.mpr ht
    rw [mdB_n ht, dCall_eq at_15 rfl]
    simp only [f_15]
    rcases tup_cases 2 ht with c | ⟨xs, rfl, ne⟩
    · simp only [dnx, dqx, e_lend, disowns, sz1_s, decide_true, decide_false, eq_self, kVl, kT, kLs, kW, kBl, kNt, kNg, kOp2, kCp2, kSb2, kIs, kBi, kMd2, kRv, kSl3, kMk, kGv, kLc, kPr, kPo, kRt, kNxt, kExS, kStO, kAp, kSb3, gC, kSc3, kEx1, kOp, kCp, kCh1, kCh, kSb, kMd, kSl2, kSl, kCl_s, kTe2, kTn, turnC, kCm, kCns, kCnp, kCno, kSeqS, kStT, kPrS, kTb, turnS, kFo, kS2, kC2, kEn, kZp2, kZp, kZs2, kZs, dT, dT.dTs, setR, disown, wipeR, scalar, kFc2, kFc, kFs, seqD, kCk, kCk2, kIn2, kIn3, Nat.reduceAdd, Nat.reduceSub, Nat.reduceLT, Nat.reduceLeDiff, ite_true, ite_false, if_true, if_false, reduceCtorEq, List.append_nil, List.cons_append, List.getElem?_cons_succ, List.getElem?_cons_zero, List.length_cons, List.length_nil, List.map_cons, List.map_nil, List.nil_append, List.replicate_succ, List.replicate_zero, List.reverse_cons, List.reverse_nil, List.set_cons_succ, List.set_cons_zero, c, i2]
    · have ne2 : ¬ ((xs.length : Int) = 2) := ne
      simp only [dnx, dqx, e_lend, disowns, sz1_s, decide_true, decide_false, eq_self, kVl, kT, kLs, kW, kBl, kNt, kNg, kOp2, kCp2, kSb2, kIs, kBi, kMd2, kRv, kSl3, kMk, kGv, kLc, kPr, kPo, kRt, kNxt, kExS, kStO, kAp, kSb3, gC, kSc3, kEx1, kOp, kCp, kCh1, kCh, kSb, kMd, kSl2, kSl, kCl_s, kTe2, kTn, turnC, kCm, kCns, kCnp, kCno, kSeqS, kStT, kPrS, kTb, turnS, kFo, kS2, kC2, kEn, kZp2, kZp, kZs2, kZs, dT, dT.dTs, setR, disown, wipeR, scalar, kFc2, kFc, kFs, seqD, kCk, kCk2, kIn2, kIn3, Nat.reduceAdd, Nat.reduceSub, Nat.reduceLT, Nat.reduceLeDiff, ite_true, ite_false, if_true, if_false, reduceCtorEq, List.append_nil, List.cons_append, List.getElem?_cons_succ, List.getElem?_cons_zero, List.length_cons, List.length_nil, List.map_cons, List.map_nil, List.nil_append, List.replicate_succ, List.replicate_zero, List.reverse_cons, List.reverse_nil, List.set_cons_succ, List.set_cons_zero, len_t, ne2, decide_false]
variable {p q r s : Int} {c : Co}
theorem ismend (L : LOk p q r s) (C : COk p q r s c) (k : Nat) (d : D) (h : plx d = true) (hm : okM d) (μ : Mu) : dCall T fs (k + 7) 18 [lk p q r s, co c, d] μ = some (.bl (mdB c d), false, μ) := by
  have e1 := chk_ok L C k μ
  have e2 := mendv (k + 2) c d h hm μ
  rw [dCall_eq at_18 rfl]
  simp only [f_18]
  simp only [dnx, dqx, e_lend, disowns, sz1_s, decide_true, decide_false, eq_self, kVl, kT, kLs, kW, kBl, kNt, kNg, kOp2, kCp2, kSb2, kIs, kBi, kMd2, kRv, kSl3, kMk, kGv, kLc, kPr, kPo, kRt, kNxt, kExS, kStO, kAp, kSb3, gC, kSc3, kEx1, kOp, kCp, kCh1, kCh, kSb, kMd, kSl2, kSl, kCl_s, kTe2, kTn, turnC, kCm, kCns, kCnp, kCno, kSeqS, kStT, kPrS, kTb, turnS, kFo, kS2, kC2, kEn, kZp2, kZp, kZs2, kZs, dT, dT.dTs, setR, disown, wipeR, scalar, kFc2, kFc, kFs, seqD, kCk, kCk2, kIn2, kIn3, Nat.reduceAdd, Nat.reduceSub, Nat.reduceLT, Nat.reduceLeDiff, ite_true, ite_false, if_true, if_false, reduceCtorEq, List.append_nil, List.cons_append, List.getElem?_cons_succ, List.getElem?_cons_zero, List.length_cons, List.length_nil, List.map_cons, List.map_nil, List.nil_append, List.replicate_succ, List.replicate_zero, List.reverse_cons, List.reverse_nil, List.set_cons_succ, List.set_cons_zero, e1, e2]
theorem chkmend (L : LOk p q r s) (C : COk p q r s c) (k : Nat) (d : D) (h : plx d = true) (hm : okM d) (hd : mdB c d = true) (μ : Mu) : dCall T fs (k + 7) 19 [lk p q r s, co c, d] μ = some (.non, false, μ) := by
  have e1 := chk_ok L C k μ
  have e2 := mendv (k + 2) c d h hm μ
  rw [hd] at e2
  rw [dCall_eq at_19 rfl]
  simp only [f_19]
  simp only [dnx, dqx, e_lend, disowns, sz1_s, decide_true, decide_false, eq_self, kVl, kT, kLs, kW, kBl, kNt, kNg, kOp2, kCp2, kSb2, kIs, kBi, kMd2, kRv, kSl3, kMk, kGv, kLc, kPr, kPo, kRt, kNxt, kExS, kStO, kAp, kSb3, gC, kSc3, kEx1, kOp, kCp, kCh1, kCh, kSb, kMd, kSl2, kSl, kCl_s, kTe2, kTn, turnC, kCm, kCns, kCnp, kCno, kSeqS, kStT, kPrS, kTb, turnS, kFo, kS2, kC2, kEn, kZp2, kZp, kZs2, kZs, dT, dT.dTs, setR, disown, wipeR, scalar, kFc2, kFc, kFs, seqD, kCk, kCk2, kIn2, kIn3, Nat.reduceAdd, Nat.reduceSub, Nat.reduceLT, Nat.reduceLeDiff, ite_true, ite_false, if_true, if_false, reduceCtorEq, List.append_nil, List.cons_append, List.getElem?_cons_succ, List.getElem?_cons_zero, List.length_cons, List.length_nil, List.map_cons, List.map_nil, List.nil_append, List.replicate_succ, List.replicate_zero, List.reverse_cons, List.reverse_nil, List.set_cons_succ, List.set_cons_zero, e1, e2]
end ZL
end

section
set_option Elab.async false
set_option linter.all false
set_option maxRecDepth 100000
set_option maxHeartbeats 4000000
set_option exponentiation.threshold 4000
-- 39ed24d076d922951b990e19ae4a2357
namespace ZL
open PySem PySem.Spec Z
/-! the law's own judgement -/
theorem non_int {d : D} (h : isI d = false) : isT "bool" d = true ∨ (isT "bool" d = false ∧ isT "int" d = false) := by
  cases d
  case int => exact absurd h (by simp [isI])
  case bl => exact .inl rfl
  all_goals exact .inr ⟨rfl, rfl⟩
theorem int_is {d : D} (h : isI d = true) : ∃ i, d = .int i := by
  cases d <;> first | exact ⟨_, rfl⟩ | exact absurd h (by simp only [isI, reduceCtorEq, not_false_eq_true])
theorem lwords_t (k : Nat) (xs : List D) (x0 x1 x4 : Option (D × Bool)) (μ : Mu) (h : plxL xs = true) : ∀ e ∈ xs, turnC T (dCall T fs k) (.tName 7) f_32_c0 (.var 7) [7] [x0, x1, none, some (.lst xs, false), x4, none, none, none] e μ = some (if !isS e then some e else none, μ) := by
  intro e he
  have hp := plx_p (plxL_mem h e he)
  have hs := isS_t e
  cases hq : isS e with
  | true =>
    rw [hq] at hs
    simp only [dnx, dqx, e_lend, disowns, sz1_s, decide_true, decide_false, eq_self, kVl, kT, kLs, kW, kBl, kNt, kNg, kOp2, kCp2, kSb2, kIs, kBi, kMd2, kRv, kSl3, kMk, kGv, kLc, kPr, kPo, kRt, kNxt, kExS, kStO, kAp, kSb3, gC, kSc3, kEx1, kOp, kCp, kCh1, kCh, kSb, kMd, kSl2, kSl, kCl_s, kTe2, kTn, turnC, kCm, kCns, kCnp, kCno, kSeqS, kStT, kPrS, kTb, turnS, kFo, kS2, kC2, kEn, kZp2, kZp, kZs2, kZs, dT, dT.dTs, setR, disown, wipeR, scalar, kFc2, kFc, kFs, seqD, kCk, kCk2, kIn2, kIn3, Nat.reduceAdd, Nat.reduceSub, Nat.reduceLT, Nat.reduceLeDiff, ite_true, ite_false, if_true, if_false, reduceCtorEq, List.append_nil, List.cons_append, List.getElem?_cons_succ, List.getElem?_cons_zero, List.length_cons, List.length_nil, List.map_cons, List.map_nil, List.nil_append, List.replicate_succ, List.replicate_zero, List.reverse_cons, List.reverse_nil, List.set_cons_succ, List.set_cons_zero, f_32_c0, hs, hp, Bool.not_true]
  | false =>
    rw [hq] at hs
    simp only [dnx, dqx, e_lend, disowns, sz1_s, decide_true, decide_false, eq_self, kVl, kT, kLs, kW, kBl, kNt, kNg, kOp2, kCp2, kSb2, kIs, kBi, kMd2, kRv, kSl3, kMk, kGv, kLc, kPr, kPo, kRt, kNxt, kExS, kStO, kAp, kSb3, gC, kSc3, kEx1, kOp, kCp, kCh1, kCh, kSb, kMd, kSl2, kSl, kCl_s, kTe2, kTn, turnC, kCm, kCns, kCnp, kCno, kSeqS, kStT, kPrS, kTb, turnS, kFo, kS2, kC2, kEn, kZp2, kZp, kZs2, kZs, dT, dT.dTs, setR, disown, wipeR, scalar, kFc2, kFc, kFs, seqD, kCk, kCk2, kIn2, kIn3, Nat.reduceAdd, Nat.reduceSub, Nat.reduceLT, Nat.reduceLeDiff, ite_true, ite_false, if_true, if_false, reduceCtorEq, List.append_nil, List.cons_append, List.getElem?_cons_succ, List.getElem?_cons_zero, List.length_cons, List.length_nil, List.map_cons, List.map_nil, List.nil_append, List.replicate_succ, List.replicate_zero, List.reverse_cons, List.reverse_nil, List.set_cons_succ, List.set_cons_zero, f_32_c0, hs, hp, Bool.not_false]
theorem lints_t (k : Nat) (xs : List D) (x0 x1 x3 : Option (D × Bool)) (μ : Mu) (h : plxL xs = true) : ∀ e ∈ xs, turnC T (dCall T fs k) (.tName 5) f_32_c1 (.var 5) [5] [x0, x1, none, x3, some (.tup xs, false), none, none, none] e μ = some (if !isI e then some e else none, μ) := by
  intro e he
  have hp := plx_p (plxL_mem h e he)
  cases hq : isI e with
  | true =>
    obtain ⟨i, rfl⟩ := int_is hq
    simp only [dnx, dqx, e_lend, disowns, sz1_s, decide_true, decide_false, eq_self, kVl, kT, kLs, kW, kBl, kNt, kNg, kOp2, kCp2, kSb2, kIs, kBi, kMd2, kRv, kSl3, kMk, kGv, kLc, kPr, kPo, kRt, kNxt, kExS, kStO, kAp, kSb3, gC, kSc3, kEx1, kOp, kCp, kCh1, kCh, kSb, kMd, kSl2, kSl, kCl_s, kTe2, kTn, turnC, kCm, kCns, kCnp, kCno, kSeqS, kStT, kPrS, kTb, turnS, kFo, kS2, kC2, kEn, kZp2, kZp, kZs2, kZs, dT, dT.dTs, setR, disown, wipeR, scalar, kFc2, kFc, kFs, seqD, kCk, kCk2, kIn2, kIn3, Nat.reduceAdd, Nat.reduceSub, Nat.reduceLT, Nat.reduceLeDiff, ite_true, ite_false, if_true, if_false, reduceCtorEq, List.append_nil, List.cons_append, List.getElem?_cons_succ, List.getElem?_cons_zero, List.length_cons, List.length_nil, List.map_cons, List.map_nil, List.nil_append, List.replicate_succ, List.replicate_zero, List.reverse_cons, List.reverse_nil, List.set_cons_succ, List.set_cons_zero, f_32_c1, Bool.not_true]
  | false =>
    rcases non_int hq with h1 | ⟨h1, h2⟩
    · cases hj : isT "int" e with
      | true => simp only [dnx, dqx, e_lend, disowns, sz1_s, decide_true, decide_false, eq_self, kVl, kT, kLs, kW, kBl, kNt, kNg, kOp2, kCp2, kSb2, kIs, kBi, kMd2, kRv, kSl3, kMk, kGv, kLc, kPr, kPo, kRt, kNxt, kExS, kStO, kAp, kSb3, gC, kSc3, kEx1, kOp, kCp, kCh1, kCh, kSb, kMd, kSl2, kSl, kCl_s, kTe2, kTn, turnC, kCm, kCns, kCnp, kCno, kSeqS, kStT, kPrS, kTb, turnS, kFo, kS2, kC2, kEn, kZp2, kZp, kZs2, kZs, dT, dT.dTs, setR, disown, wipeR, scalar, kFc2, kFc, kFs, seqD, kCk, kCk2, kIn2, kIn3, Nat.reduceAdd, Nat.reduceSub, Nat.reduceLT, Nat.reduceLeDiff, ite_true, ite_false, if_true, if_false, reduceCtorEq, List.append_nil, List.cons_append, List.getElem?_cons_succ, List.getElem?_cons_zero, List.length_cons, List.length_nil, List.map_cons, List.map_nil, List.nil_append, List.replicate_succ, List.replicate_zero, List.reverse_cons, List.reverse_nil, List.set_cons_succ, List.set_cons_zero, f_32_c1, h1, hj, hp, Bool.not_true, Bool.not_false]
      | false => simp only [dnx, dqx, e_lend, disowns, sz1_s, decide_true, decide_false, eq_self, kVl, kT, kLs, kW, kBl, kNt, kNg, kOp2, kCp2, kSb2, kIs, kBi, kMd2, kRv, kSl3, kMk, kGv, kLc, kPr, kPo, kRt, kNxt, kExS, kStO, kAp, kSb3, gC, kSc3, kEx1, kOp, kCp, kCh1, kCh, kSb, kMd, kSl2, kSl, kCl_s, kTe2, kTn, turnC, kCm, kCns, kCnp, kCno, kSeqS, kStT, kPrS, kTb, turnS, kFo, kS2, kC2, kEn, kZp2, kZp, kZs2, kZs, dT, dT.dTs, setR, disown, wipeR, scalar, kFc2, kFc, kFs, seqD, kCk, kCk2, kIn2, kIn3, Nat.reduceAdd, Nat.reduceSub, Nat.reduceLT, Nat.reduceLeDiff, ite_true, ite_false, if_true, if_false, reduceCtorEq, List.append_nil, List.cons_append, List.getElem?_cons_succ, List.getElem?_cons_zero, List.length_cons, List.length_nil, List.map_cons, List.map_nil, List.nil_append, List.replicate_succ, List.replicate_zero, List.reverse_cons, List.reverse_nil, List.set_cons_succ, List.set_cons_zero, f_32_c1, h1, hj, hp, Bool.not_true, Bool.not_false]
    · simp only [dnx, dqx, e_lend, disowns, sz1_s, decide_true, decide_false, eq_self, kVl, kT, kLs, kW, kBl, kNt, kNg, kOp2, kCp2, kSb2, kIs, kBi, kMd2, kRv, kSl3, kMk, kGv, kLc, kPr, kPo, kRt, kNxt, kExS, kStO, kAp, kSb3, gC, kSc3, kEx1, kOp, kCp, kCh1, kCh, kSb, kMd, kSl2, kSl, kCl_s, kTe2, kTn, turnC, kCm, kCns, kCnp, kCno, kSeqS, kStT, kPrS, kTb, turnS, kFo, kS2, kC2, kEn, kZp2, kZp, kZs2, kZs, dT, dT.dTs, setR, disown, wipeR, scalar, kFc2, kFc, kFs, seqD, kCk, kCk2, kIn2, kIn3, Nat.reduceAdd, Nat.reduceSub, Nat.reduceLT, Nat.reduceLeDiff, ite_true, ite_false, if_true, if_false, reduceCtorEq, List.append_nil, List.cons_append, List.getElem?_cons_succ, List.getElem?_cons_zero, List.length_cons, List.length_nil, List.map_cons, List.map_nil, List.nil_append, List.replicate_succ, List.replicate_zero, List.reverse_cons, List.reverse_nil, List.set_cons_succ, List.set_cons_zero, f_32_c1, h1, h2, hp, Bool.not_true, Bool.not_false]
theorem lat_t (k : Nat) (xs bs : List D) (x0 x1 x3 : Option (D × Bool)) (μ : Mu) (j i b : Int) (h1 : L2.atI xs j = some (.int i)) (h2 : L2.atI bs j = some (.int b)) :
    turnC T (dCall T fs k) (.tName 6) f_32_c2 (.var 6) [6] [x0, x1, some (.lst bs, false), x3, some (.tup xs, false), none, none, none] (.int j) μ = some (keepN (btB (.int i) 0 b) j, μ) := by
  have qb : btB (.int i) 0 b = (decide (0 ≤ i) && decide (i ≤ b)) := rfl
  rw [qb]
  by_cases c1 : 0 ≤ i
  · by_cases c2 : i ≤ b
    · simp only [dnx, dqx, e_lend, disowns, sz1_s, decide_true, decide_false, eq_self, kVl, kT, kLs, kW, kBl, kNt, kNg, kOp2, kCp2, kSb2, kIs, kBi, kMd2, kRv, kSl3, kMk, kGv, kLc, kPr, kPo, kRt, kNxt, kExS, kStO, kAp, kSb3, gC, kSc3, kEx1, kOp, kCp, kCh1, kCh, kSb, kMd, kSl2, kSl, kCl_s, kTe2, kTn, turnC, kCm, kCns, kCnp, kCno, kSeqS, kStT, kPrS, kTb, turnS, kFo, kS2, kC2, kEn, kZp2, kZp, kZs2, kZs, dT, dT.dTs, setR, disown, wipeR, scalar, kFc2, kFc, kFs, seqD, kCk, kCk2, kIn2, kIn3, Nat.reduceAdd, Nat.reduceSub, Nat.reduceLT, Nat.reduceLeDiff, ite_true, ite_false, if_true, if_false, reduceCtorEq, List.append_nil, List.cons_append, List.getElem?_cons_succ, List.getElem?_cons_zero, List.length_cons, List.length_nil, List.map_cons, List.map_nil, List.nil_append, List.replicate_succ, List.replicate_zero, List.reverse_cons, List.reverse_nil, List.set_cons_succ, List.set_cons_zero, f_32_c2, h1, h2, c1, c2, decide_true, Bool.not_true, Bool.and_self]
      rfl
    · simp only [dnx, dqx, e_lend, disowns, sz1_s, decide_true, decide_false, eq_self, kVl, kT, kLs, kW, kBl, kNt, kNg, kOp2, kCp2, kSb2, kIs, kBi, kMd2, kRv, kSl3, kMk, kGv, kLc, kPr, kPo, kRt, kNxt, kExS, kStO, kAp, kSb3, gC, kSc3, kEx1, kOp, kCp, kCh1, kCh, kSb, kMd, kSl2, kSl, kCl_s, kTe2, kTn, turnC, kCm, kCns, kCnp, kCno, kSeqS, kStT, kPrS, kTb, turnS, kFo, kS2, kC2, kEn, kZp2, kZp, kZs2, kZs, dT, dT.dTs, setR, disown, wipeR, scalar, kFc2, kFc, kFs, seqD, kCk, kCk2, kIn2, kIn3, Nat.reduceAdd, Nat.reduceSub, Nat.reduceLT, Nat.reduceLeDiff, ite_true, ite_false, if_true, if_false, reduceCtorEq, List.append_nil, List.cons_append, List.getElem?_cons_succ, List.getElem?_cons_zero, List.length_cons, List.length_nil, List.map_cons, List.map_nil, List.nil_append, List.replicate_succ, List.replicate_zero, List.reverse_cons, List.reverse_nil, List.set_cons_succ, List.set_cons_zero, f_32_c2, h1, h2, c1, c2, decide_true, decide_false, Bool.not_false, Bool.and_false]
      rfl
  · simp only [dnx, dqx, e_lend, disowns, sz1_s, decide_true, decide_false, eq_self, kVl, kT, kLs, kW, kBl, kNt, kNg, kOp2, kCp2, kSb2, kIs, kBi, kMd2, kRv, kSl3, kMk, kGv, kLc, kPr, kPo, kRt, kNxt, kExS, kStO, kAp, kSb3, gC, kSc3, kEx1, kOp, kCp, kCh1, kCh, kSb, kMd, kSl2, kSl, kCl_s, kTe2, kTn, turnC, kCm, kCns, kCnp, kCno, kSeqS, kStT, kPrS, kTb, turnS, kFo, kS2, kC2, kEn, kZp2, kZp, kZs2, kZs, dT, dT.dTs, setR, disown, wipeR, scalar, kFc2, kFc, kFs, seqD, kCk, kCk2, kIn2, kIn3, Nat.reduceAdd, Nat.reduceSub, Nat.reduceLT, Nat.reduceLeDiff, ite_true, ite_false, if_true, if_false, reduceCtorEq, List.append_nil, List.cons_append, List.getElem?_cons_succ, List.getElem?_cons_zero, List.length_cons, List.length_nil, List.map_cons, List.map_nil, List.nil_append, List.replicate_succ, List.replicate_zero, List.reverse_cons, List.reverse_nil, List.set_cons_succ, List.set_cons_zero, f_32_c2, h1, h2, c1, decide_false, Bool.not_false, Bool.false_and]
    rfl
theorem rng4 : rngL 4 0 = [.int 0, .int 1, .int 2, .int 3] := rfl
theorem any4 (a b c e : D) : [a, b, c, e].any (fun d => !isI d) = (!(isI a && isI b && isI c && isI e)) := by
  simp only [List.any_cons, List.any_nil, Bool.or_false]
  cases isI a <;> cases isI b <;> cases isI c <;> cases isI e <;> rfl
theorem tk_non {b0 b1 b2 b3 : Int} {a b c e : D} (h : (isI a && isI b && isI c && isI e) = false) : tkB b0 b1 b2 b3 (.tup [a, b, c, e]) = false := by
  have n : ∀ (d : D) (m : Int), isI d = false → btB d 0 m = false := fun d m hd => by
    cases d <;> first | rfl | exact absurd hd (by simp [isI])
  show (btB a 0 b0 && btB b 0 b1 && btB c 0 b2 && btB e 0 b3) = false
  cases ha : isI a with
  | false => rw [n a b0 ha]; rfl
  | true => cases hb : isI b with
    | false => rw [n b b1 hb, Bool.and_false]; rfl
    | true => cases hc : isI c with
      | false => rw [n c b2 hc, Bool.and_false]; rfl
      | true => cases he : isI e with
        | false => rw [n e b3 he, Bool.and_false]
        | true => rw [ha, hb, hc, he] at h; cases h
theorem lfits (k : Nat) (c : Co) (d : D) (h : plx d = true) (hm : okM d) (μ : Mu) : dCall T fs (k + 2) 32 [co c, d] μ = some (.bl (mdB c d), false, μ) := by
  have i2 := plx_p h
  by_cases ht : isTn 2 d = true
  · obtain ⟨w, t, rfl⟩ := isTn_2 ht
    obtain ⟨h0, h1⟩ := plx2 h
    have qv : mdB c (.tup [w, t]) = (wdB w && tkB c.t1 c.t2 c.b0 c.b1 t) := rfl
    have hW := wls k μ
    have iw := plx_p h0
    have it := plx_p h1
    rw [qv, dCall_eq at_32 rfl]
    simp only [f_32]
    by_cases hl : ∃ xs, w = .lst xs
    · obtain ⟨xs, rfl⟩ := hl
      obtain ⟨w1, w2, w3⟩ := hm _ _ rfl xs rfl
      have w1' : xs.length ≤ 100000 := by omega
      have hx : plxL xs = true := h0
      have hf := keep_any (f := fun d => !isS d) xs (lwords_t (k + 1) xs (some (co c, false)) (some (.tup [.lst xs, t], false)) (some (t, false)) μ hx)
      have hn := ne_some (f := fun d => !isS d) xs
      have hi := ni_wl w2 w3
      have qw : wdB (.lst xs) = (!(xs.any fun d => !isS d) && memD (.tup xs) WT) := rfl
      rw [qw]
      generalize hany : xs.any (fun d => !isS d) = ax at *
      generalize memD (.tup xs) WT = mx at *
      generalize WL = W at *
      cases ax with
      | true => simp only [dnx, dqx, e_lend, disowns, sz1_s, decide_true, decide_false, eq_self, kVl, kT, kLs, kW, kBl, kNt, kNg, kOp2, kCp2, kSb2, kIs, kBi, kMd2, kRv, kSl3, kMk, kGv, kLc, kPr, kPo, kRt, kNxt, kExS, kStO, kAp, kSb3, gC, kSc3, kEx1, kOp, kCp, kCh1, kCh, kSb, kMd, kSl2, kSl, kCl_s, kTe2, kTn, turnC, kCm, kCns, kCnp, kCno, kSeqS, kStT, kPrS, kTb, turnS, kFo, kS2, kC2, kEn, kZp2, kZp, kZs2, kZs, dT, dT.dTs, setR, disown, wipeR, scalar, kFc2, kFc, kFs, seqD, kCk, kCk2, kIn2, kIn3, Nat.reduceAdd, Nat.reduceSub, Nat.reduceLT, Nat.reduceLeDiff, ite_true, ite_false, if_true, if_false, reduceCtorEq, List.append_nil, List.cons_append, List.getElem?_cons_succ, List.getElem?_cons_zero, List.length_cons, List.length_nil, List.map_cons, List.map_nil, List.nil_append, List.replicate_succ, List.replicate_zero, List.reverse_cons, List.reverse_nil, List.set_cons_succ, List.set_cons_zero, f_32_s0, sz1_s, Int.reduceEq, iw, hf, hn, w1', Bool.not_true, Bool.false_and]
      | false =>
        cases mx with
        | false => simp only [dnx, dqx, e_lend, disowns, sz1_s, decide_true, decide_false, eq_self, kVl, kT, kLs, kW, kBl, kNt, kNg, kOp2, kCp2, kSb2, kIs, kBi, kMd2, kRv, kSl3, kMk, kGv, kLc, kPr, kPo, kRt, kNxt, kExS, kStO, kAp, kSb3, gC, kSc3, kEx1, kOp, kCp, kCh1, kCh, kSb, kMd, kSl2, kSl, kCl_s, kTe2, kTn, turnC, kCm, kCns, kCnp, kCno, kSeqS, kStT, kPrS, kTb, turnS, kFo, kS2, kC2, kEn, kZp2, kZp, kZs2, kZs, dT, dT.dTs, setR, disown, wipeR, scalar, kFc2, kFc, kFs, seqD, kCk, kCk2, kIn2, kIn3, Nat.reduceAdd, Nat.reduceSub, Nat.reduceLT, Nat.reduceLeDiff, ite_true, ite_false, if_true, if_false, reduceCtorEq, List.append_nil, List.cons_append, List.getElem?_cons_succ, List.getElem?_cons_zero, List.length_cons, List.length_nil, List.map_cons, List.map_nil, List.nil_append, List.replicate_succ, List.replicate_zero, List.reverse_cons, List.reverse_nil, List.set_cons_succ, List.set_cons_zero, f_32_s0, sz1_s, Int.reduceEq, iw, hf, hn, w1', hW, hi, Bool.not_true, Bool.not_false, Bool.and_false, Bool.false_and]
        | true =>
          rw [show (!false && true && tkB c.t1 c.t2 c.b0 c.b1 t) = tkB c.t1 c.t2 c.b0 c.b1 t from rfl]
          by_cases hT : isTn 4 t = true
          · obtain ⟨a, b, u, e, rfl⟩ := isTn_4 hT
            have hy : plxL [a, b, u, e] = true := h1
            have hg := keep_any (f := fun d => !isI d) [a, b, u, e] (lints_t (k + 1) [a, b, u, e] (some (co c, false)) (some (.tup [.lst xs, .tup [a, b, u, e]], false)) (some (.lst xs, false)) μ hy)
            have hk := ne_some (f := fun d => !isI d) [a, b, u, e]
            rw [any4] at hk
            cases hI : isI a && isI b && isI u && isI e with
            | false =>
              rw [hI] at hk
              rw [tk_non hI]
              simp only [dnx, dqx, e_lend, disowns, sz1_s, decide_true, decide_false, eq_self, kVl, kT, kLs, kW, kBl, kNt, kNg, kOp2, kCp2, kSb2, kIs, kBi, kMd2, kRv, kSl3, kMk, kGv, kLc, kPr, kPo, kRt, kNxt, kExS, kStO, kAp, kSb3, gC, kSc3, kEx1, kOp, kCp, kCh1, kCh, kSb, kMd, kSl2, kSl, kCl_s, kTe2, kTn, turnC, kCm, kCns, kCnp, kCno, kSeqS, kStT, kPrS, kTb, turnS, kFo, kS2, kC2, kEn, kZp2, kZp, kZs2, kZs, dT, dT.dTs, setR, disown, wipeR, scalar, kFc2, kFc, kFs, seqD, kCk, kCk2, kIn2, kIn3, Nat.reduceAdd, Nat.reduceSub, Nat.reduceLT, Nat.reduceLeDiff, ite_true, ite_false, if_true, if_false, reduceCtorEq, List.append_nil, List.cons_append, List.getElem?_cons_succ, List.getElem?_cons_zero, List.length_cons, List.length_nil, List.map_cons, List.map_nil, List.nil_append, List.replicate_succ, List.replicate_zero, List.reverse_cons, List.reverse_nil, List.set_cons_succ, List.set_cons_zero, f_32_s0, sz1_s, Int.reduceEq, iw, it, hf, hn, w1', hW, hi, hg, hk, Bool.not_true, Bool.not_false]
            | true =>
              rw [hI] at hk
              simp only [Bool.and_eq_true] at hI
              obtain ⟨⟨⟨j1, j2⟩, j3⟩, j4⟩ := hI
              obtain ⟨a, rfl⟩ := int_is j1
              obtain ⟨b, rfl⟩ := int_is j2
              obtain ⟨u, rfl⟩ := int_is j3
              obtain ⟨e, rfl⟩ := int_is j4
              have g1 := lat_t (k + 1) [.int a, .int b, .int u, .int e] [.int c.t1, .int c.t2, .int c.b0, .int c.b1] (some (co c, false)) (some (.tup [.lst xs, .tup [.int a, .int b, .int u, .int e]], false)) (some (.lst xs, false)) μ 0 a c.t1 rfl rfl
              have g2 := lat_t (k + 1) [.int a, .int b, .int u, .int e] [.int c.t1, .int c.t2, .int c.b0, .int c.b1] (some (co c, false)) (some (.tup [.lst xs, .tup [.int a, .int b, .int u, .int e]], false)) (some (.lst xs, false)) μ 1 b c.t2 rfl rfl
              have g3 := lat_t (k + 1) [.int a, .int b, .int u, .int e] [.int c.t1, .int c.t2, .int c.b0, .int c.b1] (some (co c, false)) (some (.tup [.lst xs, .tup [.int a, .int b, .int u, .int e]], false)) (some (.lst xs, false)) μ 2 u c.b0 rfl rfl
              have g4 := lat_t (k + 1) [.int a, .int b, .int u, .int e] [.int c.t1, .int c.t2, .int c.b0, .int c.b1] (some (co c, false)) (some (.tup [.lst xs, .tup [.int a, .int b, .int u, .int e]], false)) (some (.lst xs, false)) μ 3 e c.b1 rfl rfl
              have ef := fc4 g1 g2 g3 g4
              have eq := eq_keep (btB (.int a) 0 c.t1) (btB (.int b) 0 c.t2) (btB (.int u) 0 c.b0) (btB (.int e) 0 c.b1)
              have el := keep_l (btB (.int a) 0 c.t1) (btB (.int b) 0 c.t2) (btB (.int u) 0 c.b0) (btB (.int e) 0 c.b1)
              have qt : tkB c.t1 c.t2 c.b0 c.b1 (.tup [.int a, .int b, .int u, .int e]) = (btB (.int a) 0 c.t1 && btB (.int b) 0 c.t2 && btB (.int u) 0 c.b0 && btB (.int e) 0 c.b1) := rfl
              rw [qt]
              have cA : L2.atI [D.tup [.int c.sb, .int c.sh], .tup [.int c.rb, lotD c.lot, .bl c.dun], .tup [.int c.t0, .int c.t1, .int c.t2], .tup [.int c.b0, .int c.b1]] 2 = some (.tup [.int c.t0, .int c.t1, .int c.t2]) := rfl
              have r4 : Int.toNat 4 = 4 := rfl
              generalize ([keepN (btB (.int a) 0 c.t1) 0, keepN (btB (.int b) 0 c.t2) 1, keepN (btB (.int u) 0 c.b0) 2, keepN (btB (.int e) 0 c.b1) 3].filterMap id) = R at *
              simp only [f_32_s0]
              generalize f_32_c0 = F0 at *
              generalize f_32_c1 = F1 at *
              generalize f_32_c2 = F2 at *
              simp only [co] at *
              simp only [dnx, dqx, e_lend, disowns, sz1_s, decide_true, decide_false, eq_self, kVl, kT, kLs, kW, kBl, kNt, kNg, kOp2, kCp2, kSb2, kIs, kBi, kMd2, kRv, kSl3, kMk, kGv, kLc, kPr, kPo, kRt, kNxt, kExS, kStO, kAp, kSb3, gC, kSc3, kEx1, kOp, kCp, kCh1, kCh, kSb, kMd, kSl2, kSl, kCl_s, kTe2, kTn, turnC, kCm, kCns, kCnp, kCno, kSeqS, kStT, kPrS, kTb, turnS, kFo, kS2, kC2, kEn, kZp2, kZp, kZs2, kZs, dT, dT.dTs, setR, disown, wipeR, scalar, kFc2, kFc, kFs, seqD, kCk, kCk2, kIn2, kIn3, Nat.reduceAdd, Nat.reduceSub, Nat.reduceLT, Nat.reduceLeDiff, ite_true, ite_false, if_true, if_false, reduceCtorEq, List.append_nil, List.cons_append, List.getElem?_cons_succ, List.getElem?_cons_zero, List.length_cons, List.length_nil, List.map_cons, List.map_nil, List.nil_append, List.replicate_succ, List.replicate_zero, List.reverse_cons, List.reverse_nil, List.set_cons_succ, List.set_cons_zero, sz1_s, Int.reduceEq, iw, it, hf, hn, w1', hW, hi, hg, hk, ef, eq, el, cA, r4, rng4, rng_1, Int.reduceLE, Int.reduceNeg, Bool.not_true, Bool.not_false]
          · have hT := Bool.eq_false_iff.mpr hT
            rw [tkB_n hT]
            rcases tup_cases 4 hT with z | ⟨ys, rfl, ne⟩
            · simp only [dnx, dqx, e_lend, disowns, sz1_s, decide_true, decide_false, eq_self, kVl, kT, kLs, kW, kBl, kNt, kNg, kOp2, kCp2, kSb2, kIs, kBi, kMd2, kRv, kSl3, kMk, kGv, kLc, kPr, kPo, kRt, kNxt, kExS, kStO, kAp, kSb3, gC, kSc3, kEx1, kOp, kCp, kCh1, kCh, kSb, kMd, kSl2, kSl, kCl_s, kTe2, kTn, turnC, kCm, kCns, kCnp, kCno, kSeqS, kStT, kPrS, kTb, turnS, kFo, kS2, kC2, kEn, kZp2, kZp, kZs2, kZs, dT, dT.dTs, setR, disown, wipeR, scalar, kFc2, kFc, kFs, seqD, kCk, kCk2, kIn2, kIn3, Nat.reduceAdd, Nat.reduceSub, Nat.reduceLT, Nat.reduceLeDiff, ite_true, ite_false, if_true, if_false, reduceCtorEq, List.append_nil, List.cons_append, List.getElem?_cons_succ, List.getElem?_cons_zero, List.length_cons, List.length_nil, List.map_cons, List.map_nil, List.nil_append, List.replicate_succ, List.replicate_zero, List.reverse_cons, List.reverse_nil, List.set_cons_succ, List.set_cons_zero, f_32_s0, sz1_s, Int.reduceEq, iw, it, hf, hn, w1', hW, hi, z, Bool.not_true, Bool.not_false]
            · have ne2 : ¬ ((ys.length : Int) = 4) := ne
              have hy : biD .len [.tup ys] = some (.int ys.length, false) := rfl
              simp only [dnx, dqx, e_lend, disowns, sz1_s, decide_true, decide_false, eq_self, kVl, kT, kLs, kW, kBl, kNt, kNg, kOp2, kCp2, kSb2, kIs, kBi, kMd2, kRv, kSl3, kMk, kGv, kLc, kPr, kPo, kRt, kNxt, kExS, kStO, kAp, kSb3, gC, kSc3, kEx1, kOp, kCp, kCh1, kCh, kSb, kMd, kSl2, kSl, kCl_s, kTe2, kTn, turnC, kCm, kCns, kCnp, kCno, kSeqS, kStT, kPrS, kTb, turnS, kFo, kS2, kC2, kEn, kZp2, kZp, kZs2, kZs, dT, dT.dTs, setR, disown, wipeR, scalar, kFc2, kFc, kFs, seqD, kCk, kCk2, kIn2, kIn3, Nat.reduceAdd, Nat.reduceSub, Nat.reduceLT, Nat.reduceLeDiff, ite_true, ite_false, if_true, if_false, reduceCtorEq, List.append_nil, List.cons_append, List.getElem?_cons_succ, List.getElem?_cons_zero, List.length_cons, List.length_nil, List.map_cons, List.map_nil, List.nil_append, List.replicate_succ, List.replicate_zero, List.reverse_cons, List.reverse_nil, List.set_cons_succ, List.set_cons_zero, f_32_s0, sz1_s, Int.reduceEq, iw, it, hf, hn, w1', hW, hi, hy, ne2, decide_false, Bool.not_true, Bool.not_false]
    · have z := no_lst (fun xs e => hl ⟨xs, e⟩) h0
      have hb : wdB w = false := by
        unfold wdB
        split
        · exact absurd ⟨_, rfl⟩ hl
        · rfl
      rw [hb]
      simp only [dnx, dqx, e_lend, disowns, sz1_s, decide_true, decide_false, eq_self, kVl, kT, kLs, kW, kBl, kNt, kNg, kOp2, kCp2, kSb2, kIs, kBi, kMd2, kRv, kSl3, kMk, kGv, kLc, kPr, kPo, kRt, kNxt, kExS, kStO, kAp, kSb3, gC, kSc3, kEx1, kOp, kCp, kCh1, kCh, kSb, kMd, kSl2, kSl, kCl_s, kTe2, kTn, turnC, kCm, kCns, kCnp, kCno, kSeqS, kStT, kPrS, kTb, turnS, kFo, kS2, kC2, kEn, kZp2, kZp, kZs2, kZs, dT, dT.dTs, setR, disown, wipeR, scalar, kFc2, kFc, kFs, seqD, kCk, kCk2, kIn2, kIn3, Nat.reduceAdd, Nat.reduceSub, Nat.reduceLT, Nat.reduceLeDiff, ite_true, ite_false, if_true, if_false, reduceCtorEq, List.append_nil, List.cons_append, List.getElem?_cons_succ, List.getElem?_cons_zero, List.length_cons, List.length_nil, List.map_cons, List.map_nil, List.nil_append, List.replicate_succ, List.replicate_zero, List.reverse_cons, List.reverse_nil, List.set_cons_succ, List.set_cons_zero, f_32_s0, sz1_s, Int.reduceEq, z, iw, Bool.false_and]
  · have ht := Bool.eq_false_iff.mpr ht
    rw [mdB_n ht, dCall_eq at_32 rfl]
    simp only [f_32]
    rcases tup_cases 2 ht with z | ⟨xs, rfl, ne⟩
    · simp only [dnx, dqx, e_lend, disowns, sz1_s, decide_true, decide_false, eq_self, kVl, kT, kLs, kW, kBl, kNt, kNg, kOp2, kCp2, kSb2, kIs, kBi, kMd2, kRv, kSl3, kMk, kGv, kLc, kPr, kPo, kRt, kNxt, kExS, kStO, kAp, kSb3, gC, kSc3, kEx1, kOp, kCp, kCh1, kCh, kSb, kMd, kSl2, kSl, kCl_s, kTe2, kTn, turnC, kCm, kCns, kCnp, kCno, kSeqS, kStT, kPrS, kTb, turnS, kFo, kS2, kC2, kEn, kZp2, kZp, kZs2, kZs, dT, dT.dTs, setR, disown, wipeR, scalar, kFc2, kFc, kFs, seqD, kCk, kCk2, kIn2, kIn3, Nat.reduceAdd, Nat.reduceSub, Nat.reduceLT, Nat.reduceLeDiff, ite_true, ite_false, if_true, if_false, reduceCtorEq, List.append_nil, List.cons_append, List.getElem?_cons_succ, List.getElem?_cons_zero, List.length_cons, List.length_nil, List.map_cons, List.map_nil, List.nil_append, List.replicate_succ, List.replicate_zero, List.reverse_cons, List.reverse_nil, List.set_cons_succ, List.set_cons_zero, z, i2]
    · have ne2 : ¬ ((xs.length : Int) = 2) := ne
      simp only [dnx, dqx, e_lend, disowns, sz1_s, decide_true, decide_false, eq_self, kVl, kT, kLs, kW, kBl, kNt, kNg, kOp2, kCp2, kSb2, kIs, kBi, kMd2, kRv, kSl3, kMk, kGv, kLc, kPr, kPo, kRt, kNxt, kExS, kStO, kAp, kSb3, gC, kSc3, kEx1, kOp, kCp, kCh1, kCh, kSb, kMd, kSl2, kSl, kCl_s, kTe2, kTn, turnC, kCm, kCns, kCnp, kCno, kSeqS, kStT, kPrS, kTb, turnS, kFo, kS2, kC2, kEn, kZp2, kZp, kZs2, kZs, dT, dT.dTs, setR, disown, wipeR, scalar, kFc2, kFc, kFs, seqD, kCk, kCk2, kIn2, kIn3, Nat.reduceAdd, Nat.reduceSub, Nat.reduceLT, Nat.reduceLeDiff, ite_true, ite_false, if_true, if_false, reduceCtorEq, List.append_nil, List.cons_append, List.getElem?_cons_succ, List.getElem?_cons_zero, List.length_cons, List.length_nil, List.map_cons, List.map_nil, List.nil_append, List.replicate_succ, List.replicate_zero, List.reverse_cons, List.reverse_nil, List.set_cons_succ, List.set_cons_zero, len_t, ne2, decide_false]
end ZL
end

section
set_option Elab.async false
set_option linter.all false
set_option maxRecDepth 100000
set_option maxHeartbeats 4000000
set_option exponentiation.threshold 4000
-- 191e7ddb6ed1ddb9888b94d716b840dd
namespace ZL
open PySem PySem.Spec Z
/-! what a mending leaves, what it costs -/
def wD (x y z : Bool) : D := .lst ((if x then [.str "clear"] else []) ++ ((if y then [.str "forget"] else []) ++ (if z then [.str "turn"] else [])))
def tD (a b u e : Int) : D := .tup [.int a, .int b, .int u, .int e]
def mendM (c : Co) (x y z : Bool) (a b u e : Int) : Co := ⟨c.sb, if y then 0 else c.sh, if z then 1 - c.rb else c.rb, if x || z then none else c.lot, c.dun, c.t0, c.t1 - a, c.t2 - b, c.b0 - u, c.b1 - e⟩
theorem w_in (x y z : Bool) : cpD .in_ (.str "clear") (wD x y z) = some x ∧ cpD .in_ (.str "forget") (wD x y z) = some y ∧ cpD .in_ (.str "turn") (wD x y z) = some z := by
  cases x <;> cases y <;> cases z <;> exact ⟨by kernel_rfl, by kernel_rfl, by kernel_rfl⟩
theorem mended45 (k : Nat) (c : Co) (x y z : Bool) (a b u e : Int) (μ : Mu) : dCall T fs (k + 1) 16 [co c, .tup [wD x y z, tD a b u e]] μ = some (co (mendM c x y z a b u e), false, μ) := by
  obtain ⟨h1, h2, h3⟩ := w_in x y z
  obtain ⟨sb, sh, rb, l, d, t0, t1, t2, b0, b1⟩ := c
  rw [dCall_eq at_16 rfl]
  simp only [f_16, co, mendM, tD]
  generalize wD x y z = W at *
  cases x <;> cases y <;> cases z <;> simp only [dnx, dqx, e_lend, disowns, sz1_s, decide_true, decide_false, eq_self, kVl, kT, kLs, kW, kBl, kNt, kNg, kOp2, kCp2, kSb2, kIs, kBi, kMd2, kRv, kSl3, kMk, kGv, kLc, kPr, kPo, kRt, kNxt, kExS, kStO, kAp, kSb3, gC, kSc3, kEx1, kOp, kCp, kCh1, kCh, kSb, kMd, kSl2, kSl, kCl_s, kTe2, kTn, turnC, kCm, kCns, kCnp, kCno, kSeqS, kStT, kPrS, kTb, turnS, kFo, kS2, kC2, kEn, kZp2, kZp, kZs2, kZs, dT, dT.dTs, setR, disown, wipeR, scalar, kFc2, kFc, kFs, seqD, kCk, kCk2, kIn2, kIn3, Nat.reduceAdd, Nat.reduceSub, Nat.reduceLT, Nat.reduceLeDiff, ite_true, ite_false, if_true, if_false, reduceCtorEq, List.append_nil, List.cons_append, List.getElem?_cons_succ, List.getElem?_cons_zero, List.length_cons, List.length_nil, List.map_cons, List.map_nil, List.nil_append, List.replicate_succ, List.replicate_zero, List.reverse_cons, List.reverse_nil, List.set_cons_succ, List.set_cons_zero, h1, h2, h3, sz1_s, lotD, Bool.or_self, Bool.or_true, Bool.or_false, Bool.true_or, Bool.false_or]
theorem lmended (k : Nat) (c : Co) (x y z : Bool) (a b u e : Int) (μ : Mu) : dCall T fs (k + 1) 30 [co c, wD x y z, tD a b u e] μ = some (co (mendM c x y z a b u e), false, μ) := by
  obtain ⟨h1, h2, h3⟩ := w_in x y z
  obtain ⟨sb, sh, rb, l, d, t0, t1, t2, b0, b1⟩ := c
  rw [dCall_eq at_30 rfl]
  simp only [f_30, co, mendM, tD]
  generalize wD x y z = W at *
  cases x <;> cases y <;> cases z <;> simp only [dnx, dqx, e_lend, disowns, sz1_s, decide_true, decide_false, eq_self, kVl, kT, kLs, kW, kBl, kNt, kNg, kOp2, kCp2, kSb2, kIs, kBi, kMd2, kRv, kSl3, kMk, kGv, kLc, kPr, kPo, kRt, kNxt, kExS, kStO, kAp, kSb3, gC, kSc3, kEx1, kOp, kCp, kCh1, kCh, kSb, kMd, kSl2, kSl, kCl_s, kTe2, kTn, turnC, kCm, kCns, kCnp, kCno, kSeqS, kStT, kPrS, kTb, turnS, kFo, kS2, kC2, kEn, kZp2, kZp, kZs2, kZs, dT, dT.dTs, setR, disown, wipeR, scalar, kFc2, kFc, kFs, seqD, kCk, kCk2, kIn2, kIn3, Nat.reduceAdd, Nat.reduceSub, Nat.reduceLT, Nat.reduceLeDiff, ite_true, ite_false, if_true, if_false, reduceCtorEq, List.append_nil, List.cons_append, List.getElem?_cons_succ, List.getElem?_cons_zero, List.length_cons, List.length_nil, List.map_cons, List.map_nil, List.nil_append, List.replicate_succ, List.replicate_zero, List.reverse_cons, List.reverse_nil, List.set_cons_succ, List.set_cons_zero, h1, h2, h3, sz1_s, lotD, Bool.or_self, Bool.or_true, Bool.or_false, Bool.true_or, Bool.false_or]
def cstI (x y z : Bool) (a b u e : Int) : Int := (if x then 1 else 0) + (if y then 1 else 0) + (if z then 1 else 0) + (a + (b + (u + (e + 0))))
theorem w_len (x y z : Bool) : biD .len [wD x y z] = some (.int ((if x then 1 else 0) + (if y then 1 else 0) + (if z then 1 else 0)), false) := by
  cases x <;> cases y <;> cases z <;> kernel_rfl
theorem t_sum (a b u e : Int) : biD .sum [tD a b u e] = some (.int (a + (b + (u + (e + 0)))), false) := rfl
theorem cost45 (k : Nat) (x y z : Bool) (a b u e : Int) (μ : Mu) : dCall T fs (k + 1) 17 [.tup [wD x y z, tD a b u e]] μ = some (.int (cstI x y z a b u e), false, μ) := by
  have h1 := w_len x y z
  have h2 := t_sum a b u e
  rw [dCall_eq at_17 rfl]
  simp only [f_17, cstI]
  generalize wD x y z = W at *
  generalize tD a b u e = V at *
  simp only [dnx, dqx, e_lend, disowns, sz1_s, decide_true, decide_false, eq_self, kVl, kT, kLs, kW, kBl, kNt, kNg, kOp2, kCp2, kSb2, kIs, kBi, kMd2, kRv, kSl3, kMk, kGv, kLc, kPr, kPo, kRt, kNxt, kExS, kStO, kAp, kSb3, gC, kSc3, kEx1, kOp, kCp, kCh1, kCh, kSb, kMd, kSl2, kSl, kCl_s, kTe2, kTn, turnC, kCm, kCns, kCnp, kCno, kSeqS, kStT, kPrS, kTb, turnS, kFo, kS2, kC2, kEn, kZp2, kZp, kZs2, kZs, dT, dT.dTs, setR, disown, wipeR, scalar, kFc2, kFc, kFs, seqD, kCk, kCk2, kIn2, kIn3, Nat.reduceAdd, Nat.reduceSub, Nat.reduceLT, Nat.reduceLeDiff, ite_true, ite_false, if_true, if_false, reduceCtorEq, List.append_nil, List.cons_append, List.getElem?_cons_succ, List.getElem?_cons_zero, List.length_cons, List.length_nil, List.map_cons, List.map_nil, List.nil_append, List.replicate_succ, List.replicate_zero, List.reverse_cons, List.reverse_nil, List.set_cons_succ, List.set_cons_zero, h1, h2]
theorem w_ok (x y z : Bool) : okW (wD x y z) := by
  intro xs h
  cases x <;> cases y <;> cases z <;> (cases h; exact ⟨by decide, by kernel_rfl, by decide⟩)
theorem w_b (x y z : Bool) : wdB (wD x y z) = true := by
  cases x <;> cases y <;> cases z <;> kernel_rfl
theorem w_plx (x y z : Bool) : plx (wD x y z) = true := by
  cases x <;> cases y <;> cases z <;> rfl
theorem md_yes {c : Co} {x y z : Bool} {a b u e : Int} (h : (0 ≤ a ∧ a ≤ c.t1) ∧ (0 ≤ b ∧ b ≤ c.t2) ∧ (0 ≤ u ∧ u ≤ c.b0) ∧ (0 ≤ e ∧ e ≤ c.b1)) : mdB c (.tup [wD x y z, tD a b u e]) = true := by
  obtain ⟨⟨h1, h2⟩, ⟨h3, h4⟩, ⟨h5, h6⟩, ⟨h7, h8⟩⟩ := h
  show (wdB (wD x y z) && ((decide (0 ≤ a) && decide (a ≤ c.t1)) && (decide (0 ≤ b) && decide (b ≤ c.t2)) && (decide (0 ≤ u) && decide (u ≤ c.b0)) && (decide (0 ≤ e) && decide (e ≤ c.b1)))) = true
  rw [w_b, decide_eq_true h1, decide_eq_true h2, decide_eq_true h3, decide_eq_true h4, decide_eq_true h5, decide_eq_true h6, decide_eq_true h7, decide_eq_true h8]
  rfl
theorem m_plx (x y z : Bool) (a b u e : Int) : plx (.tup [wD x y z, tD a b u e]) = true := by
  show (plx (wD x y z) && (plx (tD a b u e) && true)) = true
  rw [w_plx]
  rfl
theorem m_ok (x y z : Bool) (a b u e : Int) : okM (.tup [wD x y z, tD a b u e]) := by
  intro w t h
  cases h
  exact w_ok x y z
variable {p q r s : Int} {c : Co}
theorem mended_p (L : LOk p q r s) (C : COk p q r s c) (k : Nat) (x y z : Bool) {a b u e : Int} (h : (0 ≤ a ∧ a ≤ c.t1) ∧ (0 ≤ b ∧ b ≤ c.t2) ∧ (0 ≤ u ∧ u ≤ c.b0) ∧ (0 ≤ e ∧ e ≤ c.b1)) (μ : Mu) :
    dCall T fs (k + 8) 20 [lk p q r s, co c, .tup [wD x y z, tD a b u e]] μ = some (co (mendM c x y z a b u e), false, μ) := by
  have e1 := chkmend L C k _ (m_plx x y z a b u e) (m_ok x y z a b u e) (md_yes h) μ
  have e2 := mended45 (k + 6) c x y z a b u e μ
  rw [dCall_eq at_20 rfl]
  simp only [f_20]
  generalize D.tup [wD x y z, tD a b u e] = M at *
  simp only [dnx, dqx, e_lend, disowns, sz1_s, decide_true, decide_false, eq_self, kVl, kT, kLs, kW, kBl, kNt, kNg, kOp2, kCp2, kSb2, kIs, kBi, kMd2, kRv, kSl3, kMk, kGv, kLc, kPr, kPo, kRt, kNxt, kExS, kStO, kAp, kSb3, gC, kSc3, kEx1, kOp, kCp, kCh1, kCh, kSb, kMd, kSl2, kSl, kCl_s, kTe2, kTn, turnC, kCm, kCns, kCnp, kCno, kSeqS, kStT, kPrS, kTb, turnS, kFo, kS2, kC2, kEn, kZp2, kZp, kZs2, kZs, dT, dT.dTs, setR, disown, wipeR, scalar, kFc2, kFc, kFs, seqD, kCk, kCk2, kIn2, kIn3, Nat.reduceAdd, Nat.reduceSub, Nat.reduceLT, Nat.reduceLeDiff, ite_true, ite_false, if_true, if_false, reduceCtorEq, List.append_nil, List.cons_append, List.getElem?_cons_succ, List.getElem?_cons_zero, List.length_cons, List.length_nil, List.map_cons, List.map_nil, List.nil_append, List.replicate_succ, List.replicate_zero, List.reverse_cons, List.reverse_nil, List.set_cons_succ, List.set_cons_zero, e1, e2]
theorem cost_p (L : LOk p q r s) (C : COk p q r s c) (k : Nat) (x y z : Bool) {a b u e : Int} (h : (0 ≤ a ∧ a ≤ c.t1) ∧ (0 ≤ b ∧ b ≤ c.t2) ∧ (0 ≤ u ∧ u ≤ c.b0) ∧ (0 ≤ e ∧ e ≤ c.b1)) (μ : Mu) :
    dCall T fs (k + 8) 21 [lk p q r s, co c, .tup [wD x y z, tD a b u e]] μ = some (.int (cstI x y z a b u e), false, μ) := by
  have e1 := chkmend L C k _ (m_plx x y z a b u e) (m_ok x y z a b u e) (md_yes h) μ
  have e2 := cost45 (k + 6) x y z a b u e μ
  rw [dCall_eq at_21 rfl]
  simp only [f_21]
  generalize D.tup [wD x y z, tD a b u e] = M at *
  simp only [dnx, dqx, e_lend, disowns, sz1_s, decide_true, decide_false, eq_self, kVl, kT, kLs, kW, kBl, kNt, kNg, kOp2, kCp2, kSb2, kIs, kBi, kMd2, kRv, kSl3, kMk, kGv, kLc, kPr, kPo, kRt, kNxt, kExS, kStO, kAp, kSb3, gC, kSc3, kEx1, kOp, kCp, kCh1, kCh, kSb, kMd, kSl2, kSl, kCl_s, kTe2, kTn, turnC, kCm, kCns, kCnp, kCno, kSeqS, kStT, kPrS, kTb, turnS, kFo, kS2, kC2, kEn, kZp2, kZp, kZs2, kZs, dT, dT.dTs, setR, disown, wipeR, scalar, kFc2, kFc, kFs, seqD, kCk, kCk2, kIn2, kIn3, Nat.reduceAdd, Nat.reduceSub, Nat.reduceLT, Nat.reduceLeDiff, ite_true, ite_false, if_true, if_false, reduceCtorEq, List.append_nil, List.cons_append, List.getElem?_cons_succ, List.getElem?_cons_zero, List.length_cons, List.length_nil, List.map_cons, List.map_nil, List.nil_append, List.replicate_succ, List.replicate_zero, List.reverse_cons, List.reverse_nil, List.set_cons_succ, List.set_cons_zero, e1, e2]
theorem WL_w (v : Int) (h0 : 0 ≤ v) (h1 : v < 8) : ∃ x y z, L2.atI WL v = some (wD x y z) := by
  have h : v = 0 ∨ v = 1 ∨ v = 2 ∨ v = 3 ∨ v = 4 ∨ v = 5 ∨ v = 6 ∨ v = 7 := by omega
  rcases h with rfl | rfl | rfl | rfl | rfl | rfl | rfl | rfl
  · exact ⟨false, false, false, rfl⟩
  · exact ⟨true, false, false, rfl⟩
  · exact ⟨true, true, false, rfl⟩
  · exact ⟨true, true, true, rfl⟩
  · exact ⟨true, false, true, rfl⟩
  · exact ⟨false, true, false, rfl⟩
  · exact ⟨false, true, true, rfl⟩
  · exact ⟨false, false, true, rfl⟩
end ZL
end

section
set_option Elab.async false
set_option linter.all false
set_option maxRecDepth 100000
set_option maxHeartbeats 4000000
set_option exponentiation.threshold 4000
-- 1ec81ec8eca370463a2c997fe64a1d78
namespace ZL
open PySem PySem.Spec Z
/-! links and contents drawn -/
theorem pw28 : opD .pow (.int 10) (.int 28) = some (.int (10 ^ 28), false) := by kernel_rfl
theorem pw27 : opD .pow (.int 10) (.int 27) = some (.int (10 ^ 27), false) := by kernel_rfl
theorem e28 : (10 : Int) ^ 28 + 10 ^ 27 + 10 < 2 ^ 150 := by decide
theorem at5 (a b c d e : D) (v : Int) (h0 : 0 ≤ v) (h1 : v < 5) : L2.atI [a, b, c, d, e] v = some (if v = 0 then a else if v = 1 then b else if v = 2 then c else if v = 3 then d else e) := by
  have h : v = 0 ∨ v = 1 ∨ v = 2 ∨ v = 3 ∨ v = 4 := by omega
  rcases h with rfl | rfl | rfl | rfl | rfl <;> rfl
theorem few39 (k n : Nat) (M m : Int) (μ : Mu) (g : GS μ n m) (hm : m + 50 < 2 ^ 60) (h0 : 0 ≤ M) (h1 : M < 2 ^ 150) :
    ∃ v μ', dCall T fs (k + 3) 28 [.cell n, .int M] μ = some (.int v, false, μ') ∧ 0 ≤ v ∧ v ≤ M ∧ GS μ' n (m + 20) := by
  have big : (2 : Int) ^ 150 + 1 < 2 ^ 200 := by decide
  obtain ⟨a, μ1, e1, a1, b1, g1⟩ := rnd k μ n m (M + 1) g (by omega) (by omega) (by omega)
  obtain ⟨i, μ2, e2, a2, b2, g2⟩ := rnd k μ1 n _ 5 g1 (by omega) (by decide) (by decide)
  have q := at5 (.int 0) (.int 1) (.int (M - 1)) (.int M) (.int a) i a2 b2
  obtain ⟨w, hw⟩ : ∃ w, (if i = 0 then D.int 0 else if i = 1 then D.int 1 else if i = 2 then D.int (M - 1) else if i = 3 then D.int M else D.int a) = D.int w := by
    split
    · exact ⟨_, rfl⟩
    · split
      · exact ⟨_, rfl⟩
      · split
        · exact ⟨_, rfl⟩
        · split <;> exact ⟨_, rfl⟩
  rw [hw] at q
  have q1 : biD .max [.int w, .int 0] = some (.int (if 0 > w then 0 else w), false) := rfl
  have q2 : biD .min [.int (if 0 > w then 0 else w), .int M] = some (.int (if M < (if 0 > w then 0 else w) then M else (if 0 > w then 0 else w)), false) := rfl
  refine ⟨if M < (if 0 > w then 0 else w) then M else (if 0 > w then 0 else w), μ2, ?_, ?_, ?_, g2.mono (by omega)⟩
  · generalize (if 0 > w then 0 else w) = y at *
    generalize (if M < y then M else y) = z at *
    rw [dCall_eq at_28 rfl]
    simp only [f_28]
    simp only [dnx, dqx, e_lend, disowns, sz1_s, decide_true, decide_false, eq_self, kVl, kT, kLs, kW, kBl, kNt, kNg, kOp2, kCp2, kSb2, kIs, kBi, kMd2, kRv, kSl3, kMk, kGv, kLc, kPr, kPo, kRt, kNxt, kExS, kStO, kAp, kSb3, gC, kSc3, kEx1, kOp, kCp, kCh1, kCh, kSb, kMd, kSl2, kSl, kCl_s, kTe2, kTn, turnC, kCm, kCns, kCnp, kCno, kSeqS, kStT, kPrS, kTb, turnS, kFo, kS2, kC2, kEn, kZp2, kZp, kZs2, kZs, dT, dT.dTs, setR, disown, wipeR, scalar, kFc2, kFc, kFs, seqD, kCk, kCk2, kIn2, kIn3, Nat.reduceAdd, Nat.reduceSub, Nat.reduceLT, Nat.reduceLeDiff, ite_true, ite_false, if_true, if_false, reduceCtorEq, List.append_nil, List.cons_append, List.getElem?_cons_succ, List.getElem?_cons_zero, List.length_cons, List.length_nil, List.map_cons, List.map_nil, List.nil_append, List.replicate_succ, List.replicate_zero, List.reverse_cons, List.reverse_nil, List.set_cons_succ, List.set_cons_zero, e1, e2, q, q1, q2, sz1_s]
  · repeat' split
    all_goals omega
  · repeat' split
    all_goals omega
theorem link39 (k n : Nat) (m : Int) (μ : Mu) (g : GS μ n m) (hm : m + 100 < 2 ^ 60) :
    ∃ p q r s μ', dCall T fs (k + 3) 26 [.cell n, .int 3] μ = some (lk p q r s, false, μ') ∧ LOk p q r s ∧ GS μ' n (m + 60) := by
  obtain ⟨a, μ1, e1, a1, b1, g1⟩ := rnd k μ n m 3 g (by omega) (by decide) (by decide)
  obtain ⟨b, μ2, e2, a2, b2, g2⟩ := rnd k μ1 n _ 3 g1 (by omega) (by decide) (by decide)
  obtain ⟨c, μ3, e3, a3, b3, g3⟩ := rnd k μ2 n _ 2 g2 (by omega) (by decide) (by decide)
  obtain ⟨d, μ4, e4, a4, b4, g4⟩ := rnd k μ3 n _ 2 g3 (by omega) (by decide) (by decide)
  have big : (20 : Int) < 2 ^ 150 := by decide
  refine ⟨1 + a, 1 + b, 1 + a + c, 1 + b + d, μ4, ?_, ⟨by omega, by omega, by omega, by omega, by omega, by omega, by omega, by omega⟩, g4.mono (by omega)⟩
  rw [dCall_eq at_26 rfl]
  simp only [f_26]
  simp only [dnx, dqx, e_lend, disowns, sz1_s, decide_true, decide_false, eq_self, kVl, kT, kLs, kW, kBl, kNt, kNg, kOp2, kCp2, kSb2, kIs, kBi, kMd2, kRv, kSl3, kMk, kGv, kLc, kPr, kPo, kRt, kNxt, kExS, kStO, kAp, kSb3, gC, kSc3, kEx1, kOp, kCp, kCh1, kCh, kSb, kMd, kSl2, kSl, kCl_s, kTe2, kTn, turnC, kCm, kCns, kCnp, kCno, kSeqS, kStT, kPrS, kTb, turnS, kFo, kS2, kC2, kEn, kZp2, kZp, kZs2, kZs, dT, dT.dTs, setR, disown, wipeR, scalar, kFc2, kFc, kFs, seqD, kCk, kCk2, kIn2, kIn3, Nat.reduceAdd, Nat.reduceSub, Nat.reduceLT, Nat.reduceLeDiff, ite_true, ite_false, if_true, if_false, reduceCtorEq, List.append_nil, List.cons_append, List.getElem?_cons_succ, List.getElem?_cons_zero, List.length_cons, List.length_nil, List.map_cons, List.map_nil, List.nil_append, List.replicate_succ, List.replicate_zero, List.reverse_cons, List.reverse_nil, List.set_cons_succ, List.set_cons_zero, sz1_s, e1, e2, e3, e4, lk]
theorem more3 (v : Int) (h0 : 0 ≤ v) (h1 : v < 3) : ∃ w, L2.atI [D.int 0, D.int 1, D.int (10 ^ 27)] v = some (.int w) ∧ 0 ≤ w ∧ w ≤ 10 ^ 27 := by
  have h : v = 0 ∨ v = 1 ∨ v = 2 := by omega
  rcases h with rfl | rfl | rfl
  · exact ⟨0, rfl, by decide, by decide⟩
  · exact ⟨1, rfl, by decide, by decide⟩
  · exact ⟨10 ^ 27, rfl, by decide, by decide⟩
theorem great39 (k n : Nat) (m : Int) (μ : Mu) (g : GS μ n m) (hm : m + 100 < 2 ^ 60) :
    ∃ p q r s μ', dCall T fs (k + 3) 27 [.cell n] μ = some (lk p q r s, false, μ') ∧ LOk p q r s ∧ GS μ' n (m + 60) := by
  obtain ⟨a, μ1, e1, a1, b1, g1⟩ := rnd k μ n m (10 ^ 28) g (by omega) (by decide) (by decide)
  obtain ⟨b, μ2, e2, a2, b2, g2⟩ := rnd k μ1 n _ (10 ^ 28) g1 (by omega) (by decide) (by decide)
  obtain ⟨i, μ3, e3, a3, b3, g3⟩ := rnd k μ2 n _ 3 g2 (by omega) (by decide) (by decide)
  obtain ⟨j, μ4, e4, a4, b4, g4⟩ := rnd k μ3 n _ 3 g3 (by omega) (by decide) (by decide)
  obtain ⟨c, q1, c1, c2⟩ := more3 i a3 b3
  obtain ⟨d, q2, d1, d2⟩ := more3 j a4 b4
  have big := e28
  have p28 := pw28
  have p27 := pw27
  generalize (10 : Int) ^ 27 = B at *
  refine ⟨1 + a, 1 + b, 1 + a + c, 1 + b + d, μ4, ?_, ⟨by omega, by omega, by omega, by omega, by omega, by omega, by omega, by omega⟩, g4.mono (by omega)⟩
  rw [dCall_eq at_27 rfl]
  simp only [f_27]
  simp only [dnx, dqx, e_lend, disowns, sz1_s, decide_true, decide_false, eq_self, kVl, kT, kLs, kW, kBl, kNt, kNg, kOp2, kCp2, kSb2, kIs, kBi, kMd2, kRv, kSl3, kMk, kGv, kLc, kPr, kPo, kRt, kNxt, kExS, kStO, kAp, kSb3, gC, kSc3, kEx1, kOp, kCp, kCh1, kCh, kSb, kMd, kSl2, kSl, kCl_s, kTe2, kTn, turnC, kCm, kCns, kCnp, kCno, kSeqS, kStT, kPrS, kTb, turnS, kFo, kS2, kC2, kEn, kZp2, kZp, kZs2, kZs, dT, dT.dTs, setR, disown, wipeR, scalar, kFc2, kFc, kFs, seqD, kCk, kCk2, kIn2, kIn3, Nat.reduceAdd, Nat.reduceSub, Nat.reduceLT, Nat.reduceLeDiff, ite_true, ite_false, if_true, if_false, reduceCtorEq, List.append_nil, List.cons_append, List.getElem?_cons_succ, List.getElem?_cons_zero, List.length_cons, List.length_nil, List.map_cons, List.map_nil, List.nil_append, List.replicate_succ, List.replicate_zero, List.reverse_cons, List.reverse_nil, List.set_cons_succ, List.set_cons_zero, sz1_s, p28, p27, e1, e2, e3, e4, q1, q2, lk]
theorem c39_lot (k n : Nat) (r a b m : Int) (μ : Mu) (g : GS μ n m) (hm : m + 100 < 2 ^ 60) (h0 : 1 ≤ r) (h1 : r < 2 ^ 150) (x0 x1 x8 x9 x11 x14 : Option (D × Bool)) (hx : x0 = some (.cell n, false)) :
    ∃ l x16 μ', dS T (dCall T fs (k + 3)) f_29_s0 [x0, x1, none, none, none, none, none, none, x8, x9, some (.int r, false), x11, some (.int a, false), some (.int b, false), x14, some (.non, false), none] μ
      = some (.nx [x0, x1, none, none, none, none, none, none, x8, x9, some (.int r, false), x11, some (.int a, false), some (.int b, false), x14, some (lotD l, false), x16] μ')
      ∧ (∀ w i, l = some (w, i) → 1 ≤ i ∧ i ≤ r - 1 ∧ (w = true → a ≠ b)) ∧ GS μ' n (m + 60) := by
  subst hx
  by_cases hr : 1 < r
  · obtain ⟨u, μ1, e1, a1, b1, g1⟩ := rnd (k + 1) μ n m 3 g (by omega) (by decide) (by decide)
    by_cases hu : 0 < u
    · have go : ∀ (w : Bool) (m' : Int) (μ2 : Mu), GS μ2 n m' → m' + 50 < 2 ^ 60 → ∃ i μ3, dCall T fs (k + 3) 28 [.cell n, .int (r - 1)] μ2 = some (.int i, false, μ3) ∧ 0 ≤ i ∧ i ≤ r - 1 ∧ GS μ3 n (m' + 20) := fun w m' μ2 g2 h2 => few39 k n (r - 1) m' μ2 g2 h2 (by omega) (by omega)
      have mx : ∀ i : Int, biD .max [.int 1, .int i] = some (.int (if i > 1 then i else 1), false) := fun i => rfl
      have bd : ∀ i : Int, 0 ≤ i → i ≤ r - 1 → 1 ≤ (if i > 1 then i else 1) ∧ (if i > 1 then i else 1) ≤ r - 1 := fun i h h' => by
        split <;> omega
      by_cases hab : a = b
      · subst hab
        obtain ⟨i, μ3, e3, a3, b3, g3⟩ := go true _ μ1 g1 (by omega)
        obtain ⟨d1, d2⟩ := bd i a3 b3
        have q := mx i
        generalize (if i > 1 then i else 1) = y at *
        refine ⟨some (false, y), some (.str "old", false), μ3, ?_, ?_, g3.mono (by omega)⟩
        · simp only [dnx, dqx, e_lend, disowns, sz1_s, decide_true, decide_false, eq_self, kVl, kT, kLs, kW, kBl, kNt, kNg, kOp2, kCp2, kSb2, kIs, kBi, kMd2, kRv, kSl3, kMk, kGv, kLc, kPr, kPo, kRt, kNxt, kExS, kStO, kAp, kSb3, gC, kSc3, kEx1, kOp, kCp, kCh1, kCh, kSb, kMd, kSl2, kSl, kCl_s, kTe2, kTn, turnC, kCm, kCns, kCnp, kCno, kSeqS, kStT, kPrS, kTb, turnS, kFo, kS2, kC2, kEn, kZp2, kZp, kZs2, kZs, dT, dT.dTs, setR, disown, wipeR, scalar, kFc2, kFc, kFs, seqD, kCk, kCk2, kIn2, kIn3, Nat.reduceAdd, Nat.reduceSub, Nat.reduceLT, Nat.reduceLeDiff, ite_true, ite_false, if_true, if_false, reduceCtorEq, List.append_nil, List.cons_append, List.getElem?_cons_succ, List.getElem?_cons_zero, List.length_cons, List.length_nil, List.map_cons, List.map_nil, List.nil_append, List.replicate_succ, List.replicate_zero, List.reverse_cons, List.reverse_nil, List.set_cons_succ, List.set_cons_zero, f_29_s0, hr, hu, e1, e3, q, sz1_s, decide_true, lotD]
        · intro w i e
          obtain ⟨rfl, rfl⟩ : w = false ∧ i = y := by
            have := Option.some.inj e
            exact ⟨(congrArg Prod.fst this).symm, (congrArg Prod.snd this).symm⟩
          exact ⟨by omega, by omega, fun z => nomatch z⟩
      · obtain ⟨v, μ2, e2, a2, b2, g2⟩ := rnd (k + 1) μ1 n _ 3 g1 (by omega) (by decide) (by decide)
        obtain ⟨i, μ3, e3, a3, b3, g3⟩ := go true _ μ2 g2 (by omega)
        obtain ⟨d1, d2⟩ := bd i a3 b3
        have q := mx i
        generalize (if i > 1 then i else 1) = y at *
        by_cases hv : 0 < v
        · refine ⟨some (false, y), some (.str "old", false), μ3, ?_, ?_, g3.mono (by omega)⟩
          · simp only [dnx, dqx, e_lend, disowns, sz1_s, decide_true, decide_false, eq_self, kVl, kT, kLs, kW, kBl, kNt, kNg, kOp2, kCp2, kSb2, kIs, kBi, kMd2, kRv, kSl3, kMk, kGv, kLc, kPr, kPo, kRt, kNxt, kExS, kStO, kAp, kSb3, gC, kSc3, kEx1, kOp, kCp, kCh1, kCh, kSb, kMd, kSl2, kSl, kCl_s, kTe2, kTn, turnC, kCm, kCns, kCnp, kCno, kSeqS, kStT, kPrS, kTb, turnS, kFo, kS2, kC2, kEn, kZp2, kZp, kZs2, kZs, dT, dT.dTs, setR, disown, wipeR, scalar, kFc2, kFc, kFs, seqD, kCk, kCk2, kIn2, kIn3, Nat.reduceAdd, Nat.reduceSub, Nat.reduceLT, Nat.reduceLeDiff, ite_true, ite_false, if_true, if_false, reduceCtorEq, List.append_nil, List.cons_append, List.getElem?_cons_succ, List.getElem?_cons_zero, List.length_cons, List.length_nil, List.map_cons, List.map_nil, List.nil_append, List.replicate_succ, List.replicate_zero, List.reverse_cons, List.reverse_nil, List.set_cons_succ, List.set_cons_zero, f_29_s0, hr, hu, hv, hab, e1, e2, e3, q, sz1_s, decide_true, decide_false, lotD]
          · intro w i e
            obtain ⟨rfl, rfl⟩ : w = false ∧ i = y := by
              have := Option.some.inj e
              exact ⟨(congrArg Prod.fst this).symm, (congrArg Prod.snd this).symm⟩
            exact ⟨by omega, by omega, fun z => nomatch z⟩
        · refine ⟨some (true, y), some (.str "new", false), μ3, ?_, ?_, g3.mono (by omega)⟩
          · simp only [dnx, dqx, e_lend, disowns, sz1_s, decide_true, decide_false, eq_self, kVl, kT, kLs, kW, kBl, kNt, kNg, kOp2, kCp2, kSb2, kIs, kBi, kMd2, kRv, kSl3, kMk, kGv, kLc, kPr, kPo, kRt, kNxt, kExS, kStO, kAp, kSb3, gC, kSc3, kEx1, kOp, kCp, kCh1, kCh, kSb, kMd, kSl2, kSl, kCl_s, kTe2, kTn, turnC, kCm, kCns, kCnp, kCno, kSeqS, kStT, kPrS, kTb, turnS, kFo, kS2, kC2, kEn, kZp2, kZp, kZs2, kZs, dT, dT.dTs, setR, disown, wipeR, scalar, kFc2, kFc, kFs, seqD, kCk, kCk2, kIn2, kIn3, Nat.reduceAdd, Nat.reduceSub, Nat.reduceLT, Nat.reduceLeDiff, ite_true, ite_false, if_true, if_false, reduceCtorEq, List.append_nil, List.cons_append, List.getElem?_cons_succ, List.getElem?_cons_zero, List.length_cons, List.length_nil, List.map_cons, List.map_nil, List.nil_append, List.replicate_succ, List.replicate_zero, List.reverse_cons, List.reverse_nil, List.set_cons_succ, List.set_cons_zero, f_29_s0, hr, hu, hv, hab, e1, e2, e3, q, sz1_s, decide_true, decide_false, lotD]
          · intro w i e
            obtain ⟨rfl, rfl⟩ : w = true ∧ i = y := by
              have := Option.some.inj e
              exact ⟨(congrArg Prod.fst this).symm, (congrArg Prod.snd this).symm⟩
            exact ⟨by omega, by omega, fun _ => hab⟩
    · refine ⟨none, none, μ1, ?_, (fun w i e => nomatch e), g1.mono (by omega)⟩
      simp only [dnx, dqx, e_lend, disowns, sz1_s, decide_true, decide_false, eq_self, kVl, kT, kLs, kW, kBl, kNt, kNg, kOp2, kCp2, kSb2, kIs, kBi, kMd2, kRv, kSl3, kMk, kGv, kLc, kPr, kPo, kRt, kNxt, kExS, kStO, kAp, kSb3, gC, kSc3, kEx1, kOp, kCp, kCh1, kCh, kSb, kMd, kSl2, kSl, kCl_s, kTe2, kTn, turnC, kCm, kCns, kCnp, kCno, kSeqS, kStT, kPrS, kTb, turnS, kFo, kS2, kC2, kEn, kZp2, kZp, kZs2, kZs, dT, dT.dTs, setR, disown, wipeR, scalar, kFc2, kFc, kFs, seqD, kCk, kCk2, kIn2, kIn3, Nat.reduceAdd, Nat.reduceSub, Nat.reduceLT, Nat.reduceLeDiff, ite_true, ite_false, if_true, if_false, reduceCtorEq, List.append_nil, List.cons_append, List.getElem?_cons_succ, List.getElem?_cons_zero, List.length_cons, List.length_nil, List.map_cons, List.map_nil, List.nil_append, List.replicate_succ, List.replicate_zero, List.reverse_cons, List.reverse_nil, List.set_cons_succ, List.set_cons_zero, f_29_s0, hr, hu, e1, decide_true, decide_false, lotD]
  · refine ⟨none, none, μ, ?_, (fun w i e => nomatch e), g.mono (by omega)⟩
    simp only [dnx, dqx, e_lend, disowns, sz1_s, decide_true, decide_false, eq_self, kVl, kT, kLs, kW, kBl, kNt, kNg, kOp2, kCp2, kSb2, kIs, kBi, kMd2, kRv, kSl3, kMk, kGv, kLc, kPr, kPo, kRt, kNxt, kExS, kStO, kAp, kSb3, gC, kSc3, kEx1, kOp, kCp, kCh1, kCh, kSb, kMd, kSl2, kSl, kCl_s, kTe2, kTn, turnC, kCm, kCns, kCnp, kCno, kSeqS, kStT, kPrS, kTb, turnS, kFo, kS2, kC2, kEn, kZp2, kZp, kZs2, kZs, dT, dT.dTs, setR, disown, wipeR, scalar, kFc2, kFc, kFs, seqD, kCk, kCk2, kIn2, kIn3, Nat.reduceAdd, Nat.reduceSub, Nat.reduceLT, Nat.reduceLeDiff, ite_true, ite_false, if_true, if_false, reduceCtorEq, List.append_nil, List.cons_append, List.getElem?_cons_succ, List.getElem?_cons_zero, List.length_cons, List.length_nil, List.map_cons, List.map_nil, List.nil_append, List.replicate_succ, List.replicate_zero, List.reverse_cons, List.reverse_nil, List.set_cons_succ, List.set_cons_zero, f_29_s0, hr, decide_false, lotD]
theorem at3' (a b c : D) (v : Int) (h0 : 0 ≤ v) (h1 : v < 3) : L2.atI [a, b, c] v = some a ∨ L2.atI [a, b, c] v = some b ∨ L2.atI [a, b, c] v = some c := by
  have h : v = 0 ∨ v = 1 ∨ v = 2 := by omega
  rcases h with rfl | rfl | rfl
  · exact .inl rfl
  · exact .inr (.inl rfl)
  · exact .inr (.inr rfl)
theorem at2' (a b : D) (v : Int) (h0 : 0 ≤ v) (h1 : v < 2) : L2.atI [a, b] v = some a ∨ L2.atI [a, b] v = some b := by
  have h : v = 0 ∨ v = 1 := by omega
  rcases h with rfl | rfl
  · exact .inl rfl
  · exact .inr rfl
theorem cont39 {p q r s : Int} (L : LOk p q r s) (k n : Nat) (m : Int) (μ : Mu) (g : GS μ n m) (hm : m + 500 < 2 ^ 60) :
    ∃ c μ', dCall T fs (k + 4) 29 [.cell n, lk p q r s] μ = some (co c, false, μ') ∧ COk p q r s c ∧ GS μ' n (m + 300) := by
  have := L.p0
  have := L.p1
  have := L.q0
  have := L.q1
  have := L.r0
  have := L.r1
  have := L.s0
  have := L.s1
  obtain ⟨a, μ1, e1, a1, b1, g1⟩ := rnd (k + 1) μ n m 2 g (by omega) (by decide) (by decide)
  obtain ⟨b, μ2, e2, a2, b2, g2⟩ := rnd (k + 1) μ1 n _ 2 g1 (by omega) (by decide) (by decide)
  obtain ⟨u, μ3, e3, a3, b3, g3⟩ := few39 k n (s - 1) _ μ2 g2 (by omega) (by omega) (by omega)
  obtain ⟨l, x16, μ4, e4, hl, g4⟩ := c39_lot k n r a b _ μ3 g3 (by omega) (by omega) (by omega) (some (.cell n, false)) (some (lk p q r s, false)) (some (.int p, false)) (some (.int q, false)) (some (.int s, false)) (some (.int u, false)) rfl
  obtain ⟨v1, μ5, e5, a5, b5, g5⟩ := few39 k n p _ μ4 g4 (by omega) (by omega) (by omega)
  obtain ⟨v2, μ6, e6, a6, b6, g6⟩ := few39 k n (p - v1) _ μ5 g5 (by omega) (by omega) (by omega)
  obtain ⟨v3, μ7, e7, a7, b7, g7⟩ := few39 k n (p - v1 - v2) _ μ6 g6 (by omega) (by omega) (by omega)
  obtain ⟨i, μ8, e8, a8, b8, g8⟩ := rnd (k + 1) μ7 n _ 3 g7 (by omega) (by decide) (by decide)
  obtain ⟨w1, μ9, e9, a9, b9, g9⟩ := few39 k n q _ μ8 g8 (by omega) (by omega) (by omega)
  obtain ⟨w2, μ10, e10, a10, b10, g10⟩ := few39 k n (q - w1) _ μ9 g9 (by omega) (by omega) (by omega)
  obtain ⟨d, μ11, e11, a11, b11, g11⟩ := rnd (k + 1) μ10 n _ 2 g10 (by omega) (by decide) (by decide)
  obtain ⟨j, μ12, e12, a12, b12, g12⟩ := rnd (k + 1) μ11 n _ 2 g11 (by omega) (by decide) (by decide)
  have h3 : ∃ t0 t1 t2, L2.atI [D.tup [.int v3, .int v1, .int v2], .tup [.int v3, .int v2, .int v1], .tup [.int v1, .int v2, .int v3]] i = some (.tup [.int t0, .int t1, .int t2]) ∧ 0 ≤ t0 ∧ 0 ≤ t1 ∧ 0 ≤ t2 ∧ t0 + t1 + t2 ≤ p := by
    rcases at3' (D.tup [.int v3, .int v1, .int v2]) (.tup [.int v3, .int v2, .int v1]) (.tup [.int v1, .int v2, .int v3]) i a8 b8 with h | h | h
    · exact ⟨_, _, _, h, by omega, by omega, by omega, by omega⟩
    · exact ⟨_, _, _, h, by omega, by omega, by omega, by omega⟩
    · exact ⟨_, _, _, h, by omega, by omega, by omega, by omega⟩
  have h2 : ∃ b0 b1, L2.atI [D.tup [.int w1, .int w2], .tup [.int w2, .int w1]] j = some (.tup [.int b0, .int b1]) ∧ 0 ≤ b0 ∧ 0 ≤ b1 ∧ b0 + b1 ≤ q := by
    rcases at2' (D.tup [.int w1, .int w2]) (.tup [.int w2, .int w1]) j a12 b12 with h | h
    · exact ⟨_, _, h, by omega, by omega, by omega⟩
    · exact ⟨_, _, h, by omega, by omega, by omega⟩
  obtain ⟨t0, t1, t2, q3, h30, h31, h32, h33⟩ := h3
  obtain ⟨b0, b1', q2, h20, h21, h22⟩ := h2
  refine ⟨⟨a, u, b, l, decide (d = 0), t0, t1, t2, b0, b1'⟩, μ12, ?_, ⟨by show a = 0 ∨ a = 1; omega, a3, b3, by show b = 0 ∨ b = 1; omega, hl, h30, h31, h32, h33, h20, h21, h22⟩, g12.mono (by omega)⟩
  have qd : cpD .eq (.int d) (.int 0) = some (decide (d = 0)) := eq_ii
  rw [dCall_eq at_29 rfl]
  simp only [f_29, co, lk]
  simp only [lk] at e4
  generalize f_29_s0 = S0 at *
  simp only [dnx, dqx, e_lend, disowns, sz1_s, decide_true, decide_false, eq_self, kVl, kT, kLs, kW, kBl, kNt, kNg, kOp2, kCp2, kSb2, kIs, kBi, kMd2, kRv, kSl3, kMk, kGv, kLc, kPr, kPo, kRt, kNxt, kExS, kStO, kAp, kSb3, gC, kSc3, kEx1, kOp, kCp, kCh1, kCh, kSb, kMd, kSl2, kSl, kCl_s, kTe2, kTn, turnC, kCm, kCns, kCnp, kCno, kSeqS, kStT, kPrS, kTb, turnS, kFo, kS2, kC2, kEn, kZp2, kZp, kZs2, kZs, dT, dT.dTs, setR, disown, wipeR, scalar, kFc2, kFc, kFs, seqD, kCk, kCk2, kIn2, kIn3, Nat.reduceAdd, Nat.reduceSub, Nat.reduceLT, Nat.reduceLeDiff, ite_true, ite_false, if_true, if_false, reduceCtorEq, List.append_nil, List.cons_append, List.getElem?_cons_succ, List.getElem?_cons_zero, List.length_cons, List.length_nil, List.map_cons, List.map_nil, List.nil_append, List.replicate_succ, List.replicate_zero, List.reverse_cons, List.reverse_nil, List.set_cons_succ, List.set_cons_zero, e1, e2, e3, e4, e5, e6, e7, e8, e9, e10, e11, e12, q3, q2, qd, sz1_s]
end ZL
end

section
set_option Elab.async false
set_option linter.all false
set_option maxRecDepth 100000
set_option maxHeartbeats 4000000
set_option exponentiation.threshold 4000
-- 56dbcd7509216d188a4f366ad47bf579
namespace ZL
open PySem PySem.Spec Z
/-! the values judged: small enough for repr and == -/
structure QO (d : D) : Prop where
  sm : smD d
  sz : Z.sz d ≤ 2000
  ok : okS d = true
  dp : nd d ≤ 1
theorem q_all : ∀ (ds : List D), (∀ d ∈ ds, QO d) → smL ds ∧ szL ds ≤ 2002 * ds.length ∧ okSL ds = true ∧ ndL ds ≤ 1
  | [], _ => ⟨trivial, Nat.le_refl _, rfl, Nat.zero_le _⟩
  | d :: ds, h => by
    obtain ⟨h1, h2, h3, h4⟩ := q_all ds fun e he => h e (List.mem_cons_of_mem _ he)
    have q := h d (List.mem_cons_self ..)
    refine ⟨?_, ?_, ?_, ?_⟩
    · show smD d ∧ smL ds
      exact ⟨q.sm, h1⟩
    · show Z.sz d + 2 + szL ds ≤ 2002 * (ds.length + 1)
      have := q.sz
      omega
    · show (okS d && okSL ds) = true
      rw [q.ok, h3]
      rfl
    · show max (nd d) (ndL ds) ≤ 1
      have := q.dp
      omega
theorem po_ok {d : D} (h1 : okS d = true) (h2 : smD d) (h3 : sz d ≤ 20000) (h4 : nd d ≤ 5) : PO d := by
  obtain ⟨k1, k2, k3⟩ := okS_pl d h1
  exact ⟨pl_plx _ k1, h2, h3, by rw [k3]; exact h4⟩
theorem q_tup {ds : List D} (h : ∀ d ∈ ds, QO d) (hl : ds.length ≤ 8) : PO (.tup ds) := by
  obtain ⟨h1, h2, h3, h4⟩ := q_all ds h
  refine po_ok (d := .tup ds) h3 (by simpa only [smD] using h1) ?_ ?_
  · show szL ds + 3 ≤ 20000
    omega
  · show ndL ds + 1 ≤ 5
    omega
theorem q_lst {ds : List D} (h : ∀ d ∈ ds, QO d) (hl : ds.length ≤ 8) : PO (.lst ds) ∧ okW (.lst ds) := by
  obtain ⟨h1, h2, h3, h4⟩ := q_all ds h
  refine ⟨po_ok (d := .lst ds) h3 (by simpa only [smD] using h1) ?_ ?_, ?_⟩
  · show szL ds + 3 ≤ 20000
    omega
  · show ndL ds + 1 ≤ 5
    omega
  · intro xs e
    cases e
    exact ⟨by omega, h3, by omega⟩
theorem q_int {i : Int} (h0 : -(2 ^ 1800) < i) (h1 : i < 2 ^ 1800) : QO (.int i) := ⟨by simpa only [smD] using small h0 h1, by show 1921 ≤ 2000; decide, rfl, Nat.zero_le _⟩
theorem q_lit (d : D) (h : (okS d && decide (sz d ≤ 2000) && decide (nd d ≤ 1)) = true) (h2 : smD d) : QO d := by
  simp only [Bool.and_eq_true, decide_eq_true_eq] at h
  exact ⟨h2, h.1.2, h.1.1, h.2⟩
/-- a value that is judged -/
structure GV (d : D) : Prop where
  vo : VO d
  ok : okM d
theorem gv_two {w t : D} (h1 : PO w) (h2 : PO t) (h3 : okW w) : GV (.tup [w, t]) := ⟨vo_tup (fun d hd => by
    simp only [List.mem_cons, List.not_mem_nil, or_false] at hd
    rcases hd with rfl | rfl
    · exact h1
    · exact h2) (by show 2 ≤ 12; decide), by
  intro w' t' e
  cases e
  exact h3⟩
theorem gv_po {d : D} (h : PO d) (h2 : isTn 2 d = false) : GV d := ⟨h.vo, by
  intro w t e
  subst e
  cases h2⟩
theorem gv_vo {d : D} (h : VO d) (h2 : isTn 2 d = false) : GV d := ⟨h, by
  intro w t e
  subst e
  cases h2⟩
theorem okw_t (xs : List D) : okW (.tup xs) := by
  intro ys e
  cases e
def wl (x y z : Bool) : List D := (if x then [.str "clear"] else []) ++ ((if y then [.str "forget"] else []) ++ (if z then [.str "turn"] else []))
theorem wl_q (x y z : Bool) : ∀ d ∈ wl x y z, QO d := by
  have h1 : QO (.str "clear") := q_lit _ (by kernel_rfl) (by simp only [smD])
  have h2 : QO (.str "forget") := q_lit _ (by kernel_rfl) (by simp only [smD])
  have h3 : QO (.str "turn") := q_lit _ (by kernel_rfl) (by simp only [smD])
  intro d hd
  rcases List.mem_append.mp hd with h | h
  · cases x
    · cases h
    · rw [List.mem_singleton.mp h]
      exact h1
  · rcases List.mem_append.mp h with h | h
    · cases y
      · cases h
      · rw [List.mem_singleton.mp h]
        exact h2
    · cases z
      · cases h
      · rw [List.mem_singleton.mp h]
        exact h3
theorem wl_l (x y z : Bool) : (wl x y z).length ≤ 3 := by cases x <;> cases y <;> cases z <;> decide
def items7 : List D := [.str "turn", .str "Turn", .str "", .non, .int 0, .lst [.str "turn"], .str "send"]
theorem it7 : ∀ d ∈ items7, QO d := by
  intro d hd
  simp only [items7, List.mem_cons, List.not_mem_nil, or_false] at hd
  rcases hd with rfl | rfl | rfl | rfl | rfl | rfl | rfl
  · exact q_lit _ (by kernel_rfl) (by simp only [smD])
  · exact q_lit _ (by kernel_rfl) (by simp only [smD])
  · exact q_lit _ (by kernel_rfl) (by simp only [smD])
  · exact q_lit _ (by kernel_rfl) (by simp only [smD])
  · exact q_int (by decide) (by decide)
  · exact q_lit _ (by kernel_rfl) (by simp only [smD, smL, and_true])
  · exact q_lit _ (by kernel_rfl) (by simp only [smD])
theorem q_app {xs : List D} {d : D} (h : ∀ e ∈ xs, QO e) (hd : QO d) : ∀ e ∈ xs ++ [d], QO e := by
  intro e he
  rcases List.mem_append.mp he with h' | h'
  · exact h e h'
  · rw [List.mem_singleton.mp h']
    exact hd
theorem q_cons {xs : List D} {d : D} (h : ∀ e ∈ xs, QO e) (hd : QO d) : ∀ e ∈ d :: xs, QO e := by
  intro e he
  rcases List.mem_cons.mp he with rfl | h'
  · exact hd
  · exact h e h'
theorem addl {xs ys : List D} (h : decide (xs.length + ys.length ≤ 16777216) = true) : opD .add (.lst xs) (.lst ys) = some (.lst (xs ++ ys), true) := if_pos (of_decide_eq_true h)

def beI (n : Nat) (cc mm tt aa nn : Option (D × Bool)) (ws : List D) (μ0 : Mu) (l0 : Nat) (j : Nat) (ρ : Rho) (μ : Mu) : Prop := μ = μ0 ∧ ∃ vs, (∀ v ∈ vs, GV v) ∧ vs.length ≤ l0 + 2 * j ∧ ∃ x4 : Option (D × Bool), ρ = [some (.cell n, false), cc, mm, some (.lst vs, true), x4, some (.lst ws, false), tt, aa, nn]
theorem bent_1 (k n : Nat) (cc mm aa nn : Option (D × Bool)) (t : D) (ht : PO t) (ws : List D) (hw : ∀ d ∈ ws, QO d) (hl : ws.length ≤ 3) (μ0 : Mu) (l0 : Nat) (h9 : l0 ≤ 100) {ρ : Rho} (h0 : beI n cc mm (some (t, false)) aa nn ws μ0 l0 0 ρ μ0) :
    ∃ ρ' μ', foldS (turnS T (dCall T fs k) (.tName 4) f_33_b0) items7 ρ μ0 = some (.nx ρ' μ') ∧ beI n cc mm (some (t, false)) aa nn ws μ0 l0 items7.length ρ' μ' := by
  have hP := it7
  have hn : items7.length = 7 := rfl
  generalize items7 = P at *
  refine fs_any (beI n cc mm (some (t, false)) aa nn ws μ0 l0) P (fun j d hj ρ μ hi => ?_) h0
  obtain ⟨rfl, vs, hv, hvl, ⟨x4, rfl⟩⟩ := hi
  have hd : QO d := hP d (List.mem_of_getElem? hj)
  have hj7 : j < 7 := by
    have := (List.getElem?_eq_some_iff.mp hj).1
    omega
  obtain ⟨p1, o1⟩ := q_lst (q_app hw hd) (by rw [List.length_append]; show ws.length + 1 ≤ 8; omega)
  obtain ⟨p2, o2⟩ := q_lst (q_cons hw hd) (by rw [List.length_cons]; omega)
  have g1 := gv_two p1 ht o1
  have g2 := gv_two p2 ht o2
  have a1 : opD .add (.lst ws) (.lst [d]) = some (.lst (ws ++ [d]), true) := addl (decide_eq_true (by show ws.length + 1 ≤ _; omega))
  have a2 : opD .add (.lst [d]) (.lst ws) = some (.lst (d :: ws), true) := addl (xs := [d]) (decide_eq_true (by show 1 + ws.length ≤ _; omega))
  have a3 : opD .add (.lst vs) (.lst [.tup [.lst (ws ++ [d]), t], .tup [.lst (d :: ws), t]]) = some (.lst (vs ++ [.tup [.lst (ws ++ [d]), t], .tup [.lst (d :: ws), t]]), true) := addl (decide_eq_true (by show vs.length + 2 ≤ _; omega))
  have gv : ∀ v ∈ vs ++ [.tup [.lst (ws ++ [d]), t], .tup [.lst (d :: ws), t]], GV v := by
    intro v hv2
    rcases List.mem_append.mp hv2 with h | h
    · exact hv v h
    · simp only [List.mem_cons, List.not_mem_nil, or_false] at h
      rcases h with rfl | rfl
      · exact g1
      · exact g2
  have hr : beI n cc mm (some (t, false)) aa nn ws μ l0 (j + 1) [some (.cell n, false), cc, mm, some (.lst (vs ++ [.tup [.lst (ws ++ [d]), t], .tup [.lst (d :: ws), t]]), true), some (d, false), some (.lst ws, false), some (t, false), aa, nn] μ := ⟨rfl, _, gv, by rw [List.length_append]; show vs.length + 2 ≤ _; omega, ⟨_, rfl⟩⟩
  refine ⟨_, _, ?_, hr⟩
  clear hr gv g1 g2
  simp only [dnx, dqx, e_lend, disowns, sz1_s, decide_true, decide_false, eq_self, kVl, kT, kLs, kW, kBl, kNt, kNg, kOp2, kCp2, kSb2, kIs, kBi, kMd2, kRv, kSl3, kMk, kGv, kLc, kPr, kPo, kRt, kNxt, kExS, kStO, kAp, kSb3, gC, kSc3, kEx1, kOp, kCp, kCh1, kCh, kSb, kMd, kSl2, kSl, kCl_s, kTe2, kTn, turnC, kCm, kCns, kCnp, kCno, kSeqS, kStT, kPrS, kTb, turnS, kFo, kS2, kC2, kEn, kZp2, kZp, kZs2, kZs, dT, dT.dTs, setR, disown, wipeR, scalar, kFc2, kFc, kFs, seqD, kCk, kCk2, kIn2, kIn3, Nat.reduceAdd, Nat.reduceSub, Nat.reduceLT, Nat.reduceLeDiff, ite_true, ite_false, if_true, if_false, reduceCtorEq, List.append_nil, List.cons_append, List.getElem?_cons_succ, List.getElem?_cons_zero, List.length_cons, List.length_nil, List.map_cons, List.map_nil, List.nil_append, List.replicate_succ, List.replicate_zero, List.reverse_cons, List.reverse_nil, List.set_cons_succ, List.set_cons_zero, f_33_b0, a1, a2, a3, sz1_s]
end ZL
end

section
set_option Elab.async false
set_option linter.all false
set_option maxRecDepth 100000
set_option maxHeartbeats 4000000
set_option exponentiation.threshold 4000
-- 54a791b03545e5b558f1b25d5af7711c
namespace ZL
open PySem PySem.Spec Z
theorem cut_at (a b u e d : D) (v : Int) (h0 : 0 ≤ v) (h1 : v < 4) : ∃ s1 s2, slcD (.tup [a, b, u, e]) none (some v) = some (.tup s1, false) ∧ slcD (.tup [a, b, u, e]) (some (v + 1)) none = some (.tup s2, false) ∧ opD .add (.tup s1) (.tup [d]) = some (.tup (s1 ++ [d]), false) ∧ opD .add (.tup (s1 ++ [d])) (.tup s2) = some (.tup (s1 ++ [d] ++ s2), false) ∧ (∀ x ∈ s1 ++ [d] ++ s2, x = a ∨ x = b ∨ x = u ∨ x = e ∨ x = d) ∧ (s1 ++ [d] ++ s2).length ≤ 5 := by
  have h : v = 0 ∨ v = 1 ∨ v = 2 ∨ v = 3 := by omega
  rcases h with rfl | rfl | rfl | rfl
  · refine ⟨[], [b, u, e], by kernel_rfl, by kernel_rfl, by kernel_rfl, by kernel_rfl, ?_, by show 4 ≤ 5; decide⟩
    intro x hx
    simp only [List.nil_append, List.cons_append, List.mem_cons, List.not_mem_nil, or_false] at hx
    rcases hx with h | h | h | h <;> simp [h]
  · refine ⟨[a], [u, e], by kernel_rfl, by kernel_rfl, by kernel_rfl, by kernel_rfl, ?_, by show 4 ≤ 5; decide⟩
    intro x hx
    simp only [List.nil_append, List.cons_append, List.mem_cons, List.not_mem_nil, or_false] at hx
    rcases hx with h | h | h | h <;> simp [h]
  · refine ⟨[a, b], [e], by kernel_rfl, by kernel_rfl, by kernel_rfl, by kernel_rfl, ?_, by show 4 ≤ 5; decide⟩
    intro x hx
    simp only [List.nil_append, List.cons_append, List.mem_cons, List.not_mem_nil, or_false] at hx
    rcases hx with h | h | h | h <;> simp [h]
  · refine ⟨[a, b, u], [], by kernel_rfl, by kernel_rfl, by kernel_rfl, by kernel_rfl, ?_, by show 4 ≤ 5; decide⟩
    intro x hx
    simp only [List.nil_append, List.cons_append, List.append_nil, List.mem_cons, List.not_mem_nil, or_false] at hx
    rcases hx with h | h | h | h <;> simp [h]

theorem bent_2 (k n : Nat) (cc mm nn : Option (D × Bool)) (a b u e : Int) (ha : QO (.int a)) (hb : QO (.int b)) (hu : QO (.int u)) (he : QO (.int e)) (at' : Int) (q0 : 0 ≤ at') (q1 : at' < 4) (ws : List D) (hw : PO (.lst ws) ∧ okW (.lst ws)) (P : List D) (hP : ∀ d ∈ P, QO d) (hn : P.length ≤ 9) (μ0 : Mu) (l0 : Nat) (h9 : l0 ≤ 100) {ρ : Rho} (h0 : beI n cc mm (some (tD a b u e, false)) (some (.int at', false)) nn ws μ0 l0 0 ρ μ0) :
    ∃ ρ' μ', foldS (turnS T (dCall T fs k) (.tName 4) f_33_b1) P ρ μ0 = some (.nx ρ' μ') ∧ beI n cc mm (some (tD a b u e, false)) (some (.int at', false)) nn ws μ0 l0 P.length ρ' μ' := by
  refine fs_any (beI n cc mm (some (tD a b u e, false)) (some (.int at', false)) nn ws μ0 l0) P (fun j d hj ρ μ hi => ?_) h0
  obtain ⟨rfl, vs, hv, hvl, ⟨x4, rfl⟩⟩ := hi
  have hd : QO d := hP d (List.mem_of_getElem? hj)
  have hj7 : j < 9 := by
    have := (List.getElem?_eq_some_iff.mp hj).1
    omega
  obtain ⟨s1, s2, c1, c2, c3, c4, c5, c6⟩ := cut_at (.int a) (.int b) (.int u) (.int e) d at' q0 q1
  have hT : PO (.tup (s1 ++ [d] ++ s2)) := q_tup (fun x hx => by
    rcases c5 x hx with rfl | rfl | rfl | rfl | rfl
    · exact ha
    · exact hb
    · exact hu
    · exact he
    · exact hd) (by omega)
  have g1 := gv_two hw.1 hT hw.2
  have l2 : vs.length < 100000 := by omega
  have gv : ∀ v ∈ vs ++ [.tup [.lst ws, .tup (s1 ++ [d] ++ s2)]], GV v := by
    intro v hv2
    rcases List.mem_append.mp hv2 with h | h
    · exact hv v h
    · rw [List.mem_singleton.mp h]
      exact g1
  have hr : beI n cc mm (some (tD a b u e, false)) (some (.int at', false)) nn ws μ l0 (j + 1) [some (.cell n, false), cc, mm, some (.lst (vs ++ [.tup [.lst ws, .tup (s1 ++ [d] ++ s2)]]), true), some (d, false), some (.lst ws, false), some (tD a b u e, false), some (.int at', false), nn] μ := ⟨rfl, _, gv, by rw [List.length_append]; show vs.length + 1 ≤ _; omega, ⟨_, rfl⟩⟩
  refine ⟨_, _, ?_, hr⟩
  clear hr gv g1
  simp only [dnx, dqx, e_lend, disowns, sz1_s, decide_true, decide_false, eq_self, kVl, kT, kLs, kW, kBl, kNt, kNg, kOp2, kCp2, kSb2, kIs, kBi, kMd2, kRv, kSl3, kMk, kGv, kLc, kPr, kPo, kRt, kNxt, kExS, kStO, kAp, kSb3, gC, kSc3, kEx1, kOp, kCp, kCh1, kCh, kSb, kMd, kSl2, kSl, kCl_s, kTe2, kTn, turnC, kCm, kCns, kCnp, kCno, kSeqS, kStT, kPrS, kTb, turnS, kFo, kS2, kC2, kEn, kZp2, kZp, kZs2, kZs, dT, dT.dTs, setR, disown, wipeR, scalar, kFc2, kFc, kFs, seqD, kCk, kCk2, kIn2, kIn3, Nat.reduceAdd, Nat.reduceSub, Nat.reduceLT, Nat.reduceLeDiff, ite_true, ite_false, if_true, if_false, reduceCtorEq, List.append_nil, List.cons_append, List.getElem?_cons_succ, List.getElem?_cons_zero, List.length_cons, List.length_nil, List.map_cons, List.map_nil, List.nil_append, List.replicate_succ, List.replicate_zero, List.reverse_cons, List.reverse_nil, List.set_cons_succ, List.set_cons_zero, f_33_b1, tD, c1, c2, c3, c4, gA_s, l2, sz1_s]
theorem w_is (x y z : Bool) : wD x y z = .lst (wl x y z) := rfl
theorem w_cut (x y z : Bool) : slcD (.lst (wl x y z)) (some 1) none = some (.lst ((wl x y z).drop 1), true) := by
  cases x <;> cases y <;> cases z <;> kernel_rfl
theorem pw29 : opD .pow (.int 10) (.int 29) = some (.int (10 ^ 29), false) := by kernel_rfl
theorem sl3 (a b c e : D) : slcD (.tup [a, b, c, e]) none (some 3) = some (.tup [a, b, c], false) := rfl
theorem ad0 (a b c e : D) : opD .add (.tup [a, b, c, e]) (.tup [.int 0]) = some (.tup [a, b, c, e, .int 0], false) := by kernel_rfl
theorem at4 (a b c e : Int) (v : Int) (h0 : 0 ≤ v) (h1 : v < 4) : ∃ w, L2.atI [D.int a, .int b, .int c, .int e] v = some (.int w) ∧ (w = a ∨ w = b ∨ w = c ∨ w = e) := by
  have h : v = 0 ∨ v = 1 ∨ v = 2 ∨ v = 3 := by omega
  rcases h with rfl | rfl | rfl | rfl
  · exact ⟨_, rfl, .inl rfl⟩
  · exact ⟨_, rfl, .inr (.inl rfl)⟩
  · exact ⟨_, rfl, .inr (.inr (.inl rfl))⟩
  · exact ⟨_, rfl, .inr (.inr (.inr rfl))⟩
end ZL
end

section
set_option Elab.async false
set_option linter.all false
set_option maxRecDepth 100000
set_option maxHeartbeats 4000000
set_option exponentiation.threshold 4000
-- ea0f17bbadeae7ed6dc0d1a1d79e80f3
namespace ZL
open PySem PySem.Spec Z

theorem gv_all14 (x y z : Bool) {a b u e : Int} (ha : QO (.int a)) (hb : QO (.int b)) (hu : QO (.int u)) (he : QO (.int e)) : ∀ v ∈ [D.non, .tup [], .lst [], .dct [], .int 5, .str "turn", .lst (wl x y z), tD a b u e, .lst [.lst (wl x y z), tD a b u e], .tup [tD a b u e, .lst (wl x y z)], .tup [.lst (wl x y z)], .tup [.lst (wl x y z), tD a b u e, .int 0], .tup [.tup (wl x y z), tD a b u e], .tup [.lst (wl x y z), .lst [.int a, .int b, .int u, .int e]]], GV v := by
  have hl := wl_l x y z
  obtain ⟨pw, ow⟩ := q_lst (wl_q x y z) (by omega)
  have pv := q_tup (wl_q x y z) (by omega)
  have four : ∀ d ∈ [D.int a, .int b, .int u, .int e], QO d := by
    intro d hd
    simp only [List.mem_cons, List.not_mem_nil, or_false] at hd
    rcases hd with rfl | rfl | rfl | rfl <;> assumption
  have pt : PO (tD a b u e) := q_tup four (by show 4 ≤ 8; decide)
  have pl4 := (q_lst four (by show 4 ≤ 8; decide)).1
  have p0 : PO (.int 0) := po_lit _ (by kernel_rfl) (by simp only [smD]; exact small (by decide) (by decide))
  have nt : ∀ v : D, v ∈ [D.non, .tup [], .lst [], .dct [], .int 5, .str "turn"] → GV v := by
    intro v hv
    simp only [List.mem_cons, List.not_mem_nil, or_false] at hv
    rcases hv with rfl | rfl | rfl | rfl | rfl | rfl
    · exact gv_po (po_lit _ (by kernel_rfl) (by simp only [smD])) rfl
    · exact gv_po (po_lit _ (by kernel_rfl) (by simp only [smD, smL])) rfl
    · exact gv_po (po_lit _ (by kernel_rfl) (by simp only [smD, smL])) rfl
    · exact gv_po (po_lit _ (by kernel_rfl) (by simp only [smD])) rfl
    · exact gv_po (po_lit _ (by kernel_rfl) (by simp only [smD]; exact small (by decide) (by decide))) rfl
    · exact gv_po (po_lit _ (by kernel_rfl) (by simp only [smD])) rfl
  intro v hv
  simp only [List.mem_cons, List.not_mem_nil, or_false] at hv
  rcases hv with h | h | h | h | h | h | rfl | rfl | rfl | rfl | rfl | rfl | rfl | rfl
  · exact nt v (by simp [h])
  · exact nt v (by simp [h])
  · exact nt v (by simp [h])
  · exact nt v (by simp [h])
  · exact nt v (by simp [h])
  · exact nt v (by simp [h])
  · exact gv_po pw rfl
  · exact gv_po pt rfl
  · exact gv_vo (vo_two pw pt) rfl
  · exact gv_two pt pw (okw_t _)
  · exact gv_vo (vo_tup (fun d hd => by rw [List.mem_singleton.mp hd]; exact pw) (by show 1 ≤ 12; decide)) rfl
  · exact gv_vo (vo_tup (fun d hd => by
      simp only [List.mem_cons, List.not_mem_nil, or_false] at hd
      rcases hd with rfl | rfl | rfl
      · exact pw
      · exact pt
      · exact p0) (by show 3 ≤ 12; decide)) rfl
  · exact gv_two pv pt (okw_t _)
  · exact gv_two pw pl4 ow
theorem gv_all6 (x y z : Bool) {a b u e : Int} (ha : QO (.int a)) (hb : QO (.int b)) (hu : QO (.int u)) (he : QO (.int e)) : ∀ v ∈ [D.tup [.lst (wl x y z).reverse, tD a b u e], .tup [.lst ((wl x y z).drop 1), tD a b u e], .tup [.lst (wl x y z ++ wl x y z), tD a b u e], .tup [.lst (wl x y z), .tup [.int a, .int b, .int u]], .tup [.lst (wl x y z), .tup [.int a, .int b, .int u, .int e, .int 0]], .tup [.lst (wl x y z), .tup [.int e, .int u, .int b, .int a]]], GV v := by
  have hl := wl_l x y z
  have hq := wl_q x y z
  obtain ⟨pw, ow⟩ := q_lst hq (by omega)
  obtain ⟨pr, or'⟩ := q_lst (ds := (wl x y z).reverse) (fun d hd => hq d (List.mem_reverse.mp hd)) (by rw [List.length_reverse]; omega)
  obtain ⟨pd, od⟩ := q_lst (ds := (wl x y z).drop 1) (fun d hd => hq d (List.mem_of_mem_drop hd)) (by rw [List.length_drop]; omega)
  obtain ⟨p2, o2⟩ := q_lst (ds := wl x y z ++ wl x y z) (fun d hd => (List.mem_append.mp hd).elim (hq d) (hq d)) (by rw [List.length_append]; omega)
  have h0 : QO (.int 0) := q_int (by decide) (by decide)
  have any : ∀ ds : List D, (∀ d ∈ ds, d = .int a ∨ d = .int b ∨ d = .int u ∨ d = .int e ∨ d = .int 0) → ds.length ≤ 8 → PO (.tup ds) := fun ds h hl => q_tup (fun d hd => by
    rcases h d hd with rfl | rfl | rfl | rfl | rfl <;> assumption) hl
  have pt : PO (tD a b u e) := any _ (by intro d hd; simp only [List.mem_cons, List.not_mem_nil, or_false] at hd; rcases hd with h | h | h | h <;> simp [h]) (by show 4 ≤ 8; decide)
  intro v hv
  simp only [List.mem_cons, List.not_mem_nil, or_false] at hv
  rcases hv with rfl | rfl | rfl | rfl | rfl | rfl
  · exact gv_two pr pt or'
  · exact gv_two pd pt od
  · exact gv_two p2 pt o2
  · exact gv_two pw (any _ (by intro d hd; simp only [List.mem_cons, List.not_mem_nil, or_false] at hd; rcases hd with h | h | h <;> simp [h]) (by show 3 ≤ 8; decide)) ow
  · exact gv_two pw (any _ (by intro d hd; simp only [List.mem_cons, List.not_mem_nil, or_false] at hd; rcases hd with h | h | h | h | h <;> simp [h]) (by show 5 ≤ 8; decide)) ow
  · exact gv_two pw (any _ (by intro d hd; simp only [List.mem_cons, List.not_mem_nil, or_false] at hd; rcases hd with h | h | h | h <;> simp [h]) (by show 4 ≤ 8; decide)) ow
theorem bent39 (k n : Nat) (m : Int) (μ : Mu) (g : GS μ n m) (hm : m + 50 < 2 ^ 60) (c : Co) (x y z : Bool) {a b u e : Int} (h0 : (0 ≤ a ∧ a < 2 ^ 150) ∧ (0 ≤ b ∧ b < 2 ^ 150) ∧ (0 ≤ u ∧ u < 2 ^ 150) ∧ (0 ≤ e ∧ e < 2 ^ 150)) :
    ∃ vs μ', dCall T fs (k + 3) 33 [.cell n, co c, .tup [wD x y z, tD a b u e]] μ = some (.lst vs, true, μ') ∧ (∀ v ∈ vs, GV v) ∧ vs.length ≤ 1000 ∧ GS μ' n (m + 20) := by
  obtain ⟨⟨a1, a2⟩, ⟨b1, b2⟩, ⟨u1, u2⟩, ⟨e1', e2'⟩⟩ := h0
  have big := e1800
  have big2 : (10 : Int) ^ 29 < 2 ^ 1800 := by decide
  have ha : QO (.int a) := q_int (by omega) (by omega)
  have hb : QO (.int b) := q_int (by omega) (by omega)
  have hu : QO (.int u) := q_int (by omega) (by omega)
  have he : QO (.int e) := q_int (by omega) (by omega)
  obtain ⟨i, μ1, e1, i1, i2, g1⟩ := rnd k μ n m 4 g (by omega) (by decide) (by decide)
  obtain ⟨j, μ2, e2, j1, j2, g2⟩ := rnd k μ1 n _ 5 g1 (by omega) (by decide) (by decide)
  obtain ⟨w, hw, hw2⟩ := at4 a b u e i i1 i2
  have hw3 : QO (.int (w + 1)) := by
    rcases hw2 with rfl | rfl | rfl | rfl <;> exact q_int (by omega) (by omega)
  have hj : QO (.int j) := q_int (by omega) (by omega)
  have h29 : QO (.int (10 ^ 29)) := q_int (by decide) big2
  have g14 := gv_all14 x y z ha hb hu he
  have g6 := gv_all6 x y z ha hb hu he
  have hq := wl_q x y z
  have hl := wl_l x y z
  have pt : PO (tD a b u e) := q_tup (fun d hd => by
    simp only [List.mem_cons, List.not_mem_nil, or_false] at hd
    rcases hd with rfl | rfl | rfl | rfl <;> assumption) (by show 4 ≤ 8; decide)
  obtain ⟨ρ1, μ3, l1, rfl, vs1, hv1, hn1, x4, rfl⟩ := bent_1 (k + 2) n (some (co c, false)) (some (.tup [.lst (wl x y z), tD a b u e], false)) (some (.int i, false)) (some (.int j, false)) (tD a b u e) pt (wl x y z) hq hl μ2 14 (by decide) (ρ := [some (.cell n, false), some (co c, false), some (.tup [.lst (wl x y z), tD a b u e], false), some (.lst [D.non, .tup [], .lst [], .dct [], .int 5, .str "turn", .lst (wl x y z), tD a b u e, .lst [.lst (wl x y z), tD a b u e], .tup [tD a b u e, .lst (wl x y z)], .tup [.lst (wl x y z)], .tup [.lst (wl x y z), tD a b u e, .int 0], .tup [.tup (wl x y z), tD a b u e], .tup [.lst (wl x y z), .lst [.int a, .int b, .int u, .int e]]], true), none, some (.lst (wl x y z), false), some (tD a b u e, false), some (.int i, false), some (.int j, false)]) ⟨rfl, _, g14, by show 14 ≤ _; omega, ⟨_, rfl⟩⟩
  have hn1' : vs1.length ≤ 28 := hn1
  obtain ⟨ρ2, μ4, l2, rfl, vs2, hv2, hn2, y4, rfl⟩ := bent_2 (k + 2) n (some (co c, false)) (some (.tup [.lst (wl x y z), tD a b u e], false)) (some (.int j, false)) a b u e ha hb hu he i i1 i2 (wl x y z) (q_lst hq (by omega)) [.non, .int (-1), .bl true, .bl false, .str "0", .lst [.int 0], .int (10 ^ 29), .int (w + 1), .int j] (by
    intro d hd
    simp only [List.mem_cons, List.not_mem_nil, or_false] at hd
    rcases hd with rfl | rfl | rfl | rfl | rfl | rfl | rfl | rfl | rfl
    · exact q_lit _ (by kernel_rfl) (by simp only [smD])
    · exact q_int (by decide) (by decide)
    · exact q_lit _ (by kernel_rfl) (by simp only [smD])
    · exact q_lit _ (by kernel_rfl) (by simp only [smD])
    · exact q_lit _ (by kernel_rfl) (by simp only [smD])
    · exact q_lit _ (by kernel_rfl) (by simp only [smD, smL, and_true]; exact small (by decide) (by decide))
    · exact h29
    · exact hw3
    · exact hj) (by show 9 ≤ 9; decide) μ3 28 (by decide) (ρ := [some (.cell n, false), some (co c, false), some (.tup [.lst (wl x y z), tD a b u e], false), some (.lst vs1, true), x4, some (.lst (wl x y z), false), some (tD a b u e, false), some (.int i, false), some (.int j, false)]) ⟨rfl, _, hv1, by omega, ⟨_, rfl⟩⟩
  have hn2' : vs2.length ≤ 46 := hn2
  refine ⟨vs2 ++ [D.tup [.lst (wl x y z).reverse, tD a b u e], .tup [.lst ((wl x y z).drop 1), tD a b u e], .tup [.lst (wl x y z ++ wl x y z), tD a b u e], .tup [.lst (wl x y z), .tup [.int a, .int b, .int u]], .tup [.lst (wl x y z), .tup [.int a, .int b, .int u, .int e, .int 0]], .tup [.lst (wl x y z), .tup [.int e, .int u, .int b, .int a]]], μ4, ?_, fun v hv => (List.mem_append.mp hv).elim (hv2 v) (g6 v), by rw [List.length_append]; show vs2.length + 6 ≤ 1000; omega, g2.mono (by omega)⟩
  have c1 := w_cut x y z
  have c2 : revD (.lst (wl x y z)) = some (.lst (wl x y z).reverse, true) := rfl
  have c3 : opD .add (.lst (wl x y z)) (.lst (wl x y z)) = some (.lst (wl x y z ++ wl x y z), true) := addl (decide_eq_true (by omega))
  have c4 := sl3 (.int a) (.int b) (.int u) (.int e)
  have c5 := ad0 (.int a) (.int b) (.int u) (.int e)
  have c6 : revD (.tup [.int a, .int b, .int u, .int e]) = some (.tup [.int e, .int u, .int b, .int a], false) := rfl
  have c7 : biD .tuple [.lst (wl x y z)] = some (.tup (wl x y z), false) := rfl
  have c8 := pw29
  have c9 : ∀ ys : List D, ys.length = 6 → opD .add (.lst vs2) (.lst ys) = some (.lst (vs2 ++ ys), true) := fun ys hy => addl (decide_eq_true (by omega))
  have c10 := c9 [D.tup [.lst (wl x y z).reverse, tD a b u e], .tup [.lst ((wl x y z).drop 1), tD a b u e], .tup [.lst (wl x y z ++ wl x y z), tD a b u e], .tup [.lst (wl x y z), .tup [.int a, .int b, .int u]], .tup [.lst (wl x y z), .tup [.int a, .int b, .int u, .int e, .int 0]], .tup [.lst (wl x y z), .tup [.int e, .int u, .int b, .int a]]] rfl
  clear c9 hv1 hv2 g14 g6 hq
  rw [dCall_eq at_33 rfl]
  simp only [f_33, w_is]
  simp only [tD, items7] at *
  generalize (wl x y z).reverse = wr at *
  generalize (wl x y z).drop 1 = wd at *
  generalize wl x y z ++ wl x y z = ww at *
  generalize wl x y z = ws at *
  generalize co c = CC at *
  generalize f_33_b0 = B0 at *
  generalize f_33_b1 = B1 at *
  simp only [dnx, dqx, e_lend, disowns, sz1_s, decide_true, decide_false, eq_self, kVl, kT, kLs, kW, kBl, kNt, kNg, kOp2, kCp2, kSb2, kIs, kBi, kMd2, kRv, kSl3, kMk, kGv, kLc, kPr, kPo, kRt, kNxt, kExS, kStO, kAp, kSb3, gC, kSc3, kEx1, kOp, kCp, kCh1, kCh, kSb, kMd, kSl2, kSl, kCl_s, kTe2, kTn, turnC, kCm, kCns, kCnp, kCno, kSeqS, kStT, kPrS, kTb, turnS, kFo, kS2, kC2, kEn, kZp2, kZp, kZs2, kZs, dT, dT.dTs, setR, disown, wipeR, scalar, kFc2, kFc, kFs, seqD, kCk, kCk2, kIn2, kIn3, Nat.reduceAdd, Nat.reduceSub, Nat.reduceLT, Nat.reduceLeDiff, ite_true, ite_false, if_true, if_false, reduceCtorEq, List.append_nil, List.cons_append, List.getElem?_cons_succ, List.getElem?_cons_zero, List.length_cons, List.length_nil, List.map_cons, List.map_nil, List.nil_append, List.replicate_succ, List.replicate_zero, List.reverse_cons, List.reverse_nil, List.set_cons_succ, List.set_cons_zero, e1, e2, l1, l2, hw, c1, c2, c3, c4, c5, c6, c7, c8, c10, Int.reduceNeg, sz1_s]
end ZL
end

section
set_option Elab.async false
set_option linter.all false
set_option maxRecDepth 100000
set_option maxHeartbeats 4000000
set_option exponentiation.threshold 4000
-- 22f8315db9e6dbaa73f5425ac5fc5f05
namespace ZL
open PySem PySem.Spec Z
variable {p q r s : Int} {c : Co}
theorem bl_rep (b : Bool) : ∃ x, biD .repr [.bl b] = some (.str x, false) := ⟨_, (po_bl b).vo.rep⟩
theorem ne_bl (b : Bool) : cpD .ne (.bl b) (.bl b) = some false := by cases b <;> kernel_rfl

def rvI (p q r s : Int) (c : Co) (n : Nat) (tn bo li kp wo tk md gi du : Option (D × Bool)) (μ0 : Mu) (_ : Nat) (ρ : Rho) (μ : Mu) : Prop := μ = μ0 ∧ ∃ x10 x13 x14 x15 : Option (D × Bool), ρ = [some (.cell n, false), some (lk p q r s, false), some (co c, false), tn, bo, li, kp, wo, tk, md, x10, gi, du, x13, x14, x15]
theorem vals39 (L : LOk p q r s) (C : COk p q r s c) (k n : Nat) (tn bo li kp wo tk md gi du : Option (D × Bool)) (vs : List D) (hv : ∀ v ∈ vs, GV v) (μ0 : Mu) {ρ : Rho} (h0 : rvI p q r s c n tn bo li kp wo tk md gi du μ0 0 ρ μ0) :
    ∃ ρ' μ', foldS (turnS T (dCall T fs (k + 9)) (.tName 10) f_34_b0) vs ρ μ0 = some (.nx ρ' μ') ∧ rvI p q r s c n tn bo li kp wo tk md gi du μ0 vs.length ρ' μ' := by
  refine fs_any (rvI p q r s c n tn bo li kp wo tk md gi du μ0) vs (fun j d hj ρ μ hi => ?_) h0
  obtain ⟨rfl, ⟨x10, x13, x14, x15, rfl⟩⟩ := hi
  have hd := hv d (List.mem_of_getElem? hj)
  have e1 := hd.vo.rep
  have e2 := lfits (k + 7) c d hd.vo.pl hd.ok μ
  have e3 := ismend L C (k + 2) d hd.vo.pl hd.ok μ
  have e5 := ne_bl (mdB c d)
  obtain ⟨Y, hY⟩ := bl_rep (mdB c d)
  generalize (py d).shown = S at *
  generalize mdB c d = B at *
  have hr : rvI p q r s c n tn bo li kp wo tk md gi du μ (j + 1) [some (.cell n, false), some (lk p q r s, false), some (co c, false), tn, bo, li, kp, wo, tk, md, some (d, false), gi, du, some (.str S, false), some (.bl B, false), x15] μ := ⟨rfl, ⟨_, _, _, _, rfl⟩⟩
  refine ⟨_, _, ?_, hr⟩
  clear hr
  generalize lk p q r s = LL at *
  generalize co c = CC at *
  simp only [dnx, dqx, e_lend, disowns, sz1_s, decide_true, decide_false, eq_self, kVl, kT, kLs, kW, kBl, kNt, kNg, kOp2, kCp2, kSb2, kIs, kBi, kMd2, kRv, kSl3, kMk, kGv, kLc, kPr, kPo, kRt, kNxt, kExS, kStO, kAp, kSb3, gC, kSc3, kEx1, kOp, kCp, kCh1, kCh, kSb, kMd, kSl2, kSl, kCl_s, kTe2, kTn, turnC, kCm, kCns, kCnp, kCno, kSeqS, kStT, kPrS, kTb, turnS, kFo, kS2, kC2, kEn, kZp2, kZp, kZs2, kZs, dT, dT.dTs, setR, disown, wipeR, scalar, kFc2, kFc, kFs, seqD, kCk, kCk2, kIn2, kIn3, Nat.reduceAdd, Nat.reduceSub, Nat.reduceLT, Nat.reduceLeDiff, ite_true, ite_false, if_true, if_false, reduceCtorEq, List.append_nil, List.cons_append, List.getElem?_cons_succ, List.getElem?_cons_zero, List.length_cons, List.length_nil, List.map_cons, List.map_nil, List.nil_append, List.replicate_succ, List.replicate_zero, List.reverse_cons, List.reverse_nil, List.set_cons_succ, List.set_cons_zero, f_34_b0, f_34_s3, e1, e2, e3, e5, hY, beq_self_eq_true, Bool.not_true]
theorem ne_self {d : D} (h : strEq d d = none) (h1 : okS d = true) (h2 : nd d ≤ 64) : cpD .ne d d = some false := by
  rw [ne_d h h1 h2 h1 h2]
  show some (!PyData.eqv (py d) (py d)) = _
  rw [PySem.SeqAt.eqv_refl _ (okS_pl d h1).2.1]
  rfl
theorem ne_co (c : Co) : cpD .ne (co c) (co c) = some false := by
  obtain ⟨sb, sh, rb, l, d, t0, t1, t2, b0, b1⟩ := c
  refine ne_self rfl ?_ ?_
  · rcases l with _ | ⟨_ | _, n⟩ <;> kernel_rfl
  · rcases l with _ | ⟨_ | _, n⟩ <;> exact Nat.le_of_ble_eq_true (by kernel_rfl)
theorem ne_int (i : Int) : cpD .ne (.int i) (.int i) = some false := ne_self rfl rfl (Nat.zero_le _)
theorem COk.mend (C : COk p q r s c) (S : 1 ≤ s) (x y z : Bool) {a b u e : Int} (h : (0 ≤ a ∧ a ≤ c.t1) ∧ (0 ≤ b ∧ b ≤ c.t2) ∧ (0 ≤ u ∧ u ≤ c.b0) ∧ (0 ≤ e ∧ e ≤ c.b1)) : COk p q r s (mendM c x y z a b u e) := by
  obtain ⟨⟨a1, a2⟩, ⟨b1, b2⟩, ⟨u1, u2⟩, ⟨e1, e2⟩⟩ := h
  obtain ⟨h1, h2, h3, h4, h5, h6, h7, h8, h9, h10, h11, h12⟩ := C
  refine ⟨h1, ?_, ?_, ?_, fun w i hw => ?_, h6, ?_, ?_, ?_, ?_, ?_, ?_⟩
  · show 0 ≤ (if y then 0 else c.sh)
    split <;> omega
  · show (if y then 0 else c.sh) ≤ s - 1
    split <;> omega
  · show (if z then 1 - c.rb else c.rb) = 0 ∨ (if z then 1 - c.rb else c.rb) = 1
    split <;> omega
  · have hw' : (if x || z then none else c.lot) = some (w, i) := hw
    cases z with
    | true => rw [Bool.or_true] at hw'; cases hw'
    | false =>
      cases x with
      | true => cases hw'
      | false => exact h5 w i hw'
  · show 0 ≤ c.t1 - a
    omega
  · show 0 ≤ c.t2 - b
    omega
  · show c.t0 + (c.t1 - a) + (c.t2 - b) ≤ p
    omega
  · show 0 ≤ c.b0 - u
    omega
  · show 0 ≤ c.b1 - e
    omega
  · show c.b0 - u + (c.b1 - e) ≤ q
    omega

theorem few_t (k n : Nat) (m : Int) (μ : Mu) (g : GS μ n m) (hm : m + 50 < 2 ^ 60) (M : Int) (h0 : 0 ≤ M) (h1 : M < 2 ^ 150) (x1 x2 x3 x4 x5 x6 x7 x8 x9 x10 x11 x12 x13 x14 x15 : Option (D × Bool)) :
    ∃ v μ', turnC T (dCall T fs (k + 3)) (.tName 15) (.cst (.bl true)) f_34_e0 [15] [some (.cell n, false), x1, x2, x3, x4, x5, x6, x7, x8, x9, x10, x11, x12, x13, x14, x15] (.int M) μ = some (some (.int v), μ') ∧ 0 ≤ v ∧ v ≤ M ∧ GS μ' n (m + 20) := by
  obtain ⟨v, μ1, e1, a1, b1, g1⟩ := few39 k n M m μ g hm h0 h1
  refine ⟨v, μ1, ?_, a1, b1, g1⟩
  simp only [dnx, dqx, e_lend, disowns, sz1_s, decide_true, decide_false, eq_self, kVl, kT, kLs, kW, kBl, kNt, kNg, kOp2, kCp2, kSb2, kIs, kBi, kMd2, kRv, kSl3, kMk, kGv, kLc, kPr, kPo, kRt, kNxt, kExS, kStO, kAp, kSb3, gC, kSc3, kEx1, kOp, kCp, kCh1, kCh, kSb, kMd, kSl2, kSl, kCl_s, kTe2, kTn, turnC, kCm, kCns, kCnp, kCno, kSeqS, kStT, kPrS, kTb, turnS, kFo, kS2, kC2, kEn, kZp2, kZp, kZs2, kZs, dT, dT.dTs, setR, disown, wipeR, scalar, kFc2, kFc, kFs, seqD, kCk, kCk2, kIn2, kIn3, Nat.reduceAdd, Nat.reduceSub, Nat.reduceLT, Nat.reduceLeDiff, ite_true, ite_false, if_true, if_false, reduceCtorEq, List.append_nil, List.cons_append, List.getElem?_cons_succ, List.getElem?_cons_zero, List.length_cons, List.length_nil, List.map_cons, List.map_nil, List.nil_append, List.replicate_succ, List.replicate_zero, List.reverse_cons, List.reverse_nil, List.set_cons_succ, List.set_cons_zero, f_34_e0, e1]

def rtI (p q r s : Int) (c : Co) (n : Nat) (K : Str) (m : Int) (j : Nat) (ρ : Rho) (μ : Mu) : Prop := GS μ n (m + 400 * j) ∧ ∃ x3 x7 x8 x9 x10 x11 x12 x13 x14 x15 : Option (D × Bool), ρ = [some (.cell n, false), some (lk p q r s, false), some (co c, false), x3, some (.lst [.int c.t1, .int c.t2, .int c.b0, .int c.b1], false), some (.lst WL, false), some (.str K, false), x7, x8, x9, x10, x11, x12, x13, x14, x15]
theorem turn39 (L : LOk p q r s) (C : COk p q r s c) (k n : Nat) (K : Str) (hK : biD .repr [.lst [lk p q r s, co c]] = some (.str K, false)) (m : Int) (hm : m + 3000 < 2 ^ 60) {ρ : Rho} (μ0 : Mu) (h0 : rtI p q r s c n K m 0 ρ μ0) :
    ∃ ρ' μ', foldS (turnS T (dCall T fs (k + 9)) (.tName 3) f_34_b1) (rngL 4 0) ρ μ0 = some (.nx ρ' μ') ∧ rtI p q r s c n K m 4 ρ' μ' := by
  refine fs_rng (rtI p q r s c n K m) 4 0 (fun j hj ρ μ hi => ?_) h0
  obtain ⟨g, ⟨x3, x7, x8, x9, x10, x11, x12, x13, x14, x15, rfl⟩⟩ := hi
  rw [Int.zero_add]
  have hp := L.p1
  have hq := L.q1
  have hs := L.s0
  obtain ⟨ht0, ht1, ht2, hts, hb0, hb1, hbs⟩ : 0 ≤ c.t0 ∧ 0 ≤ c.t1 ∧ 0 ≤ c.t2 ∧ c.t0 + c.t1 + c.t2 ≤ p ∧ 0 ≤ c.b0 ∧ 0 ≤ c.b1 ∧ c.b0 + c.b1 ≤ q := ⟨C.t0, C.t1, C.t2, C.ts, C.b0, C.b1, C.bs⟩
  obtain ⟨v, μ1, e1, v1, v2, g1⟩ := rnd (k + 7) μ n _ 8 g (by omega) (by decide) (by decide)
  obtain ⟨x, y, z, hw⟩ := WL_w v v1 v2
  obtain ⟨a, μ2, f1, a1, a2, g2⟩ := few_t (k + 6) n _ μ1 g1 (by omega) c.t1 ht1 (by omega) (some (lk p q r s, false)) (some (co c, false)) (some (.int j, false)) (some (.lst [.int c.t1, .int c.t2, .int c.b0, .int c.b1], false)) (some (.lst WL, false)) (some (.str K, false)) (some (wD x y z, false)) x8 x9 x10 x11 x12 x13 x14 x15
  obtain ⟨b, μ3, f2, b1, b2, g3⟩ := few_t (k + 6) n _ μ2 g2 (by omega) c.t2 ht2 (by omega) (some (lk p q r s, false)) (some (co c, false)) (some (.int j, false)) (some (.lst [.int c.t1, .int c.t2, .int c.b0, .int c.b1], false)) (some (.lst WL, false)) (some (.str K, false)) (some (wD x y z, false)) x8 x9 x10 x11 x12 x13 x14 x15
  obtain ⟨u, μ4, f3, u1, u2, g4⟩ := few_t (k + 6) n _ μ3 g3 (by omega) c.b0 hb0 (by omega) (some (lk p q r s, false)) (some (co c, false)) (some (.int j, false)) (some (.lst [.int c.t1, .int c.t2, .int c.b0, .int c.b1], false)) (some (.lst WL, false)) (some (.str K, false)) (some (wD x y z, false)) x8 x9 x10 x11 x12 x13 x14 x15
  obtain ⟨e, μ5, f4, e1', e2', g5⟩ := few_t (k + 6) n _ μ4 g4 (by omega) c.b1 hb1 (by omega) (some (lk p q r s, false)) (some (co c, false)) (some (.int j, false)) (some (.lst [.int c.t1, .int c.t2, .int c.b0, .int c.b1], false)) (some (.lst WL, false)) (some (.str K, false)) (some (wD x y z, false)) x8 x9 x10 x11 x12 x13 x14 x15
  have ef := fc4 f1 f2 f3 f4
  have hf : ([some (D.int a), some (D.int b), some (D.int u), some (D.int e)].filterMap id) = [.int a, .int b, .int u, .int e] := rfl
  rw [hf] at ef
  have hh : (0 ≤ a ∧ a ≤ c.t1) ∧ (0 ≤ b ∧ b ≤ c.t2) ∧ (0 ≤ u ∧ u ≤ c.b0) ∧ (0 ≤ e ∧ e ≤ c.b1) := ⟨⟨a1, a2⟩, ⟨b1, b2⟩, ⟨u1, u2⟩, ⟨e1', e2'⟩⟩
  have big := e1800
  have tq : ∀ d ∈ [D.int a, .int b, .int u, .int e], QO d := by
    intro d hd
    simp only [List.mem_cons, List.not_mem_nil, or_false] at hd
    rcases hd with rfl | rfl | rfl | rfl <;> exact q_int (by omega) (by omega)
  have pt : PO (tD a b u e) := q_tup tq (by show 4 ≤ 8; decide)
  obtain ⟨pw, ow⟩ := q_lst (wl_q x y z) (by have := wl_l x y z; omega)
  have gm : GV (.tup [wD x y z, tD a b u e]) := gv_two pw pt ow
  have rm := gm.vo.rep
  have m1 := lmended (k + 8) c x y z a b u e μ5
  have m2 := ismend L C (k + 2) _ gm.vo.pl gm.ok μ5
  rw [md_yes hh] at m2
  have m3 := mended_p L C (k + 1) x y z hh μ5
  have m4 := cost_p L C (k + 1) x y z hh μ5
  have rd := (po_co L (C.mend hs x y z hh)).vo.rep
  have nd1 := ne_co (mendM c x y z a b u e)
  have q1 := w_len x y z
  have q2 := t_sum a b u e
  have q3 : opD .add (.int ((if x then 1 else 0) + (if y then 1 else 0) + (if z then 1 else 0))) (.int (a + (b + (u + (e + 0))))) = some (.int (cstI x y z a b u e), false) := rfl
  have nd2 := ne_int (cstI x y z a b u e)
  have cb : 0 ≤ cstI x y z a b u e ∧ cstI x y z a b u e ≤ 3 + 4 * 2 ^ 150 := by
    have w0 : ∀ b : Bool, 0 ≤ (if b then (1 : Int) else 0) ∧ (if b then (1 : Int) else 0) ≤ 1 := fun b => by cases b <;> decide
    have := w0 x
    have := w0 y
    have := w0 z
    unfold cstI
    omega
  have big4 : (3 : Int) + 4 * 2 ^ 150 < 2 ^ 1800 := by decide
  have rc := (po_int (i := cstI x y z a b u e) (by omega) (by omega)).vo.rep
  obtain ⟨vs, μ6, h1, hv, hvl, g6⟩ := bent39 (k + 6) n _ μ5 g5 (by omega) c x y z (a := a) (b := b) (u := u) (e := e) ⟨⟨a1, by omega⟩, ⟨b1, by omega⟩, ⟨u1, by omega⟩, ⟨e1', by omega⟩⟩
  generalize (py (.tup [wD x y z, tD a b u e])).shown = G1 at *
  generalize (py (co (mendM c x y z a b u e))).shown = G2 at *
  generalize (py (.int (cstI x y z a b u e))).shown = G3 at *
  obtain ⟨ρ2, μ7, l1, rfl, w10, w13, w14, w15, rfl⟩ := vals39 L C k n (some (.int j, false)) (some (.lst [.int c.t1, .int c.t2, .int c.b0, .int c.b1], false)) (some (.lst WL, false)) (some (.str K, false)) (some (wD x y z, false)) (some (tD a b u e, false)) (some (.tup [wD x y z, tD a b u e], false)) (some (.str G1, false)) (some (co (mendM c x y z a b u e), false)) vs hv μ6 (ρ := [some (.cell n, false), some (lk p q r s, false), some (co c, false), some (.int j, false), some (.lst [.int c.t1, .int c.t2, .int c.b0, .int c.b1], false), some (.lst WL, false), some (.str K, false), some (wD x y z, false), some (tD a b u e, false), some (.tup [wD x y z, tD a b u e], false), x10, some (.str G1, false), some (co (mendM c x y z a b u e), false), x13, x14, x15]) ⟨rfl, _, _, _, _, rfl⟩
  have hr : rtI p q r s c n K m (j + 1) [some (.cell n, false), some (lk p q r s, false), some (co c, false), some (.int j, false), some (.lst [.int c.t1, .int c.t2, .int c.b0, .int c.b1], false), some (.lst WL, false), some (.str K, false), some (wD x y z, false), some (tD a b u e, false), some (.tup [wD x y z, tD a b u e], false), w10, some (.str G1, false), some (co (mendM c x y z a b u e), false), w13, w14, w15] μ7 := ⟨g6.mono (by omega), ⟨_, _, _, _, _, _, _, _, _, _, rfl⟩⟩
  refine ⟨_, _, ?_, hr⟩
  clear hr hv gm pt pw ow tq g g1 g2 g3 g4 g5 g6 f1 f2 f3 f4
  simp only [f_34_b1, f_34_s0, f_34_s1, f_34_s2]
  have tE : D.tup [.int a, .int b, .int u, .int e] = tD a b u e := rfl
  have q4 : biD .tuple [.lst [.int a, .int b, .int u, .int e]] = some (tD a b u e, false) := rfl
  generalize tD a b u e = V at *
  generalize wD x y z = W at *
  generalize WL = WW at *
  generalize co (mendM c x y z a b u e) = CM at *
  generalize cstI x y z a b u e = CI at *
  generalize co c = CC at *
  generalize lk p q r s = LL at *
  generalize f_34_b0 = B0 at *
  generalize f_34_e0 = E0 at *
  simp only [dnx, dqx, e_lend, disowns, sz1_s, decide_true, decide_false, eq_self, kVl, kT, kLs, kW, kBl, kNt, kNg, kOp2, kCp2, kSb2, kIs, kBi, kMd2, kRv, kSl3, kMk, kGv, kLc, kPr, kPo, kRt, kNxt, kExS, kStO, kAp, kSb3, gC, kSc3, kEx1, kOp, kCp, kCh1, kCh, kSb, kMd, kSl2, kSl, kCl_s, kTe2, kTn, turnC, kCm, kCns, kCnp, kCno, kSeqS, kStT, kPrS, kTb, turnS, kFo, kS2, kC2, kEn, kZp2, kZp, kZs2, kZs, dT, dT.dTs, setR, disown, wipeR, scalar, kFc2, kFc, kFs, seqD, kCk, kCk2, kIn2, kIn3, Nat.reduceAdd, Nat.reduceSub, Nat.reduceLT, Nat.reduceLeDiff, ite_true, ite_false, if_true, if_false, reduceCtorEq, List.append_nil, List.cons_append, List.getElem?_cons_succ, List.getElem?_cons_zero, List.length_cons, List.length_nil, List.map_cons, List.map_nil, List.nil_append, List.replicate_succ, List.replicate_zero, List.reverse_cons, List.reverse_nil, List.set_cons_succ, List.set_cons_zero, e1, hw, ef, q4, rm, m1, m2, m3, m4, nd1, q1, q2, q3, nd2, rd, rc, hK, h1, l1, beq_self_eq_true, Bool.not_true, sz1_s]
end ZL
end

section
set_option Elab.async false
set_option linter.all false
set_option maxRecDepth 100000
set_option maxHeartbeats 4000000
set_option exponentiation.threshold 4000
-- 3a72db626fa93ef2e5bd1392167cd30f
namespace ZL
open PySem PySem.Spec Z

theorem right39 {p q r s : Int} (L : LOk p q r s) (k n : Nat) (m : Int) (μ : Mu) (g : GS μ n m) (hm : m + 4000 < 2 ^ 60) :
    ∃ μ', dCall T fs (k + 10) 34 [.cell n, lk p q r s] μ = some (.bl true, false, μ') ∧ GS μ' n (m + 2500) := by
  obtain ⟨c, μ1, e1, C, g1⟩ := cont39 L (k + 5) n m μ g (by omega)
  have hW := wls (k + 8) μ1
  have hk := (vo_two (po_lk L) (po_co L C)).rep
  generalize (py (.lst [lk p q r s, co c])).shown = K at *
  obtain ⟨ρ1, μ2, l1, g2, ⟨x3, x7, x8, x9, x10, x11, x12, x13, x14, x15, rfl⟩⟩ := turn39 L C k n K hk (m + 300) (by omega) μ1 (ρ := [some (.cell n, false), some (lk p q r s, false), some (co c, false), none, some (.lst [.int c.t1, .int c.t2, .int c.b0, .int c.b1], false), some (.lst WL, false), some (.str K, false), none, none, none, none, none, none, none, none, none]) ⟨by simpa using g1, ⟨_, _, _, _, _, _, _, _, _, _, rfl⟩⟩
  refine ⟨μ2, ?_, g2.mono (by omega)⟩
  have r4 : Int.toNat 4 = 4 := rfl
  rw [dCall_eq at_34 rfl]
  simp only [f_34]
  clear L C g g1 g2
  simp only [co] at *
  generalize WL = W at *
  generalize lk p q r s = LL at *
  generalize f_34_b1 = B1 at *
  simp only [dnx, dqx, e_lend, disowns, sz1_s, decide_true, decide_false, eq_self, kVl, kT, kLs, kW, kBl, kNt, kNg, kOp2, kCp2, kSb2, kIs, kBi, kMd2, kRv, kSl3, kMk, kGv, kLc, kPr, kPo, kRt, kNxt, kExS, kStO, kAp, kSb3, gC, kSc3, kEx1, kOp, kCp, kCh1, kCh, kSb, kMd, kSl2, kSl, kCl_s, kTe2, kTn, turnC, kCm, kCns, kCnp, kCno, kSeqS, kStT, kPrS, kTb, turnS, kFo, kS2, kC2, kEn, kZp2, kZp, kZs2, kZs, dT, dT.dTs, setR, disown, wipeR, scalar, kFc2, kFc, kFs, seqD, kCk, kCk2, kIn2, kIn3, Nat.reduceAdd, Nat.reduceSub, Nat.reduceLT, Nat.reduceLeDiff, ite_true, ite_false, if_true, if_false, reduceCtorEq, List.append_nil, List.cons_append, List.getElem?_cons_succ, List.getElem?_cons_zero, List.length_cons, List.length_nil, List.map_cons, List.map_nil, List.nil_append, List.replicate_succ, List.replicate_zero, List.reverse_cons, List.reverse_nil, List.set_cons_succ, List.set_cons_zero, e1, hW, hk, l1, r4, rng_1, Int.reduceLE, Int.reduceNeg, sz1_s]

def loI (ns : List Int) (j : Nat) (ρ : Rho) (μ : Mu) : Prop := μ.all scalL = true ∧ ∃ x1 x2 x3 x4 x5 : Option (D × Bool), ρ = [some (.lst (ns.map .int), false), x1, x2, x3, x4, x5]
theorem law_outer (k : Nat) (ns : List Int) (μ0 : Mu) {ρ : Rho} (h0 : loI ns 0 ρ μ0) :
    ∃ ρ' μ', foldS (turnS T (dCall T fs (k + 10)) (.tName 1) f_35_b0) (rngL 3 0) ρ μ0 = some (.nx ρ' μ') ∧ loI ns 3 ρ' μ' := by
  refine fs_rng (loI ns) 3 0 (fun j hj ρ μ hi => ?_) h0
  obtain ⟨hs, ⟨x1, x2, x3, x4, x5, rfl⟩⟩ := hi
  rw [Int.zero_add]
  obtain ⟨a, b, e, h0⟩ := lgen (k + 8) ns j (by omega) μ
  have g0 := gs_new a b (1000 * j) (1000 * j) μ h0 (by omega) (Int.le_refl _) hs
  by_cases h2 : j = 2
  · have qe : cpD .eq (.int (j : Int)) (.int 2) = some true := by
      rw [h2]
      kernel_rfl
    obtain ⟨p, q, r, s, μ1, e1, L, g1⟩ := great39 (k + 7) μ.length _ _ g0 (by omega)
    obtain ⟨μ2, e2, g2⟩ := right39 L k μ.length _ μ1 g1 (by omega)
    apply ex2
    · simp only [dnx, dqx, e_lend, disowns, sz1_s, decide_true, decide_false, eq_self, kVl, kT, kLs, kW, kBl, kNt, kNg, kOp2, kCp2, kSb2, kIs, kBi, kMd2, kRv, kSl3, kMk, kGv, kLc, kPr, kPo, kRt, kNxt, kExS, kStO, kAp, kSb3, gC, kSc3, kEx1, kOp, kCp, kCh1, kCh, kSb, kMd, kSl2, kSl, kCl_s, kTe2, kTn, turnC, kCm, kCns, kCnp, kCno, kSeqS, kStT, kPrS, kTb, turnS, kFo, kS2, kC2, kEn, kZp2, kZp, kZs2, kZs, dT, dT.dTs, setR, disown, wipeR, scalar, kFc2, kFc, kFs, seqD, kCk, kCk2, kIn2, kIn3, Nat.reduceAdd, Nat.reduceSub, Nat.reduceLT, Nat.reduceLeDiff, ite_true, ite_false, if_true, if_false, reduceCtorEq, List.append_nil, List.cons_append, List.getElem?_cons_succ, List.getElem?_cons_zero, List.length_cons, List.length_nil, List.map_cons, List.map_nil, List.nil_append, List.replicate_succ, List.replicate_zero, List.reverse_cons, List.reverse_nil, List.set_cons_succ, List.set_cons_zero, f_35_b0, f_35_s0, e, sz1_s, e1, e2, qe]
      rfl
    · exact ⟨g2.scal, ⟨_, _, _, _, _, rfl⟩⟩
  · obtain ⟨p, q, r, s, μ1, e1, L, g1⟩ := link39 (k + 7) μ.length _ _ g0 (by omega)
    obtain ⟨μ2, e2, g2⟩ := right39 L k μ.length _ μ1 g1 (by omega)
    have qj : ¬ ((j : Int) = 2) := by omega
    apply ex2
    · simp only [dnx, dqx, e_lend, disowns, sz1_s, decide_true, decide_false, eq_self, kVl, kT, kLs, kW, kBl, kNt, kNg, kOp2, kCp2, kSb2, kIs, kBi, kMd2, kRv, kSl3, kMk, kGv, kLc, kPr, kPo, kRt, kNxt, kExS, kStO, kAp, kSb3, gC, kSc3, kEx1, kOp, kCp, kCh1, kCh, kSb, kMd, kSl2, kSl, kCl_s, kTe2, kTn, turnC, kCm, kCns, kCnp, kCno, kSeqS, kStT, kPrS, kTb, turnS, kFo, kS2, kC2, kEn, kZp2, kZp, kZs2, kZs, dT, dT.dTs, setR, disown, wipeR, scalar, kFc2, kFc, kFs, seqD, kCk, kCk2, kIn2, kIn3, Nat.reduceAdd, Nat.reduceSub, Nat.reduceLT, Nat.reduceLeDiff, ite_true, ite_false, if_true, if_false, reduceCtorEq, List.append_nil, List.cons_append, List.getElem?_cons_succ, List.getElem?_cons_zero, List.length_cons, List.length_nil, List.map_cons, List.map_nil, List.nil_append, List.replicate_succ, List.replicate_zero, List.reverse_cons, List.reverse_nil, List.set_cons_succ, List.set_cons_zero, f_35_b0, f_35_s0, e, sz1_s, e1, e2, qj, decide_false]
      rfl
    · exact ⟨g2.scal, ⟨_, _, _, _, _, rfl⟩⟩
def bad9 : D := .tup [.tup [.int 0, .int 2], .tup [.int 0, .tup [.str "old", .int 2], .bl false], .tup [.int 0, .int 1, .int 2], .tup [.int 2, .int 1]]
def loose9 : D := .tup [.tup [.int 0, .int 0], .tup [.int 1, .tup [.str "new", .int 1], .bl true], .tup [.int 1, .int 0, .int 0], .tup [.int 0, .int 1]]
def zeros9 : D := .tup [.tup [.int 0, .int 0], .tup [.int 0, .non, .bl true], .tup [.int 0, .int 3, .int 0], .tup [.int 0, .int 0]]
def r1 : D := .tup [.tup [.int 0, .int 2], .tup [.int 0, .non, .bl false], .tup [.int 0, .int 1, .int 1], .tup [.int 2, .int 0]]
def r2 : D := .tup [.tup [.int 0, .int 0], .tup [.int 0, .non, .bl true], .tup [.int 1, .int 0, .int 0], .tup [.int 0, .int 0]]
def r3 : D := .tup [.tup [.int 0, .int 0], .tup [.int 0, .non, .bl true], .tup [.int 0, .int 0, .int 0], .tup [.int 0, .int 0]]
theorem v1 (μ : Mu) : dCall T fs 14 20 [.tup [.int 3, .int 3, .int 3, .int 3], bad9, .tup [.lst [.str "clear"], .tup [.int 0, .int 1, .int 0, .int 1]]] μ = some (r1, false, μ) := by kernel_rfl
theorem v2 (μ : Mu) : dCall T fs 14 20 [.tup [.int 1, .int 1, .int 2, .int 1], loose9, .tup [.lst [.str "turn"], .tup [.int 0, .int 0, .int 0, .int 1]]] μ = some (r2, false, μ) := by kernel_rfl
theorem v3 (μ : Mu) : dCall T fs 14 20 [.tup [.int 3, .int 1, .int 1, .int 1], zeros9, .tup [.lst [], .tup [.int 3, .int 0, .int 0, .int 0]]] μ = some (r3, false, μ) := by kernel_rfl
theorem v4 (μ : Mu) : dCall T fs 14 21 [.tup [.int 1, .int 1, .int 2, .int 1], loose9, .tup [.lst [.str "clear", .str "forget", .str "turn"], .tup [.int 0, .int 0, .int 0, .int 1]]] μ = some (.int 4, false, μ) := by kernel_rfl
theorem n1 : cpD .ne r1 r1 = some false := by kernel_rfl
theorem n2 : cpD .ne r2 r2 = some false := by kernel_rfl
theorem n3 : cpD .ne r3 r3 = some false := by kernel_rfl
theorem n4 : cpD .eq (.int 4) (.int 4) = some true := by kernel_rfl
theorem plain (ns : List Int) (h1 : ns.length ≤ 63) (h2 : ∀ z ∈ ns, Builtin.Int.intBits z ≤ 1048576) : ∃ o μ', dCall T fs 15 35 [.lst (ns.map .int)] [] = some (.bl true, o, μ') := by
  obtain ⟨ρ', μ', lp, _, ⟨x1, x2, x3, x4, x5, rfl⟩⟩ := law_outer 4 ns [] (ρ := [some (.lst (ns.map .int), false), none, none, none, none, none]) ⟨rfl, ⟨_, _, _, _, _, rfl⟩⟩
  have hr : Int.toNat 3 = 3 := rfl
  have a1 := v1 μ'
  have a2 := v2 μ'
  have a3 := v3 μ'
  have a4 := v4 μ'
  have b1 := n1
  have b2 := n2
  have b3 := n3
  have b4 := n4
  have lp' : foldS (turnS T (dCall T fs 14) (.tName 1) f_35_b0) (rngL 3 0) [some (.lst (ns.map .int), false), none, none, none, none, none] [] = some (.nx _ μ') := lp
  simp only [bad9, loose9, zeros9, r1, r2, r3] at a1 a2 a3 a4 b1 b2 b3
  refine ⟨false, μ', ?_⟩
  rw [dCall_eq at_35 rfl]
  simp only [f_35, f_35_s1, f_35_s2, f_35_s3]
  generalize f_35_b0 = B0 at *
  simp only [dnx, dqx, e_lend, disowns, sz1_s, decide_true, decide_false, eq_self, kVl, kT, kLs, kW, kBl, kNt, kNg, kOp2, kCp2, kSb2, kIs, kBi, kMd2, kRv, kSl3, kMk, kGv, kLc, kPr, kPo, kRt, kNxt, kExS, kStO, kAp, kSb3, gC, kSc3, kEx1, kOp, kCp, kCh1, kCh, kSb, kMd, kSl2, kSl, kCl_s, kTe2, kTn, turnC, kCm, kCns, kCnp, kCno, kSeqS, kStT, kPrS, kTb, turnS, kFo, kS2, kC2, kEn, kZp2, kZp, kZs2, kZs, dT, dT.dTs, setR, disown, wipeR, scalar, kFc2, kFc, kFs, seqD, kCk, kCk2, kIn2, kIn3, Nat.reduceAdd, Nat.reduceSub, Nat.reduceLT, Nat.reduceLeDiff, ite_true, ite_false, if_true, if_false, reduceCtorEq, List.append_nil, List.cons_append, List.getElem?_cons_succ, List.getElem?_cons_zero, List.length_cons, List.length_nil, List.map_cons, List.map_nil, List.nil_append, List.replicate_succ, List.replicate_zero, List.reverse_cons, List.reverse_nil, List.set_cons_succ, List.set_cons_zero, hr, rng_1, Int.reduceLE, Int.reduceNeg, lp', a1, a2, a3, a4, b1, b2, b3, b4, sz1_s]
end ZL
end

section
set_option Elab.async false
set_option linter.all false
set_option maxRecDepth 100000
set_option maxHeartbeats 0
namespace ZL
open PySem PySem.Spec PyProof.Rows L2 Z
def bl : List Str := ((["len", "sum", "max", "min", "abs", "int", "tuple", "list", "repr", "str", "bool", "isinstance", "range", "enumerate", "zip", "dict", "sorted"] : List Str))
def G : Pg := ⟨fs, cs.map (·.1), bl, [], cl⟩
def top (i : Nat) : Stmt := PySem.Challenge.pw_healwires_k39_whole_mendings.main.body.getD i (.Pass ⟨0, 0, 0, 0⟩)
def dd (F : Def) (i : Nat) : He.DefD := ⟨(F.name, none), F.name, F.name, defArgs (top i), defBody (top i), defScope (top i), [], []⟩
def fn : List He.DefD := [dd f_0 6, dd f_1 7, dd f_2 8, dd f_3 9, dd f_4 10, dd f_5 11, dd f_6 12, dd f_7 13, dd f_8 14, dd f_9 15, dd f_10 16, dd f_11 17, dd f_12 20, dd f_13 21, dd f_14 22, dd f_15 23, dd f_16 24, dd f_17 25, dd f_18 26, dd f_19 27, dd f_20 28, dd f_21 29, dd f_22 31, dd f_23 32, dd f_24 33, dd f_25 34, dd f_26 35, dd f_27 36, dd f_28 37, dd f_29 38, dd f_30 39, dd f_31 40, dd f_32 41, dd f_33 42, dd f_34 43, dd f_35 44]
theorem all_ok : allOk G fs fn = true := by kernel_rfl
abbrev R : PySem.W.OpenRow := PySem.W.OpenLaw.row PySem.Challenge.rw_healwires_k39_whole_mendings
abbrev hk : PySem.W.Hook := hookZ PySem.Challenge.pw_healwires_k39_whole_mendings cl subs (fs.map (·.name)) 4 (facts G bl) fn cs
def ob (s : PySem.W.SharedT) : He.AlD × Bool := obsZ PySem.Challenge.pw_healwires_k39_whole_mendings cl subs (fs.map (·.name)) 4 (facts G bl) fn cs (HandSHeadRun.getT s)
theorem ob_eq (s : PySem.W.SharedT) : ob s = hk.obs s.abs := obsZ_eq (HandSHeadRun.getT_eq s)
def loose : List Str := ((["WireError", "InvalidLink", "InvalidContents", "InvalidDeed", "is_whole", "is_between", "link_fits", "check_link", "bit_fits", "counts_fit", "lot_fits", "hosts_fit", "contents_fit", "check_contents", "old_of", "answers_of", "WORD_LISTS", "words_fit", "takable", "taking_fits", "mending_fits", "mended_in", "cost_in", "is_mending", "check_mending", "mended", "cost_of", "_law_cell", "_law_hash", "_law_generator"] : List Str) ++ (["_law_random", "_law_link", "_law_great", "_law_few", "_law_contents", "_law_mended", "_law_word_lists", "_law_fits", "_law_bent", "_law_right"] : List Str))
theorem run (w : World) : HandSHeadRun.RunEq R (PySem.W.view R.prog [44]) hk ob 12000 loose w := by
  intro os
  kernel_rfl
end ZL
open PySem PySem.W PySem.Calls PyProof.Rows
theorem PySem.Challenge.cw_healwires_k39_whole_mendings_holds : PySem.Challenge.rw_healwires_k39_whole_mendings.Holds := by
  w_on; o_law
  refine HandSHeadRun.head_any (r := OpenLaw.row PySem.Challenge.rw_healwires_k39_whole_mendings) (q := view (OpenLaw.row PySem.Challenge.rw_healwires_k39_whole_mendings).prog [44]) (H := ZL.hk) (ob := ZL.ob) (M := 12000) (loose := ZL.loose) (d := HandSHeadRun.topDef (OpenLaw.row PySem.Challenge.rw_healwires_k39_whole_mendings).prog 44) (kwd := []) ZL.ob_eq
    (by kernel_rfl) (fun s => by kernel_rfl) ZL.run (by kernel_rfl) (by kernel_rfl) (by kernel_rfl) (by rfl) (by first | assumption | decide +kernel) (by decide +kernel) ⟨rfl, rfl, rfl, rfl, rfl, by decide +kernel⟩ ?hw ?hc
  case hw => w_witness2
  case hc =>
    refine Z.walkG (l := PySem.Challenge.rw_healwires_k39_whole_mendings) (n := 63) (k := 15) (x := "_law_script") rfl (by decide) (by kernel_rfl) ⟨rfl, by decide, by decide⟩ ?F
    intro w mg fa h Y N hm0
    obtain ⟨K, KX, c, cc⟩ := Y
    have hm : mg ("law" : PySem.Str) = some (.ref fa) := by
      have e : (HandSHeadRun.topDef (OpenLaw.row PySem.Challenge.rw_healwires_k39_whole_mendings).prog 44).name = ("law" : PySem.Str) := by kernel_rfl
      rw [← e]
      exact hm0
    exact Z.law_of (T := ZL.T) (G := ZL.G) (i := 35) (F := ZL.f_35) KX N c cc rfl rfl rfl (by decide) ZL.all_ok rfl rfl rfl hm ZL.plain
end
