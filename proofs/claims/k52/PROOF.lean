import PyProof.Rows.All
import HandS.ForMost
import HandS.IsInst
import HandS.TupAny
import HandS.TupLe
import HandS.Deep
import HandS.Walk
import HandS.Flow
import HandS.Zip
import HandS.Rev
import HandS.Style
import HandS.Defaults
import KE.SortData
import KE.DataMinMax
import KE.DataIsa
import KE.DataFind
import KE.DataEq
import HandS.HeadHook4
import HandS.AnyAll
import HandS.GenOver
import HandS.Conv
import HandS.Gcd
import HandS.Head3
import HandS.TupMul
import HandS.SetFor
import HandS.Strs
import HandS.Iter
import HandS.RepeatKit
import HandS.TupSets
import HandS.NoneIn
import KE.GoesMore
import KE.GoesEnum
import PyProof.Draws
import HandS.Head0
import HandS.Head1
import HandS.Head2
import HandS.HeadEnd
import HandS.HeadHook1
import HandS.HeadHook2
import HandS.HeadWalk
import PySem.Challenge.RW_slopeward_k52_whole_borders_or_tangles
set_option Elab.async false
set_option linter.all false
set_option maxRecDepth 100000
/-! Data, and what an expression, a statement, a def is worth over data: no heap, no frame. -/
namespace Dl
open PySem

/-- a value with all that it holds; own: a list that may still change -/
inductive D where
  | non
  | bl (b : Bool)
  | int (i : Int)
  | str (s : Str)
  | tup (l : List D)
  | lst (l : List D)
  | scr (l : List Int)
deriving Inhabited

mutual
def D.flat : D → Bool
  | .tup l => flats l
  | .lst _ => false
  | .scr _ => false
  | .non => true
  | .bl _ => true
  | .int _ => true
  | .str _ => true
def flats : List D → Bool
  | [] => true
  | d :: ds => d.flat && flats ds
end

mutual
def D.py : D → PyData
  | .non => .none
  | .bl b => .bool b
  | .int i => .int i
  | .str s => .str s
  | .tup l => .tuple (pys l)
  | .lst l => .list (pys l)
  | .scr l => .list (l.map PyData.int)
def pys : List D → List PyData
  | [] => []
  | d :: ds => d.py :: pys ds
end

/-! ### operations -/
inductive BO | add | sub | mul | fdiv | mod | pow
deriving DecidableEq
inductive CO | eq | ne | lt | le | gt | ge | inn | nin
deriving DecidableEq

def intOf : D → Option Int
  | .int i => some i
  | _ => none
def blOf : D → Option Bool
  | .bl b => some b
  | _ => none
def strOf : D → Option Str
  | .str b => some b
  | _ => none
def allOf {α : Type} (f : D → Option α) : List D → Option (List α)
  | [] => some []
  | d :: ds => (f d).bind fun x => (allOf f ds).map fun xs => x :: xs
abbrev intsOf : List D → Option (List Int) := allOf intOf
abbrev blsOf : List D → Option (List Bool) := allOf blOf
abbrev strsOf : List D → Option (List Str) := allOf strOf

/-- a guard -/
def grd {α : Type} (c : Prop) [Decidable c] (x : α) : Option α := if c then some x else none

def addD : D → D → Option D
  | .int i, .int j => some (.int (i + j))
  | .str x, .str y => grd (x.length + y.length ≤ sizeLine) (.str (x ++ y))
  | .tup x, .tup y => grd (x.length + y.length ≤ sizeLine) (.tup (x ++ y))
  | .lst x, .lst y => grd (x.length + y.length ≤ sizeLine) (.lst (x ++ y))
  | _, _ => none
def subD : D → D → Option D
  | .int i, .int j => some (.int (i - j))
  | _, _ => none
def mulD : D → D → Option D
  | .int i, .int j => grd ((-(2 ^ 64) < i ∧ i < 2 ^ 64) ∨ (-(2 ^ 64) < j ∧ j < 2 ^ 64)) (.int (i * j))
  | .tup x, .int j => grd (x.length ≤ 1000 ∧ x.isEmpty = false ∧ -1000 ≤ j ∧ j ≤ 1000) (.tup (List.replicate j.toNat x).flatten)
  | .lst x, .int j => grd (j ≤ 2 ^ 24 ∧ -(2 ^ 24) ≤ j ∧ x.length * j.toNat ≤ sizeLine) (.lst (List.replicate j.toNat x).flatten)
  | _, _ => none
def fdivD : D → D → Option D
  | .int i, .int j => grd (j ≠ 0 ∧ j.natAbs < 1073741824) (.int (i.fdiv j))
  | _, _ => none
def modD : D → D → Option D
  | .int i, .int j => grd (j ≠ 0) (.int (i.fmod j))
  | _, _ => none
def powD : D → D → Option D
  | .int i, .int j => grd (0 ≤ j ∧ j ≤ 1000000 ∧ i.natAbs < 2 ^ 64) (.int (i ^ j.toNat))
  | _, _ => none
def binD : BO → D → D → Option D
  | .add => addD
  | .sub => subD
  | .mul => mulD
  | .fdiv => fdivD
  | .mod => modD
  | .pow => powD

def eqD (x y : D) : Option Bool := grd (x.py.depth ≤ 64 ∧ y.py.depth ≤ 64) (PyData.eqv x.py y.py)
def ltD : D → D → Option Bool
  | .int i, .int j => some (decide (i < j))
  | .str i, .str j => some (decide (i.cps.toList < j.cps.toList))
  | .tup x, .tup y => (intsOf x).bind fun a => (intsOf y).map fun b => HT.lexLt a b
  | _, _ => none
def leD : D → D → Option Bool
  | .int i, .int j => some (decide (i ≤ j))
  | _, _ => none
def itemsD : D → Option (List D)
  | .tup l => some l
  | .lst l => some l
  | _ => none
/-- what a for or a comprehension walks -/
def iterD : D → Option (List D)
  | .tup l => some l
  | .lst l => some l
  | .str z => some (z.cps.toList.map fun c => .str ⟨#[c]⟩)
  | _ => none
def inD (x y : D) : Option Bool := (itemsD y).bind fun l =>
  grd (x.py.depth ≤ 64 ∧ y.py.depth ≤ 64) (l.any fun z => PyData.eqv z.py x.py)
def cmpD : CO → D → D → Option Bool
  | .eq, x, y => eqD x y
  | .ne, x, y => (eqD x y).map (!·)
  | .lt, x, y => ltD x y
  | .le, x, y => leD x y
  | .gt, .int i, .int j => some (decide (j < i))
  | .ge, .int i, .int j => some (decide (j ≤ i))
  | .gt, _, _ => none
  | .ge, _, _ => none
  | .inn, x, y => inD x y
  | .nin, x, y => (inD x y).map (!·)
def isNonD : D → Bool
  | .non => true
  | _ => false

def truth : D → Option Bool
  | .non => some false
  | .bl b => some b
  | .int i => some (i != 0)
  | .str s => grd (s.length ≤ sizeLine) ((s.length : Int) != 0)
  | .tup l => some (!l.isEmpty)
  | .lst l => some (!l.isEmpty)
  | .scr l => some (!l.isEmpty)

def idxD : D → D → Option D
  | .tup l, .int i => L2.atI l i
  | .lst l, .int i => L2.atI l i
  | .scr l, .int i => (L2.atI l i).map .int
  | .str z, .int i => if z.length ≤ sizeLine then (L2.atI z.cps.toList i).map fun c => .str ⟨#[c]⟩ else none
  | _, _ => none
/-- l.index(x), whole numbers -/
def lidxD : D → D → Option D
  | .lst l, .int i => (intsOf l).bind fun ns => grd (i ∈ ns) (.int (ns.idxOf i : Nat))
  | _, _ => none
def insI (x : Int) : List Int → List Int
  | [] => [x]
  | y :: l => if x < y then x :: y :: l else if x = y then y :: l else y :: insI x l
def sset : List Int → List Int
  | [] => []
  | x :: l => insI x (sset l)
def insT (x : List Int) : List (List Int) → List (List Int)
  | [] => [x]
  | y :: l => if HT.lexLt x y = true then x :: y :: l else if x = y then y :: l else y :: insT x l
def ssetT : List (List Int) → List (List Int)
  | [] => []
  | x :: l => insT x (ssetT l)
def tupOfI : D → Option (List Int)
  | .tup l => intsOf l
  | _ => none
abbrev tupsOf : List D → Option (List (List Int)) := allOf tupOfI
abbrev intT (k : List Int) : D := .tup (k.map .int)
/-- set(x), in order: whole numbers, or tuples of whole numbers -/
def ssetD : D → Option (List D)
  | .tup l => match intsOf l with
    | some ns => grd (ns.length ≤ 1000 ∧ (sset ns).length < 64) ((sset ns).map .int)
    | none => (tupsOf l).bind fun ks => grd (ks.length < 64) ((ssetT ks).map intT)
  | .lst l => match intsOf l with
    | some ns => grd (ns.length ≤ 1000 ∧ (sset ns).length < 64) ((sset ns).map .int)
    | none => (tupsOf l).bind fun ks => grd (ks.length < 64) ((ssetT ks).map intT)
  | _ => none
def cutL {α : Type} (xs : List α) (lo hi : Option Int) : List α := (xs.drop (HT.sIx xs.length 0 lo)).take (HT.sIx xs.length xs.length hi - HT.sIx xs.length 0 lo)
def sliceD (x : D) (lo hi : Option Int) : Option D := match x with
  | .tup l => some (.tup (cutL l lo hi))
  | .lst l => some (.lst (cutL l lo hi))
  | _ => none
def revD : D → Option D
  | .tup l => some (.tup l.reverse)
  | .lst l => some (.lst l.reverse)
  | _ => none
/-- a slice's end: None where it is not written -/
def partD : D → Option (Option Int)
  | .non => some none
  | .int i => some (some i)
  | _ => none

/-! ### built-ins -/
inductive BI
  | len | abs | int | bool | sum | max | min | max2 | min2 | all | any | tuple | list
  | sorted
deriving DecidableEq
/-- every two can be compared -/
def alikeL (l : List D) : Bool := l.all fun x => l.all fun y => PySem.W.alike x.py y.py
def notNon : D → Bool
  | .non => false
  | _ => true
def maxDD (x : D) (l : List D) : D := l.foldl (fun a y => if PySem.W.dataLt a.py y.py = true then y else a) x
def minDD (x : D) (l : List D) : D := l.foldl (fun a y => if PySem.W.dataLt y.py a.py = true then y else a) x
def bestD (f : D → List D → D) : List D → Option D
  | [] => none
  | x :: l => grd (alikeL (x :: l) = true ∧ (x :: l).all notNon = true ∧ flats (x :: l) = true ∧ PyData.depthAll (pys (x :: l)) ≤ 64) (f x l)
def isTupD : D → Bool
  | .tup _ => true
  | _ => false
/-- () first, and tuples behind it -/
def emptyFirst : List D → Bool
  | .tup [] :: l => l.all isTupD
  | _ => false
/-- tuples, () among them -/
def emptySome (l : List D) : Bool := l.all isTupD && l.any fun d => match d with | .tup [] => true | _ => false
def sortable (l : List D) : Bool := emptyFirst l || (l.all fun d => match d with | .tup (_ :: _) => true | _ => false) || ((l.all fun d => match d with | .non => false | .tup _ => false | _ => true) || emptySome l)
def leDD (x y : D) : Bool := PySem.W.dataLe false D.py x y
def sortD (l : List D) : Option (List D) := grd (alikeL l = true ∧ sortable l = true ∧ l.length ≤ sizeLine ∧ (l.all fun d => decide (d.py.depth ≤ 64)) = true) (l.mergeSort leDD)
def lenD : D → Option Nat
  | .tup l => some l.length
  | .lst l => some l.length
  | .scr l => some l.length
  | .str s => grd (s.length ≤ sizeLine) s.length
  | _ => none
def biD : BI → List D → Option D
  | .len, [d] => (lenD d).map fun (n : Nat) => .int (n : Int)
  | .abs, [.int i] => some (.int (if i < 0 then -i else i))
  | .int, [.int i] => some (.int i)
  | .int, [.bl b] => some (.int (if b then 1 else 0))
  | .bool, [.int i] => some (.bl (i != 0))
  | .bool, [.bl b] => some (.bl b)
  | .sum, [.tup l] => (intsOf l).map fun ns => .int ns.sum
  | .sum, [.lst l] => (intsOf l).map fun ns => .int ns.sum
  | .max, [.tup l] => bestD maxDD l
  | .max, [.lst l] => bestD maxDD l
  | .min, [.tup l] => bestD minDD l
  | .min, [.lst l] => bestD minDD l
  | .max2, [.int i, .int j] => some (.int (if j > i then j else i))
  | .min2, [.int i, .int j] => some (.int (if j < i then j else i))
  | .min2, [.tup a, .tup b] => bestD minDD [.tup a, .tup b]
  | .all, [.lst l] => (blsOf l).map fun bs => .bl (bs.all id)
  | .any, [.lst l] => (blsOf l).map fun bs => .bl (bs.any id)
  | .any, [.tup l] => (intsOf l).map fun ns => .bl (ns.any (· != 0))
  | .tuple, [.tup l] => some (.tup l)
  | .tuple, [.lst l] => some (.tup l)
  | .list, [.tup l] => some (.lst l)
  | .list, [.lst l] => some (.lst l)
  | .sorted, [.lst l] => (sortD l).map .lst
  | .sorted, [.tup l] => (sortD l).map .lst
  | _, _ => none
/-- isinstance(x, int | bool | str | tuple | list) -/
inductive TY | int | bool | str | tuple | list
deriving DecidableEq
def isiD : TY → D → Bool
  | .int, .int _ => true
  | .int, .bl _ => true
  | .bool, .bl _ => true
  | .str, .str _ => true
  | .tuple, .tup _ => true
  | .list, .lst _ => true
  | .list, .scr _ => true
  | _, _ => false

/-! ### expressions -/
inductive Tg where
  | nm (i : Nat)
  | tp (l : List Tg)
inductive CE where
  | var (i : Nat)
  | int (i : Int)
  | bl (b : Bool)
  | non
  | str (s : Str)
  | bin (o : BO) (a b : CE)
  | neg (a : CE)
  | not (a : CE)
  | cmp (o : CO) (a b : CE)
  | chain (o o' : CO) (a b c : CE)
  | chain3 (o o' o'' : CO) (a b c d : CE)
  | isN (a : CE)
  | notN (a : CE)
  | and (a b : CE)
  | or (a b : CE)
  | ite (c a b : CE)
  | idx (a b : CE)
  | lidx (a b : CE)
  | ssor (a : CE)
  | slen (a : CE)
  | slc (a lo hi : CE)
  | rev (a : CE)
  | tup (es : List CE)
  | lst (es : List CE)
  | call (f : Nat) (es : List CE)
  | bi (b : BI) (es : List CE)
  | isi (t : TY) (a : CE)
  | lc (own : List Nat) (tg : Tg) (it : CE) (cs : List CE) (elt : CE)
  | lc2 (own own1 : List Nat) (tg : Tg) (it : CE) (cs : List CE) (tg1 : Tg) (it1 : CE) (cs1 : List CE) (elt : CE)
  | gen (al : Bool) (own : List Nat) (tg : Tg) (it : CE) (cs : List CE) (elt : CE)
  | rgv1 (tp : Bool) (a : CE)
  | rgv2 (tp : Bool) (a b : CE)
  | rng1 (a : CE)
  | rng2 (a b : CE)
  | rng3 (a b c : CE)
  | enum (a : CE)
  | zip (a b : CE)
  | rvd (a : CE)
  | cmb (a r : CE)
  | prm (a : CE)
  | gcd (a b : CE)

abbrev Rho := List (Option D)
mutual
/-- the slots that a target stores -/
def Tg.slots : Tg → List Nat
  | .nm i => [i]
  | .tp l => tgSlots l
def tgSlots : List Tg → List Nat
  | [] => []
  | t :: r => t.slots ++ tgSlots r
end
mutual
/-- what a target stores, slot by slot -/
def Tg.binds : Tg → D → Option (List (Nat × D))
  | .nm i, d => some [(i, d)]
  | .tp l, .tup ds => tgBinds l ds
  | .tp l, .lst ds => tgBinds l ds
  | .tp _, _ => none
def tgBinds : List Tg → List D → Option (List (Nat × D))
  | [], [] => some []
  | t :: r, d :: ds => (t.binds d).bind fun a => (tgBinds r ds).map fun b => a ++ b
  | _, _ => none
end
def putAll (ρ : Rho) (bs : List (Nat × D)) : Rho := bs.foldl (fun ρ p => ρ.set p.1 (some p.2)) ρ
def Tg.put (t : Tg) (d : D) (ρ : Rho) : Option Rho := (t.binds d).map (putAll ρ)
def wipeD (ρ : Rho) : List Nat → Rho
  | [] => ρ
  | v :: vs => (wipeD ρ vs).set v none

def lcD (step : D → Option (Option D)) : List D → Option (List D)
  | [] => some []
  | x :: xs => (step x).bind fun r => (lcD step xs).map fun rs => match r with
    | none => rs
    | some y => y :: rs
/-- .. of two clauses: a turn of the first gives a list -/
def lcL (step : D → Option (List D)) : List D → Option (List D)
  | [] => some []
  | x :: xs => (step x).bind fun r => (lcL step xs).map fun rs => r ++ rs
/-- all (al), any of a generator expression -/
def genD (al : Bool) (step : D → Option (Option Bool)) : List D → Option Bool
  | [] => some al
  | x :: xs => (step x).bind fun r => match r with
    | none => genD al step xs
    | some b => if b = al then genD al step xs else some (!al)
def zipD : D → D → Option (List D)
  | .tup x, .tup y => some (List.zipWith (fun d e => .tup [d, e]) x y)
  | .lst x, .lst y => some (List.zipWith (fun d e => .tup [d, e]) x y)
  | .tup x, .lst y => some (List.zipWith (fun d e => .tup [d, e]) x y)
  | _, _ => none
def enumF (n : Nat) : List D → List D
  | [] => []
  | d :: ds => .tup [.int n, d] :: enumF (n + 1) ds

/-- the choices of r out of a list, in order -/
def cmbs {α : Type} : Nat → List α → List (List α)
  | 0, _ => [[]]
  | _ + 1, [] => []
  | r + 1, x :: xs => (cmbs r xs).map (x :: ·) ++ cmbs (r + 1) xs
/-- the orders of a list, in order -/
def prms {α : Type} : Nat → List α → List (List α)
  | 0, _ => [[]]
  | n + 1, xs => (List.range xs.length).flatMap fun i => match xs[i]? with
    | some x => (prms n (xs.eraseIdx i)).map (x :: ·)
    | none => []
def numT (l : List Nat) : D := .tup (l.map fun j => .int (j : Nat))
/-- tuple(range(..)), list(range(..)) -/
def rgl (m n : Int) : List D := (List.range (n - m).toNat).map fun i => .int (m + (i : Nat))
def seqD (tp : Bool) (l : List D) : D := if tp = true then .tup l else .lst l
section
variable (cl : Nat → List D → Option D)
mutual
def evE : CE → Rho → Option D
  | .var i, ρ => (ρ[i]?).bind id
  | .int i, _ => some (.int i)
  | .bl b, _ => some (.bl b)
  | .non, _ => some .non
  | .str s, _ => some (.str s)
  | .bin o a b, ρ => (evE a ρ).bind fun x => (evE b ρ).bind fun y => binD o x y
  | .neg a, ρ => (evE a ρ).bind fun x => (intOf x).map fun i => .int (-i)
  | .not a, ρ => (evE a ρ).bind fun x => (truth x).map fun b => .bl (!b)
  | .cmp o a b, ρ => (evE a ρ).bind fun x => (evE b ρ).bind fun y => (cmpD o x y).map .bl
  | .chain o o' a b c, ρ => (evE a ρ).bind fun x => (evE b ρ).bind fun y => (cmpD o x y).bind fun k =>
      if k = true then (evE c ρ).bind fun z => (cmpD o' y z).map .bl else some (.bl false)
  | .chain3 o o' o'' a b c d, ρ => (evE a ρ).bind fun x => (evE b ρ).bind fun y => (cmpD o x y).bind fun k =>
      if k = true then (evE c ρ).bind fun z => (cmpD o' y z).bind fun k' => if k' = true then (evE d ρ).bind fun u => (cmpD o'' z u).map .bl else some (.bl false) else some (.bl false)
  | .isN a, ρ => (evE a ρ).map fun x => .bl (isNonD x)
  | .notN a, ρ => (evE a ρ).map fun x => .bl (!isNonD x)
  | .and a b, ρ => (evE a ρ).bind fun x => (truth x).bind fun k => if k = true then evE b ρ else some x
  | .or a b, ρ => (evE a ρ).bind fun x => (truth x).bind fun k => if k = true then some x else evE b ρ
  | .ite c a b, ρ => (evE c ρ).bind fun x => (truth x).bind fun k => if k = true then evE a ρ else evE b ρ
  | .idx a b, ρ => (evE a ρ).bind fun x => (evE b ρ).bind fun y => idxD x y
  | .lidx a b, ρ => (evE a ρ).bind fun x => (evE b ρ).bind fun y => lidxD x y
  | .ssor a, ρ => (evE a ρ).bind fun x => (ssetD x).map .lst
  | .slen a, ρ => (evE a ρ).bind fun x => (ssetD x).map fun l => .int (l.length : Nat)
  | .slc a lo hi, ρ => (evE a ρ).bind fun x => ((evE lo ρ).bind partD).bind fun l => ((evE hi ρ).bind partD).bind fun h => sliceD x l h
  | .rev a, ρ => (evE a ρ).bind revD
  | .tup es, ρ => (evEs es ρ).bind fun ds => grd (ds.length ≤ sizeLine) (.tup ds)
  | .lst es, ρ => (evEs es ρ).bind fun ds => grd (ds.length ≤ sizeLine) (.lst ds)
  | .call f es, ρ => (evEs es ρ).bind fun ds => cl f ds
  | .bi b es, ρ => (evEs es ρ).bind fun ds => biD b ds
  | .isi t a, ρ => (evE a ρ).map fun x => .bl (isiD t x)
  | .lc own tg it cs elt, ρ => ((evE it ρ).bind iterD).bind fun xs => (lcD (fun x => (tg.put x (wipeD ρ own)).bind fun ρ1 => (evT cs ρ1).bind fun k =>
      if k = true then (evE elt ρ1).map some else some none) xs).bind fun ys => grd (ys.length ≤ sizeLine) (.lst ys)
  | .lc2 own own1 tg it cs tg1 it1 cs1 elt, ρ => ((evE it ρ).bind iterD).bind fun xs => (lcL (fun x => (tg.put x (wipeD ρ own)).bind fun ρ1 => (evT cs ρ1).bind fun k =>
      if k = true then ((evE it1 ρ1).bind iterD).bind fun ys => lcD (fun y => (tg1.put y (wipeD ρ1 own1)).bind fun ρ2 => (evT cs1 ρ2).bind fun k => if k = true then (evE elt ρ2).map some else some none) ys else some []) xs).bind fun ys => grd (ys.length ≤ sizeLine) (.lst ys)
  | .gen al own tg it cs elt, ρ => ((evE it ρ).bind iterD).bind fun xs => (genD al (fun x => (tg.put x (wipeD ρ own)).bind fun ρ1 => (evT cs ρ1).bind fun k =>
      if k = true then ((evE elt ρ1).bind blOf).map some else some none) xs).map .bl
  | .rgv1 tp a, ρ => (evE a ρ).bind fun x => (intOf x).bind fun n => grd (-(2 ^ 62) ≤ n ∧ n ≤ 2 ^ 24) (seqD tp (rgl 0 n))
  | .rgv2 tp a b, ρ => (evE a ρ).bind fun x => (intOf x).bind fun m => (evE b ρ).bind fun y => (intOf y).bind fun n =>
      grd (-(2 ^ 62) ≤ m ∧ m < 2 ^ 62 ∧ -(2 ^ 62) ≤ n ∧ n < 2 ^ 62 ∧ (n - m).toNat ≤ 2 ^ 24) (seqD tp (rgl m n))
  | .rng1 a, ρ => (evE a ρ).bind fun x => (intOf x).bind fun n => grd (-(2 ^ 62) ≤ n ∧ n < 2 ^ 62) (.lst ((List.range n.toNat).map fun i => .int (i : Nat)))
  | .rng2 a b, ρ => (evE a ρ).bind fun x => (intOf x).bind fun m => (evE b ρ).bind fun y => (intOf y).bind fun n =>
      grd (-(2 ^ 62) ≤ m ∧ m < 2 ^ 62 ∧ -(2 ^ 62) ≤ n ∧ n < 2 ^ 62) (.lst ((List.range (n - m).toNat).map fun i => .int (m + (i : Nat))))
  | .rng3 a b c, ρ => (evE a ρ).bind fun x => (intOf x).bind fun m => (evE b ρ).bind fun y => (intOf y).bind fun n => (evE c ρ).bind fun z => (intOf z).bind fun k =>
      grd (-(2 ^ 62) ≤ m ∧ m < 2 ^ 62 ∧ -(2 ^ 62) ≤ n ∧ n < 2 ^ 62 ∧ k = -1) (.lst ((List.range (m - n).toNat).map fun i => .int (m - (i : Nat))))
  | .enum a, ρ => (evE a ρ).bind fun x => (itemsD x).map fun xs => .lst (enumF 0 xs)
  | .zip a b, ρ => (evE a ρ).bind fun x => (evE b ρ).bind fun y => (zipD x y).map .lst
  | .rvd a, ρ => (evE a ρ).bind fun x => (itemsD x).map fun xs => .lst xs.reverse
  | .cmb a r, ρ => (evE a ρ).bind fun x => (intOf x).bind fun n => (evE r ρ).bind fun y => (intOf y).bind fun k => grd (0 ≤ n ∧ n ≤ 8 ∧ 0 ≤ k ∧ k ≤ 8) (.lst ((cmbs k.toNat (List.range n.toNat)).map numT))
  | .prm a, ρ => (evE a ρ).bind fun x => (intOf x).bind fun n => grd (0 ≤ n ∧ n ≤ 5) (.lst ((prms n.toNat (List.range n.toNat)).map numT))
  | .gcd a b, ρ => (evE a ρ).bind fun x => (intOf x).bind fun i => (evE b ρ).bind fun y => (intOf y).map fun j => .int ((Nat.gcd i.natAbs j.natAbs : Nat) : Int)
def evEs : List CE → Rho → Option (List D)
  | [], _ => some []
  | e :: es, ρ => (evE e ρ).bind fun d => (evEs es ρ).map fun ds => d :: ds
/-- a comprehension's tests: none or one -/
def evT : List CE → Rho → Option Bool
  | [], _ => some true
  | c :: _, ρ => (evE c ρ).bind truth
end
end

/-! ### statements -/
/-- a slot: a datum that nobody changes any more, or a list of the def's own -/
inductive Sl where
  | sh (d : D)
  | own (l : List D)
abbrev RhoS := List (Option Sl)
def Sl.d : Sl → D
  | .sh d => d
  | .own l => .lst l
def snapS (ρ : RhoS) : Rho := ρ.map (Option.map Sl.d)
/-- the shared slots, and those of fz -/
def hide (fz : List Nat) : Nat → RhoS → Rho
  | _, [] => []
  | n, some (.own l) :: r => (if fz.contains n = true then some (.lst l) else none) :: hide fz (n + 1) r
  | n, some (.sh d) :: r => some d :: hide fz (n + 1) r
  | n, none :: r => none :: hide fz (n + 1) r
/-- the slots of fz are shared from now on -/
def frzS (fz : List Nat) : Nat → RhoS → RhoS
  | _, [] => []
  | n, some (.own l) :: r => (if fz.contains n = true then some (.sh (.lst l)) else some (.own l)) :: frzS fz (n + 1) r
  | n, some (.sh d) :: r => some (.sh d) :: frzS fz (n + 1) r
  | n, none :: r => none :: frzS fz (n + 1) r
/-- how a value is taken: b, without lists in it; a fz, with them: own lists but those of fz are not seen, and those of fz are shared then -/
inductive Md where
  | b
  | a (fz : List Nat)
def visM : Md → RhoS → Rho
  | .b, ρ => snapS ρ
  | .a fz, ρ => hide fz 0 ρ
def aftM : Md → RhoS → RhoS
  | .b, ρ => ρ
  | .a fz, ρ => frzS fz 0 ρ
def okM : Md → D → Bool
  | .b, d => d.flat
  | .a _, _ => true
/-- the forms whose list is a new one -/
def freshB : CE → Bool
  | .bin _ _ _ => true
  | .slc _ _ _ => true
  | .rev _ => true
  | .lst _ => true
  | .lc _ _ _ _ _ => true
  | .lc2 _ _ _ _ _ _ _ _ _ => true
  | .bi b _ => b == .list || b == .sorted
  | .rgv1 tp _ => !tp
  | .rgv2 tp _ _ => !tp
  | .ssor _ => true
  | _ => false
def isLst : D → Bool
  | .lst _ => true
  | _ => false
/-- nothing that may still change is walked -/
def safeI : CE → D → Bool
  | .rng1 _, _ => true
  | .rng2 _ _, _ => true
  | .rng3 _ _ _, _ => true
  | .enum _, _ => false
  | .zip _ _, _ => false
  | .rvd _, _ => false
  | .cmb _ _, _ => true
  | .prm _, _ => true
  | c, d => freshB c || !isLst d
def okI (m : Md) (it : CE) (d : D) (xs : List D) : Bool := match m with
  | .b => flats xs && safeI it d
  | .a _ => true
inductive CS where
  | set (m : Md) (i : Nat) (e : CE)
  | own (i : Nat) (e : CE)
  | put (m : Md) (t : Tg) (e : CE)
  | par (i j : Nat) (a b : CE)
  | app (m : Md) (i : Nat) (e : CE)
  | appF (i : Nat) (e : CE)
  | sti (m : Md) (i : Nat) (k e : CE)
  | aug (i : Nat) (o : BO) (e : CE)
  | popS (i j : Nat)
  | popA (i : Nat) (o : BO) (j : Nat)
  | ifs (c : CE) (a b : List CS)
  | loop (m : Md) (t : Tg) (it : CE) (b : List CS)
  | whl (n : Nat) (c : CE) (b : List CS)
  | ret (e : CE)
  | retN
  | brk
  | cnt
  | pas
inductive Res where
  | nx (ρ : RhoS)
  | br (ρ : RhoS)
  | ct (ρ : RhoS)
  | rt (d : D)
def putS (ρ : RhoS) (bs : List (Nat × D)) : RhoS := bs.foldl (fun ρ p => ρ.set p.1 (some (.sh p.2))) ρ
/-- the next statement -/
def thenR (r : Res) (f : RhoS → Option Res) : Option Res := match r with
  | .nx ρ => f ρ
  | .br ρ => some (.br ρ)
  | .ct ρ => some (.ct ρ)
  | .rt d => some (.rt d)
/-- the next turn -/
def turnR (r : Res) (f : RhoS → Option Res) : Option Res := match r with
  | .nx ρ => f ρ
  | .ct ρ => f ρ
  | .br ρ => some (.nx ρ)
  | .rt d => some (.rt d)
def forL (f : D → RhoS → Option Res) : List D → RhoS → Option Res
  | [], ρ => some (.nx ρ)
  | x :: xs, ρ => (f x ρ).bind fun r => turnR r (forL f xs)
def whileL (c : RhoS → Option Bool) (f : RhoS → Option Res) : Nat → RhoS → Option Res
  | 0, _ => none
  | n + 1, ρ => (c ρ).bind fun k => if k = true then (f ρ).bind fun r => turnR r (whileL c f n) else some (.nx ρ)
def ownOf (ρ : RhoS) (i : Nat) : Option (List D) := match ρ[i]? with
  | some (some (.own l)) => some l
  | _ => none
def shOf (ρ : RhoS) (i : Nat) : Option D := match ρ[i]? with
  | some (some (.sh d)) => some d
  | _ => none
def lstOf : D → Option (List D)
  | .lst l => some l
  | _ => none
def augD : BO → D → D → Option D
  | .add, .int i, .int j => some (.int (i + j))
  | .sub, .int i, .int j => some (.int (i - j))
  | _, _, _ => none
section
variable (cl : Nat → List D → Option D)
mutual
def exS : CS → RhoS → Option Res
  | .set m i e, ρ => (evE cl e (visM m ρ)).bind fun d => grd (okM m d = true) (.nx ((aftM m ρ).set i (some (.sh d))))
  | .own i e, ρ => (evE cl e (snapS ρ)).bind fun d => (lstOf d).bind fun l => grd (flats l = true ∧ freshB e = true) (.nx (ρ.set i (some (.own l))))
  | .put m t e, ρ => (evE cl e (visM m ρ)).bind fun d => if okM m d = true then (t.binds d).map fun bs => .nx (putS (aftM m ρ) bs) else none
  | .par i j a b, ρ => (evE cl a (snapS ρ)).bind fun x => (evE cl b (snapS ρ)).bind fun y => grd (x.flat = true ∧ y.flat = true) (.nx ((ρ.set i (some (.sh x))).set j (some (.sh y))))
  | .app m i e, ρ => (evE cl e (visM m ρ)).bind fun d => (ownOf (aftM m ρ) i).bind fun l => grd (okM m d = true ∧ l.length < sizeLine) (.nx ((aftM m ρ).set i (some (.own (l ++ [d])))))
  | .appF i e, ρ => (evE cl e (snapS ρ)).bind fun d => (lstOf d).bind fun l' => (ownOf ρ i).bind fun l => grd (flats l' = true ∧ freshB e = true ∧ l.length < sizeLine) (.nx (ρ.set i (some (.own (l ++ [.lst l'])))))
  | .sti m i k e, ρ => (evE cl e (visM m ρ)).bind fun d => (ownOf (aftM m ρ) i).bind fun l => ((evE cl k (snapS (aftM m ρ))).bind intOf).bind fun z => (L2.ixN l.length z).bind fun j =>
      grd (okM m d = true) (.nx ((aftM m ρ).set i (some (.own (l.set j d)))))
  | .aug i o e, ρ => (shOf ρ i).bind fun x => (evE cl e (snapS ρ)).bind fun y => (augD o x y).map fun z => .nx (ρ.set i (some (.sh z)))
  | .popS i j, ρ => (ownOf ρ j).bind fun l => l.getLast?.map fun y => .nx ((ρ.set j (some (.own l.dropLast))).set i (some (.sh y)))
  | .popA i o j, ρ => (shOf ρ i).bind fun x => (ownOf ρ j).bind fun l => l.getLast?.bind fun y => (augD o x y).map fun z => .nx ((ρ.set j (some (.own l.dropLast))).set i (some (.sh z)))
  | .ifs c a b, ρ => (evE cl c (snapS ρ)).bind fun x => (truth x).bind fun k => if k = true then exSs a ρ else exSs b ρ
  | .loop m t it b, ρ => (evE cl it (visM m ρ)).bind fun d => (iterD d).bind fun xs => if okI m it d xs = true then
      forL (fun x ρ => (t.binds x).bind fun bs => exSs b (putS ρ bs)) xs (aftM m ρ) else none
  | .whl n c b, ρ => whileL (fun ρ => (evE cl c (snapS ρ)).bind truth) (exSs b) n ρ
  | .ret e, ρ => (evE cl e (snapS ρ)).map .rt
  | .retN, _ => some (.rt .non)
  | .brk, ρ => some (.br ρ)
  | .cnt, ρ => some (.ct ρ)
  | .pas, ρ => some (.nx ρ)
def exSs : List CS → RhoS → Option Res
  | [], ρ => some (.nx ρ)
  | c :: cs, ρ => (exS c ρ).bind fun r => thenR r (exSs cs)
end
end
/-- a def: how many parameters, how many slots, its body -/
structure Fd where
  np : Nat
  nn : Nat
  body : List CS
def endR : Res → Option D
  | .nx _ => some .non
  | .rt d => some d
  | _ => none
def startS (F : Fd) (ds : List D) : RhoS := ds.map (fun d => some (.sh d)) ++ List.replicate (F.nn - F.np) none
def runF (cl : Nat → List D → Option D) (F : Fd) (ds : List D) : Option D := if ds.length = F.np then (exSs cl F.body (startS F ds)).bind endR else none
/-- calls at most n deep -/
def callN (fns : List Fd) : Nat → Nat → List D → Option D
  | 0, _, _ => none
  | n + 1, f, ds => (fns[f]?).bind fun F => runF (callN fns n) F ds
end Dl
set_option Elab.async false
set_option linter.all false
set_option maxRecDepth 100000
set_option maxHeartbeats 4000000
/-! What stands in the heap for a datum. -/
namespace Dl
open PySem PySem.Spec PyProof.Rows L2

/-- never written while it is tracked -/
def stab : HO → Bool
  | .tup _ => true
  | .frz _ _ => true
  | _ => false
/-- a list that may be locked, or stands in the written part -/
def SqG (K : PySem.W.Frag) (G : Addr → Prop) (H : Hp) (a : Addr) (xs : List V) : Prop :=
  (G a ∧ Rd H a (.lst xs)) ∨ ∃ (o : Obj) (its : Array Value) (n : Nat), K.lookup a = some o ∧ o.cls = .type "list" ∧ o.dict = none ∧ o.data = .seq its n ∧ its.size ≤ sizeLine ∧ Vals xs its.toList
theorem SqG.sql {K : PySem.W.Frag} {G : Addr → Prop} {H : Hp} {a : Addr} {xs : List V} (h : SqG K G H a xs) : SqL K H a xs := h.imp (fun z => z.2) id
theorem SqG.of {K : PySem.W.Frag} {G : Addr → Prop} {H : Hp} {a : Addr} {xs : List V} (g : G a) (h : SqL K H a xs) : SqG K G H a xs := h.imp (fun z => ⟨g, z⟩) id
section
variable (K : PySem.W.Frag) (G : Addr → Prop) (H : Hp)
mutual
def Rep : D → V → Prop
  | .non, v => v = .non
  | .bl b, v => v = .bl b
  | .int i, v => v = .int i
  | .str s, v => v = .str s
  | .tup l, v => ∃ a vs, v = .ref a ∧ SqT K H a vs ∧ Reps l vs
  | .lst l, v => ∃ a vs, v = .ref a ∧ G a ∧ H a = some (.lst vs) ∧ Reps l vs
  | .scr l, v => ∃ a, v = .ref a ∧ SqG K G H a (l.map V.int)
def Reps : List D → List V → Prop
  | [], vs => vs = []
  | d :: ds, vs => ∃ v r, vs = v :: r ∧ Rep d v ∧ Reps ds r
end
end
def isTb : HO → Bool
  | .tbl _ => true
  | _ => false
/-- o', where o stood: the same, or a table that has grown -/
def Nx (o : HO) (o' : Option HO) : Prop := o' = some o ∨ ∃ ps ps' : Array Value, o = .tbl ps ∧ o' = some (.tbl ps') ∧ (TriplesOk ps.toList → TriplesOk ps'.toList)
theorem Nx.eq {o : HO} {o' : Option HO} (h : Nx o o') (n : isTb o = false) : o' = some o := by
  rcases h with h | ⟨ps, ps', rfl, _⟩
  · exact h
  · cases n
theorem Nx.some {o : HO} {o' : Option HO} (h : Nx o o') : o' ≠ none := by
  rcases h with h | ⟨ps, ps', rfl, h, _⟩ <;> rw [h] <;> exact fun z => nomatch z
theorem Nx.trans {o : HO} {f : Option HO} {g : Option HO} (h : Nx o f) (k : ∀ u, f = Option.some u → Nx u g) : Nx o g := by
  rcases h with h | ⟨ps, ps', rfl, h, t⟩
  · exact k _ h
  · rcases k _ h with e | ⟨qs, qs', e, e2, t2⟩
    · exact .inr ⟨ps, ps', rfl, e, t⟩
    · cases e
      exact .inr ⟨ps, qs', rfl, e2, fun z => t2 (t z)⟩
/-- all that was tracked stands; tables may have grown -/
def Same (H H' : Hp) : Prop := ∀ a o, H a = some o → Nx o (H' a)
theorem Same.refl (H : Hp) : Same H H := fun _ _ h => .inl h
theorem Same.trans {H H1 H2 : Hp} (a : Same H H1) (b : Same H1 H2) : Same H H2 := fun c o h => (a c o h).trans fun u e => b c u e
theorem Same.free {H H' : Hp} (e : Same H H') {l : Addr} (h : H' l = Option.none) : H l = Option.none := by
  cases q : H l with
  | none => rfl
  | some o => exact absurd h (e l o q).some
theorem Same.at {H H' : Hp} (e : Same H H') {a : Addr} {o : HO} (h : H a = some o) (n : isTb o = false) : H' a = some o := (e a o h).eq n
theorem Same.lst {H H' : Hp} (e : Same H H') {a : Addr} {l : List V} (h : H a = some (.lst l)) : H' a = some (.lst l) := e.at h rfl
theorem Same.of {H H' : Hp} (e : L2.Same H H') : Same H H' := fun a o h => .inl (e a o h)
/-- the table of a def of K -/
def IsTab (K : PySem.W.Frag) (P : Addr) : Prop := ∃ (f : Addr) (oc : Value) (od : Option Addr) (fd : FuncData) (sl : Array (Option Value)) (c : Addr), K.lookup f = some ⟨oc, od, .func fd, sl⟩ ∧ fd.code = .ref c ∧ P = He.tabOf K c
/-- .. stand -/
def TbsOk (K : PySem.W.Frag) (H : Hp) : Prop := ∀ P, IsTab K P → GxR.TabG H P
theorem TbsOk.same {K : PySem.W.Frag} {H H' : Hp} (t : TbsOk K H) (s : Same H H') : TbsOk K H' := fun P h => by
  obtain ⟨ps, e, k⟩ := t P h
  rcases s P _ e with z | ⟨qs, qs', z, z2, z3⟩
  · exact ⟨ps, z, k⟩
  · cases z
    exact ⟨qs', z2, z3 k⟩
def Keep (P : Addr → Prop) (H H' : Hp) : Prop := ∀ a o, H a = some o → (stab o = true ∨ (P a ∧ isTb o = false)) → H' a = some o
theorem stab_tb {o : HO} (h : stab o = true) : isTb o = false := by cases o <;> first | rfl | cases h
def Gx (G : Addr → Prop) (H : Hp) : Addr → Prop := fun a => G a ∨ H a = none
theorem Keep.same {P : Addr → Prop} {H H' : Hp} (s : Same H H') : Keep P H H' := fun a o h q => s.at h (q.elim stab_tb fun z => z.2)
theorem Keep.refl {P : Addr → Prop} {H : Hp} : Keep P H H := fun _ _ h _ => h
theorem Keep.trans {P : Addr → Prop} {H H1 H2 : Hp} (a : Keep P H H1) (b : Keep P H1 H2) : Keep P H H2 := fun c o h q => b c o (a c o h q) q
theorem Keep.mono {P P' : Addr → Prop} {H H' : Hp} (h : ∀ a, P' a → P a) (k : Keep P H H') : Keep P' H H' := fun a o e q => k a o e (q.imp id fun z => ⟨h a z.1, z.2⟩)
theorem Gx.same {G : Addr → Prop} {H H1 : Hp} (s : Same H H1) {a : Addr} (h : Gx (Gx G H) H1 a) : Gx G H a := by
  rcases h with h | h
  · exact h
  · exact .inr (s.free h)
theorem sqT_keep {K : PySem.W.Frag} {P : Addr → Prop} {H H' : Hp} {a : Addr} {xs : List V} (k : Keep P H H') (h : SqT K H a xs) : SqT K H' a xs := by
  rcases h with (h | ⟨o, h⟩) | h
  · exact .inl (.inl (k _ _ h (.inl rfl)))
  · exact .inl (.inr ⟨o, k _ _ h (.inl rfl)⟩)
  · exact .inr h
theorem sqG_keep {K : PySem.W.Frag} {P : Addr → Prop} {H H' : Hp} {a : Addr} {xs : List V} (k : Keep P H H') (h : SqG K P H a xs) : SqG K P H' a xs := by
  rcases h with ⟨p, h | ⟨o, h⟩⟩ | h
  · exact .inl ⟨p, .inl (k _ _ h (.inr ⟨p, rfl⟩))⟩
  · exact .inl ⟨p, .inr ⟨o, k _ _ h (.inl rfl)⟩⟩
  · exact .inr h
theorem SqG.mono {K : PySem.W.Frag} {G G' : Addr → Prop} {H : Hp} {a : Addr} {xs : List V} (m : ∀ a, G a → H a ≠ none → G' a) (h : SqG K G H a xs) : SqG K G' H a xs := by
  rcases h with ⟨p, h | ⟨o, h⟩⟩ | h
  · exact .inl ⟨m a p (by rw [h]; exact fun z => nomatch z), .inl h⟩
  · exact .inl ⟨m a p (by rw [h]; exact fun z => nomatch z), .inr ⟨o, h⟩⟩
  · exact .inr h
section
variable {K : PySem.W.Frag} {G G' : Addr → Prop} {H H' : Hp}
mutual
theorem Rep.keep (k : Keep G H H') : ∀ {d : D} {v : V}, Rep K G H d v → Rep K G H' d v
  | .non, _, h => h
  | .bl _, _, h => h
  | .int _, _, h => h
  | .str _, _, h => h
  | .tup l, _, h => by
    obtain ⟨a, vs, e, s, r⟩ := h
    exact ⟨a, vs, e, sqT_keep k s, Reps.keep k r⟩
  | .lst l, _, h => by
    obtain ⟨a, vs, e, g, s, r⟩ := h
    exact ⟨a, vs, e, g, k _ _ s (.inr ⟨g, rfl⟩), Reps.keep k r⟩
  | .scr l, _, h => by
    obtain ⟨a, e, s⟩ := h
    exact ⟨a, e, sqG_keep k s⟩
theorem Reps.keep (k : Keep G H H') : ∀ {ds : List D} {vs : List V}, Reps K G H ds vs → Reps K G H' ds vs
  | [], _, h => h
  | d :: ds, _, h => by
    obtain ⟨v, r, e, h1, h2⟩ := h
    exact ⟨v, r, e, Rep.keep k h1, Reps.keep k h2⟩
end
mutual
theorem Rep.monoT (m : ∀ a, G a → H a ≠ none → G' a) : ∀ {d : D} {v : V}, Rep K G H d v → Rep K G' H d v
  | .non, _, h => h
  | .bl _, _, h => h
  | .int _, _, h => h
  | .str _, _, h => h
  | .tup l, _, h => by
    obtain ⟨a, vs, e, s, r⟩ := h
    exact ⟨a, vs, e, s, Reps.monoT m r⟩
  | .lst l, _, h => by
    obtain ⟨a, vs, e, g, s, r⟩ := h
    exact ⟨a, vs, e, m _ g (by rw [s]; exact fun z => nomatch z), s, Reps.monoT m r⟩
  | .scr l, _, h => by
    obtain ⟨a, e, s⟩ := h
    exact ⟨a, e, s.mono m⟩
theorem Reps.monoT (m : ∀ a, G a → H a ≠ none → G' a) : ∀ {ds : List D} {vs : List V}, Reps K G H ds vs → Reps K G' H ds vs
  | [], _, h => h
  | d :: ds, _, h => by
    obtain ⟨v, r, e, h1, h2⟩ := h
    exact ⟨v, r, e, Rep.monoT m h1, Reps.monoT m h2⟩
end
theorem Rep.mono (m : ∀ a, G a → G' a) {d : D} {v : V} (h : Rep K G H d v) : Rep K G' H d v := h.monoT fun a g _ => m a g
theorem Reps.mono (m : ∀ a, G a → G' a) {d : List D} {v : List V} (h : Reps K G H d v) : Reps K G' H d v := h.monoT fun a g _ => m a g
mutual
theorem Rep.flat : ∀ {d : D} {v : V}, d.flat = true → Rep K G H d v → Rep K G' H d v
  | .non, _, _, h => h
  | .bl _, _, _, h => h
  | .int _, _, _, h => h
  | .str _, _, _, h => h
  | .tup l, _, f, h => by
    obtain ⟨a, vs, e, s, r⟩ := h
    exact ⟨a, vs, e, s, Reps.flat (by simpa [D.flat] using f) r⟩
  | .lst l, _, f, h => by simp [D.flat] at f
  | .scr l, _, f, h => by simp [D.flat] at f
theorem Reps.flat : ∀ {ds : List D} {vs : List V}, flats ds = true → Reps K G H ds vs → Reps K G' H ds vs
  | [], _, _, h => h
  | d :: ds, _, f, h => by
    obtain ⟨v, r, e, h1, h2⟩ := h
    simp only [flats, Bool.and_eq_true] at f
    exact ⟨v, r, e, Rep.flat f.1 h1, Reps.flat f.2 h2⟩
end
theorem Reps.length : ∀ {ds : List D} {vs : List V}, Reps K G H ds vs → ds.length = vs.length
  | [], _, h => by subst h; rfl
  | d :: ds, _, h => by
    obtain ⟨v, r, e, h1, h2⟩ := h
    subst e
    simp [Reps.length h2]
theorem Reps.get : ∀ {ds : List D} {vs : List V} {i : Nat} {d : D}, Reps K G H ds vs → ds[i]? = some d → ∃ v, vs[i]? = some v ∧ Rep K G H d v
  | [], _, _, _, h, e => by simp at e
  | d :: ds, _, 0, _, h, e => by
    obtain ⟨v, r, q, h1, h2⟩ := h
    subst q
    simp at e; subst e
    exact ⟨v, rfl, h1⟩
  | d :: ds, _, i + 1, _, h, e => by
    obtain ⟨v, r, q, h1, h2⟩ := h
    subst q
    obtain ⟨w, q1, q2⟩ := Reps.get h2 (show ds[i]? = _ by simpa using e)
    exact ⟨w, by simpa using q1, q2⟩
theorem Reps.get' : ∀ {ds : List D} {vs : List V} {i : Nat} {v : V}, Reps K G H ds vs → vs[i]? = some v → ∃ d, ds[i]? = some d ∧ Rep K G H d v
  | [], _, _, _, h, e => by subst h; simp at e
  | d :: ds, _, 0, _, h, e => by
    obtain ⟨v, r, q, h1, h2⟩ := h
    subst q
    simp at e; subst e
    exact ⟨d, rfl, h1⟩
  | d :: ds, _, i + 1, _, h, e => by
    obtain ⟨v, r, q, h1, h2⟩ := h
    subst q
    obtain ⟨w, q1, q2⟩ := Reps.get' h2 (show r[i]? = _ by simpa using e)
    exact ⟨w, by simpa using q1, q2⟩
theorem Reps.append : ∀ {ds es : List D} {vs us : List V}, Reps K G H ds vs → Reps K G H es us → Reps K G H (ds ++ es) (vs ++ us)
  | [], _, _, _, h, q => by subst h; exact q
  | d :: ds, _, _, _, h, q => by
    obtain ⟨v, r, e, h1, h2⟩ := h
    subst e
    exact ⟨v, _, rfl, h1, Reps.append h2 q⟩
theorem Reps.one {d : D} {v : V} (h : Rep K G H d v) : Reps K G H [d] [v] := ⟨v, [], rfl, h, rfl⟩
theorem Reps.take : ∀ {ds : List D} {vs : List V} (n : Nat), Reps K G H ds vs → Reps K G H (ds.take n) (vs.take n)
  | _, _, 0, _ => by simp [Reps]
  | [], _, n + 1, h => by subst h; simp [Reps]
  | d :: ds, _, n + 1, h => by
    obtain ⟨v, r, e, h1, h2⟩ := h
    subst e
    exact ⟨v, _, rfl, h1, Reps.take n h2⟩
theorem Reps.drop : ∀ {ds : List D} {vs : List V} (n : Nat), Reps K G H ds vs → Reps K G H (ds.drop n) (vs.drop n)
  | _, _, 0, h => by simpa using h
  | [], _, n + 1, h => by subst h; simp [Reps]
  | d :: ds, _, n + 1, h => by
    obtain ⟨v, r, e, h1, h2⟩ := h
    subst e
    exact Reps.drop n h2
theorem Reps.set : ∀ {ds : List D} {vs : List V} {d : D} {v : V} (n : Nat), Reps K G H ds vs → Rep K G H d v → Reps K G H (ds.set n d) (vs.set n v)
  | [], _, _, _, _, h, _ => by subst h; simp [Reps]
  | d :: ds, _, _, _, 0, h, q => by
    obtain ⟨v, r, e, h1, h2⟩ := h
    subst e
    exact ⟨_, _, rfl, q, h2⟩
  | d :: ds, _, _, _, n + 1, h, q => by
    obtain ⟨v, r, e, h1, h2⟩ := h
    subst e
    exact ⟨v, _, rfl, h1, Reps.set n h2 q⟩
theorem Reps.cut {ds : List D} {vs : List V} (lo hi : Option Int) (h : Reps K G H ds vs) : Reps K G H (cutL ds lo hi) (cutV vs lo hi) := by
  unfold cutL cutV
  rw [h.length]
  exact (h.drop _).take _
theorem Reps.rep {ds : List D} {vs : List V} (h : Reps K G H ds vs) : ∀ n : Nat, Reps K G H (List.replicate n ds).flatten (List.replicate n vs).flatten
  | 0 => by simp [Reps]
  | n + 1 => by
    rw [List.replicate_succ, List.replicate_succ, List.flatten_cons, List.flatten_cons]
    exact h.append (h.rep n)
theorem Reps.ints : ∀ {ds : List D} {vs : List V} {ns : List Int}, Reps K G H ds vs → intsOf ds = some ns → vs = ns.map V.int
  | [], _, _, h, e => by
    subst h
    simp [allOf] at e
    subst e; rfl
  | d :: ds, _, ns, h, e => by
    obtain ⟨v, r, q, h1, h2⟩ := h
    subst q
    cases d <;> simp [allOf, intOf] at e
    rename_i i
    obtain ⟨xs, e1, e2⟩ := e
    subst e2
    have : v = .int i := h1
    subst this
    rw [Reps.ints h2 e1]; rfl
theorem Reps.bls : ∀ {ds : List D} {vs : List V} {ns : List Bool}, Reps K G H ds vs → blsOf ds = some ns → vs = ns.map V.bl
  | [], _, _, h, e => by
    subst h
    simp [allOf] at e
    subst e; rfl
  | d :: ds, _, ns, h, e => by
    obtain ⟨v, r, q, h1, h2⟩ := h
    subst q
    cases d <;> simp [allOf, blOf] at e
    rename_i i
    obtain ⟨xs, e1, e2⟩ := e
    subst e2
    have : v = .bl i := h1
    subst this
    rw [Reps.bls h2 e1]; rfl
theorem Reps.ofInts : ∀ (ns : List Int), Reps K G H (ns.map D.int) (ns.map V.int)
  | [] => rfl
  | n :: ns => ⟨.int n, _, rfl, rfl, Reps.ofInts ns⟩
theorem dpAll_ints (K : PySem.W.Frag) (H : Hp) : ∀ ns : List Int, DpAll K H (ns.map V.int) (ns.map PyData.int)
  | [] => .nil
  | n :: ns => .cons (.int n) (dpAll_ints K H ns)
mutual
theorem Rep.dp : ∀ {d : D} {v : V}, Rep K G H d v → Dp K H v d.py
  | .non, _, h => by cases h; exact .non
  | .bl b, _, h => by cases h; exact .bl b
  | .int i, _, h => by cases h; exact .int i
  | .str s, _, h => by cases h; exact .str s
  | .tup l, _, h => by
    obtain ⟨a, vs, e, s, r⟩ := h
    subst e
    exact .tup s (Reps.dp r)
  | .lst l, _, h => by
    obtain ⟨a, vs, e, g, s, r⟩ := h
    subst e
    exact .lst (SqL.of s) (Reps.dp r)
  | .scr l, _, h => by
    obtain ⟨a, e, s⟩ := h
    subst e
    exact .lst s.sql (dpAll_ints K H l)
theorem Reps.dp : ∀ {ds : List D} {vs : List V}, Reps K G H ds vs → DpAll K H vs (pys ds)
  | [], _, h => by subst h; exact .nil
  | d :: ds, _, h => by
    obtain ⟨v, r, e, h1, h2⟩ := h
    subst e
    exact .cons (Rep.dp h1) (Reps.dp h2)
end
end

/-! ### slots -/
structure EnvR (K : PySem.W.Frag) (G : Addr → Prop) (H : Hp) (σ : L2.St) (ρ : Rho) : Prop where
  p1 : σ.length = ρ.length
  p2 : ∀ (i : Nat) (d : D), ρ[i]? = some (some d) → ∃ v, σ[i]? = some (some v) ∧ Rep K G H d v
  tb : TbsOk K H
theorem EnvR.keep {K : PySem.W.Frag} {G : Addr → Prop} {H H' : Hp} {σ : L2.St} {ρ : Rho} (e : EnvR K G H σ ρ) (k : Keep G H H') (t : TbsOk K H') : EnvR K G H' σ ρ :=
  ⟨e.p1, fun i d h => let ⟨v, a, b⟩ := e.p2 i d h; ⟨v, a, b.keep k⟩, t⟩
theorem EnvR.sm {K : PySem.W.Frag} {G : Addr → Prop} {H H' : Hp} {σ : L2.St} {ρ : Rho} (e : EnvR K G H σ ρ) (s : Same H H') : EnvR K G H' σ ρ := e.keep (Keep.same s) (e.tb.same s)
theorem EnvR.mono {K : PySem.W.Frag} {G G' : Addr → Prop} {H : Hp} {σ : L2.St} {ρ : Rho} (e : EnvR K G H σ ρ) (m : ∀ a, G a → G' a) : EnvR K G' H σ ρ :=
  ⟨e.p1, fun i d h => let ⟨v, a, b⟩ := e.p2 i d h; ⟨v, a, b.mono m⟩, e.tb⟩
theorem EnvR.step {K : PySem.W.Frag} {G : Addr → Prop} {H H' : Hp} {σ : L2.St} {ρ : Rho} (e : EnvR K G H σ ρ) (s : Same H H') : EnvR K (Gx G H) H' σ ρ :=
  (e.sm s).mono fun _ h => .inl h

/-- a new list -/
def Frs (d : D) (v : V) (H : Hp) : Prop := ∀ l, d = .lst l → ∀ a, v = .ref a → H a = none
/-- what is known of an expression's value -/
def Out (K : PySem.W.Frag) (G : Addr → Prop) (H : Hp) (fr : Bool) (d : D) (Q : VK) : Prop :=
  ∀ v H', Same H H' → Rep K (Gx G H) H' d v → (fr = true → Frs d v H) → Q v H'
def tD (K : PySem.W.Frag) (fr : Bool) (f : Rho → Option D) : TE := fun σ H Q => ∃ G ρ d, EnvR K G H σ ρ ∧ f ρ = some d ∧ Out K G H fr d Q
def tB (K : PySem.W.Frag) (f : Rho → Option Bool) : TT := fun σ H Q => ∃ G ρ b, EnvR K G H σ ρ ∧ f ρ = some b ∧ ∀ H', Same H H' → Q b H'
def tDs (K : PySem.W.Frag) (f : Rho → Option (List D)) : TA := fun σ H Q => ∃ G ρ ds, EnvR K G H σ ρ ∧ f ρ = some ds ∧ ∀ vs H', Same H H' → Reps K (Gx G H) H' ds vs → Q vs H'

theorem _root_.L2.PE.imp {X : Cx} {e : Expr} {t t' : TE} (h : PE X e t) (i : ∀ σ H Q, t' σ H Q → t σ H Q) : PE X e t' := ⟨fun pins s σ H Q I q => h.run pins s σ H Q I (i σ H Q q)⟩
theorem _root_.L2.PT.imp {X : Cx} {e : Expr} {t t' : TT} (h : PT X e t) (i : ∀ σ H Q, t' σ H Q → t σ H Q) : PT X e t' := ⟨fun pins s σ H Q I q => h.run pins s σ H Q I (i σ H Q q)⟩
theorem _root_.L2.PW.imp {X : Cx} {e : Expr} {t t' : TT} (h : PW X e t) (i : ∀ σ H Q, t' σ H Q → t σ H Q) : PW X e t' := ⟨fun w pins s σ H Q I q => h.run w pins s σ H Q I (i σ H Q q)⟩
theorem _root_.L2.PA.imp {X : Cx} {e : List Expr} {t t' : TA} (h : PA X e t) (i : ∀ σ H Q, t' σ H Q → t σ H Q) : PA X e t' := ⟨fun p pins s σ H Q I q => h.run p pins s σ H Q I (i σ H Q q)⟩
theorem _root_.L2.PS.imp {X : Cx} {e : Stmt} {t t' : TS} (h : PS X e t) (i : ∀ D σ H, t' D σ H → t D σ H) : PS X e t' := ⟨fun pins s σ H D I q => h.run pins s σ H D I (i D σ H q)⟩
theorem _root_.L2.PSs.imp {X : Cx} {e : List Stmt} {t t' : TS} (h : PSs X e t) (i : ∀ D σ H, t' D σ H → t D σ H) : PSs X e t' := ⟨fun pins s σ H D I q => h.run pins s σ H D I (i D σ H q)⟩
theorem _root_.L2.PI.imp {X : Cx} {tg e : Expr} {t t' : TI} (h : PI X tg e t) (i : ∀ σ H R, t' σ H R → t σ H R) : PI X tg e t' := ⟨fun pins s σ H R I q => h.run pins s σ H R I (i σ H R q)⟩
theorem _root_.L2.PI.or {X : Cx} {tg e : Expr} {t t' : TI} (h : PI X tg e t) (h' : PI X tg e t') : PI X tg e (fun σ H R => t σ H R ∨ t' σ H R) := ⟨fun pins s σ H R I q => q.elim (h.run pins s σ H R I) (h'.run pins s σ H R I)⟩
theorem _root_.L2.PE.or {X : Cx} {e : Expr} {t t' : TE} (h : PE X e t) (h' : PE X e t') : PE X e (fun σ H R => t σ H R ∨ t' σ H R) := ⟨fun pins s σ H R I q => q.elim (h.run pins s σ H R I) (h'.run pins s σ H R I)⟩

section
variable {K : PySem.W.Frag} {G : Addr → Prop} {H H1 H2 : Hp} {fr : Bool} {d : D} {Q : VK} {σ : L2.St} {ρ : Rho}
/-- behind a step the wish is a wish from the later heap -/
theorem Out.from_ (o : Out K G H fr d Q) (s : Same H H1) : Out K (Gx G H) H1 fr d Q := fun v H' s' r f =>
  o v H' (s.trans s') (r.mono fun _ h => Gx.same s h) fun e l hl a ha => s.free (f e l hl a ha)
theorem out_here (o : Out K G H fr d Q) {v : V} (r : Rep K G H d v) (f : fr = true → Frs d v H) : Q v H := o v H (Same.refl H) (r.mono fun _ h => .inl h) f
/-- one part -/
theorem tD_un {f : Rho → Option D} {fa : Bool} {Q1 : VK} (e : EnvR K G H σ ρ) {x : D} (hx : f ρ = some x)
    (k : ∀ v H1, Same H H1 → Rep K (Gx G H) H1 x v → EnvR K (Gx G H) H1 σ ρ → (fa = true → Frs x v H) → Q1 v H1) : tD K fa f σ H Q1 :=
  ⟨G, ρ, x, e, hx, fun v H1 s r fr => k v H1 s r (e.step s) fr⟩
theorem tDs_un {f : Rho → Option (List D)} {Q1 : List V → Hp → Prop} (e : EnvR K G H σ ρ) {x : List D} (hx : f ρ = some x)
    (k : ∀ v H1, Same H H1 → Reps K (Gx G H) H1 x v → EnvR K (Gx G H) H1 σ ρ → Q1 v H1) : tDs K f σ H Q1 :=
  ⟨G, ρ, x, e, hx, fun v H1 s r => k v H1 s r (e.step s)⟩
/-- a binary operation by values -/
def OpD (K : PySem.W.Frag) (fr : Bool) (r : R2) (op : D → D → Option D) : Prop := ∀ (G : Addr → Prop) (H : Hp) (x y : V) (dx dy dz : D) (Q : VK), Rep K G H dx x → Rep K G H dy y → op dx dy = some dz → Out K G H fr dz Q → r x y H Q
theorem tD_bin {fa fb : Bool} {f g : Rho → Option D} {r : R2} {op : D → D → Option D} (ho : OpD K fr r op)
    (h : tD K fr (fun ρ => (f ρ).bind fun x => (g ρ).bind fun y => op x y) σ H Q) : tOp r (tD K fa f) (tD K fb g) σ H Q := by
  obtain ⟨G, ρ, d, e, hd, o⟩ := h
  obtain ⟨x, hx, hd⟩ := Option.bind_eq_some_iff.mp hd
  obtain ⟨y, hy, hd⟩ := Option.bind_eq_some_iff.mp hd
  refine tD_un e hx fun v H1 s1 r1 e1 _ => tD_un e1 hy fun w H2 s2 r2 e2 _ => ?_
  refine ho (Gx (Gx G H) H1) H2 v w x y d Q ((r1.keep (Keep.same s2)).mono fun _ h => .inl h) r2 hd ?_
  exact (o.from_ s1).from_ s2
/-- a unary one -/
theorem tD_un1 {fa : Bool} {f : Rho → Option D} {r : V → Hp → VK → Prop} {op : D → Option D}
    (ho : ∀ (G : Addr → Prop) (H : Hp) (x : V) (dx dz : D) (Q : VK), Rep K G H dx x → op dx = some dz → Out K G H fr dz Q → r x H Q)
    (h : tD K fr (fun ρ => (f ρ).bind op) σ H Q) : tUn r (tD K fa f) σ H Q := by
  obtain ⟨G, ρ, d, e, hd, o⟩ := h
  obtain ⟨x, hx, hd⟩ := Option.bind_eq_some_iff.mp hd
  exact tD_un e hx fun v H1 s1 r1 e1 _ => ho (Gx G H) H1 v x d Q r1 hd (o.from_ s1)
end
theorem grd_some {α : Type} {c : Prop} [Decidable c] {x y : α} (h : grd c x = some y) : c ∧ x = y := by
  unfold grd at h
  split at h
  · exact ⟨by assumption, Option.some.inj h⟩
  · cases h
end Dl
set_option Elab.async false
set_option linter.all false
set_option maxRecDepth 100000
set_option maxHeartbeats 4000000
/-! A tuple times none, times one. -/
namespace Dl
open PySem PySem.Spec PyProof.Rows L2
/-- .. with the ways that «mul» goes for a count below two -/
theorem tup_mul1 (l : Addr) (items : Array Value) (n : Nat) (dd : Option Addr) (sl : Array (Option Value)) (x : Int) (u : Tok) (c0 : (decide (x < -(2 ^ 63)) || decide (x ≥ 2 ^ 63)) = false) (c1 : (items.isEmpty || x == 1) = true) :
    Meets (Builtin.«tuple.__mul__» ⟨[.ref l, .int x u], []⟩) (fun _ R s => s.heap.get? l = some { cls := .type "tuple", dict := dd, data := .seq items n, slots := sl } ∧ R (.ok (.ret (Value.ref l))) s) :=
  .of_wp fun prog w A R s h => by
    obtain ⟨hp, g, d, tk, os⟩ := s
    obtain ⟨hl, h⟩ := h
    have f1 := AutoSeq1.idx_int
    wp_walk using wpAny_loadPart' hl
    repeat (first
      | (refine wpAny_ite_false (decide_eq_false (by rw [c0]; exact Bool.false_ne_true)) ?_; wp_walk using wpAny_loadPart' hl)
      | (refine wpAny_ite_true (decide_eq_true c1) ?_; wp_walk using wpAny_loadPart' hl))
    exact ⟨_, rfl, h⟩
theorem tup_mul0 (l : Addr) (items : Array Value) (n : Nat) (dd : Option Addr) (sl : Array (Option Value)) (x : Int) (u : Tok) (c0 : (decide (x < -(2 ^ 63)) || decide (x ≥ 2 ^ 63)) = false) (c1 : (items.isEmpty || x == 1) = false) (c2 : (decide (x ≤ 0) || items.isEmpty) = true) :
    Meets (Builtin.«tuple.__mul__» ⟨[.ref l, .int x u], []⟩) (fun _ R s => s.heap.get? l = some { cls := .type "tuple", dict := dd, data := .seq items n, slots := sl } ∧
      R (.ok (.ret (Value.ref s.heap.objs.size))) { s with heap := s.heap.push { cls := Value.type "tuple", data := Data.seq #[] }, toks := s.toks }) :=
  .of_wp fun prog w A R s h => by
    obtain ⟨hp, g, d, tk, os⟩ := s
    obtain ⟨hl, h⟩ := h
    have f1 := AutoSeq1.idx_int
    wp_walk using wpAny_loadPart' hl
    repeat (first
      | (refine wpAny_ite_false (decide_eq_false (by rw [c0]; exact Bool.false_ne_true)) ?_; wp_walk using wpAny_loadPart' hl)
      | (refine wpAny_ite_false (decide_eq_false (by rw [c1]; exact Bool.false_ne_true)) ?_; wp_walk using wpAny_loadPart' hl)
      | (refine wpAny_ite_true (decide_eq_true c2) ?_; wp_walk using wpAny_loadPart' hl))
    exact ⟨_, rfl, h⟩
def rTupMul (K : PySem.W.Frag) : R2 := fun x y H Q => ∃ l k xs, x = .ref l ∧ y = .int k ∧ SqT K H l xs ∧ xs ≠ [] ∧ -1000 ≤ k ∧ k ≤ 1000 ∧ xs.length ≤ 1000 ∧ (k = 1 → Q (.ref l) H) ∧ (k ≠ 1 → ∀ p, H p = none → Q (.ref p) (upd H p (.tup (List.replicate k.toNat xs).flatten)))
theorem op_tupMul {X : Cx} : OpR X (binaryOp .Mult) (rTupMul X.K) := by
  intro pins s σ H x y v u Q I rx ry h
  obtain ⟨l, k, xs, rfl, rfl, hT, hne, h1, h2, hz, q1, q⟩ := h
  by_cases hk2 : 2 ≤ k
  · exact op_repT pins s σ H _ _ v u Q I rx ry ⟨l, k, xs, rfl, rfl, hT, hne, hk2, h2, hz, q (by omega)⟩
  cases rx
  obtain ⟨t, rfl⟩ := ry
  obtain ⟨its, r, ⟨⟨cls, dd, data, sl⟩, ho, hc, n, hd⟩, hs⟩ := I.tuple hT
  simp only at hc hd
  subst hc hd
  have hle : its.length = xs.length := r.length.symm
  have hn : its ≠ [] := fun e => hne (by
    rw [e] at hle
    exact List.eq_nil_of_length_eq_zero hle.symm)
  have hi : its.toArray.isEmpty = false := by
    cases its with
    | nil => exact absurd rfl hn
    | cons a b => rfl
  have c0 : (decide (k < -(2 ^ 63)) || decide (k ≥ 2 ^ 63)) = false := by
    rw [decide_eq_false (by omega), decide_eq_false (by omega)] <;> rfl
  by_cases hk1 : k = 1
  · have c1 : (its.toArray.isEmpty || k == 1) = true := by rw [hk1]; simp
    refine wpAny_binaryOp_repeat_ref (T := "tuple") (U := "int") (by decide) ⟨_, ho, rfl⟩ (fun s' => typeIs_int s' k t) noFill_tuple_mul F.fills_int_mul F.slot_int_rmul repeat_tuple F.slot_int_index.lookup
      (call_meets F.slot_int_rmul (typeIs_int s k t) F.entry_int_rmul (F.args_int_rmul_2 _ _) (int_rmul_tuple k t l its.toArray n dd sl)
        ⟨ho, rfl, ⟨_, ho, rfl⟩, call_meets F.slot_tuple_mul ⟨_, ho, rfl⟩ F.entry_tuple_mul (F.args_tuple_mul_2 _ _) (tup_mul1 l its.toArray n dd sl k t c0 c1) ⟨ho, ?_⟩⟩)
    exact ⟨.ref l, H, I, rfl, q1 hk1⟩
  · have c1 : (its.toArray.isEmpty || k == 1) = false := by
      rw [hi, Bool.false_or]
      exact beq_eq_false_iff_ne.mpr hk1
    have c2 : (decide (k ≤ 0) || its.toArray.isEmpty) = true := by
      rw [decide_eq_true (by omega)]; rfl
    refine wpAny_binaryOp_repeat_ref (T := "tuple") (U := "int") (by decide) ⟨_, ho, rfl⟩ (fun s' => typeIs_int s' k t) noFill_tuple_mul F.fills_int_mul F.slot_int_rmul repeat_tuple F.slot_int_index.lookup
      (call_meets F.slot_int_rmul (typeIs_int s k t) F.entry_int_rmul (F.args_int_rmul_2 _ _) (int_rmul_tuple k t l its.toArray n dd sl)
        ⟨ho, rfl, ⟨_, ho, rfl⟩, call_meets F.slot_tuple_mul ⟨_, ho, rfl⟩ F.entry_tuple_mul (F.args_tuple_mul_2 _ _) (tup_mul0 l its.toArray n dd sl k t c0 c1 c2) ⟨ho, ?_⟩⟩)
    have ek : k.toNat = 0 := by omega
    rw [ek] at q
    refine ⟨.ref s.heap.objs.size, _, I.laid (t' := s.toks) (o := .tup []) (fun b ob q => Heap.get?_push_of_some _ q) (Nat.le_refl _) ?_, rfl, q hk1 _ (I.hok.fresh (Nat.le_refl _))⟩
    exact ⟨by rw [sizeLine_eq]; exact Nat.zero_le _, [], .nil, IsTup.new _ _⟩
end Dl
set_option Elab.async false
set_option linter.all false
set_option maxRecDepth 100000
set_option maxHeartbeats 4000000
/-! A tuple, a list turned round: t[::-1]. -/
namespace HT
open PySem PySem.Spec PyProof.Rows L2
section
variable {prog : Program} {w : World} {A : Around} {E : Value → Shared → Prop} {s : Shared}
theorem places_rev (n : Nat) : Builtin.Slice.slicePlaces ((n : Int) - 1) (-1) (-1) = n := by
  unfold Builtin.Slice.slicePlaces
  have h1 : ¬ ((-1 : Int) > 0) := by omega
  rw [if_neg h1]
  by_cases h : n = 0
  · subst h; decide
  · rw [if_pos (by omega)]
    have e : ((n : Int) - 1 - -1 - 1) / (- -1) = (n : Int) - 1 := by
      rw [show (- -1 : Int) = 1 from rfl, Int.ediv_one]
      omega
    rw [e]
    omega
theorem sliceApplied_rev {sl : Addr} {u : Tok} {n : Nat} {Q : Int × Int × Nat → Shared → Prop} (hs : s.heap.IsSliceOf sl .none .none (.int (-1) u))
    (h : Q ((n : Int) - 1, -1, n) s) : wpAny (model prog w) A (Builtin.Slice.sliceApplied (.ref sl) (pure (n : Int))) Q E s := by
  obtain ⟨os, hos, hcs, hds⟩ := id hs
  unfold Builtin.Slice.sliceApplied Builtin.Slice.sliceFields
  refine wpAny_bind (wpAny_bind (wpAny_field hos hds (x := .none) rfl (wpAny_bind (wpAny_field hos hds (x := .none) rfl (wpAny_bind (wpAny_field hos hds (x := .int (-1) u) rfl (wpAny_pure ?_)))))))
  refine wpAny_bind (slicePart_int ?_)
  show wpAny _ _ (if ((-1 : Int) == 0) = true then _ else _) _ _ s
  rw [if_neg (by decide)]
  refine wpAny_bind (slicePart_none (wpAny_bind (slicePart_none (wpAny_bind (wpAny_pure ?_)))))
  show wpAny _ _ (pure ((n : Int) - 1, (-1 : Int), Builtin.Slice.slicePlaces ((n : Int) - 1) (-1) (-1))) _ _ s
  rw [places_rev]
  exact wpAny_pure h
theorem fm_congr {α β : Type} {f g : α → Option β} : ∀ {l : List α}, (∀ x ∈ l, f x = g x) → l.filterMap f = l.filterMap g
  | [], _ => rfl
  | x :: l, h => by
    rw [List.filterMap_cons, List.filterMap_cons, h x (List.mem_cons_self ..), fm_congr fun y hy => h y (List.mem_cons_of_mem _ hy)]
theorem pick_rev (xs : Array Value) : ((List.range xs.size).filterMap fun (m : Nat) => xs[(((xs.size : Nat) : Int) - 1 + (m : Int) * -1).toNat]?).toArray = xs.toList.reverse.toArray := by
  congr 1
  have e : (List.range xs.size).filterMap (fun (m : Nat) => xs[(((xs.size : Nat) : Int) - 1 + (m : Int) * -1).toNat]?) = (List.range xs.size).filterMap (fun m => xs.toList.reverse[m]?) := by
    apply fm_congr
    intro m hm
    have hm : m < xs.size := by simpa using hm
    rw [List.getElem?_reverse (by simpa using hm), Array.getElem?_toList]
    congr 1
    simp
    omega
  rw [e]
  have l : xs.size = xs.toList.reverse.length := by simp
  rw [l]
  apply List.ext_getElem?
  intro i
  have : (List.range xs.toList.reverse.length).filterMap (fun m => xs.toList.reverse[m]?) = xs.toList.reverse := by
    generalize xs.toList.reverse = L
    induction L with
    | nil => rfl
    | cons a L ih =>
      rw [List.length_cons, List.range_succ_eq_map, List.filterMap_cons]
      simp only [List.getElem?_cons_zero, List.filterMap_map]
      congr 1
  rw [this]
theorem getItem_tuple_rev {t sl : Addr} {items : Array Value} {u : Tok} {Q : Value → Shared → Prop} (ht : IsTup s.heap t items) (hs : s.heap.IsSliceOf sl .none .none (.int (-1) u))
    (h : Q (.ref s.heap.objs.size) { s with heap := s.heap.push { cls := .type "tuple", data := .seq items.toList.reverse.toArray } })
    (hsz : items.size ≤ sizeLine) : wpAny (model prog w) A (getItem (.ref t) (.ref sl)) Q E s := by
  have htake : sizeOk (.seq items.toList.reverse.toArray) := by
    show items.toList.reverse.toArray.size ≤ sizeLine
    rw [List.size_toArray, List.length_reverse, Array.length_toList]
    exact hsz
  obtain ⟨os, hos, hcs, hds⟩ := id hs
  have hTs : s.TypeIs (.ref sl) "slice" := ⟨os, hos, hcs⟩
  unfold getItem
  try with_reducible refine wpAny_holding ?_
  first | refine wpAny_bind (wpAny_pure ?_) | skip
  refine wpAny_bind (wpAny_sequenceKey ht.typeIs (by decide) ?_)
  refine wpAny_bind (wpAny_callSpecial?_slot (name := Str.ofString "__getitem__") ht.typeIs PyProof.Rows.slot_tuple_getitem
    (wpAny_call_entry PyProof.Rows.slot_tuple_getitem ht.typeIs entry_tuple_getitem ?_ (args_tuple_getitem _ _)))
  show wpAny _ _ (Builtin.Tuple.tupleItemsOf (.ref t) >>= _) _ _ s
  refine wpAny_bind (tupleItemsOf_ ht ?_)
  refine wpAny_bind (wpAny_typeOf hTs ?_)
  rw [if_pos (by decide)]
  refine wpAny_bind (sliceApplied_rev hs ?_)
  have hno : ¬ ((((items.size : Nat) : Int) - 1 == 0 && (-1 : Int) == 1 && items.size == items.size) = true) := by
    intro q
    rw [Bool.and_eq_true, Bool.and_eq_true] at q
    exact absurd q.1.2 (by decide)
  show wpAny _ _ (if (((items.size : Nat) : Int) - 1 == 0 && (-1 : Int) == 1 && items.size == items.size) = true then _ else _) _ _ s
  rw [if_neg hno, pick_rev]
  first
    | exact wpAny_bind (m := Builtin.Tuple.tupleExact _) (wpAny_newObj_type (wpAny_pure ⟨_, rfl, wpAny_pure h⟩) htake)
    | exact wpAny_bind (m := Builtin.Tuple.tupleExact _) (wpAny_newObj_type (wpAny_bind (wpAny_pure (wpAny_pure ⟨_, rfl, wpAny_pure h⟩))) htake)
    | exact wpAny_bind (wpAny_bind (m := Builtin.Tuple.tupleExact _) (wpAny_newObj_type (wpAny_pure (wpAny_pure ⟨_, rfl, wpAny_pure h⟩)) htake))
    | exact wpAny_bind (wpAny_bind (m := Builtin.Tuple.tupleExact _) (wpAny_newObj_type (wpAny_pure ⟨_, rfl, wpAny_pure h⟩) htake))
end
end HT
namespace Dl
open PySem PySem.Spec PyProof.Rows L2
section
variable {X : Cx}
/-- what is turned round -/
def tRevD (K : PySem.W.Frag) (te : TE) : TE := fun σ H Q => te σ H fun x H1 => ∃ a xs, x = .ref a ∧ ((SqT K H1 a xs ∧ ∀ p, H1 p = none → Q (.ref p) (upd H1 p (.tup xs.reverse))) ∨ (SqL K H1 a xs ∧ ∀ p, H1 p = none → Q (.ref p) (upd H1 p (.lst xs.reverse))))
theorem pe_revD {e : Expr} {te : TE} {k : Nat} {p1 p2 p3 pos : Pos} (he : PE X e te) : PE X (.Subscript e (.Slice none none (some (.UnaryOp .USub (.Constant (.int 1) k p1) p2)) p3) pos) (tRevD X.K te) := by
  refine ⟨fun pins s σ H Q I h => ?_⟩
  refine Subscript_ (thn (he.run pins s σ H _ I h) fun v s1 ⟨x, H1, I1, r1, q1⟩ => ?_)
  obtain ⟨a, xs, ex, q⟩ := q1
  subst ex
  cases r1
  have hst : PO X (some (.UnaryOp .USub (.Constant (.int 1) k p1) p2)) (tPart (tUn (rU fun i => .int (-i)) (tC (.int 1)))) := po_some (pe_un un_neg pe_int)
  refine wpAny_Slice (thn (po_none.run pins s1 σ H1 (fun o H2 => o = none ∧ H2 = H1) I1 ⟨rfl, rfl⟩) fun vl s2 ⟨l, H2, I2, pl, el, e2⟩ => ?_)
  subst el e2
  refine thn (po_none.run pins s2 σ H2 (fun o H3 => o = none ∧ H3 = H2) I2 ⟨rfl, rfl⟩) fun vu s3 ⟨u, H3, I3, pu, eu, e3⟩ => ?_
  subst eu e3
  refine thn (hst.run pins s3 σ H3 (fun o H4 => o = some (-1) ∧ H4 = H3) I3 ⟨1, rfl, -1, rfl, rfl, rfl⟩) fun vs s4 ⟨o, H4, I4, ps, eo, e4⟩ => ?_
  subst eo e4
  have I5 : Inv X pins σ H4 { s4 with heap := s4.heap.push { cls := .type "slice", data := .fields #[vl, vu, vs] } } := I4.kept (t' := s4.toks) fun b ob q => Heap.get?_push_of_some _ q
  show wpAny (model X.prog X.w) X.A (subscriptTail e (.Slice none none (some (.UnaryOp .USub (.Constant (.int 1) k p1) p2)) p3) (.ref a) (.ref s4.heap.objs.size)) (EP X pins σ Q) X.xe { s4 with heap := s4.heap.push { cls := .type "slice", data := .fields #[vl, vu, vs] } }
  rcases q with ⟨hx, q⟩ | ⟨hx, q⟩
  · obtain ⟨its, r, ht, hz⟩ := I5.tuple hx
    have hlen := r.length
    cases pl
    cases pu
    cases ps with
    | int _ t =>
      refine tail_any (ops := [.ref a, .ref s4.heap.objs.size]) ht.typeIs (PyProof.Rows.slot_tuple_getitem.lookup) ?_ (by with_unfolding_all rfl)
      refine HT.getItem_tuple_rev ht (Heap.IsSliceOf.new _ _ _ _) ?_ (by rw [List.size_toArray]; omega)
      refine ⟨.ref _, _, I5.laid (t' := s4.toks) (o := .tup xs.reverse) (fun b ob q => Heap.get?_push_of_some _ q) (Nat.le_refl _) ?_, rfl, q _ (I5.hok.fresh (Nat.le_refl _))⟩
      exact ⟨by rw [List.length_reverse]; omega, _, r.reverse, IsTup.new _ _⟩
  · obtain ⟨its, r, ht, hz⟩ := I5.list hx
    have hlen := r.length
    refine tail_any (ops := [.ref a, .ref s4.heap.objs.size]) ht.isList.typeIs (PySem.slot_list_getitem.lookup) ?_ (by with_unfolding_all rfl)
    refine wpAny_getItem_list_slice ht.isList (Heap.IsSliceOf.new _ vl vu vs) pl pu ps (by decide) ?_ (by rw [List.size_toArray]; omega)
    rw [PySem.W.krv_pick]
    refine ⟨.ref _, _, I5.laid (t' := s4.toks) (o := .lst xs.reverse) (fun b ob q => Heap.get?_push_of_some _ q) (Nat.le_refl _) ?_, rfl, q _ (I5.hok.fresh (Nat.le_refl _))⟩
    exact ⟨by rw [List.length_reverse]; exact hz, _, 0, r.reverse, Heap.get?_push_size _ rfl⟩
end
end Dl
set_option Elab.async false
set_option linter.all false
set_option maxRecDepth 100000
set_option maxHeartbeats 4000000
/-! all, any of a generator: the consumer's side. -/
namespace Dl
open PySem PySem.Spec PyProof.Rows L2
/-- what a yielded truth must bring: Qs when it ends the walk (stop: the truth that ends it), else the way on -/
def YTr (a : Addr) (g : Nat) (stop : Bool) (Qs : Shared → Prop) : Protocol := fun m s₀ v s kap => ∃ b : Bool, v = .bool b ∧ s.heap.IsGen a g ∧ s.heap.NoLimit ∧ AllBare s.gens ∧
  (b = stop → ∀ gens', AllBare gens' → Qs { s with gens := gens' }) ∧ (b = !stop → ∀ gens', AllBare gens' → kap (.send .none) { s with gens := gens' })
/-- .. and the end -/
def PEn (Qe : Shared → Prop) : Nat → Shared → Shared → Prop := fun n s₀ s => AllBare s.gens ∧ ∀ h' gens', AllBare gens' → (∀ b o, s.heap.get? b = some o → h'.get? b = some o) → Qe { s with gens := gens', heap := h' }
abbrev REn (Qe : Shared → Prop) : GenEnd := fun n s₀ r s => r = .ok .next ∧ PEn Qe n s₀ s
section
variable {prog : Program} {w : World} {A : Around}
theorem allBare_set {s : Shared} {g : Nat} {x : GenState} (h : AllBare s.gens) (hx : x.bare = true) : AllBare (s.setGen g x).gens := by
  intro y hy
  obtain ⟨i, hi, rfl⟩ := Array.mem_iff_getElem.mp hy
  simp only [Shared.setGen, Array.size_setIfInBounds] at hi
  by_cases e : g = i
  · subst e
    simp only [Shared.setGen]
    rw [Array.getElem_setIfInBounds_self]
    exact hx
  · simp only [Shared.setGen]
    rw [Array.getElem_setIfInBounds_ne _ (h := e)]
    · exact h _ (Array.getElem_mem hi)
    · exact hi
theorem setGen_at {s : Shared} {g : Nat} {x : GenState} (h : g < s.gens.size) : (s.setGen g x).gens[g]? = some x := by
  simp [Shared.setGen, h]
/-- a walk of all's or any's loop (nm) over the generator at a; stop: the truth that ends it -/
theorem loop_gen {nm : String} {stop : Bool} {Rf : Result → Shared → Prop} (hh : A.handled = none) (hroom : A.in1.depth < recursionLimit) {a : Addr} {g : Nat} {Qs Qe : Shared → Prop}
    (turn : ∀ s, wpAny (model prog w) A.in1 (pyNext (.ref a)) (fun o s' => match o with
      | none => Qe s'
      | some v => ∃ b : Bool, v = .bool b ∧ (b = stop → Qs s') ∧ (b = !stop → codeAny (model prog w) A (.builtin nm ⟨[.ref a], []⟩) Rf s')) (fun _ _ => False) s → codeAny (model prog w) A (.builtin nm ⟨[.ref a], []⟩) Rf s) :
    ∀ (n : Nat) (s : Shared) (gs : GenState), s.heap.IsGen a g → s.heap.NoLimit → AllBare s.gens → s.gens[g]? = some gs →
      gs.Goes (model prog w) A.in1.in1 (REn Qe) (YTr a g stop Qs) n (.send .none) (s.setGen g .running) → codeAny (model prog w) A (.builtin nm ⟨[.ref a], []⟩) Rf s := by
  intro n
  induction n with
  | zero =>
    intro s gs hg hl hb hgs hgo
    refine turn s (wpAny_pyNext_genexpQ (P := PEn Qe) hh hl hroom hg hgs hgo (fun v s₁ gs' hb' hv => ?_) (fun s₁ hp h' hk => ?_))
    · obtain ⟨b, rfl, h1, h2, h3, h4, h5⟩ := hv
      refine ⟨b, rfl, fun e => h4 e _ (allBare_set h3 hb'), fun e => (h5 e _ h3).elim⟩
    · exact hp.2 h' _ (allBare_set hp.1 rfl) hk
  | succ n ih =>
    intro s gs hg hl hb hgs hgo
    have hlt : g < s.gens.size := by
      rcases Nat.lt_or_ge g s.gens.size with h | h
      · exact h
      · rw [Array.getElem?_eq_none h] at hgs; cases hgs
    refine turn s (GenW.wpAny_gsz (n := g + 1) hlt (wpAny_pyNext_genexpQ (P := PEn Qe) hh hl hroom hg hgs hgo (fun v s₁ gs' hb' hv => ?_) (fun s₁ hp h' hk => ?_)))
    · intro hsz
      obtain ⟨b, rfl, h1, h2, h3, h4, h5⟩ := hv
      have hsz' : g < s₁.gens.size := by rw [GenW.setGen_size] at hsz; exact hsz
      refine ⟨b, rfl, fun e => h4 e _ (allBare_set h3 hb'), fun e => ?_⟩
      have b2 := allBare_set (g := g) h3 hb'
      refine ih _ gs' h1 h2 b2 (setGen_at hsz') ?_
      have := h5 e _ (allBare_set (s := s₁.setGen g gs') (g := g) (x := .running) b2 rfl)
      exact this
    · intro _
      exact hp.2 h' _ (allBare_set hp.1 rfl) hk
theorem all_gen (hh : A.handled = none) (hroom : A.in1.depth < recursionLimit) {a : Addr} {g : Nat} {Qs Qe : Shared → Prop} {Rf : Result → Shared → Prop}
    (hs : ∀ s, Qs s → Rf (.ok (.ret (.bool false))) s) (he : ∀ s, Qe s → Rf (.ok (.ret (.bool true))) s) {n : Nat} {s : Shared} {gs : GenState} (hg : s.heap.IsGen a g) (hl : s.heap.NoLimit) (hb : AllBare s.gens) (hgs : s.gens[g]? = some gs)
    (hgo : gs.Goes (model prog w) A.in1.in1 (REn Qe) (YTr a g false Qs) n (.send .none) (s.setGen g .running)) : codeAny (model prog w) A (.builtin "all.loop" ⟨[.ref a], []⟩) Rf s := by
  refine loop_gen hh hroom (fun s h => ?_) n s gs hg hl hb hgs hgo
  refine codeAny_builtin F.entry_all_loop ?_
  rw [Around.under_plainId F.plain_all_loop _]
  show wpAny _ A.in1 (pyNext (.ref a) >>= _) _ _ s
  refine wpAny_bind (wpAny_mono h (fun o s' ho => ?_) fun _ _ z => z.elim)
  cases o with
  | none => exact wpAny_bind (wpAny_rule (wpAny_pure (he _ ho)))
  | some v =>
    obtain ⟨b, rfl, h1, h2⟩ := ho
    refine wpAny_bind (wpAny_holding (wpAny_truthy_bool ?_))
    refine wpAny_bind (wpAny_letGo ?_)
    cases b with
    | true =>
      simp only [if_true]
      exact wpAny_pure ⟨plainId_quiet F.plain_all_loop _, h2 rfl⟩
    | false =>
      simp only [Bool.false_eq_true, if_false]
      exact wpAny_bind (wpAny_rule (wpAny_pure (hs _ (h1 rfl))))
theorem any_gen (hh : A.handled = none) (hroom : A.in1.depth < recursionLimit) {a : Addr} {g : Nat} {Qs Qe : Shared → Prop} {Rf : Result → Shared → Prop}
    (hs : ∀ s, Qs s → Rf (.ok (.ret (.bool true))) s) (he : ∀ s, Qe s → Rf (.ok (.ret (.bool false))) s) {n : Nat} {s : Shared} {gs : GenState} (hg : s.heap.IsGen a g) (hl : s.heap.NoLimit) (hb : AllBare s.gens) (hgs : s.gens[g]? = some gs)
    (hgo : gs.Goes (model prog w) A.in1.in1 (REn Qe) (YTr a g true Qs) n (.send .none) (s.setGen g .running)) : codeAny (model prog w) A (.builtin "any.loop" ⟨[.ref a], []⟩) Rf s := by
  refine loop_gen hh hroom (fun s h => ?_) n s gs hg hl hb hgs hgo
  refine codeAny_builtin F.entry_any_loop ?_
  rw [Around.under_plainId F.plain_any_loop _]
  show wpAny _ A.in1 (pyNext (.ref a) >>= _) _ _ s
  refine wpAny_bind (wpAny_mono h (fun o s' ho => ?_) fun _ _ z => z.elim)
  cases o with
  | none => exact wpAny_bind (wpAny_rule (wpAny_pure (he _ ho)))
  | some v =>
    obtain ⟨b, rfl, h1, h2⟩ := ho
    refine wpAny_bind (wpAny_holding (wpAny_truthy_bool ?_))
    refine wpAny_bind (wpAny_letGo ?_)
    cases b with
    | false =>
      simp only [Bool.false_eq_true, if_false]
      exact wpAny_pure ⟨plainId_quiet F.plain_any_loop _, h2 rfl⟩
    | true =>
      simp only [if_true]
      exact wpAny_bind (wpAny_rule (wpAny_pure (hs _ (h1 rfl))))
end
end Dl
set_option Elab.async false
set_option linter.all false
set_option maxRecDepth 100000
set_option maxHeartbeats 4000000
/-! A generator's frame: the context of its body. -/
namespace Dl
open PySem PySem.Spec PyProof.Rows L2
abbrev genC (X : Cx) (s : Shared) (H : Hp) (scope : Scope) (cenv : Env) (fp : List Addr) (A' : Around) : Cx := { X.blk s H scope cenv fp with A := A', stack := cenv :: X.stack }
section
variable {X : Cx} {pins : List (Addr × Obj)} {σ : L2.St} {H : Hp} {s : Shared}
theorem gen_start {scope : Scope} {own : List (Str × Nat)} {fp : List Addr} {cenv : Env} {code : Value} {A' : Around} {s' : Shared} {m : Str → Option Value} {ps : List (Addr × Obj)} (I : Inv X pins σ H s) (ok : BlkOk X.N X.env.scope scope own) (hN : X.N.Nodup) (hfp : ∀ b ∈ fp, FpOk X pins H b ∧ b < s.heap.objs.size)
    (hnc : ∀ y ∈ scope.names, y.2 ≠ .cell) (hce : cenv = genEnv scope (cloFrom X.env.cells scope.names []) s.heap.objs.size code builtinsNs X.env) (hA1 : A'.handled = none) (hA2 : A'.frames = some (cenv :: X.stack))
    (kp : ∀ b o, s.heap.get? b = some o → s'.heap.get? b = some o) (hn : s'.heap.Ns s.heap.objs.size m) (hos : s'.os = s.os) (hb : AllBare s'.gens)
    (hps : ∀ p ∈ ps, s'.heap.get? p.1 = some p.2 ∧ s.heap.objs.size < p.1 ∧ ∀ v, p.2.data ≠ .cell v) :
    Inv (genC X s H scope cenv fp A') ps (wipe σ (own.map (·.2))) H s' := by
  have hfree : ∀ y ∈ scope.names, y.2 = .free → ∃ c, X.env.cells.lookup y.1 = some c := fun y hy e => by
    rcases ok.free y hy e with k | k
    · exact I.ok.has _ (.inl k)
    · exact I.ok.has _ (.inr k)
  have hL : cenv.locals = s.heap.objs.size := by rw [hce]; rfl
  have hcl : cenv.cells = cloFrom X.env.cells scope.names [] := by rw [hce]; rfl
  have hsc : cenv.scope = scope := by rw [hce]; rfl
  have cm : ∀ {y c}, (y, c) ∈ cloFrom X.env.cells scope.names [] → X.env.cells.lookup y = some c ∧ c < s.heap.objs.size := fun {y c} hm => by
    rcases cloFrom_mem hm with hm | ⟨h1, rfl⟩
    · cases hm
    · obtain ⟨c, hc⟩ := hfree _ h1 rfl
      rw [hc]
      obtain ⟨w, z⟩ := I.cell _ _ hc
      exact ⟨rfl, z.lt⟩
  have mem : ∀ {y c}, cenv.cells.lookup y = some c → X.env.cells.lookup y = some c ∧ c < s.heap.objs.size := fun {y c} e => by
    rw [hcl] at e
    exact cm (PySem.mem_of_lookup e)
  have look : ∀ {y}, scope.names.lookup y = some .free → ∃ c, cenv.cells.lookup y = some c ∧ X.env.cells.lookup y = some c := fun {y} hl => by
    have hy : (y, NameKind.free) ∈ scope.names := PySem.mem_of_lookup hl
    obtain ⟨c', e'⟩ := mem_lookup (cloFrom_has (cells := X.env.cells) (acc := []) hy)
    rw [← hcl] at e'
    exact ⟨c', e', (mem e').1⟩
  have okB : (genC X s H scope cenv fp A').Ok := by
    refine ⟨I.ok.mod, by show cenv.scope.kind = _; rw [hsc]; exact ok.kind, by show cenv.globals = _; rw [hce]; exact I.ok.glob, by show cenv.builtins = _; rw [hce]; rfl, by show s.heap.objs.size ≤ cenv.locals; rw [hL]; exact Nat.le_refl _,
      fun y z c e1 e2 => I.ok.inj y z c (mem e1).1 (mem e2).1, fun y hy => ?_, fun y c z e => ?_, fun _ => hA1, hA2, .inr ⟨rfl, by show cenv.frame = some cenv.locals; rw [hce]; rfl⟩, fun b hb => ⟨?_, fun y c e z => ?_⟩, I.bs, Nat.le_trans I.ok.bsz I.sz, fun b o e hb => ?_, fun b hb z => ?_, I.stack, I.stkFree⟩
    · have key : ∀ k, cenv.kindOf y = some k → (k = .cell ∨ k = .free) → ∃ c, cenv.cells.lookup y = some c := fun k hk hk' => by
        unfold Env.kindOf at hk
        rw [hsc] at hk
        rcases hk' with rfl | rfl
        · exact absurd rfl (hnc _ (PySem.mem_of_lookup hk))
        · obtain ⟨c, h1, _⟩ := look hk
          exact ⟨c, h1⟩
      rcases hy with hy | hy
      · exact key _ hy (.inl rfl)
      · exact key _ hy (.inr rfl)
    · have z : (scope.names.lookup y == some NameKind.cell) = true := z
      have z : scope.names.lookup y = some .cell := by simpa using z
      exact absurd rfl (hnc _ (PySem.mem_of_lookup z))
    · show b ≠ cenv.locals
      rw [hL]; exact Nat.ne_of_lt (hfp b hb).2
    · exact (hfp b hb).1.2.2.2.2.1 y c (mem e).1 z
    · rcases (hfp b hb).1.2.2.2.1 with z | z
      · exact I.ok.noex b o e z
      · exact absurd (Nat.lt_of_lt_of_le (Heap.lt_size e) (Nat.le_trans I.ok.bsz z)) (Nat.lt_irrefl _)
    · rcases List.mem_cons.mp (I.stkSub b z) with z | z
      · exact (hfp b hb).1.2.1 z
      · exact (hfp b hb).1.2.2.1 z
  have nH : ∀ {b}, s.heap.objs.size ≤ b → H b = none := fun hb => I.hok.fresh hb
  refine ⟨okB, hos, hb, Un.kept kp, ⟨m, by show Heap.Ns _ cenv.locals _; rw [hL]; exact hn, fun i y av e1 e2 e3 => ?_⟩, fun y c e => ?_, ?_, fun y c e => ?_, fun p hp => ?_, I.hok.kept kp, by rw [wipe_length]; exact I.len⟩
  · obtain ⟨e2, hne⟩ := wipe_some e2
    have hfr : scope.names.lookup y = some .free ∧ (cenv.kindOf y = some .cell ∨ cenv.kindOf y = some .free) := by
      have e3 : Vis cenv.scope y := e3
      rw [hsc] at e3
      have no : ∀ k', scope.names.lookup y = some k' → ¬ (k' = .local ∨ k' = .cell) := fun k' e hh => by
        rcases ok.own _ (PySem.mem_of_lookup e) hh with e' | e'
        · obtain ⟨p, hp, hpy⟩ := List.mem_map.mp e'
          have e3 := ok.ix p hp
          have : p.1 = y := hpy
          rw [this] at e3
          exact hne (List.mem_map.mpr ⟨p, hp, nodup_ix hN e3 e1⟩)
        · exact e' (List.mem_of_getElem? e1)
      rcases e3 with e3 | e3 | e3
      · exact absurd (.inl rfl) (no _ e3)
      · exact absurd (.inr rfl) (no _ e3)
      · exact ⟨e3, .inr (by unfold Env.kindOf; rw [hsc]; exact e3)⟩
    obtain ⟨m0, hn0, hl⟩ := I.loc
    have hvis : Vis X.env.scope y := (ok.free _ (PySem.mem_of_lookup hfr.1) rfl).elim (fun k => .inr (.inl k)) (fun k => .inr (.inr k))
    obtain ⟨w, r, q⟩ := hl i y av e1 e2 hvis
    refine ⟨w, r, .inr ⟨hfr.2, ?_⟩⟩
    obtain ⟨c, h1, h2⟩ := look hfr.1
    rcases q with ⟨k, _⟩ | ⟨_, c', e', z⟩
    · have k : X.env.scope.names.lookup y = some .local := k
      rcases ok.free _ (PySem.mem_of_lookup hfr.1) rfl with k' | k' <;> rw [show X.env.scope.names.lookup y = _ from k'] at k <;> cases k
    · rw [h2] at e'; cases e'
      exact ⟨c, h1, z.keeps kp⟩
  · obtain ⟨w, z⟩ := I.cell _ _ (mem e).1
    exact ⟨w, z.keeps kp⟩
  · show H cenv.locals = none
    rw [hL]
    exact nH (Nat.le_refl _)
  · exact I.freeC _ _ (mem e).1
  · have hp : p ∈ ([] : List (Addr × Obj)) ++ ps := hp
    rw [List.nil_append] at hp
    obtain ⟨q1, q2, q3⟩ := hps p hp
    refine ⟨q1, nH (Nat.le_of_lt q2), by show p.1 ≠ cenv.locals; rw [hL]; exact Nat.ne_of_gt q2, ?_, q3⟩
    intro z
    rcases List.mem_cons.mp (I.stkSub p.1 z) with z | z
    · have := I.lt
      rw [← z] at this
      exact absurd (Nat.lt_trans this q2) (Nat.lt_irrefl _)
    · exact I.nofs (Nat.le_of_lt q2) z
end
end Dl
set_option Elab.async false
set_option linter.all false
set_option maxRecDepth 100000
set_option maxHeartbeats 4000000
/-! A generator's frame: its loop. -/
namespace Dl
open PySem PySem.Spec PyProof.Rows L2
section
variable {prog : Program} {w : World} {A : Around}
theorem seg_loop {elt target iter : Expr} {ifs : List Expr} {scope : Scope} {pos : Pos} {it : Value} {env : Env} {a : Addr} {g : Nat} {stop : Bool} {Qs Qe : Shared → Prop} {A1 : Around} (hA : A1 = A.over (.compLoop (.GeneratorExp elt [⟨target, iter, ifs, 0⟩] scope pos) 0 it .none env) [])
    (hco : env.scope.isCoroutine = false) (J : Nat → Shared → Prop)
    (turn : ∀ n s, J n s → wpAny (model prog w) A1 (pyNext it) (fun r s₁ => match r with
      | none => PEn Qe 0 s s₁
      | some v => ∃ m, n = m + 1 ∧ wpAny (model prog w) A1 (letOwnedTupleGo target it v) (fun _ s₁' => wpAny (model prog w) A1 (assign target env v) (fun _ s₂ =>
          wpAny (model prog w) A1 (forIn ifs true fun c r => if r = true then do let ok ← isTrue c env (eval c env); pure (ForInStep.yield ok) else pure (ForInStep.yield r)) (fun ok s₃ =>
            if ok = true then wpAny (model prog w) A1 (eval elt env) (fun x s₄ => ∃ b : Bool, x = .bool b ∧ s₄.heap.IsGen a g ∧ s₄.heap.NoLimit ∧ AllBare s₄.gens ∧ (b = stop → ∀ gens', AllBare gens' → Qs { s₄ with gens := gens' }) ∧ (b = !stop → ∀ gens', AllBare gens' → J m { s₄ with gens := gens' }))
              (fun _ _ => False) s₃ else J m s₃) (fun _ _ => False) s₂) (fun _ _ => False) s₁') (fun _ _ => False) s₁) (fun _ _ => False) s) :
    ∀ (n k : Nat) (s₀ s : Shared), n ≤ k → J n s → Seg (model prog w) A (REn Qe) (YTr a g stop Qs) k s₀ (.compLoop (.GeneratorExp elt [⟨target, iter, ifs, 0⟩] scope pos) 0 it .none env)
      ((model prog w).den (.compLoop (.GeneratorExp elt [⟨target, iter, ifs, 0⟩] scope pos) 0 it .none env)) [] s := by
  intro n
  induction n using Nat.strongRecOn with
  | _ n ih =>
    intro k s₀ s hk hJ
    subst hA
    have go : ∀ {α : Type} {t : Sem α} {Q Q' : α → Shared → Prop} {E : Value → Shared → Prop} {s : Shared}, wpAny (model prog w) (A.over (.compLoop (.GeneratorExp elt [⟨target, iter, ifs, 0⟩] scope pos) 0 it .none env) []) t Q (fun _ _ => False) s → (∀ a s, Q a s → Q' a s) →
      wpAny (model prog w) (A.over (.compLoop (.GeneratorExp elt [⟨target, iter, ifs, 0⟩] scope pos) 0 it .none env) []) t Q' E s := fun h hq => wpAny_mono h hq fun _ _ z => z.elim
    show Seg _ A _ _ _ s₀ _ ((compTurn (.GeneratorExp elt [⟨target, iter, ifs, 0⟩] scope pos) 0 it .none env).onRaise (leaving env)) [] s
    rw [compTurn_gen, Sem.onRaise_eq_wrap]
    refine seg_bind_wrap (wpAny_standAt ?_)
    refine seg_bind_wrap (go (turn n s hJ) fun r s₁ h₁ => ?_)
    cases r with
    | none => exact seg_end (.ok .next) ⟨rfl, h₁⟩
    | some v =>
      obtain ⟨m, rfl, h₁⟩ := h₁
      refine seg_bind_wrap (go h₁ fun _ s₁' h₂ => ?_)
      refine seg_bind_wrap (go h₂ fun _ s₂ h₃ => ?_)
      refine seg_bind_wrap (go h₃ fun ok s₃ h₄ => ?_)
      cases ok with
      | false =>
        simp only [Bool.false_eq_true, if_false] at h₄ ⊢
        exact seg_again rfl (ih m (Nat.lt_succ_self m) k s₀ s₃ (by omega) h₄)
      | true =>
        simp only [if_true] at h₄ ⊢
        obtain ⟨k', rfl⟩ : ∃ k', k = k' + 1 := ⟨k - 1, by omega⟩
        have hy : ∀ v, yieldOut env v = yieldValue v := fun v => by simp only [yieldOut, hco, Bool.false_eq_true, if_false]
        simp only [hy]
        rw [Sem.bind_eq_wrap', Sem.bind_eq_wrap', Sem.wrap_wrap, Sem.wrap_wrap]
        refine seg_wrap (go h₄ fun y s₄ h₅ => ?_)
        obtain ⟨b, rfl, i1, i2, i3, i4, i5⟩ := h₅
        refine seg_at (seg_yield rfl rfl rfl ⟨b, rfl, i1, i2, i3, i4, fun e gens' hg => ?_⟩)
        exact seg_again rfl (ih m (Nat.lt_succ_self m) k' _ _ (by omega) (i5 e gens' hg))
theorem seg_start {elt target iter : Expr} {ifs : List Expr} {scope : Scope} {pos : Pos} {it : Value} {env : Env} {R : GenEnd} {Y : Protocol} {k : Nat} {s₀ s : Shared}
    (self : ∀ (Q : Value → Shared → Prop) (E : Value → Shared → Prop), Q it s → wpAny (model prog w) (A.over (.compStart (.GeneratorExp elt [⟨target, iter, ifs, 0⟩] scope pos) 0 it .none env) []) (pyIter it) Q E s)
    (loop : Seg (model prog w) A R Y k s₀ (.compLoop (.GeneratorExp elt [⟨target, iter, ifs, 0⟩] scope pos) 0 it .none env) ((model prog w).den (.compLoop (.GeneratorExp elt [⟨target, iter, ifs, 0⟩] scope pos) 0 it .none env)) [] s) :
    Seg (model prog w) A R Y k s₀ (.compStart (.GeneratorExp elt [⟨target, iter, ifs, 0⟩] scope pos) 0 it .none env) ((model prog w).den (.compStart (.GeneratorExp elt [⟨target, iter, ifs, 0⟩] scope pos) 0 it .none env)) [] s := by
  show Seg _ A _ _ _ s₀ _ ((compStart (.GeneratorExp elt [⟨target, iter, ifs, 0⟩] scope pos) 0 it .none env).onRaise (leaving env)) [] s
  unfold compStart
  rw [Sem.onRaise_eq_wrap]
  show Seg _ A _ _ _ s₀ _ ((ask >>= _).wrap _ _ _ _) [] s
  refine seg_bind_wrap (wpAny_askSetting ?_)
  split
  · exact seg_again rfl loop
  · first
      | exact seg_bind_wrap (wpAny_rule (seg_bind_wrap (wpAny_standAt (seg_bind_wrap (self _ _ (seg_again rfl loop))))))
      | (refine seg_bind_wrap (wpAny_rule ?_); show Seg _ A _ _ _ s₀ _ ((standAt iter.pos >>= _).wrap _ _ _ _) [] s; exact seg_bind_wrap (wpAny_standAt (seg_bind_wrap (self _ _ (seg_again rfl loop)))))
end
end Dl
set_option Elab.async false
set_option linter.all false
set_option maxRecDepth 100000
set_option maxHeartbeats 4000000
/-! A generator expression that all, any take. -/
namespace Dl
open PySem PySem.Spec PyProof.Rows L2
/-- all, any of a generator expression: the def's code table at P; vs: the frame's own names -/
def tGen (P : Addr) (stop : Bool) (wi : TI) (g : TG) (tt : TT) (te : TE) (vs : List Nat) : TE := fun σ H Q => wi σ H fun J H1 => GxR.TabG H1 P ∧ ∀ H2, GxR.Tabbed P H1 H2 → ∃ W : Nat → Nat → Hp → Prop, (∃ m, W 0 m H2) ∧ ∀ i m H, W i m H →
  (J.stop i H ∧ Q (.bl (!stop)) H) ∨ (J.go i H ∧ ∃ m', m = m' + 1 ∧ ∀ x H', J.yld i H x H' → g x (wipe σ vs) H' fun σ2 H3 => wipe σ2 vs = wipe σ vs ∧ tt σ2 H3 fun b H4 =>
    if b = true then te σ2 H4 fun y H5 => ∃ c : Bool, y = .bl c ∧ (c = stop → Q (.bl stop) H5) ∧ (c = !stop → W (i + 1) m' H5) else W (i + 1) m' H4)
theorem inv_gens {X : Cx} {pins : List (Addr × Obj)} {σ : L2.St} {H : Hp} {s : Shared} (I : Inv X pins σ H s) {gens' : Array GenState} (h : AllBare gens') : Inv X pins σ H { s with gens := gens' } :=
  ⟨I.ok, I.os, h, I.base, I.loc, I.cell, I.free, I.freeC, I.pin, I.hok, I.len⟩
section
variable {X : Cx} {pins : List (Addr × Obj)} {σ : L2.St} {H : Hp} {s : Shared}
/-- the frame's loop, from the frame's start on -/
theorem gen_goes {elt tg iter : Expr} {ifs : List Expr} {scope : Scope} {pos : Pos} {own : List (Str × Nat)} {it a : Addr} {g : Nat} {code : Value} {cenv : Env} {fp : List Addr} {tn : Nat → Heap → Prop} {J : It} {gg : TG} {tt : TT} {te : TE} {stop : Bool} {Q : VK} {W : Nat → Nat → Hp → Prop} {H2 : Hp} {m0 : Nat} {A1 : Around} {s' : Shared} {m : Str → Option Value} {ob : Obj} {nm qn : Value}
    (hc : X.calm = true) (hN : X.N.Nodup) (I : Inv X pins σ H2 s) (ok : BlkOk X.N X.env.scope scope own) (hnc : ∀ y ∈ scope.names, y.2 ≠ .cell) (hco : scope.isCoroutine = false)
    (hce : cenv = genEnv scope (cloFrom X.env.cells scope.names []) s.heap.objs.size code builtinsNs X.env)
    (hA : A1 = X.A.in1.in1.over (.compLoop (.GeneratorExp elt [⟨tg, iter, ifs, 0⟩] scope pos) 0 (.ref it) .none cenv) []) (hA1 : A1.handled = none) (hA2 : A1.frames = some (cenv :: X.stack))
    (T : Turn X.prog X.w X.K tg J fp it tn) (st : tn 0 s'.heap) (f2 : ∀ b ∈ fp, FpOk X pins H2 b ∧ b < s.heap.objs.size)
    (kp : ∀ b o, s.heap.get? b = some o → s'.heap.get? b = some o) (hn : s'.heap.Ns s.heap.objs.size m) (hos : s'.os = s.os) (hb : AllBare s'.gens)
    (hob : s'.heap.get? a = some ob) (hobc : ob.cls = .type "generator") (hobd : ob.data = .fields #[.int g 0, nm, qn]) (hobs : ob.slots = #[]) (ha : s.heap.objs.size < a)
    (hg : ∀ (sh : Shared) (H : Hp), PG (genC X sh H scope cenv fp A1) tg gg) (ht : ∀ (sh : Shared) (H : Hp), PTs (genC X sh H scope cenv fp A1) ifs tt) (he : ∀ (sh : Shared) (H : Hp), PE (genC X sh H scope cenv fp A1) elt te)
    (w0 : W 0 m0 H2) (turn : ∀ i m H, W i m H → (J.stop i H ∧ Q (.bl (!stop)) H) ∨ (J.go i H ∧ ∃ m', m = m' + 1 ∧ ∀ x H', J.yld i H x H' → gg x (wipe σ (own.map (·.2))) H' fun σ2 H3 => wipe σ2 (own.map (·.2)) = wipe σ (own.map (·.2)) ∧ tt σ2 H3 fun b H4 =>
      if b = true then te σ2 H4 fun y H5 => ∃ c : Bool, y = .bl c ∧ (c = stop → Q (.bl stop) H5) ∧ (c = !stop → W (i + 1) m' H5) else W (i + 1) m' H4)) :
    Seg (model X.prog X.w) X.A.in1.in1 (REn fun s => EP X pins σ Q (.bool (!stop)) s) (YTr a g stop fun s => EP X pins σ Q (.bool stop) s) m0 s'
      (.compStart (.GeneratorExp elt [⟨tg, iter, ifs, 0⟩] scope pos) 0 (.ref it) .none cenv) ((model X.prog X.w).den (.compStart (.GeneratorExp elt [⟨tg, iter, ifs, 0⟩] scope pos) 0 (.ref it) .none cenv)) [] s' := by
  have I4 : Inv (genC X s H2 scope cenv fp A1) [(a, ob)] (wipe σ (own.map (·.2))) H2 s' := gen_start I ok hN f2 hnc hce hA1 hA2 kp hn hos hb fun p hp => by
    rw [List.mem_singleton.mp hp]
    exact ⟨hob, ha, fun v z => by rw [hobd] at z; cases z⟩
  have nfp : ∀ b ∈ fp, H2 b = none := fun b hb => (f2 b hb).1.1
  have stat : ∀ {σ' : L2.St} {H' : Hp} {s' : Shared}, Inv (genC X s H2 scope cenv fp A1) [(a, ob)] σ' H' s' → (∀ b ∈ fp, H' b = none) → ∀ b ∈ fp, FpOk (genC X s H2 scope cenv fp A1) [(a, ob)] H' b := fun {σ' H' s'} I' hn b hb =>
    ⟨hn b hb, (I'.ok.exf b hb).1, I'.ok.exfs b hb, .inl hb, fun x c e => (I'.ok.exf b hb).2 x c e, fun p hp => by
      have hp : p ∈ ([] : List (Addr × Obj)) ++ [(a, ob)] := hp
      rw [List.nil_append] at hp
      rw [List.mem_singleton.mp hp]
      exact Nat.ne_of_gt (Nat.lt_trans (f2 b hb).2 ha)⟩
  have back : ∀ {σ' : L2.St} {H' : Hp} {s' : Shared} {pn : List (Addr × Obj)}, Inv (genC X s H2 scope cenv fp A1) pn σ' H' s' → Inv X pins σ H' s' := fun {σ' H' s' pn} I' =>
    I.call' (ch := fp) I'.os I'.base I'.hok I'.bare fun b hb => ⟨(f2 b hb).1.2.2.2.1, (f2 b hb).1.2.1, (f2 b hb).1.2.2.2.2.1, (f2 b hb).1.2.2.2.2.2⟩
  have isg : ∀ {σ' : L2.St} {H' : Hp} {s' : Shared} {pl : List (Addr × Obj)}, Inv (genC X s H2 scope cenv fp A1) ([(a, ob)] ++ pl) σ' H' s' → s'.heap.IsGen a g := fun {σ' H' s' pl} I' =>
    ⟨ob, nm, qn, (I'.pin (a, ob) (by show (a, ob) ∈ [] ++ ([(a, ob)] ++ pl); simp)).1, hobc, hobd, hobs⟩
  have loop : Seg (model X.prog X.w) X.A.in1.in1 (REn fun s => EP X pins σ Q (.bool (!stop)) s) (YTr a g stop fun s => EP X pins σ Q (.bool stop) s) m0 s'
      (.compLoop (.GeneratorExp elt [⟨tg, iter, ifs, 0⟩] scope pos) 0 (.ref it) .none cenv) ((model X.prog X.w).den (.compLoop (.GeneratorExp elt [⟨tg, iter, ifs, 0⟩] scope pos) 0 (.ref it) .none cenv)) [] s' := by
    refine seg_loop hA (by rw [hce]; exact hco) (fun n s' => ∃ i H', Inv (genC X s H2 scope cenv fp A1) [(a, ob)] (wipe σ (own.map (·.2))) H' s' ∧ tn i s'.heap ∧ (∀ b ∈ fp, H' b = none) ∧ W i n H') ?_ m0 m0 s' s' (Nat.le_refl _) ⟨0, H2, I4, st, nfp, w0⟩
    rintro n s5 ⟨i, H5, I5, st5, n5, w5⟩
    rcases turn i n H5 w5 with ⟨stp, qq⟩ | ⟨go, m', rfl, step⟩
    · have td := T.done (genC X s H2 scope cenv fp A1) rfl rfl rfl hc i _ s5 _ H5 (fun _ _ => False) I5 (stat I5 n5) st5 stp
      refine wpAny_mono td (fun r s6 ⟨hr, I6⟩ => ?_) fun _ _ z => z
      subst hr
      refine ⟨I6.bare, fun h' gens' hg' kp' => ?_⟩
      have I7 : Inv X pins σ H5 s6 := back I6
      have I8 : Inv X pins σ H5 { s6 with heap := h', toks := s6.toks } := I7.kept (t' := s6.toks) kp'
      exact ⟨.bl (!stop), H5, inv_gens I8 hg', rfl, qq⟩
    · have ti := T.item (genC X s H2 scope cenv fp A1) rfl rfl rfl hc i _ s5 _ H5 (fun _ _ => False) I5 (stat I5 n5) st5 go
      refine wpAny_mono ti (fun r s6 ⟨u, hr, h6⟩ => ?_) fun _ _ z => z
      subst hr
      refine ⟨m', rfl, wpAny_mono h6 (fun _ s7 ⟨x, H7, I7, r7, y7, st7, n7⟩ => ?_) fun _ _ z => z⟩
      have I7' := I7.pinned (stat I7 n7) (T.obj _ _ st7)
      refine wpAny_mono ((hg s H2).run _ s7 _ H7 x u _ I7' r7 (step x H7 y7)) (fun _ s8 ⟨σ8, H8, I8, hw8, q8⟩ => ?_) fun _ _ z => z
      refine wpAny_mono ((ht s H2).run _ s8 σ8 H8 _ I8 q8) (fun b s9 ⟨H9, I9, q9⟩ => ?_) fun _ _ z => z
      have fin : ∀ {s' : Shared} {H' : Hp}, Inv (genC X s H2 scope cenv fp A1) ([(a, ob)] ++ pinsAt fp s7.heap) σ8 H' s' → W (i + 1) m' H' → ∃ i H', Inv (genC X s H2 scope cenv fp A1) [(a, ob)] (wipe σ (own.map (·.2))) H' s' ∧ tn i s'.heap ∧ (∀ b ∈ fp, H' b = none) ∧ W i m' H' := fun {s' H'} I' w' => by
        have pin' : ∀ b ∈ fp, ∀ o, s7.heap.get? b = some o → s'.heap.get? b = some o ∧ H' b = none := fun b hb o e =>
          let z := I'.pin (b, o) (List.mem_append_right _ (List.mem_append_right _ (mem_pinsAt hb e)))
          ⟨z.1, z.2.1⟩
        have hl : (wipe σ (own.map (·.2))).length = σ8.length := by rw [← hw8, wipe_length]
        refine ⟨i + 1, H', (I'.unpinned).weak hl (fun j v e => ?_), T.keep _ _ _ st7 fun b hb o e => (pin' b hb o e).1, fun b hb => ?_, w'⟩
        · rw [← hw8] at e
          exact (wipe_some e).1
        · obtain ⟨o, e, _⟩ := T.obj _ _ st7 b hb
          exact (pin' b hb o e).2
      cases b with
      | false =>
        simp only [Bool.false_eq_true, if_false] at q9 ⊢
        exact fin I9 q9
      | true =>
        simp only [if_true] at q9 ⊢
        refine wpAny_mono ((he s H2).run _ s9 σ8 H9 _ I9 q9) (fun z s10 ⟨yv, H10, I10, r10, c, hy, h11, h12⟩ => ?_) fun _ _ z => z
        subst hy
        cases r10
        refine ⟨c, rfl, isg I10, I10.nolimit, I10.bare, fun e gens' hg' => ?_, fun e gens' hg' => ?_⟩
        · exact ⟨.bl stop, H10, inv_gens (back I10) hg', rfl, h11 e⟩
        · obtain ⟨j, H', k1, k2⟩ := fin I10 (h12 e)
          exact ⟨j, H', inv_gens k1 hg', k2⟩
  exact seg_start (fun Q E h => T.self _ 0 _ _ _ st h) loop
end
end Dl
set_option Elab.async false
set_option linter.all false
set_option maxRecDepth 100000
set_option maxHeartbeats 4000000
/-! all, any of a generator expression: the rules. -/
namespace Dl
open PySem PySem.Spec PyProof.Rows L2
section
variable {X : Cx} {pins : List (Addr × Obj)} {σ : L2.St} {H : Hp} {s : Shared}
/-- the generator at hand -/
def GReady (X : Cx) (pins : List (Addr × Obj)) (σ : L2.St) (stop : Bool) (Q : VK) (a : Addr) (s : Shared) : Prop := ∃ (g : Nat) (gs : GenState) (n : Nat), s.heap.IsGen a g ∧ s.heap.NoLimit ∧ AllBare s.gens ∧ s.gens[g]? = some gs ∧
  gs.Goes (model X.prog X.w) X.A.in1.in1 (REn fun s => EP X pins σ Q (.bool (!stop)) s) (YTr a g stop fun s => EP X pins σ Q (.bool stop) s) n (.send .none) (s.setGen g .running)
theorem gen_make {c P : Addr} {elt tg iter : Expr} {ifs : List Expr} {scope : Scope} {gpos : Pos} {own : List (Str × Nat)} {wi : TI} {gg : TG} {tt : TT} {te : TE} {stop : Bool} {lvl : Nat} {Q : VK} {Q' : Value → Shared → Prop}
    (hr : Room (lvl + 1) X.A) (hc : X.calm = true) (hN : X.N.Nodup) (TB : GxR.TabB X.base X.mg c P) (hcode : X.env.code = .ref c) (ok : BlkOk X.N X.env.scope scope own) (hnc : ∀ y ∈ scope.names, y.2 ≠ .cell) (hco : scope.isCoroutine = false) (hdot : scope.names.lookup (".0" : Str) = some NameKind.local)
    (hi : PI X tg iter wi)
    (hg : ∀ (sh : Shared) (H : Hp) (C : Addr) (code : Value) (fp : List Addr) (A1 : Around), Room lvl A1 → PG (genC X sh H scope (genEnv scope (cloFrom X.env.cells scope.names []) C code builtinsNs X.env) fp A1) tg gg)
    (ht : ∀ (sh : Shared) (H : Hp) (C : Addr) (code : Value) (fp : List Addr) (A1 : Around), Room lvl A1 → PTs (genC X sh H scope (genEnv scope (cloFrom X.env.cells scope.names []) C code builtinsNs X.env) fp A1) ifs tt)
    (he : ∀ (sh : Shared) (H : Hp) (C : Addr) (code : Value) (fp : List Addr) (A1 : Around), Room lvl A1 → PE (genC X sh H scope (genEnv scope (cloFrom X.env.cells scope.names []) C code builtinsNs X.env) fp A1) elt te)
    (hs : ∀ v, genFold iter X.env v = pure v) (I : Inv X pins σ H s) (h : tGen P stop wi gg tt te (own.map (·.2)) σ H Q)
    (hQ : ∀ a s5, GReady X pins σ stop Q a s5 → Q' (.ref a) s5) :
    wpAny (model X.prog X.w) X.A (eval (.GeneratorExp elt [⟨tg, iter, ifs, 0⟩] scope gpos) X.env) Q' X.xe s := by
  have hfree : ∀ y ∈ scope.names, y.2 = .free → ∃ c, X.env.cells.lookup y.1 = some c := fun y hy e => by
    rcases ok.free y hy e with k | k
    · exact I.ok.has _ (.inl k)
    · exact I.ok.has _ (.inr k)
  refine wpAny_GeneratorExp_make hco (closure_ok hfree) hnc hdot ok.kind (by have := hr.dp; omega) ?_ hs
  refine thn (hi.run pins s σ H _ I h) fun xv s1 hx => thn hx fun itv s2 h2 => ?_
  obtain ⟨it, fp, tn, J, H1, rfl, I1, T, st1, f1, ⟨ps, hP, htr⟩, q1⟩ := h2
  refine ⟨I1.nolimit, ?_⟩
  have hPs : s2.heap.get? P = some { cls := .none, data := .fields ps } := I1.hok P _ hP
  have cd : PySem.W.CodeHd s2.heap c P := TB.code.keeps fun b u e => I1.bk b u e
  have cont : ∀ (code : Value) (h3 : Heap) (tk : Nat) (ps' : Array Value), Heap.ExtBut P s2.heap h3 → s2.heap.objs.size ≤ h3.objs.size → h3.get? P = some { cls := .none, data := .fields ps' } → (∃ more, ps' = ps ++ more) → TriplesOk ps'.toList →
      wpAny (model X.prog X.w) X.A (builtinsFor X.env.globals X.env.builtins) (fun bi s₄ =>
        ∀ h', h'.Ns s₄.heap.objs.size (fun y => if y = ".0" then some (.ref it) else none) → Heap.SameBut s₄.heap.objs.size (s₄.heap.push { cls := .type "frame", data := .dict #[] }) h' →
          Q' (.ref h'.objs.size) { s₄ with
            gens := s₄.gens.push (.fresh (.compStart (.GeneratorExp elt [⟨tg, iter, ifs, 0⟩] scope gpos) 0 (.ref it) .none (genEnv scope (cloFrom X.env.cells scope.names []) s₄.heap.objs.size code bi X.env))),
            toks := s₄.toks + 1 + 1 + 1,
            heap := h'.push { cls := .type "generator", data := .fields #[.int s₄.gens.size 0, .str "<genexpr>" (s₄.toks + 1), .str (X.env.qual ++ "<genexpr>") (s₄.toks + 1 + 1)] } }) X.xe { s2 with heap := h3, toks := tk } := by
    intro code h3 tk ps' hx hsz hP3 hmore ht3
    obtain ⟨bm, ob, e1, e2, e3, e4, e5, e6, e7, e8⟩ := TB.bm
    refine wpAny_builtinsFor (m := X.mg) (by rw [I1.ok.glob]; exact (I1.mod.glob.keeps I1.bk).extBut hx TB.gP) e1 e2 (hx _ _ e4 (I1.bk _ _ e5)) e6 e7 e8 ?_
    intro h' hn' hs'
    obtain ⟨more, em⟩ := hmore
    have I3 : Inv X pins σ (upd H1 P (.tbl (ps ++ more))) { s2 with heap := h3, toks := tk } := GxR.inv_tab (more := more) (h' := h3) (g' := s2.gens) (d' := s2.drawn) (t' := tk) I1 hP (fun b u hb e => hx b u hb e) (by rw [← em]; exact hP3) I1.bare
    have fP : ∀ b ∈ fp, b ≠ P := fun b hb z => by
      have := (f1 b hb).1
      rw [z, hP] at this
      cases this
    have fsz : ∀ b ∈ fp, b < h3.objs.size := fun b hb => by
      obtain ⟨o, e, _⟩ := T.obj _ _ st1 b hb
      exact Nat.lt_of_lt_of_le (Heap.lt_size e) hsz
    obtain ⟨W, ⟨m0, w0⟩, turn⟩ := q1 (upd H1 P (.tbl (ps ++ more))) ⟨⟨ps ++ more, upd_same, by rw [← em]; exact ht3⟩, fun b hb => upd_ne hb⟩
    have hsz' : h'.objs.size = h3.objs.size + 1 := by rw [hs'.1, Heap.size_push]
    have keep' : ∀ b o, h3.get? b = some o → h'.get? b = some o := fun b o e => hs'.extBut b o (Nat.ne_of_lt (Heap.lt_size e)) (Heap.get?_push_of_some _ e)
    have kp5 : ∀ (o : Obj), ∀ b u, h3.get? b = some u → (h'.push o).get? b = some u := fun o b u e => Heap.get?_push_of_some _ (keep' b u e)
    have rA : Room lvl (X.A.in1.in1.over (.compLoop (.GeneratorExp elt [⟨tg, iter, ifs, 0⟩] scope gpos) 0 (.ref it) .none (genEnv scope (cloFrom X.env.cells scope.names []) h3.objs.size code builtinsNs X.env)) []) :=
      ⟨hr.hd, by have := hr.dp; show X.A.depth + 0 + 1 + 3 * lvl + 5 < _; omega, by have := hr.un; show X.A.units + 1 + 1 + 0 + _ + 16 * lvl + 200 < _; simp only [Code.cUnits, Code.frames, Code.isFrame, if_true]; omega⟩
    have hfr : (X.A.in1.in1.over (.compLoop (.GeneratorExp elt [⟨tg, iter, ifs, 0⟩] scope gpos) 0 (.ref it) .none (genEnv scope (cloFrom X.env.cells scope.names []) h3.objs.size code builtinsNs X.env)) []).frames = some (genEnv scope (cloFrom X.env.cells scope.names []) h3.objs.size code builtinsNs X.env :: X.stack) := by
      have z := I.ok.frames
      simp [Around.over, Code.envs, Code.isFrame, Code.env?, envsOf, pushEnvs, z]
    have bare5 : AllBare (s2.gens.push (.fresh (.compStart (.GeneratorExp elt [⟨tg, iter, ifs, 0⟩] scope gpos) 0 (.ref it) .none (genEnv scope (cloFrom X.env.cells scope.names []) h3.objs.size code builtinsNs X.env)))) := AllBare.push I1.bare rfl
    refine hQ _ _ ⟨s2.gens.size, _, m0, ⟨_, _, _, Heap.get?_push_size _ rfl, rfl, rfl, rfl⟩, I3.nolimit.keeps (kp5 _), bare5, Array.getElem?_push_size .., ⟨rfl, ?_⟩⟩
    refine gen_goes (s := { s2 with heap := h3, toks := tk }) (own := own) (code := code) (fp := fp) (H2 := upd H1 P (.tbl (ps ++ more))) (W := W) hc hN I3 ok hnc hco rfl rfl (I.ok.hd hc) hfr T (T.keep _ _ _ st1 fun b hb o e => kp5 _ b o (hx b o (fP b hb) e))
      (fun b hb => ⟨⟨by rw [upd_ne (fP b hb)]; exact (f1 b hb).1, (f1 b hb).2⟩, fsz b hb⟩) (kp5 _) (hn'.push _) rfl (allBare_set bare5 rfl) (Heap.get?_push_size _ rfl) rfl rfl rfl (by show h3.objs.size < h'.objs.size; omega)
      (fun sh H => hg sh H _ _ fp _ rA) (fun sh H => ht sh H _ _ fp _ rA) (fun sh H => he sh H _ _ fp _ rA) w0 turn
  cases hf : codeAmong gpos ps.toList with
  | none =>
    refine wpAny_genexprCodeX hcode (cd.code hPs htr) (cd.tab hPs) hf fun c' h' tk hx hge hlt hco' _ htab' _ => ?_
    obtain ⟨o1, vs, f1, tf, fl, tg, inF, tx, tt, op, _, _, _, _, _, _, _, _, _, htr, _⟩ := hco'
    exact cont _ h' tk _ hx (Nat.le_trans hge (Nat.le_of_lt hlt)) htab'.2 ⟨_, rfl⟩ htr
  | some cv =>
    refine wpAny_genexprCode_hit hcode (cd.code hPs htr) hf ?_
    exact cont cv s2.heap s2.toks ps (Heap.ExtBut.refl _ _) (Nat.le_refl _) hPs ⟨#[], by simp⟩ htr
theorem pe_allG {c P : Addr} {elt tg iter : Expr} {ifs : List Expr} {scope : Scope} {p pos gpos : Pos} {own : List (Str × Nat)} {wi : TI} {gg : TG} {tt : TT} {te : TE} {lvl : Nat}
    (hr : Room (lvl + 1) X.A) (hgl : Gl X "all") (hm : X.mg "all" = none) (hc : X.calm = true) (hN : X.N.Nodup) (TB : GxR.TabB X.base X.mg c P) (hcode : X.env.code = .ref c) (ok : BlkOk X.N X.env.scope scope own) (hnc : ∀ y ∈ scope.names, y.2 ≠ .cell) (hco : scope.isCoroutine = false) (hdot : scope.names.lookup (".0" : Str) = some NameKind.local)
    (hi : PI X tg iter wi)
    (hg : ∀ (sh : Shared) (H : Hp) (C : Addr) (code : Value) (fp : List Addr) (A1 : Around), Room lvl A1 → PG (genC X sh H scope (genEnv scope (cloFrom X.env.cells scope.names []) C code builtinsNs X.env) fp A1) tg gg)
    (ht : ∀ (sh : Shared) (H : Hp) (C : Addr) (code : Value) (fp : List Addr) (A1 : Around), Room lvl A1 → PTs (genC X sh H scope (genEnv scope (cloFrom X.env.cells scope.names []) C code builtinsNs X.env) fp A1) ifs tt)
    (he : ∀ (sh : Shared) (H : Hp) (C : Addr) (code : Value) (fp : List Addr) (A1 : Around), Room lvl A1 → PE (genC X sh H scope (genEnv scope (cloFrom X.env.cells scope.names []) C code builtinsNs X.env) fp A1) elt te)
    (hs : ∀ v, genFold iter X.env v = pure v)
    (hst : starEach [.GeneratorExp elt [⟨tg, iter, ifs, 0⟩] scope gpos] X.env = (false, eval (.GeneratorExp elt [⟨tg, iter, ifs, 0⟩] scope gpos) X.env) :: starEach [] X.env := by rfl) :
    PE X (.Call (.Name "all" p) [.GeneratorExp elt [⟨tg, iter, ifs, 0⟩] scope gpos] [] pos) (tGen P false wi gg tt te (own.map (·.2))) := by
  refine ⟨fun pins s σ H Q I h => ?_⟩
  refine wpAny_Call_Name_kw (ld_blt I hgl hm boot_all ?_)
  refine PyProof.Rows.callWith_builtin1 ?_ hst (by rfl)
  rw [hst]
  show wpAny _ _ (spliced ((false, eval (.GeneratorExp elt [⟨tg, iter, ifs, 0⟩] scope gpos) X.env) :: backTo pos (starEach [] X.env))) _ _ s
  refine Calls.spliced_cons (gen_make (stop := false) (Q := Q) hr hc hN TB hcode ok hnc hco hdot hi hg ht he hs I h fun a s5 hR => ?_)
  obtain ⟨g, gs, n, r1, r2, r3, r4, r5⟩ := hR
  refine Calls.spliced_nil ?_
  refine call_function_tree F.kind_all F.plain_all F.entry_all (F.args_all1 _) ?_
  unfold Builtin.«all»
  refine wpAny_bind (m := oneArg "all" _) (wpAny_pure ?_)
  refine wpAny_bind (wpAny_pyIter_gen r1 ?_)
  refine wpAny_pure ⟨plainId_quiet F.plain_all_loop _, all_gen (I.ok.hd hc) (by have := hr.dp; show X.A.depth < _; omega) (fun s q => q) (fun s q => q) r1 r2 r3 r4 r5⟩
theorem pe_anyG {c P : Addr} {elt tg iter : Expr} {ifs : List Expr} {scope : Scope} {p pos gpos : Pos} {own : List (Str × Nat)} {wi : TI} {gg : TG} {tt : TT} {te : TE} {lvl : Nat}
    (hr : Room (lvl + 1) X.A) (hgl : Gl X "any") (hm : X.mg "any" = none) (hc : X.calm = true) (hN : X.N.Nodup) (TB : GxR.TabB X.base X.mg c P) (hcode : X.env.code = .ref c) (ok : BlkOk X.N X.env.scope scope own) (hnc : ∀ y ∈ scope.names, y.2 ≠ .cell) (hco : scope.isCoroutine = false) (hdot : scope.names.lookup (".0" : Str) = some NameKind.local)
    (hi : PI X tg iter wi)
    (hg : ∀ (sh : Shared) (H : Hp) (C : Addr) (code : Value) (fp : List Addr) (A1 : Around), Room lvl A1 → PG (genC X sh H scope (genEnv scope (cloFrom X.env.cells scope.names []) C code builtinsNs X.env) fp A1) tg gg)
    (ht : ∀ (sh : Shared) (H : Hp) (C : Addr) (code : Value) (fp : List Addr) (A1 : Around), Room lvl A1 → PTs (genC X sh H scope (genEnv scope (cloFrom X.env.cells scope.names []) C code builtinsNs X.env) fp A1) ifs tt)
    (he : ∀ (sh : Shared) (H : Hp) (C : Addr) (code : Value) (fp : List Addr) (A1 : Around), Room lvl A1 → PE (genC X sh H scope (genEnv scope (cloFrom X.env.cells scope.names []) C code builtinsNs X.env) fp A1) elt te)
    (hs : ∀ v, genFold iter X.env v = pure v)
    (hst : starEach [.GeneratorExp elt [⟨tg, iter, ifs, 0⟩] scope gpos] X.env = (false, eval (.GeneratorExp elt [⟨tg, iter, ifs, 0⟩] scope gpos) X.env) :: starEach [] X.env := by rfl) :
    PE X (.Call (.Name "any" p) [.GeneratorExp elt [⟨tg, iter, ifs, 0⟩] scope gpos] [] pos) (tGen P true wi gg tt te (own.map (·.2))) := by
  refine ⟨fun pins s σ H Q I h => ?_⟩
  refine wpAny_Call_Name_kw (ld_blt I hgl hm boot_any ?_)
  refine PyProof.Rows.callWith_builtin1 ?_ hst (by rfl)
  rw [hst]
  show wpAny _ _ (spliced ((false, eval (.GeneratorExp elt [⟨tg, iter, ifs, 0⟩] scope gpos) X.env) :: backTo pos (starEach [] X.env))) _ _ s
  refine Calls.spliced_cons (gen_make (stop := true) (Q := Q) hr hc hN TB hcode ok hnc hco hdot hi hg ht he hs I h fun a s5 hR => ?_)
  obtain ⟨g, gs, n, r1, r2, r3, r4, r5⟩ := hR
  refine Calls.spliced_nil ?_
  refine call_function_tree F.kind_any F.plain_any F.entry_any (F.args_any1 _) ?_
  unfold Builtin.«any»
  refine wpAny_bind (m := oneArg "any" _) (wpAny_pure ?_)
  refine wpAny_bind (wpAny_pyIter_gen r1 ?_)
  refine wpAny_pure ⟨plainId_quiet F.plain_any_loop _, any_gen (I.ok.hd hc) (by have := hr.dp; show X.A.depth < _; omega) (fun s q => q) (fun s q => q) r1 r2 r3 r4 r5⟩
end
end Dl
set_option Elab.async false
set_option linter.all false
set_option maxRecDepth 100000
set_option maxHeartbeats 4000000
/-! Sorting tuples of which the first is empty; any of a tuple of whole numbers. -/
namespace Dl
open PySem PySem.W PySem.SeqAt PyProof.Rows PySem.Calls
section
variable {prog : Program} {w : World} {A : Around} {E : Value → Shared → Prop} {s : Shared}
/-- one tuple below another, asked as the sort asks -/
theorem tup_below {P : Value → Shared → Prop} {p q : Addr} {us vs : Array Value} {eq lt : Nat → Bool} (hp : s.heap.IsTuple p us) (hq : s.heap.IsTuple q vs)
    (h1 : ∀ i (a : i < us.size) (b : i < vs.size), EqAt A.in1 s us[i] vs[i] (eq i)) (h2 : ∀ i (a : i < us.size) (b : i < vs.size), eq i = false → RcLt A.in1 s us[i] vs[i] (lt i))
    (k : P (.bool (firstLt eq lt (decide (us.size < vs.size)) (List.range (min us.size vs.size)))) s) : wpAny (model prog w) A (call (.builtin "tuple.__lt__") [.ref p, .ref q]) P E s := by
  obtain ⟨⟨c1, d1, x1, l1⟩, g1, t1, n1, y1⟩ := id hp
  obtain ⟨⟨c2, d2, x2, l2⟩, g2, t2, n2, y2⟩ := id hq
  simp only at t1 y1 t2 y2
  subst t1 y1 t2 y2
  have m := tuple_ltAt p q us vs n1 n2 d1 d2 l1 l2 eq lt
  exact call_meets F.slot_tuple_lt ⟨_, g1, rfl⟩ F.entry_tuple_lt (F.args_tuple_lt_2 _ _) m ⟨g1, g2, h1, h2, k⟩
theorem one_below {P : Bool → Shared → Prop} {xs ys : List PyData} {u v : Value} {as bs : List Addr} (ru : Reads s.heap u (.tuple xs) as) (rv : Reads s.heap v (.tuple ys) bs) (al : alike (.tuple xs) (.tuple ys) = true)
    (hu : A.units + min (PyData.tuple xs).depth (PyData.tuple ys).depth < cLine) (k : P (dataLt (.tuple xs) (.tuple ys)) s) : wpAny (model prog w) A (oneLt' true u v) P E s := by
  have al' : alikeAll xs ys = true := by simpa [alike] using al
  cases ru with
  | @tuple p o us n _ _ a1 a2 a3 a4 =>
    cases rv with
    | @tuple q o' vs n' _ _ b1 b2 b3 b4 =>
      have z1 : us.size = xs.length := by simpa using SeqAt.ReadsAll.length _ _ _ a4
      have z2 : vs.size = ys.length := by simpa using SeqAt.ReadsAll.length _ _ _ b4
      have k' := k
      rw [dataLt_tuple, ← firstLt_toks xs ys al', ← z1, ← z2] at k'
      rw [oneLt'_eq, if_pos rfl]
      refine wpAny_bind (wpAny_cRoomFor (SeqAt.room_here hu) ?_)
      have tb : wpAny (model prog w) A (call (.builtin "tuple.__lt__") [.ref p, .ref q]) (fun r s' => s' = s ∧ r = .bool (firstLt (pairEq xs ys) (fun j => dataLt (xs.getD j .none) (ys.getD j .none)) (decide (us.size < vs.size)) (List.range (min us.size vs.size)))) E s :=
        tup_below ⟨_, a1, a2, _, a3⟩ ⟨_, b1, b2, _, b3⟩ (fun i i1 i2 => by
          have := eqAt_alikeAll xs ys A.in1 s us.toList vs.toList _ _ a4 b4 al' (SeqAt.room_in hu) i (by simpa using i1) (by simpa using i2)
          simpa using this) (fun i i1 i2 hi => by
          have := rcLt_alikeAll xs ys A.in1 s us.toList vs.toList _ _ a4 b4 al' (SeqAt.room_in hu) i (by simpa using i1) (by simpa using i2) hi
          simpa using this) ⟨rfl, rfl⟩
      refine wpAny_bind (wpAny_callSpecialIfBound?_slot (T := "tuple") ⟨_, a1, a2⟩ F.slot_tuple_lt (wpAny_mono tb (fun r s' hr => ?_) fun _ _ z => z))
      obtain ⟨rfl, rfl⟩ := hr
      exact wpAny_truthy_bool k'
end
section
variable {M : Model} {A : Around} {E : Value → Shared → Prop} {s : Shared}
theorem first_of {P : Option Value → Shared → Prop} {u : Value} {t : List PyData} {as : List Addr} (r : Reads s.heap u (.tuple t) as) (k : ∀ o, (t = [] → o = none) → P o s) : wpAny M A (firstOfTuple' u) P E s := by
  have lk : Looks M s.heap (typeOf u) (.type "tuple") := looks_reads r
  cases r with
  | @tuple p o us n _ _ a1 a2 a3 a4 =>
    have z1 : us.size = t.length := by simpa using SeqAt.ReadsAll.length _ _ _ a4
    rw [kas_first_eq]
    refine wpAny_bind (lk.here ?_)
    rw [if_neg (by simp)]
    refine wpAny_bind (listItems_at a1 a3 (wpAny_pure (k _ fun e => ?_)))
    subst e
    simp at z1
    simp [z1]
theorem firsts_of : ∀ (us : List Value), (∀ u ∈ us, ∃ t as, Reads s.heap u (.tuple t) as) → ∀ {P : List (Option Value) → Shared → Prop}, (∀ rs, P rs s) → wpAny M A (us.mapM firstOfTuple') P E s
  | [], _, P, k => by
    rw [List.mapM_nil]
    exact wpAny_pure (k [])
  | u :: us, h, P, k => by
    obtain ⟨t, as, r⟩ := h u (List.mem_cons_self ..)
    rw [List.mapM_cons]
    refine wpAny_bind (first_of r fun o _ => wpAny_bind (firsts_of us (fun v hv => h v (List.mem_cons_of_mem _ hv)) fun rs => wpAny_pure (k _)))
theorem kind_one {P : SortKind → Shared → Prop} {u : Value} {us : List Value} {as : List Addr} (r : Reads s.heap u (.tuple []) as) (h : ∀ v ∈ us, ∃ t as, Reads s.heap v (.tuple t) as) (k : P oneType' s) : wpAny M A (keyKind' (u :: us).toArray) P E s := by
  have lk : ∀ v ∈ u :: us, Looks M s.heap (typeOf v) (.type "tuple") := fun v hv => by
    rcases List.mem_cons.mp hv with rfl | hv
    · exact looks_reads r
    · obtain ⟨t, bs, q⟩ := h v hv
      exact looks_reads q
  rw [kat_kind_eq (u :: us).toArray, List.mapM_toArray, map_eq_pure_bind, List.mapM_cons]
  refine wpAny_bind (wpAny_bind (wpAny_bind (first_of r fun o ho => ?_)))
  refine wpAny_bind (firsts_of us h fun rs => wpAny_pure (wpAny_pure ?_))
  rw [ho rfl, if_neg (by simp), if_neg (by simp), oneTypeOnly'_eq (u :: us).toArray, List.mapM_toArray, map_eq_pure_bind]
  refine wpAny_bind (wpAny_bind (wpAny_bind (kas_mapM (r := Value.type "tuple") (u :: us) (fun v hv _ z => (lk v hv).here z) (wpAny_pure ?_))))
  have all1 : ((List.map (fun _ => Value.type "tuple") (u :: us)).toArray.all fun x => x == Value.type "tuple") = true := by
    simp
  have first : (List.map (fun _ => Value.type "tuple") (u :: us)).toArray[0]? = some (Value.type "tuple") := by simp
  rw [first]
  simp only [all1, ite_true]
  exact wpAny_pure (wpAny_pure k)
end
section
variable {prog : Program} {w : World} {A : Around} {E : Value → Shared → Prop} {s : Shared}
/-- tuples of which the first is empty can be sorted -/
theorem sorts_tuples {vs : List Value} {ds : List PyData} (e : EachIs (fun v d => ∃ as, Reads s.heap v d as) vs (.tuple [] :: ds)) (hal : AllAlike (.tuple [] :: ds)) (ht : ∀ d ∈ ds, ∃ t, d = .tuple t)
    (hu : ∀ d ∈ PyData.tuple [] :: ds, A.units + d.depth < cLine) : SortsAt prog w A s (dataKind s.heap (.tuple [] :: ds)) vs := by
  have ht' : ∀ d ∈ PyData.tuple [] :: ds, ∃ t, d = .tuple t := fun d hd => by
    rcases List.mem_cons.mp hd with rfl | hd
    · exact ⟨[], rfl⟩
    · exact ht d hd
  refine ⟨fun v hv => ?_, oneType', fun E x y a b P ha hb k => ?_, fun _ E P k => ?_⟩
  · obtain ⟨d, hd, as, r⟩ := e.left v hv
    exact ⟨keyToks d, dataKind_some hal hd r⟩
  · obtain ⟨d, as, hd, ra, rfl⟩ := dataKind_inv ha
    obtain ⟨d', bs, hd', rb, rfl⟩ := dataKind_inv hb
    have al := hal d hd d' hd'
    have h1 := hu d hd
    obtain ⟨t, rfl⟩ := ht' d hd
    obtain ⟨t', rfl⟩ := ht' d' hd'
    rw [keyLt'_oneType]
    exact one_below ra rb al (Nat.lt_of_le_of_lt (Nat.add_le_add_left (Nat.min_le_left _ _) _) h1) k
  · cases e with
    | cons h1 h2 =>
      obtain ⟨as, r⟩ := h1
      refine kind_one r (fun v hv => ?_) k
      obtain ⟨d, hd, bs, q⟩ := h2.left v hv
      obtain ⟨t, rfl⟩ := ht d hd
      exact ⟨t, bs, q⟩
theorem sorted_tuples {β : Type} {enc : β → PyData} {R : Value → β → Prop} {vs : List Value} {b0 : β} {bs : List β} {l : Addr} {P : Value → Shared → Prop} (hl : s.heap.IsList l vs.toArray) (e : EachIs R vs (b0 :: bs)) (er : EachIs (fun v b => ∃ as, Reads s.heap v (enc b) as) vs (b0 :: bs))
    (hal : AllAlike ((b0 :: bs).map enc)) (h0 : enc b0 = .tuple []) (ht : ∀ b ∈ bs, ∃ t, enc b = .tuple t) (hL : (b0 :: bs).length ≤ sizeLine) (hu : ∀ b ∈ b0 :: bs, A.units + 2 + (enc b).depth < cLine)
    (k : ∀ out, out.length = (b0 :: bs).length → EachIs R out ((b0 :: bs).mergeSort (dataLe false enc)) → P (.ref (s.heap.objs.size + 1)) { s with heap := sortedAll s.heap vs (List.toArray out) }) :
    wpAny (model prog w) A (call (.builtin "sorted") [.ref l]) P E s := by
  have er' : EachIs (fun v b => ∃ as, Reads (sortingHeap (copyHeap s.heap vs) (s.heap.objs.size + 1) vs) v (enc b) as) vs (b0 :: bs) := er.mono fun _ _ q => let ⟨as, r⟩ := q; ⟨as, PyProof.Rows.Reads.keeps (fun _ _ z => sorting_copy_old z) r⟩
  have em := each_map (R := fun v d => ∃ as, Reads (sortingHeap (copyHeap s.heap vs) (s.heap.objs.size + 1) vs) v d as) enc er'
  have hl2 : vs.length ≤ sizeLine := by rw [e.length]; exact hL
  have S : SortsAt prog w A.in1.in1 { s with heap := sortingHeap (copyHeap s.heap vs) (s.heap.objs.size + 1) vs } (dataKind (sortingHeap (copyHeap s.heap vs) (s.heap.objs.size + 1) vs) ((b0 :: bs).map enc)) vs := by
    rw [List.map_cons, h0] at em hal ⊢
    refine sorts_tuples (s := { s with heap := sortingHeap (copyHeap s.heap vs) (s.heap.objs.size + 1) vs }) em hal (fun d hd => ?_) fun d hd => ?_
    · obtain ⟨b, hb, rfl⟩ := List.mem_map.mp hd
      exact ht b hb
    · have hd' : d ∈ (b0 :: bs).map enc := by rw [List.map_cons, h0]; exact hd
      obtain ⟨b, hb, rfl⟩ := List.mem_map.mp hd'
      have := hu b hb
      simpa using this
  exact sorted_vals hl S hl2 (k _ (by rw [sortVals_length false rfl]; exact e.length) (sortVals_data false e er' hal))
end
section
open L2 PySem.Spec
variable {X : Cx}
/-- any of a tuple of whole numbers -/
theorem any_ints (ns : List Int) : (List.range ns.length).any (fun i => ns.getD i 0 != 0) = ns.any (· != 0) := by
  induction ns with
  | nil => rfl
  | cons n ns ih =>
    rw [List.length_cons, List.range_succ_eq_map, List.any_cons, List.any_map, List.any_cons, ← ih]
    rfl
theorem call_anyT (hc : X.calm = true) : CallR X (.builtin "any") (fun vs H Q => ∃ (a : Addr) (ns : List Int), vs = [V.ref a] ∧ SqT X.K H a (ns.map V.int) ∧ Q (.bl (ns.any (· != 0))) H) := by
  intro pins s σ H vs us Q I r h
  obtain ⟨a, ns, rfl, hs, q⟩ := h
  obtain ⟨its, rv, ht, _⟩ := I.tuple hs
  rw [Vals.ref1 r]
  have ht : s.heap.IsTuple a its.toArray := ht
  have hlt : a < s.heap.objs.size := by
    obtain ⟨_, e, _⟩ := id ht
    exact Heap.lt_size e
  have hln : its.length = ns.length := by rw [← rv.length, List.length_map]
  have tr : TruthOf X.prog X.w X.A.in1 (fun i v => its.toArray[i]? = some v) (fun i => ns.getD i 0 != 0) := fun i v s Q E hv hq => by
    have hv' : its[i]? = some v := by simpa using hv
    have hi : i < ns.length := by
      have := (List.getElem?_eq_some_iff.mp hv').1
      omega
    have hx : (ns.map V.int)[i]? = some (V.int (ns.getD i 0)) := by
      rw [List.getElem?_map, List.getElem?_eq_getElem hi, List.getD_eq_getElem?_getD, List.getElem?_eq_getElem hi]
      rfl
    obtain ⟨u, hu, ru⟩ := rv.get hx
    rw [hv'] at hu
    cases hu
    obtain ⟨t, rfl⟩ := ru
    exact truthy_int hq
  refine call_any_walk (wpAny_pyIter_tuple ht ?_)
  have lt2 : a ≠ s.heap.objs.size := Nat.ne_of_lt hlt
  refine ⟨_, _, _, _, _, _, _, rfl, Walks.tuple (A := X.A.in1) (I.ok.hd hc) s.heap.objs.size a lt2 its.toArray, ⟨⟨_, Heap.get?_push_size _ rfl, rfl, rfl⟩, ht.push _⟩, tr, fun h' tk hk => ?_⟩
  refine ⟨.bl _, H, I.kept fun b o eo => hk b o (fun hm => ?_) (Heap.get?_push_of_some _ eo), ?_, q⟩
  · rw [List.mem_singleton.mp hm] at eo
    exact absurd (Heap.lt_size eo) (Nat.lt_irrefl _)
  · show Value.bool _ = Value.bool _
    rw [← any_ints, List.size_toArray, hln]
end
end Dl
set_option Elab.async false
set_option linter.all false
set_option maxRecDepth 100000
set_option maxHeartbeats 800000
/-! zip of a tuple and a list. -/
namespace Dl
open PySem RZ
section
variable {prog : Program} {w : World} {A : Around} {E : Value → Shared → Prop} {s : Shared}
theorem mix_item {q0 qi qo it jt tt ll : Addr} {m n : Nat} {us vs : Array Value} {u v a b : Value} {P : Value → Shared → Prop} (ap : ZipApart q0 qi qo it jt tt ll)
    (g0 : IsZip s.heap q0 qi qo .none) (gi : IsPair s.heap qi (.ref it) (.ref jt)) (go : IsPair s.heap qo a b) (ht : s.heap.IsTupleIter it tt m) (hl : s.heap.IsListIter jt ll n) (st : s.heap.IsTuple tt us) (sl : s.heap.IsList ll vs) (hu : us[m]? = some u) (hv : vs[n]? = some v)
    (k : ∀ h', IsZip h' q0 qi qo (rawInt s.heap.objs.size) → IsPair h' qo u v → h'.IsTupleIter it tt (m + 1) → h'.IsListIter jt ll (n + 1) → IsPair h' s.heap.objs.size u v → h'.objs.size = s.heap.objs.size + 1 →
      (∀ c o, c ≠ q0 → c ≠ qo → c ≠ it → c ≠ jt → s.heap.get? c = some o → h'.get? c = some o) → P (.ref s.heap.objs.size) { s with heap := h' }) :
    wpAny (model prog w) A (Builtin.«zip.__next__» ⟨[.ref q0], []⟩) (fun f s' => ∃ r, f = .done (.ret r) ∧ P r s') E s := by
  show wpAny _ _ (field (.ref q0) 2 >>= _) _ _ _
  refine (wpAny_bind (wpAny_field g0 rfl (x := .bool false) rfl ?_))
  show wpAny _ _ (field (.ref q0) 3 >>= _) _ _ _
  refine (wpAny_bind (wpAny_field g0 rfl (x := .ref qi) rfl ?_))
  refine (wpAny_bind (wpAny_seqItems gi rfl ?_))
  show wpAny _ _ (Builtin.SmallTypes.ownedTupleIsFree (.ref q0) >>= _) _ _ _
  refine (wpAny_bind (?_))
  unfold Builtin.SmallTypes.ownedTupleIsFree
  refine (wpAny_bind (wpAny_field g0 rfl (x := .none) rfl (wpAny_pure ?_)))
  simp only [if_true]
  refine (wpAny_bind (wpAny_rule ?_))
  refine (wpAny_bind (wpAny_field g0 rfl (x := .ref qo) rfl ?_))
  refine (wpAny_bind (wpAny_setField_rec g0 (by simp) fun ha ga ba => ?_))
  replace ga : IsZip ha q0 qi qo .ellipsis := ga
  refine (wpAny_bind (?_))
  simp only [List.forIn_nil, List.forIn_cons, List.zipIdx_nil, List.zipIdx_cons]
  refine (wpAny_bind (wpAny_bind (wpAny_onRaise ?_)))
  show wpAny _ _ (Builtin.SmallTypes.nextOf (.ref it) >>= _) _ _ _
  refine (wpAny_bind (nextOf_tuple_item (ht.extBut ba.extBut ap.i1z) (st.extBut ba.extBut ap.l1z) hu fun hb tb bb => wpAny_pure ?_))
  have pb : IsPair hb qo a b := bb.extBut _ _ ap.TOi1 (ba.extBut _ _ ap.TOz go)
  refine (wpAny_bind (wpAny_seqItems pb rfl ?_))
  refine (wpAny_bind (wpAny_updateSeq_pair pb fun hc pc bc => ?_))
  replace pc : IsPair hc qo u b := pc
  refine (wpAny_bind (wpAny_letGo (wpAny_pure ?_)))
  refine (wpAny_bind (wpAny_bind (wpAny_onRaise ?_)))
  show wpAny _ _ (Builtin.SmallTypes.nextOf (.ref jt) >>= _) _ _ _
  refine (wpAny_bind (wpAny_nextOf_list_item (((hl.extBut ba.extBut ap.i2z).extBut bb.extBut ap.i12.symm).extBut bc.extBut ap.TOi2.symm) (((sl.extBut ba.extBut ap.l2z).extBut bb.extBut ap.l2i1).extBut bc.extBut ap.l2TO) hv fun hd ld bd => wpAny_pure ?_))
  have pd : IsPair hd qo u b := bd.extBut _ _ ap.TOi2 pc
  refine (wpAny_bind (wpAny_seqItems pd rfl ?_))
  refine (wpAny_bind (wpAny_updateSeq_pair pd fun he pe be => ?_))
  replace pe : IsPair he qo u v := pe
  refine (wpAny_bind (wpAny_letGo (wpAny_pure (wpAny_pure ?_))))
  refine (wpAny_bind (wpAny_seqItems pe rfl ?_))
  refine (wpAny_bind (wpAny_newTuple ?_))
  have size : he.objs.size = s.heap.objs.size := by rw [be.1, bd.1, bc.1, bb.1, ba.1]
  have ge : IsZip he q0 qi qo .ellipsis := be.extBut _ _ ap.TOz.symm (bd.extBut _ _ ap.i2z.symm (bc.extBut _ _ ap.TOz.symm (bb.extBut _ _ ap.i1z.symm ga)))
  have old : ∀ c o, c ≠ q0 → c ≠ qo → c ≠ it → c ≠ jt → s.heap.get? c = some o → he.get? c = some o := fun c o n1 n2 n3 n4 e =>
    be.extBut _ _ n2 (bd.extBut _ _ n4 (bc.extBut _ _ n2 (bb.extBut _ _ n3 (ba.extBut _ _ n1 e))))
  have te : he.IsTupleIter it tt (m + 1) := ((tb.extBut bc.extBut ap.TOi1.symm).extBut bd.extBut ap.i12).extBut be.extBut ap.TOi1.symm
  have le : he.IsListIter jt ll (n + 1) := ld.extBut be.extBut ap.TOi2.symm
  have lz : q0 < he.objs.size := Heap.lt_size ge
  show wpAny _ _ (Builtin.SmallTypes.ownedTupleHandOut (.ref q0) (.ref he.objs.size) >>= _) _ _ _
  refine (wpAny_bind (?_))
  unfold Builtin.SmallTypes.ownedTupleHandOut
  have gf : IsZip (he.push { cls := .type "tuple", data := .seq #[u, v] }) q0 qi qo .ellipsis := Heap.get?_push_of_some _ ge
  refine (wpAny_bind (wpAny_setField_rec gf (by simp) fun hg gg bg => ?_))
  replace gg : IsZip hg q0 qi qo (rawInt he.objs.size) := gg
  refine wpAny_setField_rec gg (by simp) fun hh gh bh => ?_
  replace gh : IsZip hh q0 qi qo (rawInt he.objs.size) := gh
  have up : ∀ c o, c ≠ q0 → he.get? c = some o → hh.get? c = some o := fun c o n1 e => bh.extBut _ _ n1 (bg.extBut _ _ n1 (Heap.get?_push_of_some _ e))
  have np : IsPair hh he.objs.size u v := bh.extBut _ _ (Nat.ne_of_gt lz) (bg.extBut _ _ (Nat.ne_of_gt lz) (Heap.get?_push_size _ rfl))
  have size2 : hh.objs.size = he.objs.size + 1 := by rw [bh.1, bg.1, Heap.size_push]
  rw [size] at gh np size2
  refine wpAny_pure ⟨_, rfl, ?_⟩
  show P (.ref he.objs.size) _
  rw [size]
  exact k hh gh (up _ _ ap.TOz pe) (te.at fun o e => up _ o ap.i1z e) (le.at fun o e => up _ o ap.i2z e) np size2 fun c o n1 n2 n3 n4 e => up c o n1 (old c o n1 n2 n3 n4 e)
theorem mix_end {q0 qi qo it jt tt ll : Addr} {m n : Nat} {us vs : Array Value} {a b : Value} {P : Fin → Shared → Prop} (hn : A.handled = none) (ap : ZipApart q0 qi qo it jt tt ll)
    (g0 : IsZip s.heap q0 qi qo .none) (gi : IsPair s.heap qi (.ref it) (.ref jt)) (go : IsPair s.heap qo a b) (ht : s.heap.IsTupleIter it tt m) (hl : s.heap.IsListIter jt ll n) (st : s.heap.IsTuple tt us) (sl : s.heap.IsList ll vs) (he : us[m]? = none ∨ vs[n]? = none)
    (k : ∀ h' e, (∀ c o, c ≠ q0 → c ≠ qo → c ≠ it → c ≠ jt → s.heap.get? c = some o → h'.get? c = some o) → (∃ o, h'.get? e = some o ∧ o.cls = .type "StopIteration") → E (.ref e) { s with heap := h' }) :
    wpAny (model prog w) A (Builtin.«zip.__next__» ⟨[.ref q0], []⟩) P E s := by
  show wpAny _ _ (field (.ref q0) 2 >>= _) _ _ _
  refine (wpAny_bind (wpAny_field g0 rfl (x := .bool false) rfl ?_))
  show wpAny _ _ (field (.ref q0) 3 >>= _) _ _ _
  refine (wpAny_bind (wpAny_field g0 rfl (x := .ref qi) rfl ?_))
  refine (wpAny_bind (wpAny_seqItems gi rfl ?_))
  show wpAny _ _ (Builtin.SmallTypes.ownedTupleIsFree (.ref q0) >>= _) _ _ _
  refine (wpAny_bind (?_))
  unfold Builtin.SmallTypes.ownedTupleIsFree
  refine (wpAny_bind (wpAny_field g0 rfl (x := .none) rfl (wpAny_pure ?_)))
  simp only [if_true]
  refine (wpAny_bind (wpAny_rule ?_))
  refine (wpAny_bind (wpAny_field g0 rfl (x := .ref qo) rfl ?_))
  refine (wpAny_bind (wpAny_setField_rec g0 (by simp) fun ha ga ba => ?_))
  replace ga : IsZip ha q0 qi qo .ellipsis := ga
  refine (wpAny_bind (?_))
  simp only [List.forIn_nil, List.forIn_cons, List.zipIdx_nil, List.zipIdx_cons]
  refine (wpAny_bind (wpAny_bind (wpAny_onRaise ?_)))
  show wpAny _ _ (Builtin.SmallTypes.nextOf (.ref it) >>= _) _ _ _
  cases hu : us[m]? with
  | none =>
    refine (wpAny_bind (nextOf_tuple_end hn (ht.extBut ba.extBut ap.i1z) (st.extBut ba.extBut ap.l1z) hu fun hb e bb he => ?_))
    obtain ⟨o, eo, ec⟩ := he
    have gb : IsZip hb q0 qi qo .ellipsis := bb _ _ ap.i1z.symm ga
    have ne : e ≠ q0 := fun z => by subst z; rw [gb] at eo; cases eo; simp at ec
    refine wpAny_setField_rec gb (by simp) fun hc _ bc => k hc e (fun c o n1 _ n3 _ x => bc.extBut _ _ n1 (bb _ _ n3 (ba.extBut _ _ n1 x))) ⟨o, bc.extBut _ _ ne eo, ec⟩
  | some u =>
    have hv : vs[n]? = none := by
      rcases he with h | h
      · rw [hu] at h; cases h
      · exact h
    refine (wpAny_bind (nextOf_tuple_item (ht.extBut ba.extBut ap.i1z) (st.extBut ba.extBut ap.l1z) hu fun hb tb bb => wpAny_pure ?_))
    have pb : IsPair hb qo a b := bb.extBut _ _ ap.TOi1 (ba.extBut _ _ ap.TOz go)
    refine (wpAny_bind (wpAny_seqItems pb rfl ?_))
    refine (wpAny_bind (wpAny_updateSeq_pair pb fun hc pc bc => ?_))
    refine (wpAny_bind (wpAny_letGo (wpAny_pure ?_)))
    refine (wpAny_bind (wpAny_bind (wpAny_onRaise ?_)))
    show wpAny _ _ (Builtin.SmallTypes.nextOf (.ref jt) >>= _) _ _ _
    refine (wpAny_bind (wpAny_nextOf_list_end hn (((hl.extBut ba.extBut ap.i2z).extBut bb.extBut ap.i12.symm).extBut bc.extBut ap.TOi2.symm) (((sl.extBut ba.extBut ap.l2z).extBut bb.extBut ap.l2i1).extBut bc.extBut ap.l2TO) hv fun hd e bd he => ?_))
    obtain ⟨o, eo, ec⟩ := he
    have gd : IsZip hd q0 qi qo .ellipsis := bd _ _ ap.i2z.symm (bc.extBut _ _ ap.TOz.symm (bb.extBut _ _ ap.i1z.symm ga))
    have ne : e ≠ q0 := fun z => by subst z; rw [gd] at eo; cases eo; simp at ec
    refine wpAny_setField_rec gd (by simp) fun hf _ bf => k hf e (fun c o n1 n2 n3 n4 x => bf.extBut _ _ n1 (bd _ _ n4 (bc.extBut _ _ n2 (bb.extBut _ _ n3 (ba.extBut _ _ n1 x))))) ⟨o, bf.extBut _ _ ne eo, ec⟩
theorem mixNext_item {q0 qi qo it jt tt ll : Addr} {m n : Nat} {us vs : Array Value} {u v a b : Value} {P : Option Value → Shared → Prop} (ap : ZipApart q0 qi qo it jt tt ll)
    (g0 : IsZip s.heap q0 qi qo .none) (gi : IsPair s.heap qi (.ref it) (.ref jt)) (go : IsPair s.heap qo a b) (ht : s.heap.IsTupleIter it tt m) (hl : s.heap.IsListIter jt ll n) (st : s.heap.IsTuple tt us) (sl : s.heap.IsList ll vs) (hu : us[m]? = some u) (hv : vs[n]? = some v)
    (k : ∀ h', IsZip h' q0 qi qo (rawInt s.heap.objs.size) → IsPair h' qo u v → h'.IsTupleIter it tt (m + 1) → h'.IsListIter jt ll (n + 1) → IsPair h' s.heap.objs.size u v → h'.objs.size = s.heap.objs.size + 1 →
      (∀ c o, c ≠ q0 → c ≠ qo → c ≠ it → c ≠ jt → s.heap.get? c = some o → h'.get? c = some o) → P (some (.ref s.heap.objs.size)) { s with heap := h' }) :
    wpAny (model prog w) A (pyNext (.ref q0)) P E s := by
  have ty : s.TypeIs (.ref q0) "zip" := ⟨_, g0, rfl⟩
  unfold pyNext
  exact (wpAny_bind (wpAny_attempt (wpAny_callSpecial?_slot (name := Str.ofString "__next__") ty F.slot_zip_next (wpAny_call_entry F.slot_zip_next ty F.entry_zip_next (mix_item ap g0 gi go ht hl st sl hu hv fun h' k1 k2 k3 k4 k5 k6 k7 => wpAny_pure (k h' k1 k2 k3 k4 k5 k6 k7)) (F.args_zip_next_1 _)))))
theorem mixNext_end {q0 qi qo it jt tt ll : Addr} {m n : Nat} {us vs : Array Value} {a b : Value} {P : Option Value → Shared → Prop} (hn : A.handled = none) (ap : ZipApart q0 qi qo it jt tt ll)
    (g0 : IsZip s.heap q0 qi qo .none) (gi : IsPair s.heap qi (.ref it) (.ref jt)) (go : IsPair s.heap qo a b) (ht : s.heap.IsTupleIter it tt m) (hl : s.heap.IsListIter jt ll n) (st : s.heap.IsTuple tt us) (sl : s.heap.IsList ll vs) (he : us[m]? = none ∨ vs[n]? = none)
    (k : ∀ h', (∀ c o, c ≠ q0 → c ≠ qo → c ≠ it → c ≠ jt → s.heap.get? c = some o → h'.get? c = some o) → P none { s with heap := h' }) : wpAny (model prog w) A (pyNext (.ref q0)) P E s := by
  have ty : s.TypeIs (.ref q0) "zip" := ⟨_, g0, rfl⟩
  unfold pyNext
  refine (wpAny_bind (wpAny_attempt (wpAny_callSpecial?_slot (name := Str.ofString "__next__") ty F.slot_zip_next (wpAny_call_entry F.slot_zip_next ty F.entry_zip_next (mix_end hn ap g0 gi go ht hl st sl he fun h' e q z => ?_) (F.args_zip_next_1 _)))))
  obtain ⟨o, eo, ec⟩ := z
  refine (wpAny_bind (wpAny_isInstance (T := "StopIteration") (b := true) ⟨o, eo, ec⟩ isSubtype_stop ?_))
  exact wpAny_pure (k h' q)
end
/-! the call -/
abbrev mh1 (h : Heap) (p : Addr) : Heap := h.push { cls := .type "tuple_iterator", data := .fields #[.ref p, .int 0 0] }
abbrev mh2 (h : Heap) (p q : Addr) : Heap := (mh1 h p).push { cls := .type "list_iterator", data := .fields #[.ref q, .int 0 0] }
abbrev mh3 (h : Heap) (p q : Addr) : Heap := (mh2 h p q).push { cls := .type "tuple", data := .seq #[.ref h.objs.size, .ref (mh1 h p).objs.size] }
abbrev mh4 (h : Heap) (p q : Addr) : Heap := (mh3 h p q).push { cls := .type "tuple", data := .seq #[.none, .none] }
abbrev mh5 (h : Heap) (p q : Addr) : Heap := (mh4 h p q).push { cls := .type "zip", data := .fields #[.none, .bool false, .bool false, .ref (mh2 h p q).objs.size, .ref (mh3 h p q).objs.size] }
theorem mix_new (p q : Addr) (us vs : Array Value) :
    Meets (Builtin.«zip.__new__» ⟨[.type "zip", .ref p, .ref q], []⟩) (fun _ R s => s.heap.IsTuple p us ∧ s.heap.IsList q vs ∧ R (.ok (.ret (.ref (mh4 s.heap p q).objs.size))) { s with heap := mh5 s.heap p q }) :=
  .of_wp fun prog w A R s h => by
    obtain ⟨hp, g, d, tk, os⟩ := s
    obtain ⟨h1, h2, h⟩ := h
    have sz := sub_zip
    have a1 : Heap.IsTuple (Shared.heap ⟨hp, g, d, tk, os⟩) p us := h1
    have a2 : Heap.IsList (Shared.heap ⟨mh1 hp p, g, d, tk, os⟩) q vs := Heap.IsList.push h2 _
    wp_walk using wpAny_pyIter_tuple a1, wpAny_pyIter_list a2
    exact ⟨_, rfl, h⟩
section
variable {prog : Program} {w : World} {A : Around} {E : Value → Shared → Prop} {s : Shared}
theorem mix_call {p q : Addr} {us vs : Array Value} {P : Value → Shared → Prop} (hp : s.heap.IsTuple p us) (hq : s.heap.IsList q vs)
    (k : ∀ h', IsZip h' (s.heap.objs.size + 4) (s.heap.objs.size + 2) (s.heap.objs.size + 3) .none → IsPair h' (s.heap.objs.size + 2) (.ref s.heap.objs.size) (.ref (s.heap.objs.size + 1)) →
      IsPair h' (s.heap.objs.size + 3) .none .none → h'.IsTupleIter s.heap.objs.size p 0 → h'.IsListIter (s.heap.objs.size + 1) q 0 → h'.objs.size = s.heap.objs.size + 5 →
      (∀ c o, s.heap.get? c = some o → h'.get? c = some o) → P (.ref (s.heap.objs.size + 4)) { s with heap := h' }) :
    wpAny (model prog w) A (call (.type "zip") [.ref p, .ref q]) P E s := by
  refine callType_new F.called_zip (by decide) (F.typeCall_zip_2 _ _) (F.newCall_zip_2 _ _) (fun ob => F.args_object_init_3 ob _ _) F.entry_zip_new (mix_new p q us vs) ⟨hp, hq, ?_⟩
  have n1 : (mh1 s.heap p).objs.size = s.heap.objs.size + 1 := Heap.size_push ..
  have n2 : (mh2 s.heap p q).objs.size = s.heap.objs.size + 2 := by rw [Heap.size_push, n1]
  have n3 : (mh3 s.heap p q).objs.size = s.heap.objs.size + 3 := by rw [Heap.size_push, n2]
  have n4 : (mh4 s.heap p q).objs.size = s.heap.objs.size + 4 := by rw [Heap.size_push, n3]
  have n5 : (mh5 s.heap p q).objs.size = s.heap.objs.size + 5 := by rw [Heap.size_push, n4]
  have e5 : (mh5 s.heap p q).get? (mh4 s.heap p q).objs.size = some _ := Heap.get?_push_size _ rfl
  have e4 : (mh5 s.heap p q).get? (mh3 s.heap p q).objs.size = some _ := Heap.get?_push_of_some _ (Heap.get?_push_size _ rfl)
  have e3 : (mh5 s.heap p q).get? (mh2 s.heap p q).objs.size = some _ := Heap.get?_push_of_some _ (Heap.get?_push_of_some _ (Heap.get?_push_size _ rfl))
  have e2 : (mh5 s.heap p q).get? (mh1 s.heap p).objs.size = some _ := Heap.get?_push_of_some _ (Heap.get?_push_of_some _ (Heap.get?_push_of_some _ (Heap.get?_push_size _ rfl)))
  have e1 : (mh5 s.heap p q).get? s.heap.objs.size = some _ := Heap.get?_push_of_some _ (Heap.get?_push_of_some _ (Heap.get?_push_of_some _ (Heap.get?_push_of_some _ (Heap.get?_push_size _ rfl))))
  show _ ∧ _
  rw [n2, n3, n4] at e5
  rw [n1, n2] at e3
  rw [n3] at e4
  rw [n1] at e2
  rw [n4]
  refine ⟨⟨_, e5, rfl⟩, k _ e5 e3 e4 ⟨_, e1, rfl, rfl⟩ ⟨_, e2, rfl, rfl⟩ n5 fun c o x => ?_⟩
  exact Heap.get?_push_of_some _ (Heap.get?_push_of_some _ (Heap.get?_push_of_some _ (Heap.get?_push_of_some _ (Heap.get?_push_of_some _ x))))
end
/-! the walk -/
open PySem.Spec PyProof.Rows L2
def ItzM (K : PySem.W.Frag) (a b : Addr) : It :=
  ⟨fun i H => ∃ (xs ys : List V) (x y : V), SqT K H a xs ∧ SqL K H b ys ∧ xs[i]? = some x ∧ ys[i]? = some y,
    fun i H v H' => ∃ T x y, v = .ref T ∧ H T = none ∧ H' = upd H T (.tup [x, y]) ∧ (∀ xs, SqT K H a xs → xs[i]? = some x) ∧ ∀ ys, SqL K H b ys → ys[i]? = some y,
    fun i H => ∃ xs ys : List V, SqT K H a xs ∧ SqL K H b ys ∧ (xs.length ≤ i ∨ ys.length ≤ i)⟩
theorem turn_mix {P : Program} {w : World} {K : PySem.W.Frag} {elts : List Expr} {kk : Nat} {tpos : Pos} {a b q0 qi qo it jt : Addr} (ap : ZipApart q0 qi qo it jt a b) :
    Turn P w K (.Tuple elts kk tpos) (ItzM K a b) [q0, qi, qo, it, jt] q0 (fun i h => IsZip h q0 qi qo .none ∧ IsPair h qi (.ref it) (.ref jt) ∧ (∃ x y, IsPair h qo x y) ∧ h.IsTupleIter it a i ∧ h.IsListIter jt b i) where
  mem := by simp
  obj := fun i h st c hc => by
    obtain ⟨g0, gi, ⟨x, y, go⟩, ⟨o1, e1, _, d1⟩, ⟨o2, e2, _, d2⟩⟩ := st
    have cs : c = q0 ∨ c = qi ∨ c = qo ∨ c = it ∨ c = jt := by simpa using hc
    rcases cs with z | z | z | z | z
    · subst z
      exact ⟨_, g0, fun v q => nomatch q⟩
    · subst z
      exact ⟨_, gi, fun v q => nomatch q⟩
    · subst z
      exact ⟨_, go, fun v q => nomatch q⟩
    · subst z
      exact ⟨o1, e1, fun v q => by rw [d1] at q; cases q⟩
    · subst z
      exact ⟨o2, e2, fun v q => by rw [d2] at q; cases q⟩
  keep := fun i h h' st k => by
    obtain ⟨g0, gi, ⟨x, y, go⟩, t1, t2⟩ := st
    exact ⟨k q0 (by simp) _ g0, k qi (by simp) _ gi, ⟨x, y, k qo (by simp) _ go⟩, t1.at fun o e => k it (by simp) o e, t2.at fun o e => k jt (by simp) o e⟩
  item := by
    intro X hP hw hK hc i pins s σ H E I hf st hg
    subst hP hw hK
    obtain ⟨g0, gi, ⟨x0, y0, go⟩, t1, t2⟩ := st
    obtain ⟨xs, ys, x, y, sx, sy, hx, hy⟩ := hg
    obtain ⟨its, rv, p, _⟩ := I.tuple sx
    obtain ⟨jts, rw2, p2, _⟩ := I.list sy
    obtain ⟨u, hu, ru⟩ := rv.get hx
    obtain ⟨v, hv, ru2⟩ := rw2.get hy
    have lz : q0 < s.heap.objs.size := Heap.lt_size g0
    refine mixNext_item ap g0 gi go t1 t2 (show s.heap.IsTuple a its.toArray from p) p2.isList (u := u) (v := v) (by simpa using hu) (by simpa using hv) fun h' k0 ko kt kl kp ks kk => ?_
    refine ⟨_, rfl, wpAny_letOwnedTupleGo_zip (s := { s with heap := h' }) k0 fun h2 z2 sb => ?_⟩
    have pr : h2.get? s.heap.objs.size = some { cls := .type "tuple", data := .seq #[u, v] } := (sb.2 _ (Nat.ne_of_gt lz)).trans kp
    have fresh : ObjOk X.prog X.w (upd H s.heap.objs.size (.tup [x, y])) h2 s.heap.objs.size (.tup [x, y]) :=
      ⟨by show 2 ≤ sizeLine; decide, [u, v], .cons ru (.cons ru2 .nil), ⟨_, pr, rfl, _, rfl⟩⟩
    have I1 : Inv X pins σ (upd H s.heap.objs.size (.tup [x, y])) { s with heap := h2 } :=
      I.turnedNew (t' := s.toks) (ch := [q0, qi, qo, it, jt]) (fun c o hb q => (sb.2 c (fun r => hb (by simp [r]))).trans (kk c o (fun r => hb (by simp [r])) (fun r => hb (by simp [r])) (fun r => hb (by simp [r])) (fun r => hb (by simp [r])) q)) hf (Nat.le_refl _) fresh
    refine ⟨.ref s.heap.objs.size, _, I1, rfl, ⟨_, x, y, rfl, I.hok.fresh (Nat.le_refl _), rfl, fun l hl => by rw [I.tuple_inj hl sx]; exact hx, fun l hl => by rw [I.list_inj hl sy]; exact hy⟩, ⟨z2, ?_, ⟨u, v, ?_⟩, ?_, ?_⟩, fun c hcm => ?_⟩
    · exact (sb.2 _ ap.TIz).trans (kk _ _ ap.TIz ap.TITO ap.TIi1 ap.TIi2 gi)
    · exact (sb.2 _ ap.TOz).trans ko
    · exact kt.at fun o q => (sb.2 _ ap.i1z).trans q
    · exact kl.at fun o q => (sb.2 _ ap.i2z).trans q
    · have lt : c < s.heap.objs.size := by
        have cs : c = q0 ∨ c = qi ∨ c = qo ∨ c = it ∨ c = jt := by simpa using hcm
        rcases cs with z | z | z | z | z
        · exact z ▸ lz
        · exact z ▸ Heap.lt_size gi
        · exact z ▸ Heap.lt_size go
        · obtain ⟨_, e, _⟩ := t1; exact z ▸ Heap.lt_size e
        · obtain ⟨_, e, _⟩ := t2; exact z ▸ Heap.lt_size e
      rw [upd_ne (Nat.ne_of_lt lt)]
      exact (hf c hcm).1
  done := by
    intro X hP hw hK hc i pins s σ H E I hf st hg
    subst hP hw hK
    obtain ⟨g0, gi, ⟨x0, y0, go⟩, t1, t2⟩ := st
    obtain ⟨xs, ys, sx, sy, hend⟩ := hg
    obtain ⟨its, rv, p, _⟩ := I.tuple sx
    obtain ⟨jts, rw2, p2, _⟩ := I.list sy
    have n1 := rv.length
    have n2 := rw2.length
    have stop : its.toArray[i]? = none ∨ jts.toArray[i]? = none := by
      rcases hend with q | q
      · exact .inl (by simp; omega)
      · exact .inr (by simp; omega)
    refine mixNext_end (I.ok.hd hc) ap g0 gi go t1 t2 (show s.heap.IsTuple a its.toArray from p) p2.isList stop fun h' kk => ⟨rfl, ?_⟩
    exact I.turnedL (t' := s.toks) (ch := [q0, qi, qo, it, jt]) (fun c o hb q => kk c o (fun r => hb (by simp [r])) (fun r => hb (by simp [r])) (fun r => hb (by simp [r])) (fun r => hb (by simp [r])) q) hf
  self := fun A i s Q E st h => wpAny_pyIter_zip st.1 h
theorem pi_mix {X : Cx} {e e2 : Expr} {ta : TA} {p pos tpos : Pos} {elts : List Expr} {kk : Nat} (hg : Gl X "zip") (hm : X.mg "zip" = none) (ha : PA X [e, e2] ta)
    (hs : starEach [e, e2] X.env = (false, eval e X.env) :: starEach [e2] X.env) (hpl : (backTo pos (starEach [e2] X.env)).any (·.1) = false) :
    PI X (.Tuple elts kk tpos) (.Call (.Name "zip" p) [e, e2] [] pos) (fun σ H R => ta σ H fun vs H1 => ∃ a b xs ys, vs = [.ref a, .ref b] ∧ SqT X.K H1 a xs ∧ SqL X.K H1 b ys ∧ R (ItzM X.K a b) H1) := by
  refine ⟨fun pins s σ H R I h => ?_⟩
  refine Call_ (ld_blt I hg hm PyProof.Rows.boot_zip (PyProof.Rows.callWith_type1 (thn (ha.run pos pins s σ H _ I h) fun us s1 ⟨vs, H1, I1, r1, q1⟩ => ?_) hs hpl))
  obtain ⟨a, b, xs, ys, ev, sx, sy, q⟩ := q1
  subst ev
  have r2 : us = [Value.ref a, Value.ref b] := by
    cases r1 with
    | cons r rr => cases rr with
      | cons r' rr =>
        cases rr
        cases r
        cases r'
        rfl
  subst r2
  obtain ⟨its, rv, p1, _⟩ := I1.tuple sx
  obtain ⟨jts, rv2, p2, _⟩ := I1.list sy
  have p1 : s1.heap.IsTuple a its.toArray := p1
  have la : a < s1.heap.objs.size := by
    obtain ⟨o, eo, _⟩ := id p1
    exact Heap.lt_size eo
  have fr : ∀ c, c ∈ [s1.heap.objs.size + 4, s1.heap.objs.size + 2, s1.heap.objs.size + 3, s1.heap.objs.size, s1.heap.objs.size + 1] → FpOk X pins H1 c := fun c hcm => by
    have ge : s1.heap.objs.size ≤ c := by
      generalize s1.heap.objs.size = sz at *
      simp only [List.mem_cons, List.not_mem_nil, or_false] at hcm
      omega
    exact I1.fpOk ge (I1.hok.fresh ge)
  refine mix_call p1 p2.isList fun h' g0 gi go t1 t2 hsz hk => wpAny_pyIter_zip g0 ?_
  have I2 : Inv X pins σ H1 { s1 with heap := h' } := I1.kept (t' := s1.toks) hk
  have ap := PySem.W.ktu_apart s1.heap.objs.size a b la p2.lt
  exact ⟨s1.heap.objs.size + 4, [s1.heap.objs.size + 4, s1.heap.objs.size + 2, s1.heap.objs.size + 3, s1.heap.objs.size, s1.heap.objs.size + 1], _, _, H1, rfl, I2, turn_mix ap, ⟨g0, gi, ⟨_, _, go⟩, t1, t2⟩, fr, q⟩
end Dl
set_option Elab.async false
set_option linter.all false
set_option maxRecDepth 100000
set_option maxHeartbeats 800000
/-! min of two data. -/
namespace Dl
open PySem RZ PyProof.Rows
open PySem.W
section
variable {prog : Program} {w : World} {A : Around} {E : Value → Shared → Prop} {s : Shared}
theorem min_pair_walk {x y : Value} {Q : Value → Shared → Prop}
    (h : wpAny (model prog w) A.in1 (pyIter (.ref s.heap.objs.size)) (fun it s₂ => ∃ I fp wr G n P St H bt, it = .ref I ∧ WalksS prog w A.in1 I fp wr G n P St ∧ St 0 s₂ ∧ (∀ b ∈ fp, b < s₂.heap.objs.size) ∧ 0 < n ∧
      (∀ b o, H.get? b = some o → b ∉ wr) ∧ (∀ b o, H.get? b = some o → s₂.heap.get? b = some o) ∧ CmpIn prog w A.in1 .Lt H P bt ∧ ∀ v s', P (argBest bt (n - 1)) v → Moved wr G s₂ s' → Q v s') E
      { s with heap := s.heap.push { cls := .type "tuple", data := .seq #[x, y] } }) :
    wpAny (model prog w) A (call (.builtin "min") [x, y]) Q E s := by
  have hname : (toString "min" ++ toString ".loop" : String) = "min.loop" := by decide
  refine call_function_tree F.kind_min F.plain_min F.entry_min (F.args_min2 _ _) ?_
  show wpAny _ A.in1 (Builtin.Builtins.bindParams "min" ["key", "default"] 0 ⟨[], []⟩ >>= _) _ _ s
  refine wpAny_bind (wpAny_of_eq (show Builtin.Builtins.bindParams "min" ["key", "default"] 0 ⟨[], []⟩ = pure [none, none] from rfl) ?_)
  show wpAny _ A.in1 (newTuple [x, y] >>= _) _ _ s
  refine wpAny_bind (wpAny_newObj_type ?_)
  refine wpAny_bind (wpAny_mono h (fun it s₂ h₂ => ?_) fun _ _ e => e)
  obtain ⟨I, fp, wr, G, n, P, St, H, bt, rfl, W, hst, hfp, hn, hw, hkeep, hcmp, hQ⟩ := h₂
  refine wpAny_bind (wpAny_newObj_type ?_)
  have hSf : s₂.heap.objs.size ∉ fp := fun hm => Nat.lt_irrefl _ (hfp _ hm)
  rw [hname]
  refine wpAny_pure ⟨plainId_quiet F.plain_min_loop _, codeAny_min_loop_firstH W H hw bt hcmp s₂.heap.objs.size hSf (fresh_in hkeep) _ hn (fun b o e => Heap.get?_push_of_some _ (hkeep b o e)) (W.frame 0 s₂ _ s₂.toks hst (Nat.le_refl _) fun b _ o e => Heap.get?_push_of_some _ e) (Heap.get?_push_size _ rfl) fun v s' hP hm => ?_⟩
  exact hQ v s' hP (Moved.drop_new (tk := s₂.toks) hm (Nat.le_refl _))
theorem min_pair_data {u v : Value} {x y : PyData} {as : List Addr} {Q : Value → Shared → Prop} (hh : A.handled = none) (hr : ReadsAll s.heap [u, v] [x, y] as) (ha : AlikeAll [x, y]) (hu : A.units + 1 + PyData.depthAll [x, y] < cLine)
    (h : ∀ (i : Nat) z h' tk bs, [u, v][i]? = some z → Reads h' z (minD x [y]) bs → (∀ b o, s.heap.get? b = some o → h'.get? b = some o) → Q z { s with heap := h', toks := tk }) :
    wpAny (model prog w) A (call (.builtin "min") [u, v]) Q E s := by
  have hl : (s.heap.push { cls := .type "tuple", data := .seq #[u, v] }).IsTuple s.heap.objs.size #[u, v] := ⟨_, Heap.get?_push_size _ rfl, rfl, _, rfl⟩
  have hkp : ∀ b o, s.heap.get? b = some o → (s.heap.push { cls := .type "tuple", data := .seq #[u, v] }).get? b = some o := fun b o e => Heap.get?_push_of_some _ e
  have hr2 : ReadsAll (s.heap.push { cls := .type "tuple", data := .seq #[u, v] }) (#[u, v] : Array Value).toList [x, y] as := ReadsAll.keeps hkp hr
  refine min_pair_walk (iter_tupleW (A := A.in1) hh hl fun s₂ e W st hfp hw hk => ?_)
  refine ⟨_, _, _, _, _, _, _, _, _, rfl, W, st, hfp, by show 0 < 2; omega, hw, hk, cmpIn_lt (A := A.in1) hr2 ha (by show A.units + 1 + _ < _; exact hu), fun z s' hP m => ?_⟩
  obtain ⟨h', tk, rfl, hk'⟩ := moved_old e rfl m
  obtain ⟨bs, r, _, _, _⟩ := readsAll_atA hr2 _ z hP
  have e2 := (argBest_fold dataLt PyData.none x [y] 1 (Nat.le_refl _)).2
  have hk2 : ∀ b o, s.heap.get? b = some o → h'.get? b = some o := fun b o eo => hk' b o (hkp b o eo)
  refine h _ z h' tk bs (by simpa using hP) (reads_keeps hk' (by unfold minD; exact e2 ▸ r)) hk2
end
end Dl
set_option Elab.async false
set_option linter.all false
set_option maxRecDepth 100000
set_option maxHeartbeats 4000000
/-! sets of whole numbers, sorted. -/
namespace Dl
open PySem PySem.Spec PyProof.Rows L2
/-! ### distinct, in order -/
theorem mem_insI {x k : Int} : ∀ {l : List Int}, k ∈ insI x l ↔ k = x ∨ k ∈ l
  | [] => by simp [insI]
  | y :: l => by
    unfold insI
    split
    · simp
    · split
      · rename_i h
        subst h
        simp
      · rw [List.mem_cons, mem_insI (l := l), List.mem_cons]
        constructor
        · rintro (h | h | h)
          · exact .inr (.inl h)
          · exact .inl h
          · exact .inr (.inr h)
        · rintro (h | h | h)
          · exact .inr (.inl h)
          · exact .inl h
          · exact .inr (.inr h)
theorem mem_sset {k : Int} : ∀ {l : List Int}, k ∈ sset l ↔ k ∈ l
  | [] => by simp [sset]
  | x :: l => by rw [sset, mem_insI, mem_sset (l := l), List.mem_cons]
theorem pw_insI {x : Int} : ∀ {l : List Int}, l.Pairwise (· < ·) → (insI x l).Pairwise (· < ·)
  | [], _ => List.pairwise_singleton _ _
  | y :: l, h => by
    obtain ⟨h1, h2⟩ := List.pairwise_cons.mp h
    unfold insI
    split
    · rename_i q
      refine List.pairwise_cons.mpr ⟨fun z hz => ?_, h⟩
      rcases List.mem_cons.mp hz with e | e
      · rw [e]; exact q
      · have := h1 z e; omega
    · split
      · exact h
      · rename_i q1 q2
        refine List.pairwise_cons.mpr ⟨fun z hz => ?_, pw_insI h2⟩
        rcases mem_insI.mp hz with e | e
        · omega
        · exact h1 z e
theorem pw_sset : ∀ l : List Int, (sset l).Pairwise (· < ·)
  | [] => List.Pairwise.nil
  | x :: l => pw_insI (pw_sset l)
theorem pw_ext : ∀ (A B : List Int), A.Pairwise (· < ·) → B.Pairwise (· < ·) → (∀ x, x ∈ A ↔ x ∈ B) → A = B := by
  intro A
  induction A with
  | nil =>
    intro B _ _ e
    cases B with
    | nil => rfl
    | cons b B => exact absurd ((e b).mpr (by simp)) (by simp)
  | cons a A ih =>
    intro B ha hb e
    cases B with
    | nil => exact absurd ((e a).mp (by simp)) (by simp)
    | cons b B =>
      obtain ⟨a1, a2⟩ := List.pairwise_cons.mp ha
      obtain ⟨b1, b2⟩ := List.pairwise_cons.mp hb
      have hab : a = b := by
        have u := (e a).mp (by simp)
        have v := (e b).mpr (by simp)
        rcases List.mem_cons.mp u with u | u
        · exact u
        · rcases List.mem_cons.mp v with v | v
          · exact v.symm
          · have := a1 b v
            have := b1 a u
            omega
      subst hab
      rw [ih B a2 b2 fun x => ?_]
      constructor
      · intro hx
        have := a1 x hx
        rcases List.mem_cons.mp ((e x).mp (by simp [hx])) with q | q
        · omega
        · exact q
      · intro hx
        have := b1 x hx
        rcases List.mem_cons.mp ((e x).mpr (by simp [hx])) with q | q
        · omega
        · exact q
theorem sset_eq {A ns : List Int} (h : A.Pairwise (· < ·)) (e : ∀ x, x ∈ A ↔ x ∈ ns) : A = sset ns := pw_ext _ _ h (pw_sset ns) fun x => by rw [e, mem_sset]
theorem nodup_len : ∀ (A B : List Int), A.Nodup → B.Nodup → (∀ x, x ∈ A ↔ x ∈ B) → A.length = B.length := by
  intro A
  induction A with
  | nil =>
    intro B _ _ e
    cases B with
    | nil => rfl
    | cons b B => exact absurd ((e b).mpr (by simp)) (by simp)
  | cons a A ih =>
    intro B ha hb e
    obtain ⟨a1, a2⟩ := List.nodup_cons.mp ha
    have hm : a ∈ B := (e a).mp (by simp)
    have := ih (B.erase a) a2 (hb.erase a) fun x => by
      rw [hb.mem_erase_iff]
      constructor
      · intro hx
        exact ⟨fun z => a1 (z ▸ hx), (e x).mp (by simp [hx])⟩
      · rintro ⟨h1, h2⟩
        rcases List.mem_cons.mp ((e x).mpr h2) with q | q
        · exact absurd q h1
        · exact q
    rw [List.length_cons, this, List.length_erase_of_mem hm]
    have := List.length_pos_of_mem hm
    omega
theorem sset_nodup (ns : List Int) : (sset ns).Nodup := (pw_sset ns).imp fun h => by omega
section
variable {prog : Program} {w : World} {A : Around} {E : Value → Shared → Prop} {s : Shared}
/-- the new set -/
abbrev set0 (w : World) : Obj := { cls := .type "set", dict := none, data := .set #[] 0 (.fresh 0 0 (!w.params.followText "set-order")) }
theorem set_lst {p : Addr} {us : Array Value} (zs : List Int) {Q : Value → Shared → Prop} (ha : A.handled = none) (hp : s.heap.IsList p us) (hz : IntsAre us.toList zs) (hn : zs.length + 1 < scanBound)
    (k : ∀ (g : Heap) (tk c : Nat), SetR w g s.heap.objs.size (fun j => decide (j ∈ zs)) c → c ≤ zs.length → (∀ b o, s.heap.get? b = some o → g.get? b = some o) → Q (.ref s.heap.objs.size) { s with heap := g, toks := tk }) :
    wpAny (model prog w) A (call (.type "set") [.ref p]) Q E s := by
  have usz : us.size = zs.length := by have q := IntsAre.length hz; rwa [Array.length_toList] at q
  obtain ⟨_, _, m1⟩ := F.called_set.mro
  have m2 := F.called_set.made; have m3 := F.called_set.sub
  refine wpAny_call (codeAny_of_tree (show wpAny _ _ (callAny (.type "set") _) _ _ _ from wpAny_pure ⟨Code.quiet_builtin _ (by decide +kernel), codeAny_builtin F.entry_type_call ?_⟩))
  rw [Around.under_plain (weight_type_call_type "set" [.ref p] []) rfl]
  have n1 := F.called_set.notType; have n2 := F.called_set.canCreate; have n3 := F.typeCall_set_1 (.ref p)
  repeat (any_goals (first | assumption | wp_step))
  refine codeAny_mono (code_set_led1 (.ref p) (E := E) (Q₁ := fun ob r => ob = .ref s.heap.objs.size ∧ r = { s with heap := s.heap.push (set0 w) }) ⟨rfl, rfl⟩) fun f r hf => ?_
  match f, hf with
  | .error _, hf => exact hf
  | .ok (.ret ob), hf =>
    obtain ⟨rfl, rfl⟩ := hf
    have g0 : (s.heap.push (set0 w)).get? s.heap.objs.size = some (set0 w) := Heap.get?_push_size _ rfl
    have ty : Shared.TypeIs { s with heap := s.heap.push (set0 w) } (.ref s.heap.objs.size) "set" := ⟨_, g0, rfl⟩
    have i1 := F.called_set.init.lookup; have i2 := F.called_set.init.bind (.ref s.heap.objs.size)
    repeat (any_goals (first | assumption | wp_step))
    refine codeAny_mono (codeAny_call_builtin (R := wants (fun v r => v = .none ∧ ∃ g tk c, r = { s with heap := g, toks := tk } ∧ SetR w g s.heap.objs.size (fun j => decide (j ∈ zs)) c ∧ c ≤ zs.length ∧ (∀ b o, s.heap.get? b = some o → g.get? b = some o)) E) F.called_set.init.plain F.entry_set_init (check_set_init_1 ty ?_)) fun f2 r2 hf2 => ?_
    · obtain ⟨⟨oc, od, odt, os⟩, op, oc', on, odt'⟩ := hp
      simp only at oc' odt'; subst oc' odt'
      have op' : (s.heap.push (set0 w)).get? p = some { cls := .type "list", dict := od, data := .seq us on, slots := os } := Heap.get?_push_of_some _ op
      have j1 := F.sub_list_set; have j2 := F.sub_list_frozenset
      have j3 : (Value.type "list" == Value.type "dict") = false := by decide
      have lst1 : (s.heap.push (set0 w)).IsList p us := ⟨_, op', rfl, on, rfl⟩
      unfold Builtin.«set.__init__» noKeywords Builtin.Frozenset.updateFrom
      generalize hIt : pyIter = It
      wp_walk
      subst hIt
      refine wpAny_pyIter_list lst1 (wpAny_bind (wpAny_runValue ?_))
      have plt : p < s.heap.objs.size := Heap.lt_size op
      have h3 : A.in1.in1.in1.handled = none := by simp [ha]
      have zsz : (s.heap.push (set0 w)).objs.size = s.heap.objs.size + 1 := Heap.size_push ..
      have pne : p ≠ (s.heap.push (set0 w)).objs.size := by
        rw [zsz]; exact Nat.ne_of_lt (Nat.lt_succ_of_lt plt)
      have fre : s.heap.objs.size ∉ [(s.heap.push (set0 w)).objs.size, p] := by
        rw [zsz]; simp only [List.mem_cons, List.not_mem_nil, or_false, not_or]
        exact ⟨Nat.ne_of_lt (Nat.lt_succ_self _), Nat.ne_of_gt plt⟩
      have val : ∀ (i : Nat) (v : Value), us[i]? = some v → ∃ n t, zs[i]? = some n ∧ v = .int n t := fun i v hv => by
        have il : i < zs.length := by rw [← usz]; exact (Array.getElem?_eq_some_iff.mp hv).1
        obtain ⟨t, e⟩ := IntsAre.int_at hz i v (by rw [Array.getElem?_toList]; exact hv)
        refine ⟨zs[i], t, List.getElem?_eq_getElem il, e.trans ?_⟩
        rw [List.getD_eq_getElem?_getD, List.getElem?_eq_getElem il]; rfl
      refine set_update_ints ((Walks.list h3 _ p pne us).toS) s.heap.objs.size fre zs usz hn val (us.size - 0) 0 _ (by omega) (Nat.zero_le _) ⟨⟨_, Heap.get?_push_size _ rfl, rfl, rfl⟩, (lst1.push _)⟩ ⟨0, Nat.le_refl 0, setR_new_at (Heap.get?_push_of_some _ g0)⟩ fun r c mv hc hS => ?_
      obtain ⟨g, gg, gd, tk, gos⟩ := r
      cases (show gg = s.gens from mv.gens); cases (show gd = s.drawn from mv.drawn); cases (show gos = s.os from mv.os)
      rw [usz] at hc
      refine (show wpAny _ _ _ _ _ _ from wpAny_pure (show wpAny _ _ (ret Value.none) _ _ _ from wpAny_pure ⟨rfl, g, tk, c, rfl, hS, hc, fun b o e => ?_⟩))
      have bl : b < s.heap.objs.size := Heap.lt_size e
      refine mv.heap b o ?_ (Heap.get?_push_of_some _ (Heap.get?_push_of_some _ e))
      rw [zsz]; simp only [List.mem_cons, List.not_mem_nil, or_false, not_or]
      exact ⟨Nat.ne_of_lt bl, Nat.ne_of_lt (Nat.lt_succ_of_lt bl)⟩
    · match f2, hf2 with
      | .error _, hf2 => exact hf2
      | .ok (.ret v), hf2 =>
        obtain ⟨rfl, g, tk, c, rfl, e1, e2, e3⟩ := hf2
        repeat (any_goals (first | assumption | wp_step))
        exact k _ _ _ e1 e2 e3
      | .ok (.next), hf2 => exact hf2.elim
      | .ok (.brk), hf2 => exact hf2.elim
      | .ok (.cont), hf2 => exact hf2.elim
  | .ok (.next), hf => exact hf.elim
  | .ok (.brk), hf => exact hf.elim
  | .ok (.cont), hf => exact hf.elim
end
section
variable {X : Cx}
theorem set_count {w : World} {h : Heap} {a : Addr} {ns : List Int} {c : Nat} (R : SetR w h a (fun j => decide (j ∈ ns)) c) : c = (sset ns).length := by
  obtain ⟨o, es, ep, t, _, _, _, _, nd, hm, _, _, hn, _⟩ := R
  rw [← hn, ← nodup_len _ _ nd (sset_nodup ns) fun x => by rw [← hm, decide_eq_true_eq, mem_sset]]
  rw [List.length_map, Array.length_toList]
def rSetI (K : PySem.W.Frag) (w : World) : List V → Hp → VK → Prop := fun vs H Q => ∃ (a : Addr) (ns : List Int), vs = [V.ref a] ∧ (SqL K H a (ns.map V.int) ∨ SqT K H a (ns.map V.int)) ∧ ns.length ≤ 1000 ∧
  ∀ p, H p = none → Q (.ref p) (upd H p (SetO w p (fun j => decide (j ∈ ns)) (sset ns).length))
theorem cr_setI (hc : X.calm = true) : CallR X (.type "set") (rSetI X.K X.w) := by
  intro pins s σ H vs us Q I r h
  obtain ⟨a, ns, rfl, hs, hz, q⟩ := h
  rw [Vals.ref1 r]
  have hb : ns.length + 1 < scanBound := by unfold scanBound; omega
  have fin : ∀ (g : Heap) (tk c : Nat), SetR X.w g s.heap.objs.size (fun j => decide (j ∈ ns)) c → c ≤ ns.length → (∀ b o, s.heap.get? b = some o → g.get? b = some o) → EP X pins σ Q (.ref s.heap.objs.size) { s with heap := g, toks := tk } := fun g tk c R _ hk => by
    have := set_count R
    subst this
    exact ⟨.ref s.heap.objs.size, upd H s.heap.objs.size (SetO X.w s.heap.objs.size (fun j => decide (j ∈ ns)) (sset ns).length), I.laid (t' := tk) hk (Nat.le_refl _) (setO_new R), rfl, q _ (I.hok.fresh (Nat.le_refl _))⟩
  rcases hs with hs | hs
  · obtain ⟨its, rv, pl, _⟩ := I.list hs
    exact set_lst ns (I.ok.hd hc) pl.isList (by simpa using rv.ints) hb fin
  · obtain ⟨its, rv, pl, _⟩ := I.tuple hs
    exact call_set_tupI ns (I.ok.hd hc) (show s.heap.IsTuple a its.toArray from pl) (by simpa using rv.ints) hb fin
end
end Dl
set_option Elab.async false
set_option linter.all false
set_option maxRecDepth 100000
set_option maxHeartbeats 4000000
/-! combinations(range(n), r), walked. -/
namespace Dl
open PySem PySem.Spec PyProof.Rows L2
/-! ### the type -/
abbrev Tc : String := "itertools.combinations"
theorem mro_cmb : mroOf (.type Tc) = pure [.type Tc, .type "object"] := by rw [mroOf_type]; kernel_rfl
theorem lookup_cmb_new : typeLookup (.type Tc) "__new__" = pure (some (.builtin "itertools.combinations.__new__")) := by rw [typeLookup_type, builtinLookup_eq_fast]; kernel_rfl
theorem slot_cmb_init : Slot Tc "__init__" "object.__init__" :=
  .of (owner := "object") (n := "__init__") (by rw [typeLookup_type, builtinLookup_eq_fast]; kernel_rfl) (by decide +kernel) (by decide +kernel) (by decide +kernel)
    (by first | exact .inl (by decide +kernel) | exact .inr (by decide +kernel)) (by rw [isSubtype_type]; kernel_rfl)
theorem sub_cmb : isSubtype (.type Tc) (.type Tc) = pure true := by rw [isSubtype_type]; kernel_rfl
theorem called_cmb : TypeCalled Tc "itertools.combinations.__new__" "object.__init__" :=
  ⟨by decide +kernel, by decide +kernel, ⟨_, _, mro_cmb⟩, madeBy_type mro_cmb lookup_cmb_new (by decide +kernel), by decide +kernel, sub_cmb, slot_cmb_init⟩
theorem typeCall_cmb_2 (a b : Value) : checkTypeCall Tc ⟨[a, b], []⟩ = pure () := by kernel_rfl
theorem newCall_cmb_2 (a b : Value) : checkBuiltinCall "itertools.combinations.__new__" ⟨[.type Tc, a, b], []⟩ = pure () := by kernel_rfl
theorem entry_cmb_new : entryFor table "itertools.combinations.__new__" = some Builtin.«itertools.combinations.__new__» := entryFor_of_tree (by kernel_rfl)
theorem plain_cmb_new : plainId "itertools.combinations.__new__" = true := by decide +kernel
theorem slot_cmb_iter : Slot Tc "__iter__" "itertools.combinations.__iter__" :=
  .of (owner := Tc) (n := "__iter__") (by rw [typeLookup_type, builtinLookup_eq_fast]; kernel_rfl) (by decide +kernel) (by decide +kernel) (by decide +kernel)
    (by first | exact .inl (by decide +kernel) | exact .inr (by decide +kernel)) sub_cmb
theorem slot_cmb_next : Slot Tc "__next__" "itertools.combinations.__next__" :=
  .of (owner := Tc) (n := "__next__") (by rw [typeLookup_type, builtinLookup_eq_fast]; kernel_rfl) (by decide +kernel) (by decide +kernel) (by decide +kernel)
    (by first | exact .inl (by decide +kernel) | exact .inr (by decide +kernel)) sub_cmb
theorem entry_cmb_iter : entryFor table "itertools.combinations.__iter__" = some Builtin.«dict_keyiterator.__iter__» :=
  entryFor_alias (id' := "dict_keyiterator.__iter__") (by kernel_rfl) (by first | rfl | decide +kernel | (unfold String.splitOn; simp +decide [String.splitOnAux])) (by decide +kernel) (by kernel_rfl)
theorem entry_cmb_next : entryFor table "itertools.combinations.__next__" = some Builtin.«itertools.combinations.__next__» := entryFor_of_tree (by kernel_rfl)
abbrev revC : List Char := ['s', 'n', 'o', 'i', 't', 'a', 'n', 'i', 'b', 'm', 'o', 'c', '.', 's', 'l', 'o', 'o', 't', 'r', 'e', 't', 'i']
theorem owner_cmb : Manifest.owners.lookup (String.ofList revC.reverse) = some Manifest.sig_itertools_combinations := by kernel_rfl
theorem args_cmb_iter (a : Value) : argsOk "itertools.combinations.__iter__" ⟨[a], []⟩ := by
  unfold argsOk; rw [signature?_of (id := "itertools.combinations.__iter__") (n := ['_', '_', 'r', 'e', 't', 'i', '_', '_']) (o := revC) (by kernel_rfl) owner_cmb]; kernel_rfl
theorem args_cmb_next (a : Value) : argsOk "itertools.combinations.__next__" ⟨[a], []⟩ := by
  unfold argsOk; rw [signature?_of (id := "itertools.combinations.__next__") (n := ['_', '_', 't', 'x', 'e', 'n', '_', '_']) (o := revC) (by kernel_rfl) owner_cmb]; kernel_rfl
theorem noDict_cmb : typeHasDict (.type Tc) = false := by decide +kernel
end Dl
set_option Elab.async false
set_option linter.all false
set_option maxRecDepth 100000
set_option maxHeartbeats 4000000
/-! combinations: made, turned. -/
namespace Dl
open PySem PySem.Spec PyProof.Rows L2
/-! ### made -/
abbrev cmbF (T : Addr) (st : Int) (res : Value) (idx : List Nat) : Array Value := (([.ref T, .int st 0, res] : List Value) ++ idx.map fun (i : Nat) => Value.int i 0).toArray
abbrev IsCmb (h : Heap) (it T : Addr) (st : Int) (res : Value) (idx : List Nat) : Prop := h.get? it = some { cls := .type Tc, dict := none, data := .fields (cmbF T st res idx), slots := #[] }
section
variable {prog : Program} {w : World} {A : Around} {E : Value → Shared → Prop} {s : Shared} {r : Addr} {a b c : Int} {t u v : Tok} {n : Nat}
theorem code_cmb_new {Q₁ : Value → Shared → Prop} (hh : A.handled = none) (hr : IsRange s.heap r a b c t u v) (hsmall : Builtin.Range.small a b c = true) (hn : Builtin.Range.rangeSize a b c = n) (hlen : n ≤ 1000) {k : Nat} {tk0 : Tok} (hk : k ≤ 1000)
    (h : ∀ (h' : Heap) (tk : Nat) (acc : Array Value), (∀ b o, s.heap.get? b = some o → h'.get? b = some o) → ItemsOf (fun i v => ∃ t, v = .int (a + i * c) t) acc n →
      Q₁ (.ref (h'.objs.size + 1)) { s with heap := (h'.push { cls := .type "tuple", data := .seq acc }).push { cls := .type Tc, data := .fields (cmbF h'.objs.size (if k > n then 2 else 0) .none (List.range k)) }, toks := tk }) :
    codeAny (model prog w) A (.call (.builtin "itertools.combinations.__new__") ⟨[.type Tc, .ref r, .int k tk0], []⟩) (wants Q₁ E) s := by
  refine codeAny_of_tree ?_
  show wpAny _ A.in1 (do checkBuiltinCall "itertools.combinations.__new__" ⟨[.type Tc, .ref r, .int k tk0], []⟩; again (.builtin "itertools.combinations.__new__" ⟨[.type Tc, .ref r, .int k tk0], []⟩)) _ _ s
  refine wpAny_bind (wpAny_of_eq (newCall_cmb_2 _ _) (wpAny_pure ⟨plainId_quiet plain_cmb_new _, codeAny_builtin entry_cmb_new ?_⟩))
  rw [Around.under_plainId plain_cmb_new _]
  have hsub := sub_cmb
  have hsub2 : isSubtype (Value.type Tc) (Value.type ("itertools." ++ "combinations")) = pure true := by
    rw [show ("itertools." ++ "combinations" : String) = Tc by decide]
    exact sub_cmb
  have hd := noDict_cmb
  have hTI : s.TypeIs (.ref r) "range" := ⟨_, hr, rfl⟩
  have hh1 : A.in1.handled = none := hh
  have hk1 : ¬ ((!(decide (-(2 ^ 63 : Int) ≤ (k : Int)) && decide ((k : Int) < (2 ^ 63 : Int)))) = true) := by
    have a : decide (-(2 ^ 63 : Int) ≤ (k : Int)) = true := decide_eq_true (by omega)
    have b : decide ((k : Int) < (2 ^ 63 : Int)) = true := decide_eq_true (by omega)
    rw [a, b]
    decide
  unfold Builtin.«itertools.combinations.__new__»
  refine wpAny_bind ?_
  wp_walk using wpAny_typeOf hTI, collect_range (A := A.in1) hh1 hr hsmall hn (show n ≤ 2 ^ 24 by omega)
  have hk2 : ¬ ((decide ((k : Int) < -(2 ^ 63 : Int)) || decide ((k : Int) ≥ (2 ^ 63 : Int))) = true) := by
    have a : decide ((k : Int) < -(2 ^ 63 : Int)) = false := decide_eq_false (by omega)
    have b : decide ((k : Int) ≥ (2 ^ 63 : Int)) = false := decide_eq_false (by omega)
    rw [a, b]
    decide
  rw [if_neg hk2]
  refine wpAny_pure ?_
  refine wpAny_bind (collect_range (A := A.in1) hh1 hr hsmall hn (show n ≤ 2 ^ 24 by omega) fun h' tk acc kp hacc => ?_)
  rw [if_neg (show ¬ ((k : Int) < 0) by omega)]
  show wpAny _ _ (if Builtin.Itertools.itTooMany (k : Int) = true then _ else _) _ _ _
  rw [if_neg (show ¬ (Builtin.Itertools.itTooMany (k : Int) = true) by unfold Builtin.Itertools.itTooMany; simp; omega)]
  have hz : acc.size = n := hacc.1
  have ez : acc.toList.length = n := by rw [Array.length_toList]; exact hz
  refine wpAny_bind (wpAny_newTuple ?_ (by rw [ez, sizeLine_eq]; omega))
  refine wpAny_pure ?_
  rw [ez, Int.toNat_natCast]
  show wpAny _ _ (Builtin.Itertools.itNewRecord (.type Tc) _ >>= _) _ _ _
  refine wpAny_bind ?_
  unfold Builtin.Itertools.itNewRecord
  rw [hd]
  rw [if_pos (show (!false) = true from rfl)]
  have ea : acc.toList.toArray = acc := by simp
  refine wpAny_newObj_type ?_ ?_
  · refine wpAny_pure ?_
    have := h h' tk acc kp hacc
    rw [ea]
    have e1 : (h'.push { cls := .type "tuple", data := .seq acc }).objs.size = h'.objs.size + 1 := Heap.size_push ..
    rw [← e1] at this
    exact this
  · show (([Value.ref h'.objs.size, rawInt (if k > n then 2 else 0), Value.none] : List Value) ++ List.map (fun i : Nat => rawInt i) (List.range k)).toArray.size ≤ _
    simp [sizeLine_eq]
    omega
theorem call_cmb {Q : Value → Shared → Prop} (hh : A.handled = none) (hr : IsRange s.heap r a b c t u v) (hsmall : Builtin.Range.small a b c = true) (hn : Builtin.Range.rangeSize a b c = n) (hlen : n ≤ 1000) {k : Nat} {tk0 : Tok} (hk : k ≤ 1000)
    (hQ : ∀ (h' : Heap) (tk : Nat) (acc : Array Value), (∀ b o, s.heap.get? b = some o → h'.get? b = some o) → ItemsOf (fun i v => ∃ t, v = .int (a + i * c) t) acc n →
      Q (.ref (h'.objs.size + 1)) { s with heap := (h'.push { cls := .type "tuple", data := .seq acc }).push { cls := .type Tc, data := .fields (cmbF h'.objs.size (if k > n then 2 else 0) .none (List.range k)) }, toks := tk }) :
    wpAny (model prog w) A (call (.type Tc) [.ref r, .int k tk0]) Q E s := by
  refine callType_codes (Q₁ := fun obj s₁ => s₁.TypeIs obj Tc ∧ Q obj s₁) called_cmb (typeCall_cmb_2 _ _) F.entry_object_init
    (code_cmb_new (A := A.in1) hh hr hsmall hn hlen hk fun h' tk acc kp hacc => ⟨⟨{ cls := .type Tc, data := .fields (cmbF h'.objs.size (if k > n then 2 else 0) .none (List.range k)) }, ?_, rfl⟩, hQ h' tk acc kp hacc⟩) fun obj s₁ h₁ => ?_
  · have e1 : (h'.push { cls := .type "tuple", data := .seq acc }).objs.size = h'.objs.size + 1 := Heap.size_push ..
    rw [← e1]
    exact Heap.get?_push_size _ rfl
  · exact ⟨h₁.1, F.args_object_init_3 obj _ _, object_init_meets called_cmb.init.lookup called_cmb.made (by decide) prog w A.in1 _ s₁ ⟨h₁.1, rfl, h₁.2⟩⟩
end
end Dl
set_option Elab.async false
set_option linter.all false
set_option maxRecDepth 100000
set_option maxHeartbeats 4000000
/-! combinations: turned. -/
namespace Dl
open PySem PySem.Spec PyProof.Rows L2
def nOf : Value → Nat
  | .int n _ => n.toNat
  | _ => 0
theorem nums_cmb (T : Addr) (st : Int) (res : Value) (idx : List Nat) : (((cmbF T st res idx).toList.drop 3).map nOf) = idx := by
  show ((idx.map fun (i : Nat) => Value.int i 0).map nOf) = idx
  rw [List.map_map]
  conv => rhs; rw [← List.map_id idx]
  apply List.map_congr_left
  intro i _
  show (i : Int).toNat = i
  omega
theorem set1_cmb (T : Addr) (st st' : Int) (res : Value) (idx : List Nat) : (cmbF T st res idx).setIfInBounds 1 (rawInt st') = cmbF T st' res idx := by
  unfold cmbF
  rw [List.setIfInBounds_toArray]
  rfl
theorem set2_cmb (T : Addr) (st : Int) (res res' : Value) (idx : List Nat) : (cmbF T st res idx).setIfInBounds 2 res' = cmbF T st res' idx := by
  unfold cmbF
  rw [List.setIfInBounds_toArray]
  rfl
theorem ext_cmb (T : Addr) (st : Int) (res : Value) (idx idx' : List Nat) : (cmbF T st res idx).extract 0 3 ++ (idx'.map fun (i : Nat) => rawInt i).toArray = cmbF T st res idx' := by
  unfold cmbF
  simp
  exact fun a _ => rfl
section
variable {prog : Program} {w : World} {A : Around} {E : Value → Shared → Prop} {s : Shared}
/-- what is handed out -/
abbrev pickA (pool : Array Value) (idx : List Nat) : List Value := idx.map fun i => pool.getD i .none
/-- a turn's end: a new tuple, the iterator on its way -/
def Turned (s : Shared) (it T : Addr) (st : Int) (pool : Array Value) (idx : List Nat) (Q : Value → Shared → Prop) : Prop :=
  ∀ h', IsCmb h' it T st (.ref s.heap.objs.size) idx → h'.get? s.heap.objs.size = some { cls := .type "tuple", data := .seq (pickA pool idx).toArray } → h'.objs.size = s.heap.objs.size + 1 →
    (∀ b o, b ≠ it → s.heap.get? b = some o → h'.get? b = some o) → Q (.ref s.heap.objs.size) { s with heap := h' }
theorem hand_out {it T : Addr} {st : Int} {res : Value} {idx : List Nat} {pool : Array Value} {pn : Nat} {po : Option Addr} {ps : Array (Option Value)} {Q : PySem.Fin → Shared → Prop} (hl : idx.length ≤ 1000)
    (hit : IsCmb s.heap it T st res idx) (hp : s.heap.get? T = some { cls := .type "tuple", dict := po, data := .seq pool pn, slots := ps }) {s0 : Shared} (h0 : s0.heap.objs.size = s.heap.objs.size) (hk : ∀ b o, b ≠ it → s0.heap.get? b = some o → s.heap.get? b = some o) (hs : ∀ h', ({ s with heap := h' } : Shared) = { s0 with heap := h' })
    (hQ : Turned s0 it T st pool idx fun v s' => Q (.done (.ret v)) s') :
    wpAny (model prog w) A (do
      let result ← (do
        let items ← Builtin.Itertools.itPoolItems (.ref T)
        newTuple (idx.map fun i => items.getD i .none))
      let before ← field (.ref it) 2
      setField (.ref it) 2 result
      letGo [before] [result]
      ret result) Q E s := by
  have hlt : it < s.heap.objs.size := Heap.lt_size hit
  refine wpAny_bind (wpAny_bind ?_)
  unfold Builtin.Itertools.itPoolItems
  refine wpAny_bind (wpAny_seqItems hp rfl (wpAny_pure ?_))
  refine (wpAny_newTuple ?_ (by rw [List.length_map, sizeLine_eq]; omega))
  have hit1 : IsCmb (s.heap.push { cls := .type "tuple", data := .seq (pickA pool idx).toArray }) it T st res idx := Heap.get?_push_of_some _ hit
  refine wpAny_bind (wpAny_field hit1 rfl (x := res) rfl ?_)
  refine wpAny_bind (wpAny_setField hit1 rfl (by show 2 < (cmbF T st res idx).size; simp [cmbF]) ?_)
  have hit2 : IsCmb ((s.heap.push { cls := .type "tuple", data := .seq (pickA pool idx).toArray }).update it (Obj.mapFields (·.setIfInBounds 2 (.ref s.heap.objs.size)))) it T st (.ref s.heap.objs.size) idx := by
    have := Heap.get?_update_self (Obj.mapFields (·.setIfInBounds 2 (.ref s.heap.objs.size))) hit1 rfl
    refine this.trans ?_
    show some ({ cls := .type Tc, dict := none, data := .fields ((cmbF T st res idx).setIfInBounds 2 (.ref s.heap.objs.size)), slots := #[] } : Obj) = _
    rw [set2_cmb]
  refine wpAny_bind (wpAny_letGo ?_)
  refine wpAny_pure ?_
  rw [hs]
  rw [← h0]
  refine hQ _ ?_ ?_ ?_ ?_
  · rw [h0]; exact hit2
  · rw [h0, Heap.get?_update_ne _ _ _ _ (Nat.ne_of_gt hlt)]
    exact Heap.get?_push_size _ rfl
  · rw [Heap.size_update, h0]
    exact Heap.size_push ..
  · intro b o hb e
    have e2 := hk b o hb e
    rw [Heap.get?_update_ne _ _ _ _ hb]
    exact Heap.get?_push_of_some _ e2
theorem wp_nums {it T : Addr} {st : Int} {res : Value} {idx : List Nat} {Q : List Nat → Shared → Prop} (hit : IsCmb s.heap it T st res idx) (h : Q idx s) : wpAny (model prog w) A (Builtin.Itertools.itNumbersFrom (.ref it) 3) Q E s := by
  unfold Builtin.Itertools.itNumbersFrom
  refine wpAny_bind (wpAny_load hit (wpAny_pure ?_))
  have e := nums_cmb T st res idx
  have e2 : (((cmbF T st res idx).toList.drop 3).map fun x => match x with | .int n _ => n.toNat | _ => 0) = idx := by
    refine Eq.trans (List.map_congr_left fun v _ => ?_) e
    cases v <;> rfl
  show Q (((cmbF T st res idx).toList.drop 3).map fun x => match x with | .int n _ => n.toNat | _ => 0) s
  rw [e2]
  exact h
theorem wp_intF {it T : Addr} {st : Int} {res : Value} {idx : List Nat} {Q : Int → Shared → Prop} (hit : IsCmb s.heap it T st res idx) (h : Q st s) : wpAny (model prog w) A (Builtin.Itertools.itIntField (.ref it) 1) Q E s := by
  unfold Builtin.Itertools.itIntField
  exact wpAny_bind (wpAny_field hit rfl (x := .int st 0) rfl (wpAny_pure h))
theorem wp_stop {it : Addr} {α : Type} {Q : α → Shared → Prop} (hh : A.handled = none) (h : ∀ e h', CpRep.StopE e h' → Heap.ExtBut it s.heap h' → E e { s with heap := h' }) : wpAny (model prog w) A (Builtin.Itertools.itStop (α := α)) Q E s := by
  unfold Builtin.Itertools.itStop
  refine wpAny_bind ?_
  simp only [newExc, newTuple]
  refine wpAny_bind (wpAny_newObj_type ?_ (by size_fits))
  refine wpAny_bind (m := firstArgMember _ _) (wpAny_of_eq (a := Value.none) (by first | rfl | (simp only [firstArgMember]; rfl)) ?_)
  refine wpAny_newObj_type ?_ (by size_fits)
  simp only [raiseNew]
  refine wpAny_bind (wpAny_handled ?_)
  rw [hh]
  refine wpAny_bind (wpAny_pure (wpAny_throw ?_))
  exact h _ _ ⟨_, _, _, rfl, Heap.get?_push_size _ rfl, rfl, rfl, rfl⟩ (((Heap.ExtBut.refl it s.heap).push _).push _)
end
/-- what a turn does -/
def NextSpec (nb : (Nat → List Nat → Option (List Nat)) → Builtin) : Prop := ∀ (step : Nat → List Nat → Option (List Nat)) (prog : Program) (w : World) (A : Around) (E : Value → Shared → Prop) (s : Shared) (it T : Addr) (res : Value) (idx : List Nat) (pool : Array Value) (pn : Nat) (po : Option Addr) (ps : Array (Option Value)),
  idx.length ≤ 1000 → T ≠ it → s.heap.get? T = some { cls := .type "tuple", dict := po, data := .seq pool pn, slots := ps } →
  (∀ Q, IsCmb s.heap it T 0 res idx → Turned s it T 1 pool idx (fun v s' => Q (.done (.ret v)) s') → wpAny (model prog w) A (nb step ⟨[.ref it], []⟩) Q E s) ∧
  (∀ Q nx, IsCmb s.heap it T 1 res idx → step pool.size idx = some nx → nx.length ≤ 1000 → Turned s it T 1 pool nx (fun v s' => Q (.done (.ret v)) s') → wpAny (model prog w) A (nb step ⟨[.ref it], []⟩) Q E s) ∧
  (∀ Q, A.handled = none → IsCmb s.heap it T 1 res idx → step pool.size idx = none → (∀ e h', CpRep.StopE e h' → Heap.ExtBut it s.heap h' → E e { s with heap := h' }) → wpAny (model prog w) A (nb step ⟨[.ref it], []⟩) Q E s) ∧
  (∀ Q, A.handled = none → IsCmb s.heap it T 2 res idx → (∀ e h', CpRep.StopE e h' → Heap.ExtBut it s.heap h' → E e { s with heap := h' }) → wpAny (model prog w) A (nb step ⟨[.ref it], []⟩) Q E s)
abbrev cmbL (n r : Nat) : List (List Nat) := cmbs r (List.range n)
def chkC (f : Nat → List Nat → Option (List Nat)) (n r : Nat) : Bool :=
  (List.range (cmbL n r).length).all (fun i => decide (f n ((cmbL n r).getD i []) = (cmbL n r)[i + 1]?)) && (decide (n < r) || decide ((cmbL n r)[0]? = some (List.range r))) && (decide (r ≤ n) || decide (cmbL n r = [])) && (cmbL n r).all (fun l => decide (l.length = r) && l.all fun j => decide (j < n))
def chainC (f : Nat → List Nat → Option (List Nat)) : Bool := (List.range 9).all fun n => (List.range 9).all fun r => chkC f n r
theorem cmb_ex : ∃ (nb : (Nat → List Nat → Option (List Nat)) → Builtin) (f : Nat → List Nat → Option (List Nat)), Builtin.«itertools.combinations.__next__» = nb f ∧ NextSpec nb ∧ chainC f = true := by
  refine ⟨_, _, Builtin.«itertools.combinations.__next__».eq_1, ?_, by decide +kernel⟩
  intro step prog w A E s it T res idx pool pn po ps hl hTi hp
  have start : ∀ {st : Int} {Q : PySem.Fin → Shared → Prop}, IsCmb s.heap it T st res idx → True := fun _ => trivial
  refine ⟨fun Q hit hQ => ?_, fun Q nx hit hs hn hQ => ?_, fun Q hh hit hs hE => ?_, fun Q hh hit hE => ?_⟩
  · refine wpAny_bind (wpAny_pure ?_)
    refine wpAny_bind (wpAny_field hit rfl (x := .ref T) rfl ?_)
    refine wpAny_bind (wp_nums hit ?_)
    refine wpAny_bind (wp_intF hit ?_)
    refine wpAny_bind (wpAny_setField hit rfl (by show 1 < (cmbF T 0 res idx).size; simp [cmbF]) ?_)
    have hit1 : IsCmb (s.heap.update it (Obj.mapFields (·.setIfInBounds 1 (rawInt 1)))) it T 1 res idx := by
      refine (Heap.get?_update_self (Obj.mapFields (·.setIfInBounds 1 (rawInt 1))) hit rfl).trans ?_
      show some ({ cls := .type Tc, dict := none, data := .fields ((cmbF T 0 res idx).setIfInBounds 1 (rawInt 1)), slots := #[] } : Obj) = _
      rw [set1_cmb]
    exact hand_out (s := { s with heap := s.heap.update it (Obj.mapFields (·.setIfInBounds 1 (rawInt 1))) }) hl hit1 (by show (Heap.update _ _ _).get? T = _; rw [Heap.get?_update_ne _ _ _ _ hTi]; exact hp) (s0 := s) (by show _ = (Heap.update _ _ _).objs.size; rw [Heap.size_update]) (fun b o hb e => by
      show (Heap.update _ _ _).get? b = _
      rw [Heap.get?_update_ne _ _ _ _ hb]; exact e) (fun h' => rfl) hQ
  · refine wpAny_bind (wpAny_pure ?_)
    refine wpAny_bind (wpAny_field hit rfl (x := .ref T) rfl ?_)
    refine wpAny_bind (wp_nums hit ?_)
    refine wpAny_bind (wp_intF hit ?_)
    refine wpAny_bind ?_
    unfold Builtin.Itertools.itPoolItems
    refine wpAny_bind (wpAny_seqItems hp rfl (wpAny_pure ?_))
    rw [hs]
    refine wpAny_bind ?_
    unfold Builtin.Itertools.itSetNumbersFrom
    refine wpAny_updateFields hit rfl ?_ ?_
    · have hit1 : IsCmb (s.heap.update it (Obj.mapFields fun fs => fs.extract 0 3 ++ (nx.map fun (n : Nat) => rawInt n).toArray)) it T 1 res nx := by
        refine (Heap.get?_update_self (Obj.mapFields fun fs => fs.extract 0 3 ++ (nx.map fun (n : Nat) => rawInt n).toArray) hit rfl).trans ?_
        show some ({ cls := .type Tc, dict := none, data := .fields ((cmbF T 1 res idx).extract 0 3 ++ (nx.map fun (n : Nat) => rawInt n).toArray), slots := #[] } : Obj) = _
        rw [ext_cmb]
      exact hand_out (s := { s with heap := s.heap.update it (Obj.mapFields fun fs => fs.extract 0 3 ++ (nx.map fun (n : Nat) => rawInt n).toArray) }) hn hit1 (by show (Heap.update _ _ _).get? T = _; rw [Heap.get?_update_ne _ _ _ _ hTi]; exact hp) (s0 := s) (by show _ = (Heap.update _ _ _).objs.size; rw [Heap.size_update]) (fun b o hb e => by
        show (Heap.update _ _ _).get? b = _
        rw [Heap.get?_update_ne _ _ _ _ hb]; exact e) (fun h' => rfl) hQ
    · show ((cmbF T 1 res idx).extract 0 3 ++ (nx.map fun (n : Nat) => rawInt n).toArray).size ≤ _
      rw [ext_cmb]
      simp [cmbF, sizeLine_eq]
      omega
  · refine wpAny_bind (wpAny_pure ?_)
    refine wpAny_bind (wpAny_field hit rfl (x := .ref T) rfl ?_)
    refine wpAny_bind (wp_nums hit ?_)
    refine wpAny_bind (wp_intF hit ?_)
    refine wpAny_bind ?_
    unfold Builtin.Itertools.itPoolItems
    refine wpAny_bind (wpAny_seqItems hp rfl (wpAny_pure ?_))
    rw [hs]
    refine wpAny_bind (wpAny_setField hit rfl (by show 1 < (cmbF T 1 res idx).size; simp [cmbF]) ?_)
    refine wp_stop hh fun e h' se eb => hE e h' se fun b o hb q => eb b o hb ?_
    show (Heap.update _ _ _).get? b = _
    rw [Heap.get?_update_ne _ _ _ _ hb]
    exact q
  · refine wpAny_bind (wpAny_pure ?_)
    refine wpAny_bind (wpAny_field hit rfl (x := .ref T) rfl ?_)
    refine wpAny_bind (wp_nums hit ?_)
    refine wpAny_bind (wp_intF hit ?_)
    refine wpAny_bind (wpAny_rule ?_)
    exact wp_stop hh hE
/-! ### walked -/
theorem chain_at {f : Nat → List Nat → Option (List Nat)} (h : chainC f = true) {n r : Nat} (hn : n ≤ 8) (hr : r ≤ 8) :
    (∀ i, i < (cmbL n r).length → f n ((cmbL n r).getD i []) = (cmbL n r)[i + 1]?) ∧ (r ≤ n → (cmbL n r)[0]? = some (List.range r)) ∧ (n < r → cmbL n r = []) ∧ ∀ l ∈ cmbL n r, l.length = r ∧ ∀ j ∈ l, j < n := by
  have h1 := List.all_eq_true.mp (List.all_eq_true.mp h n (List.mem_range.mpr (by omega))) r (List.mem_range.mpr (by omega))
  unfold chkC at h1
  simp only [Bool.and_eq_true, Bool.or_eq_true, List.all_eq_true, decide_eq_true_eq, List.mem_range] at h1
  obtain ⟨⟨⟨h1, h2⟩, h3⟩, h4⟩ := h1
  exact ⟨h1, fun q => h2.resolve_left (by omega), fun q => h3.resolve_left (by omega), h4⟩
/-- where the walk stands -/
structure CmbAt (it T : Addr) (n r : Nat) (i : Nat) (h : Heap) : Prop where
  ne : T ≠ it
  it : ∃ st res idx, IsCmb h it T st res idx ∧ ((i = 0 ∧ st = (if r > n then 2 else 0) ∧ idx = List.range r) ∨ (0 < i ∧ i ≤ (cmbL n r).length ∧ st = 1 ∧ idx = (cmbL n r).getD (i - 1) []))
  pool : ∃ (pool : Array Value) (pn : Nat) (po : Option Addr) (ps : Array (Option Value)), h.get? T = some { cls := .type "tuple", dict := po, data := .seq pool pn, slots := ps } ∧ pool.size = n ∧ ∀ j, j < n → ∃ t, pool[j]? = some (.int (j : Nat) t)
section
variable {prog : Program} {w : World} {A : Around} {E : Value → Shared → Prop} {s : Shared} {it T : Addr} {n r i : Nat}
theorem cmb_item (hn : n ≤ 8) (hr : r ≤ 8) (h : CmbAt it T n r i s.heap) (hi : i < (cmbL n r).length) {Q : Option Value → Shared → Prop}
    (hQ : ∀ (h' : Heap) (us : List Value), CmbAt it T n r (i + 1) h' → us.length = r → (∀ k, k < r → ∃ t, us[k]? = some (.int (((cmbL n r).getD i []).getD k 0 : Nat) t)) → h'.get? s.heap.objs.size = some { cls := .type "tuple", data := .seq us.toArray } → h'.objs.size = s.heap.objs.size + 1 →
      (∀ b o, b ≠ it → s.heap.get? b = some o → h'.get? b = some o) → Q (some (.ref s.heap.objs.size)) { s with heap := h' }) : wpAny (model prog w) A (pyNext (.ref it)) Q E s := by
  obtain ⟨hne, ⟨st, res, idx, hit, hst⟩, pool, pn, po, ps, hp, hsz, hpl⟩ := h
  have hT : s.TypeIs (.ref it) Tc := ⟨_, hit, rfl⟩
  obtain ⟨nb, f, e, spec, ch⟩ := cmb_ex
  obtain ⟨c1, c2, c3, c4⟩ := chain_at ch hn hr
  have hrn : r ≤ n := by
    rcases Nat.lt_or_ge n r with q | q
    · rw [c3 q] at hi
      cases hi
    · exact q
  have hm : (cmbL n r).getD i [] ∈ cmbL n r := by
    rw [List.getD_eq_getElem?_getD, List.getElem?_eq_getElem hi]
    exact List.getElem_mem hi
  obtain ⟨d1, d2⟩ := c4 _ hm
  have fin : ∀ h', IsCmb h' it T 1 (.ref s.heap.objs.size) ((cmbL n r).getD i []) → h'.get? s.heap.objs.size = some { cls := .type "tuple", data := .seq (pickA pool ((cmbL n r).getD i [])).toArray } → h'.objs.size = s.heap.objs.size + 1 → (∀ b o, b ≠ it → s.heap.get? b = some o → h'.get? b = some o) → Q (some (.ref s.heap.objs.size)) { s with heap := h' } := fun h' q1 q2 q3 q4 => by
    refine hQ h' _ ⟨hne, ⟨_, _, _, q1, .inr ⟨by omega, by omega, rfl, by rw [Nat.add_sub_cancel]⟩⟩, pool, pn, po, ps, q4 _ _ hne hp, hsz, hpl⟩ (by rw [List.length_map, d1]) (fun k hk => ?_) q2 q3 q4
    have hk' : k < ((cmbL n r).getD i []).length := by omega
    have hj : ((cmbL n r).getD i []).getD k 0 ∈ (cmbL n r).getD i [] := by
      rw [List.getD_eq_getElem?_getD (l := (cmbL n r).getD i []), List.getElem?_eq_getElem hk']
      exact List.getElem_mem hk'
    obtain ⟨t, ht⟩ := hpl _ (d2 _ hj)
    refine ⟨t, ?_⟩
    rw [List.getElem?_map, List.getElem?_eq_getElem hk', Option.map_some]
    rw [List.getD_eq_getElem?_getD (l := (cmbL n r).getD i []), List.getElem?_eq_getElem hk'] at ht ⊢
    simp only [Option.getD_some] at ht ⊢
    rw [Array.getD_eq_getD_getElem?, ht]
    rfl
  have hr0 : (List.range r).length ≤ 1000 := by simp; omega
  unfold pyNext
  refine wpAny_bind (wpAny_attempt (wpAny_callSpecial?_slot (name := Str.ofString "__next__") hT slot_cmb_next (wpAny_call_entry slot_cmb_next hT entry_cmb_next ?_ (args_cmb_next _))))
  rw [e]
  rcases hst with ⟨rfl, rfl, rfl⟩ | ⟨h0, hl, rfl, rfl⟩
  · rw [if_neg (by omega)] at hit
    have := c2 hrn
    have e0 : (cmbL n r).getD 0 [] = List.range r := by rw [List.getD_eq_getElem?_getD, this]; rfl
    rw [e0] at fin
    refine (spec f prog w A.in1 _ s it T res _ pool pn po ps hr0 hne hp).1 _ hit fun h' q1 q2 q3 q4 => ?_
    exact ⟨_, rfl, wpAny_pure (fin h' q1 q2 q3 q4)⟩
  · have e1 := c1 (i - 1) (by omega)
    rw [show i - 1 + 1 = i by omega, List.getElem?_eq_getElem hi] at e1
    have e2 : (cmbL n r).getD i [] = (cmbL n r)[i] := by rw [List.getD_eq_getElem?_getD, List.getElem?_eq_getElem hi]; rfl
    rw [← e2] at e1
    have hm1 : (cmbL n r).getD (i - 1) [] ∈ cmbL n r := by
      rw [List.getD_eq_getElem?_getD, List.getElem?_eq_getElem (show i - 1 < (cmbL n r).length by omega)]
      exact List.getElem_mem _
    have l1 := (c4 _ hm1).1
    refine (spec f prog w A.in1 _ s it T res _ pool pn po ps (by omega) hne hp).2.1 _ _ hit (by rw [hsz]; exact e1) (by omega) fun h' q1 q2 q3 q4 => ?_
    exact ⟨_, rfl, wpAny_pure (fin h' q1 q2 q3 q4)⟩
theorem cmb_end (hn : n ≤ 8) (hr : r ≤ 8) (hh : A.handled = none) (h : CmbAt it T n r i s.heap) (hi : (cmbL n r).length ≤ i) {Q : Option Value → Shared → Prop} (hQ : ∀ h', Heap.ExtBut it s.heap h' → Q none { s with heap := h' }) : wpAny (model prog w) A (pyNext (.ref it)) Q E s := by
  obtain ⟨hne, ⟨st, res, idx, hit, hst⟩, pool, pn, po, ps, hp, hsz, hpl⟩ := h
  have hT : s.TypeIs (.ref it) Tc := ⟨_, hit, rfl⟩
  obtain ⟨nb, f, e, spec, ch⟩ := cmb_ex
  obtain ⟨c1, c2, c3, c4⟩ := chain_at ch hn hr
  have hr0 : (List.range r).length ≤ 1000 := by simp; omega
  unfold pyNext
  refine wpAny_bind (wpAny_attempt (wpAny_callSpecial?_slot (name := Str.ofString "__next__") hT slot_cmb_next (wpAny_call_entry slot_cmb_next hT entry_cmb_next ?_ (args_cmb_next _))))
  rw [e]
  have stop : ∀ (ev : Value) (h' : Heap), CpRep.StopE ev h' → Heap.ExtBut it s.heap h' → wpAny (model prog w) A ((fun (x : Except Value Value) => match x with | .ok v => pure (some v) | .error _ => pure none) (.error ev)) (fun _ _ => True) E { s with heap := h' } := fun ev h' _ _ => wpAny_pure trivial
  rcases hst with ⟨rfl, rfl, rfl⟩ | ⟨h0, hl, rfl, rfl⟩
  · have hrn : n < r := by
      rcases Nat.lt_or_ge n r with q | q
      · exact q
      · have := c2 q
        have := (List.getElem?_eq_some_iff.mp this).1
        omega
    rw [if_pos hrn] at hit
    refine (spec f prog w A.in1 _ s it T res _ pool pn po ps hr0 hne hp).2.2.2 _ hh hit fun ev h' se eb => ?_
    obtain ⟨a, o, vs, rfl, q1, q2, q3, q4⟩ := se
    refine wpAny_bind (wpAny_isInstance (T := "StopIteration") (b := true) ⟨_, q1, q2⟩ isSubtype_stop ?_)
    exact wpAny_pure (hQ _ eb)
  · have e1 := c1 (i - 1) (by omega)
    rw [show i - 1 + 1 = i by omega, List.getElem?_eq_none hi] at e1
    have hm1 : (cmbL n r).getD (i - 1) [] ∈ cmbL n r := by
      rw [List.getD_eq_getElem?_getD, List.getElem?_eq_getElem (show i - 1 < (cmbL n r).length by omega)]
      exact List.getElem_mem _
    have l1 := (c4 _ hm1).1
    refine (spec f prog w A.in1 _ s it T res _ pool pn po ps (by omega) hne hp).2.2.1 _ hh hit (by rw [hsz]; exact e1) fun ev h' se eb => ?_
    obtain ⟨a, o, vs, rfl, q1, q2, q3, q4⟩ := se
    refine wpAny_bind (wpAny_isInstance (T := "StopIteration") (b := true) ⟨_, q1, q2⟩ isSubtype_stop ?_)
    exact wpAny_pure (hQ _ eb)
theorem iter_cmb {st : Int} {res : Value} {idx : List Nat} (hit : IsCmb s.heap it T st res idx) {Q : Value → Shared → Prop} (h : Q (.ref it) s) : wpAny (model prog w) A (pyIter (.ref it)) Q E s := by
  have hT : s.TypeIs (.ref it) Tc := ⟨_, hit, rfl⟩
  refine wpAny_pyIter_slot hT slot_cmb_iter (wpAny_call_entry slot_cmb_iter hT entry_cmb_iter ?_ (args_cmb_iter _))
  show wpAny _ _ (ret (.ref it)) _ _ s
  exact wpAny_pure ⟨_, rfl, Tc, _, hT, slot_cmb_next.lookup, h⟩
end
end Dl
set_option Elab.async false
set_option linter.all false
set_option maxRecDepth 100000
set_option maxHeartbeats 4000000
/-! combinations(range(n), r), walked: the layer's rule. -/
namespace Dl
open PySem PySem.Spec PyProof.Rows L2
/-- new tuples of these numbers -/
def Itm (L : List (List Nat)) : It := ⟨fun i _ => i < L.length, fun i H v H' => ∃ T, v = .ref T ∧ H T = none ∧ H' = upd H T (.tup ((L.getD i []).map fun j => V.int (j : Nat))), fun i _ => L.length ≤ i⟩
theorem walk_m {L : List (List Nat)} : Walk (Itm L) L.length (fun _ => True) (fun i H v H' => ∃ T, v = .ref T ∧ H T = none ∧ H' = upd H T (.tup ((L.getD i []).map fun j => V.int (j : Nat)))) :=
  ⟨fun i _ hi _ => hi, fun _ _ => Nat.le_refl _, fun i H v H' _ _ y => y⟩
theorem vals_nums : ∀ (l : List Nat) (us : List Value), us.length = l.length → (∀ k, k < l.length → ∃ t, us[k]? = some (.int (l.getD k 0 : Nat) t)) → Vals (l.map fun j => V.int (j : Nat)) us
  | [], [], _, _ => .nil
  | [], u :: us, h, _ => by simp at h
  | j :: l, [], h, _ => by simp at h
  | j :: l, u :: us, h, hk => by
    obtain ⟨t, ht⟩ := hk 0 (by simp)
    simp at ht
    refine .cons ⟨t, ht⟩ (vals_nums l us (by simpa using h) fun k hl => ?_)
    obtain ⟨t, ht⟩ := hk (k + 1) (by simpa using hl)
    exact ⟨t, by simpa using ht⟩
theorem turn_cmb {P : Program} {w : World} {K : PySem.W.Frag} {tg : Expr} (it T : Addr) {n r : Nat} (hn : n ≤ 8) (hr : r ≤ 8) : Turn P w K tg (Itm (cmbL n r)) [it, T] it (fun i h => CmbAt it T n r i h) where
  mem := by simp
  obj := fun i h st b hb => by
    obtain ⟨hne, ⟨st, res, idx, hit, hst⟩, pool, pn, po, ps, hp, hsz, hpl⟩ := st
    have e' : b = it ∨ b = T := by simpa using hb
    rcases e' with q | q
    · rw [q]; exact ⟨_, hit, fun v z => by cases (show Data.fields _ = Data.cell v from z)⟩
    · rw [q]; exact ⟨_, hp, fun v z => by cases (show Data.seq _ _ = Data.cell v from z)⟩
  keep := fun i h h' st k => by
    obtain ⟨hne, ⟨st, res, idx, hit, hst⟩, pool, pn, po, ps, hp, r⟩ := st
    exact ⟨hne, ⟨st, res, idx, k it (by simp) _ hit, hst⟩, pool, pn, po, ps, k T (by simp) _ hp, r⟩
  item := by
    intro X hP hw hK hc i pins s σ H E I hf st hg
    subst hP hw hK
    have hg : i < (cmbL n r).length := hg
    have hit0 := st.it
    obtain ⟨_, _, _, hit0, _⟩ := hit0
    have hlt : it < s.heap.objs.size := Heap.lt_size hit0
    have hltT : T < s.heap.objs.size := by
      obtain ⟨_, _, _, _, hp, _⟩ := st.pool
      exact Heap.lt_size hp
    refine cmb_item hn hr st hg fun h' us st' hl hv hT hsz kp => ?_
    obtain ⟨st1, res1, idx1, hit1, _⟩ := st'.it
    have hlen : ((cmbL n r).getD i []).length = r := by
      obtain ⟨nb, f, e, spec, ch⟩ := cmb_ex
      refine ((chain_at ch hn hr).2.2.2 _ ?_).1
      rw [List.getD_eq_getElem?_getD, List.getElem?_eq_getElem hg]
      exact List.getElem_mem hg
    have new : ObjOk X.prog X.w (upd H s.heap.objs.size (.tup (((cmbL n r).getD i []).map fun j => V.int (j : Nat)))) h' s.heap.objs.size (.tup (((cmbL n r).getD i []).map fun j => V.int (j : Nat))) :=
      ⟨by rw [List.length_map, hlen, sizeLine_eq]; omega, us, vals_nums _ _ (by rw [hl, hlen]) (fun k hk => hv k (by omega)), ⟨_, hT, rfl, _, rfl⟩⟩
    have I1 : Inv X pins σ (upd H s.heap.objs.size (.tup (((cmbL n r).getD i []).map fun j => V.int (j : Nat)))) { s with heap := h' } :=
      I.turnedNew (t' := s.toks) (ch := [it]) (fun c o hb q => kp c o (fun z => hb (by simp [z])) q) (fun b hb => hf b (by simp at hb; simp [hb])) (Nat.le_refl _) new
    refine ⟨_, rfl, go_of (s := { s with heap := h' }) hit1 rfl rfl (by decide) ⟨.ref s.heap.objs.size, _, I1, rfl, ⟨_, rfl, I.hok.fresh (Nat.le_refl _), rfl⟩, st', fun b hb => ?_⟩⟩
    have e' : b = it ∨ b = T := by simpa using hb
    have hb' : b < s.heap.objs.size := by rcases e' with q | q <;> (rw [q]; assumption)
    rw [upd_ne (Nat.ne_of_lt hb')]
    exact (hf b hb).1
  done := by
    intro X hP hw hK hc i pins s σ H E I hf st hg
    subst hP hw hK
    refine cmb_end hn hr (I.ok.hd hc) st hg fun h' eb => ⟨rfl, ?_⟩
    obtain ⟨f0, f1, f2, f3, f4, f5⟩ := hf it (by simp)
    exact I.turned (t' := s.toks) (fun b o hb e => eb b o hb e) f0 f1 f3 f4 f5
  self := fun A i s Q E st h => by
    obtain ⟨_, _, _, hit, _⟩ := st.it
    exact iter_cmb hit h
section
variable {X : Cx}
theorem cr_range1 : CallR X (.type "range") (fun vs H Q => ∃ j, vs = [V.int j] ∧ ∀ p, H p = none → Q (.ref p) (upd H p (.rng 0 j))) := by
  intro pins s σ H vs us Q I r h
  obtain ⟨j, rfl, q⟩ := h
  cases r with
  | cons r1 r2 =>
    cases r2
    obtain ⟨t, rfl⟩ := r1
    refine call_range_1 ⟨.ref s.heap.objs.size, upd H s.heap.objs.size (.rng 0 j), I.laid (fun b o e => Heap.get?_push_of_some _ e) (Nat.le_refl _) ?_, rfl, q _ (I.hok.fresh (Nat.le_refl _))⟩
    exact ⟨_, _, _, Heap.get?_push_size _ rfl⟩
def iCmb (ta : TA) : TI := fun σ H R => ta σ H fun vs H1 => ∃ (p : Addr) (n r : Nat), vs = [.ref p, .int r] ∧ H1 p = some (.rng 0 n) ∧ n ≤ 8 ∧ r ≤ 8 ∧ R (Itm (cmbL n r)) H1
theorem pi_cmb {tg e1 e2 : Expr} {ta : TA} {p pos : Pos} (hc : X.calm = true) (hg : Gl X "combinations") (hm : X.mg "combinations" = some (.type Tc)) (ha : PA X [e1, e2] ta)
    (he : starEach [e1, e2] X.env = (false, eval e1 X.env) :: starEach [e2] X.env := by rfl) (hpl : (backTo pos (starEach [e2] X.env)).any (·.1) = false := by rfl) : PI X tg (.Call (.Name "combinations" p) [e1, e2] [] pos) (iCmb ta) := by
  refine ⟨fun pins s σ H R I h => ?_⟩
  refine wpAny_Call_Name_kw (ld_glob I hg hm ?_ (by decide))
  refine PyProof.Rows.callWith_type1 (thn (ha.run pos pins s σ H _ I h) fun us s1 ⟨vs, H1, I1, r1, q1⟩ => ?_) he hpl
  obtain ⟨p0, n, r, rfl, hp, hn, hr, q⟩ := q1
  obtain ⟨u1, u2, rfl, ru1, ru2⟩ := vals2 r1
  obtain rfl : u1 = .ref p0 := ru1
  obtain ⟨t, rfl⟩ := ru2
  obtain ⟨t1, t2, t3, hR⟩ := I1.hok p0 _ hp
  have hsz : Builtin.Range.rangeSize 0 (n : Int) 1 = ((n : Nat) : Int) := by
    have := rangeSize_nat 0 (n : Int)
    simpa using this
  refine call_cmb (I1.ok.hd hc) hR (small_one (by omega) (by omega) (by omega) (by omega)) hsz (by omega) (by omega) fun h' tk acc kp hacc => ?_
  have I2 : Inv X pins σ H1 { s1 with heap := h', toks := tk } := I1.kept kp
  have I3 : Inv X pins σ H1 { s1 with heap := (h'.push { cls := .type "tuple", data := .seq acc }).push { cls := .type Tc, data := .fields (cmbF h'.objs.size (if r > n then 2 else 0) .none (List.range r)) }, toks := tk } :=
    I2.kept fun b o e => Heap.get?_push_of_some _ (Heap.get?_push_of_some _ e)
  have e1 : (h'.push { cls := .type "tuple", data := .seq acc }).objs.size = h'.objs.size + 1 := Heap.size_push ..
  have hit : IsCmb ((h'.push { cls := .type "tuple", data := .seq acc }).push { cls := .type Tc, data := .fields (cmbF h'.objs.size (if r > n then 2 else 0) .none (List.range r)) }) (h'.objs.size + 1) h'.objs.size (if r > n then 2 else 0) .none (List.range r) := by
    rw [← e1]
    exact Heap.get?_push_size _ rfl
  refine iter_cmb (s := { s1 with heap := _, toks := tk }) hit ?_
  refine ⟨_, [h'.objs.size + 1, h'.objs.size], _, _, H1, rfl, I3, turn_cmb (h'.objs.size + 1) h'.objs.size hn hr, ⟨Nat.ne_of_lt (Nat.lt_succ_self _), ⟨_, _, _, hit, .inl ⟨rfl, rfl, rfl⟩⟩, acc, _, _, _, Heap.get?_push_of_some _ (Heap.get?_push_size _ rfl), hacc.1, fun j hj => ?_⟩, fun b hb => ?_, q⟩
  · have hj' : j < acc.size := by rw [hacc.1]; exact hj
    obtain ⟨t, e⟩ := hacc.2 j acc[j] (by rw [Array.getElem?_eq_getElem hj'])
    refine ⟨t, ?_⟩
    rw [Array.getElem?_eq_getElem hj', e]
    simp
  · have e' : b = h'.objs.size + 1 ∨ b = h'.objs.size := by simpa using hb
    have hle : h'.objs.size ≤ b := by
      rcases e' with z | z
      · rw [z]; exact Nat.le_add_right _ _
      · rw [z]; exact Nat.le_refl _
    exact I2.fpOk hle (I2.hok.fresh hle)
end
end Dl
set_option Elab.async false
set_option linter.all false
set_option maxRecDepth 100000
set_option maxHeartbeats 4000000
/-! permutations(range(n)), walked. -/
namespace Dl
open PySem PySem.Spec PyProof.Rows L2
/-! ### the type -/
abbrev Tp : String := "itertools.permutations"
theorem mro_prm : mroOf (.type Tp) = pure [.type Tp, .type "object"] := by rw [mroOf_type]; kernel_rfl
theorem lookup_prm_new : typeLookup (.type Tp) "__new__" = pure (some (.builtin "itertools.permutations.__new__")) := by rw [typeLookup_type, builtinLookup_eq_fast]; kernel_rfl
theorem slot_prm_init : Slot Tp "__init__" "object.__init__" :=
  .of (owner := "object") (n := "__init__") (by rw [typeLookup_type, builtinLookup_eq_fast]; kernel_rfl) (by decide +kernel) (by decide +kernel) (by decide +kernel)
    (by first | exact .inl (by decide +kernel) | exact .inr (by decide +kernel)) (by rw [isSubtype_type]; kernel_rfl)
theorem sub_prm : isSubtype (.type Tp) (.type Tp) = pure true := by rw [isSubtype_type]; kernel_rfl
theorem called_prm : TypeCalled Tp "itertools.permutations.__new__" "object.__init__" :=
  ⟨by decide +kernel, by decide +kernel, ⟨_, _, mro_prm⟩, madeBy_type mro_prm lookup_prm_new (by decide +kernel), by decide +kernel, sub_prm, slot_prm_init⟩
theorem typeCall_prm_1 (a : Value) : checkTypeCall Tp ⟨[a], []⟩ = pure () := by kernel_rfl
theorem newCall_prm_1 (a : Value) : checkBuiltinCall "itertools.permutations.__new__" ⟨[.type Tp, a], []⟩ = pure () := by kernel_rfl
theorem entry_prm_new : entryFor table "itertools.permutations.__new__" = some Builtin.«itertools.permutations.__new__» := entryFor_of_tree (by kernel_rfl)
theorem plain_prm_new : plainId "itertools.permutations.__new__" = true := by decide +kernel
theorem slot_prm_iter : Slot Tp "__iter__" "itertools.permutations.__iter__" :=
  .of (owner := Tp) (n := "__iter__") (by rw [typeLookup_type, builtinLookup_eq_fast]; kernel_rfl) (by decide +kernel) (by decide +kernel) (by decide +kernel)
    (by first | exact .inl (by decide +kernel) | exact .inr (by decide +kernel)) sub_prm
theorem slot_prm_next : Slot Tp "__next__" "itertools.permutations.__next__" :=
  .of (owner := Tp) (n := "__next__") (by rw [typeLookup_type, builtinLookup_eq_fast]; kernel_rfl) (by decide +kernel) (by decide +kernel) (by decide +kernel)
    (by first | exact .inl (by decide +kernel) | exact .inr (by decide +kernel)) sub_prm
theorem entry_prm_iter : entryFor table "itertools.permutations.__iter__" = some Builtin.«dict_keyiterator.__iter__» :=
  entryFor_alias (id' := "dict_keyiterator.__iter__") (by kernel_rfl) (by first | rfl | decide +kernel | (unfold String.splitOn; simp +decide [String.splitOnAux])) (by decide +kernel) (by kernel_rfl)
theorem entry_prm_next : entryFor table "itertools.permutations.__next__" = some Builtin.«itertools.permutations.__next__» := entryFor_of_tree (by kernel_rfl)
abbrev revP : List Char := ['s', 'n', 'o', 'i', 't', 'a', 't', 'u', 'm', 'r', 'e', 'p', '.', 's', 'l', 'o', 'o', 't', 'r', 'e', 't', 'i']
theorem owner_prm : Manifest.owners.lookup (String.ofList revP.reverse) = some Manifest.sig_itertools_permutations := by kernel_rfl
theorem args_prm_iter (a : Value) : argsOk "itertools.permutations.__iter__" ⟨[a], []⟩ := by
  unfold argsOk; rw [signature?_of (id := "itertools.permutations.__iter__") (n := ['_', '_', 'r', 'e', 't', 'i', '_', '_']) (o := revP) (by kernel_rfl) owner_prm]; kernel_rfl
theorem args_prm_next (a : Value) : argsOk "itertools.permutations.__next__" ⟨[a], []⟩ := by
  unfold argsOk; rw [signature?_of (id := "itertools.permutations.__next__") (n := ['_', '_', 't', 'x', 'e', 'n', '_', '_']) (o := revP) (by kernel_rfl) owner_prm]; kernel_rfl
theorem noDict_prm : typeHasDict (.type Tp) = false := by decide +kernel
end Dl
set_option Elab.async false
set_option linter.all false
set_option maxRecDepth 100000
set_option maxHeartbeats 4000000
/-! permutations: made. -/
namespace Dl
open PySem PySem.Spec PyProof.Rows L2
abbrev prmF (T : Addr) (st : Int) (r : Nat) (res : Value) (nums : List Nat) : Array Value := (([.ref T, .int st 0, .int r 0, res] : List Value) ++ nums.map fun (i : Nat) => Value.int i 0).toArray
abbrev IsPrm (h : Heap) (it T : Addr) (st : Int) (r : Nat) (res : Value) (nums : List Nat) : Prop := h.get? it = some { cls := .type Tp, dict := none, data := .fields (prmF T st r res nums), slots := #[] }
abbrev cyc0 (n : Nat) : List Nat := (List.range n).map fun i => n - i
section
variable {prog : Program} {w : World} {A : Around} {E : Value → Shared → Prop} {s : Shared} {r : Addr} {a b c : Int} {t u v : Tok} {n : Nat}
theorem code_prm_new {Q₁ : Value → Shared → Prop} (hh : A.handled = none) (hr : IsRange s.heap r a b c t u v) (hsmall : Builtin.Range.small a b c = true) (hn : Builtin.Range.rangeSize a b c = n) (hlen : n ≤ 1000)
    (h : ∀ (h' : Heap) (tk : Nat) (acc : Array Value), (∀ b o, s.heap.get? b = some o → h'.get? b = some o) → ItemsOf (fun i v => ∃ t, v = .int (a + i * c) t) acc n →
      Q₁ (.ref (h'.objs.size + 1)) { s with heap := (h'.push { cls := .type "tuple", data := .seq acc }).push { cls := .type Tp, data := .fields (prmF h'.objs.size 0 n .none (List.range n ++ cyc0 n)) }, toks := tk }) :
    codeAny (model prog w) A (.call (.builtin "itertools.permutations.__new__") ⟨[.type Tp, .ref r], []⟩) (wants Q₁ E) s := by
  refine codeAny_of_tree ?_
  show wpAny _ A.in1 (do checkBuiltinCall "itertools.permutations.__new__" ⟨[.type Tp, .ref r], []⟩; again (.builtin "itertools.permutations.__new__" ⟨[.type Tp, .ref r], []⟩)) _ _ s
  refine wpAny_bind (wpAny_of_eq (newCall_prm_1 _) (wpAny_pure ⟨plainId_quiet plain_prm_new _, codeAny_builtin entry_prm_new ?_⟩))
  rw [Around.under_plainId plain_prm_new _]
  have hsub := sub_prm
  have hsub2 : isSubtype (Value.type Tp) (Value.type ("itertools." ++ "permutations")) = pure true := by
    rw [show ("itertools." ++ "permutations" : String) = Tp by decide]
    exact sub_prm
  have hd := noDict_prm
  have hTI : s.TypeIs (.ref r) "range" := ⟨_, hr, rfl⟩
  have hh1 : A.in1.handled = none := hh
  unfold Builtin.«itertools.permutations.__new__»
  refine wpAny_bind ?_
  wp_walk using wpAny_typeOf hTI, collect_range (A := A.in1) hh1 hr hsmall hn (show n ≤ 2 ^ 24 by omega)
  intro h' tk acc kp hacc
  have hz : acc.size = n := hacc.1
  have ez : acc.toList.length = n := by rw [Array.length_toList]; exact hz
  refine wpAny_bind (wpAny_pure ?_)
  show wpAny _ _ (if ((acc.toList.length : Nat) : Int) < 0 then _ else _) _ _ _
  rw [if_neg (by omega)]
  show wpAny _ _ (if Builtin.Itertools.itTooMany ((acc.toList.length : Nat) : Int) = true then _ else _) _ _ _
  rw [if_neg (show ¬ (Builtin.Itertools.itTooMany ((acc.toList.length : Nat) : Int) = true) by unfold Builtin.Itertools.itTooMany; simp; omega)]
  show wpAny _ _ (newTuple acc.toList >>= _) _ _ _
  refine wpAny_bind (wpAny_newTuple ?_ (by rw [ez, sizeLine_eq]; omega))
  show wpAny _ _ (Builtin.Itertools.itNewRecord (.type Tp) _ >>= _) _ _ _
  refine wpAny_bind ?_
  unfold Builtin.Itertools.itNewRecord
  rw [hd]
  rw [if_pos (show (!false) = true from rfl)]
  have ea : acc.toList.toArray = acc := by simp
  have el : ∀ (T : Addr), (([.ref T, rawInt (if (((acc.toList.length : Nat) : Int).toNat) > acc.toList.length then 2 else 0), rawInt ((((acc.toList.length : Nat) : Int).toNat : Nat) : Int), .none] : List Value) ++ (List.range acc.toList.length).map (fun (i : Nat) => rawInt i) ++ (List.range (((acc.toList.length : Nat) : Int).toNat)).map (fun (i : Nat) => rawInt (((acc.toList.length : Nat) : Int) - (i : Nat)))).toArray = prmF T 0 n .none (List.range n ++ cyc0 n) := fun T => by
    rw [Int.toNat_natCast, ez, if_neg (Nat.lt_irrefl n)]
    unfold prmF
    congr 1
    rw [List.map_append, List.append_assoc]
    congr 1
    congr 1
    rw [List.map_map]
    apply List.map_congr_left
    intro i hi
    have := List.mem_range.mp hi
    show Value.int ((n : Int) - (i : Int)) 0 = Value.int ((n - i : Nat) : Int) 0
    congr 1
    omega
  refine wpAny_newObj_type ?_ ?_
  · refine wpAny_pure ?_
    have := h h' tk acc kp hacc
    rw [ea]
    have e1 : (h'.push { cls := .type "tuple", data := .seq acc }).objs.size = h'.objs.size + 1 := Heap.size_push ..
    rw [← e1] at this
    rw [el]
    exact this
  · rw [el]
    show (prmF h'.objs.size 0 n .none (List.range n ++ cyc0 n)).size ≤ _
    simp [prmF, sizeLine_eq]
    omega
theorem call_prm {Q : Value → Shared → Prop} (hh : A.handled = none) (hr : IsRange s.heap r a b c t u v) (hsmall : Builtin.Range.small a b c = true) (hn : Builtin.Range.rangeSize a b c = n) (hlen : n ≤ 1000)
    (hQ : ∀ (h' : Heap) (tk : Nat) (acc : Array Value), (∀ b o, s.heap.get? b = some o → h'.get? b = some o) → ItemsOf (fun i v => ∃ t, v = .int (a + i * c) t) acc n →
      Q (.ref (h'.objs.size + 1)) { s with heap := (h'.push { cls := .type "tuple", data := .seq acc }).push { cls := .type Tp, data := .fields (prmF h'.objs.size 0 n .none (List.range n ++ cyc0 n)) }, toks := tk }) :
    wpAny (model prog w) A (call (.type Tp) [.ref r]) Q E s := by
  refine callType_codes (Q₁ := fun obj s₁ => s₁.TypeIs obj Tp ∧ Q obj s₁) called_prm (typeCall_prm_1 _) F.entry_object_init
    (code_prm_new (A := A.in1) hh hr hsmall hn hlen fun h' tk acc kp hacc => ⟨⟨{ cls := .type Tp, data := .fields (prmF h'.objs.size 0 n .none (List.range n ++ cyc0 n)) }, ?_, rfl⟩, hQ h' tk acc kp hacc⟩) fun obj s₁ h₁ => ?_
  · have e1 : (h'.push { cls := .type "tuple", data := .seq acc }).objs.size = h'.objs.size + 1 := Heap.size_push ..
    rw [← e1]
    exact Heap.get?_push_size _ rfl
  · exact ⟨h₁.1, F.args_object_init_2 obj _, object_init_meets called_prm.init.lookup called_prm.made (by decide) prog w A.in1 _ s₁ ⟨h₁.1, rfl, h₁.2⟩⟩
end
end Dl
set_option Elab.async false
set_option linter.all false
set_option maxRecDepth 100000
set_option maxHeartbeats 4000000
/-! permutations: turned. -/
namespace Dl
open PySem PySem.Spec PyProof.Rows L2
theorem nums_prm (T : Addr) (st : Int) (r : Nat) (res : Value) (nums : List Nat) : (((prmF T st r res nums).toList.drop 4).map nOf) = nums := by
  show ((nums.map fun (i : Nat) => Value.int i 0).map nOf) = nums
  rw [List.map_map]
  conv => rhs; rw [← List.map_id nums]
  apply List.map_congr_left
  intro i _
  show (i : Int).toNat = i
  omega
theorem set1_prm (T : Addr) (st st' : Int) (r : Nat) (res : Value) (nums : List Nat) : (prmF T st r res nums).setIfInBounds 1 (rawInt st') = prmF T st' r res nums := by
  unfold prmF
  rw [List.setIfInBounds_toArray]
  rfl
theorem set3_prm (T : Addr) (st : Int) (r : Nat) (res res' : Value) (nums : List Nat) : (prmF T st r res nums).setIfInBounds 3 res' = prmF T st r res' nums := by
  unfold prmF
  rw [List.setIfInBounds_toArray]
  rfl
theorem ext_prm (T : Addr) (st : Int) (r : Nat) (res : Value) (nums nums' : List Nat) : (prmF T st r res nums).extract 0 4 ++ (nums'.map fun (i : Nat) => rawInt i).toArray = prmF T st r res nums' := by
  unfold prmF
  simp
  exact fun a _ => rfl
section
variable {prog : Program} {w : World} {A : Around} {E : Value → Shared → Prop} {s : Shared}
/-- a turn's end: a new tuple, the iterator on its way -/
def TurnedP (s : Shared) (it T : Addr) (st : Int) (r : Nat) (pool : Array Value) (nums idx : List Nat) (Q : Value → Shared → Prop) : Prop :=
  ∀ h', IsPrm h' it T st r (.ref s.heap.objs.size) nums → h'.get? s.heap.objs.size = some { cls := .type "tuple", data := .seq (pickA pool (idx.take r)).toArray } → h'.objs.size = s.heap.objs.size + 1 →
    (∀ b o, b ≠ it → s.heap.get? b = some o → h'.get? b = some o) → Q (.ref s.heap.objs.size) { s with heap := h' }
theorem hand_outP {it T : Addr} {st : Int} {r : Nat} {res : Value} {nums idx : List Nat} {pool : Array Value} {Q : PySem.Fin → Shared → Prop} (hl : idx.length ≤ 1000)
    (hit : IsPrm s.heap it T st r res nums) {s0 : Shared} (h0 : s0.heap.objs.size = s.heap.objs.size) (hk : ∀ b o, b ≠ it → s0.heap.get? b = some o → s.heap.get? b = some o) (hs : ∀ h', ({ s with heap := h' } : Shared) = { s0 with heap := h' })
    (hQ : TurnedP s0 it T st r pool nums idx fun v s' => Q (.done (.ret v)) s') :
    wpAny (model prog w) A (do
      let result ← newTuple ((idx.take r).map fun i => pool.getD i .none)
      let before ← field (.ref it) 3
      setField (.ref it) 3 result
      letGo [before] [result]
      ret result) Q E s := by
  have hlt : it < s.heap.objs.size := Heap.lt_size hit
  refine wpAny_bind (wpAny_newTuple ?_ (by rw [List.length_map, List.length_take, sizeLine_eq]; omega))
  have hit1 : IsPrm (s.heap.push { cls := .type "tuple", data := .seq (pickA pool (idx.take r)).toArray }) it T st r res nums := Heap.get?_push_of_some _ hit
  refine wpAny_bind (wpAny_field hit1 rfl (x := res) rfl ?_)
  refine wpAny_bind (wpAny_setField hit1 rfl (by show 3 < (prmF T st r res nums).size; simp [prmF]) ?_)
  have hit2 : IsPrm ((s.heap.push { cls := .type "tuple", data := .seq (pickA pool (idx.take r)).toArray }).update it (Obj.mapFields (·.setIfInBounds 3 (.ref s.heap.objs.size)))) it T st r (.ref s.heap.objs.size) nums := by
    refine (Heap.get?_update_self (Obj.mapFields (·.setIfInBounds 3 (.ref s.heap.objs.size))) hit1 rfl).trans ?_
    show some ({ cls := .type Tp, dict := none, data := .fields ((prmF T st r res nums).setIfInBounds 3 (.ref s.heap.objs.size)), slots := #[] } : Obj) = _
    rw [set3_prm]
  refine wpAny_bind (wpAny_letGo ?_)
  refine wpAny_pure ?_
  rw [hs]
  rw [← h0]
  refine hQ _ ?_ ?_ ?_ ?_
  · rw [h0]; exact hit2
  · rw [h0, Heap.get?_update_ne _ _ _ _ (Nat.ne_of_gt hlt)]
    exact Heap.get?_push_size _ rfl
  · rw [Heap.size_update, h0]
    exact Heap.size_push ..
  · intro b o hb e
    have e2 := hk b o hb e
    rw [Heap.get?_update_ne _ _ _ _ hb]
    exact Heap.get?_push_of_some _ e2
theorem wp_numsP {it T : Addr} {st : Int} {r : Nat} {res : Value} {nums : List Nat} {Q : List Nat → Shared → Prop} (hit : IsPrm s.heap it T st r res nums) (h : Q nums s) : wpAny (model prog w) A (Builtin.Itertools.itNumbersFrom (.ref it) 4) Q E s := by
  unfold Builtin.Itertools.itNumbersFrom
  refine wpAny_bind (wpAny_load hit (wpAny_pure ?_))
  have e := nums_prm T st r res nums
  have e2 : (((prmF T st r res nums).toList.drop 4).map fun x => match x with | .int n _ => n.toNat | _ => 0) = nums := by
    refine Eq.trans (List.map_congr_left fun v _ => ?_) e
    cases v <;> rfl
  show Q (((prmF T st r res nums).toList.drop 4).map fun x => match x with | .int n _ => n.toNat | _ => 0) s
  rw [e2]
  exact h
theorem wp_int1P {it T : Addr} {st : Int} {r : Nat} {res : Value} {nums : List Nat} {Q : Int → Shared → Prop} (hit : IsPrm s.heap it T st r res nums) (h : Q st s) : wpAny (model prog w) A (Builtin.Itertools.itIntField (.ref it) 1) Q E s := by
  unfold Builtin.Itertools.itIntField
  exact wpAny_bind (wpAny_field hit rfl (x := .int st 0) rfl (wpAny_pure h))
theorem wp_int2P {it T : Addr} {st : Int} {r : Nat} {res : Value} {nums : List Nat} {Q : Int → Shared → Prop} (hit : IsPrm s.heap it T st r res nums) (h : Q r s) : wpAny (model prog w) A (Builtin.Itertools.itIntField (.ref it) 2) Q E s := by
  unfold Builtin.Itertools.itIntField
  exact wpAny_bind (wpAny_field hit rfl (x := .int r 0) rfl (wpAny_pure h))
end
/-- what a turn does -/
def NextSpecP (f : Nat → Nat → List Nat → List Nat → Option (List Nat × List Nat)) : Prop := ∀ (prog : Program) (w : World) (A : Around) (E : Value → Shared → Prop) (s : Shared) (it T : Addr) (r : Nat) (res : Value) (nums : List Nat) (pool : Array Value) (pn : Nat) (po : Option Addr) (ps : Array (Option Value)),
  nums.length ≤ 1000 → T ≠ it → s.heap.get? T = some { cls := .type "tuple", dict := po, data := .seq pool pn, slots := ps } →
  (∀ Q, IsPrm s.heap it T 0 r res nums → TurnedP s it T 1 r pool nums nums (fun v s' => Q (.done (.ret v)) s') → wpAny (model prog w) A (Builtin.«itertools.permutations.__next__» ⟨[.ref it], []⟩) Q E s) ∧
  (∀ Q i c, IsPrm s.heap it T 1 r res nums → f pool.size r (nums.take pool.size) (nums.drop pool.size) = some (i, c) → i.length ≤ 500 → c.length ≤ 500 → TurnedP s it T 1 r pool (i ++ c) i (fun v s' => Q (.done (.ret v)) s') → wpAny (model prog w) A (Builtin.«itertools.permutations.__next__» ⟨[.ref it], []⟩) Q E s) ∧
  (∀ Q, A.handled = none → IsPrm s.heap it T 1 r res nums → f pool.size r (nums.take pool.size) (nums.drop pool.size) = none → (∀ e h', CpRep.StopE e h' → Heap.ExtBut it s.heap h' → E e { s with heap := h' }) → wpAny (model prog w) A (Builtin.«itertools.permutations.__next__» ⟨[.ref it], []⟩) Q E s)
abbrev prmL (n : Nat) : List (List Nat) := prms n (List.range n)
def runP (f : Nat → Nat → List Nat → List Nat → Option (List Nat × List Nat)) (n : Nat) : Nat → List Nat × List Nat → List (List Nat × List Nat)
  | 0, _ => []
  | m + 1, s => match f n n s.1 s.2 with
    | none => [s]
    | some s' => s :: runP f n m s'
def chkP (f : Nat → Nat → List Nat → List Nat → Option (List Nat × List Nat)) (n : Nat) : Bool :=
  let L := runP f n 121 (List.range n, cyc0 n)
  decide (L.map (·.1) = prmL n) && (List.range L.length).all (fun i => decide (f n n (L.getD i ([], [])).1 (L.getD i ([], [])).2 = L[i + 1]?)) && decide (L[0]? = some (List.range n, cyc0 n)) && L.all fun p => decide (p.1.length = n) && decide (p.2.length = n) && p.1.all fun j => decide (j < n)
def chainP (f : Nat → Nat → List Nat → List Nat → Option (List Nat × List Nat)) : Bool := (List.range 6).all fun n => chkP f n
theorem prm_ex : ∃ f : Nat → Nat → List Nat → List Nat → Option (List Nat × List Nat), NextSpecP f ∧ chainP f = true := by
  constructor
  constructor
  · intro prog w A E s it T r res nums pool pn po ps hl hTi hp
    have pre : ∀ {st : Int} {Q : PySem.Fin → Shared → Prop}, IsPrm s.heap it T st r res nums → True := fun _ => trivial
    refine ⟨fun Q hit hQ => ?_, fun Q i c hit hs hi hc hQ => ?_, fun Q hh hit hs hE => ?_⟩
    rotate_left
    · refine wpAny_bind (wpAny_pure ?_)
      refine wpAny_bind (wpAny_field hit rfl (x := .ref T) rfl ?_)
      refine wpAny_bind ?_
      unfold Builtin.Itertools.itPoolItems
      refine wpAny_bind (wpAny_seqItems hp rfl (wpAny_pure ?_))
      refine wpAny_bind (wp_int2P hit ?_)
      refine wpAny_bind (wp_numsP hit ?_)
      refine wpAny_bind (wp_int1P hit ?_)
      rw [Int.toNat_natCast]
      dsimp only
      split
      · rename_i h1
        exact absurd h1 (by decide)
      · split
        · rename_i i1 c1 heq
          have z := Option.some.inj (hs.symm.trans heq)
          cases z
          refine wpAny_bind ?_
          unfold Builtin.Itertools.itSetNumbersFrom
          refine wpAny_updateFields hit rfl ?_ ?_
          · have hit1 : IsPrm (s.heap.update it (Obj.mapFields fun fs => fs.extract 0 4 ++ ((i ++ c).map fun (n : Nat) => rawInt n).toArray)) it T 1 r res (i ++ c) := by
              refine (Heap.get?_update_self (Obj.mapFields fun fs => fs.extract 0 4 ++ ((i ++ c).map fun (n : Nat) => rawInt n).toArray) hit rfl).trans ?_
              show some ({ cls := .type Tp, dict := none, data := .fields ((prmF T 1 r res nums).extract 0 4 ++ ((i ++ c).map fun (n : Nat) => rawInt n).toArray), slots := #[] } : Obj) = _
              rw [ext_prm]
            exact hand_outP (s := { s with heap := s.heap.update it (Obj.mapFields fun fs => fs.extract 0 4 ++ ((i ++ c).map fun (n : Nat) => rawInt n).toArray) }) (by omega) hit1 (s0 := s) (by show _ = (Heap.update _ _ _).objs.size; rw [Heap.size_update]) (fun b o hb e => by
              show (Heap.update _ _ _).get? b = _
              rw [Heap.get?_update_ne _ _ _ _ hb]; exact e) (fun h' => rfl) hQ
          · show ((prmF T 1 r res nums).extract 0 4 ++ ((i ++ c).map fun (n : Nat) => rawInt n).toArray).size ≤ _
            rw [ext_prm]
            simp [prmF, sizeLine_eq]
            omega
        · rename_i heq
          have z := hs.symm.trans heq
          cases z
      · rename_i h1 h2
        exact absurd rfl h2
    · refine wpAny_bind (wpAny_pure ?_)
      refine wpAny_bind (wpAny_field hit rfl (x := .ref T) rfl ?_)
      refine wpAny_bind ?_
      unfold Builtin.Itertools.itPoolItems
      refine wpAny_bind (wpAny_seqItems hp rfl (wpAny_pure ?_))
      refine wpAny_bind (wp_int2P hit ?_)
      refine wpAny_bind (wp_numsP hit ?_)
      refine wpAny_bind (wp_int1P hit ?_)
      rw [Int.toNat_natCast]
      dsimp only
      split
      · rename_i h1
        exact absurd h1 (by decide)
      · split
        · rename_i i1 c1 heq
          have z := hs.symm.trans heq
          cases z
        · refine wpAny_bind (wpAny_setField hit rfl (by show 1 < (prmF T 1 r res nums).size; simp [prmF]) ?_)
          refine wp_stop hh fun e h' se eb => hE e h' se fun b o hb q => eb b o hb ?_
          show (Heap.update _ _ _).get? b = _
          rw [Heap.get?_update_ne _ _ _ _ hb]
          exact q
      · rename_i h1 h2
        exact absurd rfl h2
    · refine wpAny_bind (wpAny_pure ?_)
      refine wpAny_bind (wpAny_field hit rfl (x := .ref T) rfl ?_)
      refine wpAny_bind ?_
      unfold Builtin.Itertools.itPoolItems
      refine wpAny_bind (wpAny_seqItems hp rfl (wpAny_pure ?_))
      refine wpAny_bind (wp_int2P hit ?_)
      refine wpAny_bind (wp_numsP hit ?_)
      refine wpAny_bind (wp_int1P hit ?_)
      rw [Int.toNat_natCast]
      refine wpAny_bind (wpAny_setField hit rfl (by show 1 < (prmF T 0 r res nums).size; simp [prmF]) ?_)
      have hit1 : IsPrm (s.heap.update it (Obj.mapFields (·.setIfInBounds 1 (rawInt 1)))) it T 1 r res nums := by
        refine (Heap.get?_update_self (Obj.mapFields (·.setIfInBounds 1 (rawInt 1))) hit rfl).trans ?_
        show some ({ cls := .type Tp, dict := none, data := .fields ((prmF T 0 r res nums).setIfInBounds 1 (rawInt 1)), slots := #[] } : Obj) = _
        rw [set1_prm]
      exact hand_outP (s := { s with heap := s.heap.update it (Obj.mapFields (·.setIfInBounds 1 (rawInt 1))) }) hl hit1 (s0 := s) (by show _ = (Heap.update _ _ _).objs.size; rw [Heap.size_update]) (fun b o hb e => by
        show (Heap.update _ _ _).get? b = _
        rw [Heap.get?_update_ne _ _ _ _ hb]; exact e) (fun h' => rfl) hQ
  · decide +kernel
end Dl
set_option Elab.async false
set_option linter.all false
set_option maxRecDepth 100000
set_option maxHeartbeats 4000000
/-! permutations(range(n)), walked: the layer's rule. -/
namespace Dl
open PySem PySem.Spec PyProof.Rows L2
noncomputable def stepPm : Nat → Nat → List Nat → List Nat → Option (List Nat × List Nat) := Classical.choose prm_ex
theorem specPm : NextSpecP stepPm := (Classical.choose_spec prm_ex).1
theorem chainPs : chainP stepPm = true := (Classical.choose_spec prm_ex).2
noncomputable def stPL (n : Nat) : List (List Nat × List Nat) := runP stepPm n 121 (List.range n, cyc0 n)
abbrev stP0 : List Nat × List Nat := ([], [])
theorem chainP_at {n : Nat} (hn : n ≤ 5) : (stPL n).map (·.1) = prmL n ∧ (∀ i, i < (stPL n).length → stepPm n n ((stPL n).getD i stP0).1 ((stPL n).getD i stP0).2 = (stPL n)[i + 1]?) ∧ (stPL n)[0]? = some (List.range n, cyc0 n) ∧ ∀ p ∈ stPL n, p.1.length = n ∧ p.2.length = n ∧ ∀ j ∈ p.1, j < n := by
  have h1 := List.all_eq_true.mp chainPs n (List.mem_range.mpr (by omega))
  have e : stPL n = runP stepPm n 121 (List.range n, cyc0 n) := rfl
  unfold chkP at h1
  rw [e]
  generalize runP stepPm n 121 (List.range n, cyc0 n) = L at *
  simp only [Bool.and_eq_true, List.all_eq_true, decide_eq_true_eq, List.mem_range] at h1
  obtain ⟨⟨⟨h1, h2⟩, h3⟩, h4⟩ := h1
  exact ⟨h1, h2, h3, fun p hp => ⟨(h4 p hp).1.1, (h4 p hp).1.2, (h4 p hp).2⟩⟩
structure PrmAt (it T : Addr) (n : Nat) (i : Nat) (h : Heap) : Prop where
  ne : T ≠ it
  it : ∃ st res nums, IsPrm h it T st n res nums ∧ ((i = 0 ∧ st = 0 ∧ nums = List.range n ++ cyc0 n) ∨ (0 < i ∧ i ≤ (stPL n).length ∧ st = 1 ∧ nums = ((stPL n).getD (i - 1) stP0).1 ++ ((stPL n).getD (i - 1) stP0).2))
  pool : ∃ (pool : Array Value) (pn : Nat) (po : Option Addr) (ps : Array (Option Value)), h.get? T = some { cls := .type "tuple", dict := po, data := .seq pool pn, slots := ps } ∧ pool.size = n ∧ ∀ j, j < n → ∃ t, pool[j]? = some (.int (j : Nat) t)
section
variable {prog : Program} {w : World} {A : Around} {E : Value → Shared → Prop} {s : Shared} {it T : Addr} {n i : Nat}
theorem getD_memC {α : Type} {L : List α} {i : Nat} {d : α} (h : i < L.length) : L.getD i d ∈ L := by
  rw [List.getD_eq_getElem?_getD, List.getElem?_eq_getElem h]
  exact List.getElem_mem h
theorem prm_item (hn : n ≤ 5) (h : PrmAt it T n i s.heap) (hi : i < (stPL n).length) {Q : Option Value → Shared → Prop}
    (hQ : ∀ (h' : Heap) (us : List Value), PrmAt it T n (i + 1) h' → us.length = n → (∀ k, k < n → ∃ t, us[k]? = some (.int (((stPL n).getD i stP0).1.getD k 0 : Nat) t)) → h'.get? s.heap.objs.size = some { cls := .type "tuple", data := .seq us.toArray } → h'.objs.size = s.heap.objs.size + 1 →
      (∀ b o, b ≠ it → s.heap.get? b = some o → h'.get? b = some o) → Q (some (.ref s.heap.objs.size)) { s with heap := h' }) : wpAny (model prog w) A (pyNext (.ref it)) Q E s := by
  obtain ⟨hne, ⟨st, res, nums, hit, hst⟩, pool, pn, po, ps, hp, hsz, hpl⟩ := h
  have hT : s.TypeIs (.ref it) Tp := ⟨_, hit, rfl⟩
  obtain ⟨c1, c2, c3, c4⟩ := chainP_at hn
  obtain ⟨d1, d0, d2⟩ := c4 _ (getD_memC (d := stP0) hi)
  have fin : ∀ h', IsPrm h' it T 1 n (.ref s.heap.objs.size) (((stPL n).getD i stP0).1 ++ ((stPL n).getD i stP0).2) → h'.get? s.heap.objs.size = some { cls := .type "tuple", data := .seq (pickA pool (((stPL n).getD i stP0).1)).toArray } → h'.objs.size = s.heap.objs.size + 1 → (∀ b o, b ≠ it → s.heap.get? b = some o → h'.get? b = some o) → Q (some (.ref s.heap.objs.size)) { s with heap := h' } := fun h' q1 q2 q3 q4 => by
    refine hQ h' _ ⟨hne, ⟨_, _, _, q1, .inr ⟨by omega, by omega, rfl, by rw [Nat.add_sub_cancel]⟩⟩, pool, pn, po, ps, q4 _ _ hne hp, hsz, hpl⟩ (by rw [List.length_map, d1]) (fun k hk => ?_) q2 q3 q4
    generalize ((stPL n).getD i stP0).1 = l at *
    have hk' : k < l.length := by omega
    obtain ⟨t, ht⟩ := hpl _ (d2 _ (getD_memC (d := 0) hk'))
    refine ⟨t, ?_⟩
    rw [List.getElem?_map, List.getElem?_eq_getElem hk', Option.map_some]
    rw [List.getD_eq_getElem?_getD (l := l), List.getElem?_eq_getElem hk'] at ht ⊢
    simp only [Option.getD_some] at ht ⊢
    rw [Array.getD_eq_getD_getElem?, ht]
    rfl
  unfold pyNext
  refine wpAny_bind (wpAny_attempt (wpAny_callSpecial?_slot (name := Str.ofString "__next__") hT slot_prm_next (wpAny_call_entry slot_prm_next hT entry_prm_next ?_ (args_prm_next _))))
  rcases hst with ⟨rfl, rfl, rfl⟩ | ⟨h0, hl, rfl, rfl⟩
  · have e0 : (stPL n).getD 0 stP0 = (List.range n, cyc0 n) := by rw [List.getD_eq_getElem?_getD, c3]; rfl
    rw [e0] at fin
    refine (specPm prog w A.in1 _ s it T n res _ pool pn po ps (by simp; omega) hne hp).1 _ hit fun h' q1 q2 q3 q4 => ?_
    rw [List.take_append_of_le_length (by simp), List.take_of_length_le (by simp)] at q2
    exact ⟨_, rfl, wpAny_pure (fin h' q1 q2 q3 q4)⟩
  · have e1 := c2 (i - 1) (by omega)
    rw [show i - 1 + 1 = i by omega, List.getElem?_eq_getElem hi] at e1
    have e2 : (stPL n).getD i stP0 = (stPL n)[i] := by rw [List.getD_eq_getElem?_getD, List.getElem?_eq_getElem hi]; rfl
    rw [← e2] at e1
    obtain ⟨l1, l2, _⟩ := c4 _ (getD_memC (d := stP0) (show i - 1 < (stPL n).length by omega))
    refine (specPm prog w A.in1 _ s it T n res _ pool pn po ps (by rw [List.length_append]; omega) hne hp).2.1 _ ((stPL n).getD i stP0).1 ((stPL n).getD i stP0).2 hit ?_ (by omega) (by omega) fun h' q1 q2 q3 q4 => ?_
    · rw [hsz, List.take_append_of_le_length (by omega), List.take_of_length_le (by omega), List.drop_append_of_le_length (by omega), List.drop_of_length_le (by omega), List.nil_append]
      exact e1
    · rw [List.take_of_length_le (by omega)] at q2
      exact ⟨_, rfl, wpAny_pure (fin h' q1 q2 q3 q4)⟩
theorem prm_end (hn : n ≤ 5) (hh : A.handled = none) (h : PrmAt it T n i s.heap) (hi : (stPL n).length ≤ i) {Q : Option Value → Shared → Prop} (hQ : ∀ h', Heap.ExtBut it s.heap h' → Q none { s with heap := h' }) : wpAny (model prog w) A (pyNext (.ref it)) Q E s := by
  obtain ⟨hne, ⟨st, res, nums, hit, hst⟩, pool, pn, po, ps, hp, hsz, hpl⟩ := h
  have hT : s.TypeIs (.ref it) Tp := ⟨_, hit, rfl⟩
  obtain ⟨c1, c2, c3, c4⟩ := chainP_at hn
  have hpos := (List.getElem?_eq_some_iff.mp c3).1
  unfold pyNext
  refine wpAny_bind (wpAny_attempt (wpAny_callSpecial?_slot (name := Str.ofString "__next__") hT slot_prm_next (wpAny_call_entry slot_prm_next hT entry_prm_next ?_ (args_prm_next _))))
  rcases hst with ⟨rfl, rfl, rfl⟩ | ⟨h0, hl, rfl, rfl⟩
  · omega
  · have e1 := c2 (i - 1) (by omega)
    rw [show i - 1 + 1 = i by omega, List.getElem?_eq_none hi] at e1
    obtain ⟨l1, l2, _⟩ := c4 _ (getD_memC (d := stP0) (show i - 1 < (stPL n).length by omega))
    refine (specPm prog w A.in1 _ s it T n res _ pool pn po ps (by rw [List.length_append]; omega) hne hp).2.2 _ hh hit ?_ fun ev h' se eb => ?_
    · rw [hsz, List.take_append_of_le_length (by omega), List.take_of_length_le (by omega), List.drop_append_of_le_length (by omega), List.drop_of_length_le (by omega), List.nil_append]
      exact e1
    · obtain ⟨a, o, vs, rfl, q1, q2, q3, q4⟩ := se
      refine wpAny_bind (wpAny_isInstance (T := "StopIteration") (b := true) ⟨_, q1, q2⟩ isSubtype_stop ?_)
      exact wpAny_pure (hQ _ eb)
theorem iter_prm {st : Int} {r : Nat} {res : Value} {nums : List Nat} (hit : IsPrm s.heap it T st r res nums) {Q : Value → Shared → Prop} (h : Q (.ref it) s) : wpAny (model prog w) A (pyIter (.ref it)) Q E s := by
  have hT : s.TypeIs (.ref it) Tp := ⟨_, hit, rfl⟩
  refine wpAny_pyIter_slot hT slot_prm_iter (wpAny_call_entry slot_prm_iter hT entry_prm_iter ?_ (args_prm_iter _))
  show wpAny _ _ (ret (.ref it)) _ _ s
  exact wpAny_pure ⟨_, rfl, Tp, _, hT, slot_prm_next.lookup, h⟩
end
theorem turn_prm {P : Program} {w : World} {K : PySem.W.Frag} {tg : Expr} (it T : Addr) {n : Nat} (hn : n ≤ 5) : Turn P w K tg (Itm (prmL n)) [it, T] it (fun i h => PrmAt it T n i h) where
  mem := by simp
  obj := fun i h st b hb => by
    obtain ⟨hne, ⟨st, res, idx, hit, hst⟩, pool, pn, po, ps, hp, hsz, hpl⟩ := st
    have e' : b = it ∨ b = T := by simpa using hb
    rcases e' with q | q
    · rw [q]; exact ⟨_, hit, fun v z => by cases (show Data.fields _ = Data.cell v from z)⟩
    · rw [q]; exact ⟨_, hp, fun v z => by cases (show Data.seq _ _ = Data.cell v from z)⟩
  keep := fun i h h' st k => by
    obtain ⟨hne, ⟨st, res, idx, hit, hst⟩, pool, pn, po, ps, hp, r⟩ := st
    exact ⟨hne, ⟨st, res, idx, k it (by simp) _ hit, hst⟩, pool, pn, po, ps, k T (by simp) _ hp, r⟩
  item := by
    intro X hP hw hK hc i pins s σ H E I hf st hg
    subst hP hw hK
    obtain ⟨c1, c2, c3, c4⟩ := chainP_at hn
    have hg : i < (prmL n).length := hg
    have el : (prmL n).length = (stPL n).length := by rw [← c1, List.length_map]
    have hg' : i < (stPL n).length := by omega
    have eg : (prmL n).getD i [] = ((stPL n).getD i stP0).1 := by
      rw [← c1, List.getD_eq_getElem?_getD, List.getElem?_map, List.getElem?_eq_getElem hg', List.getD_eq_getElem?_getD, List.getElem?_eq_getElem hg']
      rfl
    obtain ⟨_, _, _, hit0, _⟩ := st.it
    have hlt : it < s.heap.objs.size := Heap.lt_size hit0
    have hltT : T < s.heap.objs.size := by
      obtain ⟨_, _, _, _, hp, _⟩ := st.pool
      exact Heap.lt_size hp
    refine prm_item hn st hg' fun h' us st' hl hv hT hsz kp => ?_
    obtain ⟨st1, res1, idx1, hit1, _⟩ := st'.it
    have hlen : ((prmL n).getD i []).length = n := by
      rw [eg]
      exact (c4 _ (getD_memC (d := stP0) hg')).1
    have new : ObjOk X.prog X.w (upd H s.heap.objs.size (.tup (((prmL n).getD i []).map fun j => V.int (j : Nat)))) h' s.heap.objs.size (.tup (((prmL n).getD i []).map fun j => V.int (j : Nat))) :=
      ⟨by rw [List.length_map, hlen, sizeLine_eq]; omega, us, vals_nums _ _ (by rw [hl, hlen]) (fun k hk => by rw [eg]; exact hv k (by omega)), ⟨_, hT, rfl, _, rfl⟩⟩
    have I1 : Inv X pins σ (upd H s.heap.objs.size (.tup (((prmL n).getD i []).map fun j => V.int (j : Nat)))) { s with heap := h' } :=
      I.turnedNew (t' := s.toks) (ch := [it]) (fun c o hb q => kp c o (fun z => hb (by simp [z])) q) (fun b hb => hf b (by simp at hb; simp [hb])) (Nat.le_refl _) new
    refine ⟨_, rfl, go_of (s := { s with heap := h' }) hit1 rfl rfl (by decide) ⟨.ref s.heap.objs.size, _, I1, rfl, ⟨_, rfl, I.hok.fresh (Nat.le_refl _), rfl⟩, st', fun b hb => ?_⟩⟩
    have e' : b = it ∨ b = T := by simpa using hb
    have hb' : b < s.heap.objs.size := by rcases e' with q | q <;> (rw [q]; assumption)
    rw [upd_ne (Nat.ne_of_lt hb')]
    exact (hf b hb).1
  done := by
    intro X hP hw hK hc i pins s σ H E I hf st hg
    subst hP hw hK
    obtain ⟨c1, c2, c3, c4⟩ := chainP_at hn
    have hg : (prmL n).length ≤ i := hg
    have el : (prmL n).length = (stPL n).length := by rw [← c1, List.length_map]
    refine prm_end hn (I.ok.hd hc) st (by omega) fun h' eb => ⟨rfl, ?_⟩
    obtain ⟨f0, f1, f2, f3, f4, f5⟩ := hf it (by simp)
    exact I.turned (t' := s.toks) (fun b o hb e => eb b o hb e) f0 f1 f3 f4 f5
  self := fun A i s Q E st h => by
    obtain ⟨_, _, _, hit, _⟩ := st.it
    exact iter_prm hit h
section
variable {X : Cx}
def iPrm (ta : TA) : TI := fun σ H R => ta σ H fun vs H1 => ∃ (p : Addr) (n : Nat), vs = [.ref p] ∧ H1 p = some (.rng 0 n) ∧ n ≤ 5 ∧ R (Itm (prmL n)) H1
theorem pi_prm {tg e1 : Expr} {ta : TA} {p pos : Pos} (hc : X.calm = true) (hg : Gl X "permutations") (hm : X.mg "permutations" = some (.type Tp)) (ha : PA X [e1] ta)
    (he : starEach [e1] X.env = (false, eval e1 X.env) :: starEach [] X.env := by rfl) (hpl : (backTo pos (starEach [] X.env)).any (·.1) = false := by rfl) : PI X tg (.Call (.Name "permutations" p) [e1] [] pos) (iPrm ta) := by
  refine ⟨fun pins s σ H R I h => ?_⟩
  refine wpAny_Call_Name_kw (ld_glob I hg hm ?_ (by decide))
  refine PyProof.Rows.callWith_type1 (thn (ha.run pos pins s σ H _ I h) fun us s1 ⟨vs, H1, I1, r1, q1⟩ => ?_) he hpl
  obtain ⟨p0, n, rfl, hp, hn, q⟩ := q1
  cases r1 with
  | cons ru1 rr =>
    cases rr
    cases ru1
    obtain ⟨t1, t2, t3, hR⟩ := I1.hok p0 _ hp
    have hsz : Builtin.Range.rangeSize 0 (n : Int) 1 = ((n : Nat) : Int) := by
      have := rangeSize_nat 0 (n : Int)
      simpa using this
    refine call_prm (I1.ok.hd hc) hR (small_one (by omega) (by omega) (by omega) (by omega)) hsz (by omega) fun h' tk acc kp hacc => ?_
    have I2 : Inv X pins σ H1 { s1 with heap := h', toks := tk } := I1.kept kp
    have I3 : Inv X pins σ H1 { s1 with heap := (h'.push { cls := .type "tuple", data := .seq acc }).push { cls := .type Tp, data := .fields (prmF h'.objs.size 0 n .none (List.range n ++ cyc0 n)) }, toks := tk } :=
      I2.kept fun b o e => Heap.get?_push_of_some _ (Heap.get?_push_of_some _ e)
    have e1 : (h'.push { cls := .type "tuple", data := .seq acc }).objs.size = h'.objs.size + 1 := Heap.size_push ..
    have hit : IsPrm ((h'.push { cls := .type "tuple", data := .seq acc }).push { cls := .type Tp, data := .fields (prmF h'.objs.size 0 n .none (List.range n ++ cyc0 n)) }) (h'.objs.size + 1) h'.objs.size 0 n .none (List.range n ++ cyc0 n) := by
      rw [← e1]
      exact Heap.get?_push_size _ rfl
    refine iter_prm (s := { s1 with heap := _, toks := tk }) hit ?_
    refine ⟨_, [h'.objs.size + 1, h'.objs.size], _, _, H1, rfl, I3, turn_prm (h'.objs.size + 1) h'.objs.size hn, ⟨Nat.ne_of_lt (Nat.lt_succ_self _), ⟨_, _, _, hit, .inl ⟨rfl, rfl, rfl⟩⟩, acc, _, _, _, Heap.get?_push_of_some _ (Heap.get?_push_size _ rfl), hacc.1, fun j hj => ?_⟩, fun b hb => ?_, q⟩
    · have hj' : j < acc.size := by rw [hacc.1]; exact hj
      obtain ⟨t, e⟩ := hacc.2 j acc[j] (by rw [Array.getElem?_eq_getElem hj'])
      refine ⟨t, ?_⟩
      rw [Array.getElem?_eq_getElem hj', e]
      simp
    · have e' : b = h'.objs.size + 1 ∨ b = h'.objs.size := by simpa using hb
      have hle : h'.objs.size ≤ b := by
        rcases e' with z | z
        · rw [z]; exact Nat.le_add_right _ _
        · rw [z]; exact Nat.le_refl _
      exact I2.fpOk hle (I2.hok.fresh hle)
end
end Dl
set_option Elab.async false
set_option linter.all false
set_option maxRecDepth 100000
set_option maxHeartbeats 4000000
/-! Sorting what is collected; tuples of which some is empty; sets of tuples, sorted; how many a set has. -/
namespace Dl
open PySem PySem.W PySem.SeqAt PyProof.Rows PySem.Calls
section
variable {M : Model} {A : Around} {E : Value → Shared → Prop} {s : Shared}
theorem first_ofG {P : Option Value → Shared → Prop} {u : Value} {t : List PyData} {as : List Addr} (r : Reads s.heap u (.tuple t) as) (k : ∀ o, o.isSome = !t.isEmpty → P o s) : wpAny M A (firstOfTuple' u) P E s := by
  have lk : Looks M s.heap (typeOf u) (.type "tuple") := looks_reads r
  cases r with
  | @tuple p o us n _ _ a1 a2 a3 a4 =>
    have z1 : us.size = t.length := by simpa using SeqAt.ReadsAll.length _ _ _ a4
    rw [kas_first_eq]
    refine wpAny_bind (lk.here ?_)
    rw [if_neg (by simp)]
    refine wpAny_bind (listItems_at a1 a3 (wpAny_pure (k _ ?_)))
    cases t with
    | nil => simp at z1; simp [z1]
    | cons x t =>
      simp at z1
      have : 0 < us.size := by omega
      simp [this]
theorem firsts_ofG : ∀ (us : List Value) (ts : List (List PyData)), EachIs (fun u t => ∃ as, Reads s.heap u (.tuple t) as) us ts → ∀ {P : List (Option Value) → Shared → Prop}, (∀ rs : List (Option Value), rs.map (·.isSome) = ts.map (fun t => !t.isEmpty) → P rs s) → wpAny M A (us.mapM firstOfTuple') P E s
  | _, _, .nil, P, k => by
    rw [List.mapM_nil]
    exact wpAny_pure (k [] rfl)
  | _, _, .cons ⟨as, r⟩ h, P, k => by
    rw [List.mapM_cons]
    refine wpAny_bind (first_ofG r fun o ho => wpAny_bind (firsts_ofG _ _ h fun rs hr => wpAny_pure (k _ ?_)))
    rw [List.map_cons, List.map_cons, ho, hr]
theorem kind_some {P : SortKind → Shared → Prop} {us : List Value} {x : PyData} {r : List PyData} {ts : List (List PyData)} (h : EachIs (fun u t => ∃ as, Reads s.heap u (.tuple t) as) us ((x :: r) :: ts)) (he : [] ∈ ts) (k : P general' s) : wpAny M A (keyKind' us.toArray) P E s := by
  rw [kat_kind_eq us.toArray, List.mapM_toArray, map_eq_pure_bind]
  refine wpAny_bind (wpAny_bind (firsts_ofG us _ h fun rs hr => wpAny_pure ?_))
  have n1 : rs.toArray.all (·.isSome) = false := by
    rw [List.all_toArray, List.all_eq_false]
    have : false ∈ rs.map (·.isSome) := by
      rw [hr, List.map_cons]
      exact List.mem_cons_of_mem _ (List.mem_map.mpr ⟨[], he, rfl⟩)
    obtain ⟨o, ho, e⟩ := List.mem_map.mp this
    exact ⟨o, ho, by rw [e]; simp⟩
  have n2 : ((rs.toArray[0]?).bind id).isSome = true := by
    cases rs with
    | nil => simp at hr
    | cons o rs =>
      simp only [List.map_cons, List.cons.injEq] at hr
      simp [hr.1]
  rw [n1, n2]
  simp only [Bool.false_eq_true, if_false, if_true]
  exact wpAny_pure k
end
section
variable {prog : Program} {w : World} {A : Around} {E : Value → Shared → Prop} {s : Shared}
theorem each_ts : ∀ {vs : List Value} {ds : List PyData}, EachIs (fun v d => ∃ as, Reads s.heap v d as) vs ds → (∀ d ∈ ds, ∃ t, d = .tuple t) → ∃ ts : List (List PyData), ds = ts.map PyData.tuple ∧ EachIs (fun u t => ∃ as, Reads s.heap u (.tuple t) as) vs ts
  | _, _, .nil, _ => ⟨[], rfl, .nil⟩
  | _, _, .cons h1 h2, ht => by
    obtain ⟨t, rfl⟩ := ht _ (List.mem_cons_self ..)
    obtain ⟨ts, rfl, h⟩ := each_ts h2 fun d hd => ht d (List.mem_cons_of_mem _ hd)
    exact ⟨t :: ts, rfl, .cons h1 h⟩
/-- data that can be sorted, or tuples of which some is empty -/
theorem sorts_any {vs : List Value} {ds : List PyData} (e : EachIs (fun v d => ∃ as, Reads s.heap v d as) vs ds) (hal : AllAlike ds) (hk : Sortable ds ∨ (PyData.tuple [] ∈ ds ∧ ∀ d ∈ ds, ∃ t, d = .tuple t))
    (hu : ∀ d ∈ ds, A.units + d.depth < cLine) : SortsAt prog w A s (dataKind s.heap ds) vs := by
  rcases hk with hk | ⟨he, ht⟩
  · exact SortsAt.data e hal hk hu
  · cases ds with
    | nil => cases he
    | cons d0 ds =>
      obtain ⟨t0, rfl⟩ := ht d0 (List.mem_cons_self ..)
      cases t0 with
      | nil => exact sorts_tuples e hal (fun d hd => ht d (List.mem_cons_of_mem _ hd)) hu
      | cons x r =>
        refine ⟨fun v hv => ?_, general', fun E x' y a b P ha hb k => ?_, fun _ E P k => ?_⟩
        · obtain ⟨d, hd, as, q⟩ := e.left v hv
          exact ⟨keyToks d, dataKind_some hal hd q⟩
        · obtain ⟨d, as, hd, ra, rfl⟩ := dataKind_inv ha
          obtain ⟨d', bs, hd', rb, rfl⟩ := dataKind_inv hb
          have al := hal d hd d' hd'
          have h1 := hu d hd
          obtain ⟨t, rfl⟩ := ht d hd
          show wpAny _ _ (oneLt' false x' y) _ _ _
          rw [oneLt'_eq, if_neg (by simp)]
          refine wpAny_bind (lt_data ra rb al (by simp) (Nat.lt_of_le_of_lt (Nat.add_le_add_left (Nat.min_le_left _ _) _) h1) ?_)
          exact wpAny_truthy_bool k
        · obtain ⟨ts, e1, e2⟩ := each_ts e ht
          cases ts with
          | nil => cases e1
          | cons t ts =>
            rw [List.map_cons, List.cons.injEq] at e1
            obtain ⟨e3, e4⟩ := e1
            cases e3
            refine kind_some e2 ?_ k
            rcases List.mem_cons.mp he with z | z
            · cases z
            · rw [e4] at z
              obtain ⟨t, h1, h2⟩ := List.mem_map.mp z
              cases h2
              exact h1
/-- sorted(x), by what is collected of x -/
theorem sorted_coll {r : Addr} {P : Value → Shared → Prop}
    (h : wpAny (model prog w) A.in1 (collect (.ref r)) (fun vs s1 => vs.length ≤ sizeLine ∧ ∃ κ, SortsAt prog w A.in1.in1 { s1 with heap := sortingHeap (s1.heap.push (seqObj "list" vs.toArray 0)) s1.heap.objs.size vs } κ vs ∧
      P (.ref s1.heap.objs.size) { s1 with heap := sortedHeap (s1.heap.push (seqObj "list" vs.toArray 0)) s1.heap.objs.size vs (sortVals κ false vs vs).toArray }) E s) :
    wpAny (model prog w) A (call (.builtin "sorted") [.ref r]) P E s := by
  refine Calls.call_function_entry kind_sorted plain_sorted entry_sorted (args_sorted1 _) ?_
  unfold Builtin.«sorted»
  refine wpAny_bind (m := checkCount "sorted" 1 1 _) (wpAny_pure ?_)
  refine wpAny_bind (wpAny_mono h (fun vs s1 hv => ?_) fun _ _ e => e)
  obtain ⟨hz, κ, S, q⟩ := hv
  refine wpAny_bind (wpAny_newList ?_ hz)
  have hoL : (s1.heap.push (seqObj "list" vs.toArray 0)).get? s1.heap.objs.size = some (seqObj "list" vs.toArray 0) := Heap.get?_push_size _ rfl
  refine wpAny_bind (wpAny_holding (wpAny_call_entry slot_list_sort ⟨_, hoL, rfl⟩ entry_list_sort ?body (args_list_sort _)))
  case body =>
    show wpAny (model prog w) A.in1.in1 (Builtin.«list.sort» ⟨[.ref s1.heap.objs.size], []⟩) _ _ _
    refine wpAny_mono (list_sort_vals (s := { s1 with heap := s1.heap.push (seqObj "list" vs.toArray 0) }) (E := E) hoL S hz (P := fun f s' => f = .done (.ret .none) ∧ P (.ref s1.heap.objs.size) s') ⟨rfl, q⟩) (fun f s' hf => ?_) fun _ _ e => e
    obtain ⟨rfl, hq⟩ := hf
    exact ⟨_, rfl, wpAny_pure ⟨_, rfl, hq⟩⟩
theorem srtH_old {h : Heap} {vs : List Value} {out : Array Value} {b : Addr} {o : Obj} (e : h.get? b = some o) : (sortedHeap (h.push (seqObj "list" vs.toArray 0)) h.objs.size vs out).get? b = some o := by
  have hlt := Heap.lt_size e
  rw [sortedHeap_old (Nat.ne_of_lt hlt) (by rw [size_push']; exact Nat.lt_succ_of_lt hlt)]
  exact Heap.get?_push_of_some _ e
theorem srtG_old {h : Heap} {vs : List Value} {b : Addr} {o : Obj} (e : h.get? b = some o) : (sortingHeap (h.push (seqObj "list" vs.toArray 0)) h.objs.size vs).get? b = some o :=
  sortingHeap_old (Nat.ne_of_lt (Heap.lt_size e)) (Heap.get?_push_of_some _ e)
/-- .. that reads as data -/
theorem sorted_collD {β : Type} {enc : β → PyData} {R : Value → β → Prop} {r : Addr} {P : Value → Shared → Prop}
    (h : wpAny (model prog w) A.in1 (collect (.ref r)) (fun vs s1 => ∃ bs : List β, EachIs R vs bs ∧ EachIs (fun v b => ∃ as, Reads s1.heap v (enc b) as) vs bs ∧ AllAlike (bs.map enc) ∧ (Sortable (bs.map enc) ∨ (PyData.tuple [] ∈ bs.map enc ∧ ∀ d ∈ bs.map enc, ∃ t, d = .tuple t)) ∧ bs.length ≤ sizeLine ∧
      (∀ b ∈ bs, A.units + 2 + (enc b).depth < cLine) ∧
      ∀ (out : List Value) (h' : Heap) (c : Nat), (∀ b o, s1.heap.get? b = some o → h'.get? b = some o) → h'.get? s1.heap.objs.size = some (seqObj "list" out.toArray c) → EachIs R out (bs.mergeSort (dataLe false enc)) → P (.ref s1.heap.objs.size) { s1 with heap := h' }) E s) :
    wpAny (model prog w) A (call (.builtin "sorted") [.ref r]) P E s := by
  refine sorted_coll (wpAny_mono h (fun vs s1 hv => ?_) fun _ _ e => e)
  obtain ⟨bs, e, er, hal, hk, hL, hu, q⟩ := hv
  have er' : EachIs (fun v b => ∃ as, Reads (sortingHeap (s1.heap.push (seqObj "list" vs.toArray 0)) s1.heap.objs.size vs) v (enc b) as) vs bs := er.mono fun _ _ z => let ⟨as, r⟩ := z; ⟨as, PyProof.Rows.Reads.keeps (fun _ _ y => srtG_old y) r⟩
  have em := each_map (R := fun v d => ∃ as, Reads (sortingHeap (s1.heap.push (seqObj "list" vs.toArray 0)) s1.heap.objs.size vs) v d as) enc er'
  refine ⟨by rw [e.length]; exact hL, dataKind (sortingHeap (s1.heap.push (seqObj "list" vs.toArray 0)) s1.heap.objs.size vs) (bs.map enc), sorts_any (s := { s1 with heap := sortingHeap (s1.heap.push (seqObj "list" vs.toArray 0)) s1.heap.objs.size vs }) em hal hk (fun d hd => ?_), ?_⟩
  · obtain ⟨b, hb, rfl⟩ := List.mem_map.mp hd
    have := hu b hb
    simpa using this
  · obtain ⟨c, hc⟩ := sortedHeap_at (vs := vs) (out := (sortVals (dataKind (sortingHeap (s1.heap.push (seqObj "list" vs.toArray 0)) s1.heap.objs.size vs) (bs.map enc)) false vs vs).toArray) (Heap.get?_push_size s1.heap (o := seqObj "list" vs.toArray 0) rfl)
    exact q _ _ c (fun b o z => srtH_old z) hc (sortVals_data false e er' hal)
end
/-! ### whole numbers in tuples, in order -/
section
theorem lexA : ∀ a b : List Int, rowLt (a.map PyData.int) (b.map PyData.int) = HT.lexLt a b
  | [], [] => PyProof.Rows.lex_irrefl _
  | [], y :: ys => by
    unfold rowLt
    rw [List.map_nil, List.map_cons, toks_all_cons]
    simp only [keyToksAll]
    rw [PyProof.Rows.lex_diff (O := PyProof.Rows.itemOrd) (by simp)]
    rfl
  | x :: xs, [] => by
    unfold rowLt
    rw [List.map_nil, List.map_cons, toks_all_cons]
    simp only [keyToksAll]
    rw [PyProof.Rows.lex_diff (O := PyProof.Rows.itemOrd) (by simp)]
    rfl
  | x :: xs, y :: ys => by
    unfold rowLt
    rw [List.map_cons, List.map_cons, dataLt_cons (by simp [alike])]
    have := lexA xs ys
    unfold rowLt at this
    rw [this, HT.lexLt_cons, dataLt_int]
    simp only [PyData.eqv]
    by_cases h : x = y <;> simp [h]
abbrev tI_ (k : List Int) : PyData := .tuple (k.map PyData.int)
theorem lexT (a b : List Int) : dataLt (tI_ a) (tI_ b) = HT.lexLt a b := by
  rw [dataLt_tuple]
  exact lexA a b
theorem lex_irr (a : List Int) : HT.lexLt a a = false := by rw [← lexT]; exact PyProof.Rows.lex_irrefl _
theorem lex_tr {a b c : List Int} (h1 : HT.lexLt a b = true) (h2 : HT.lexLt b c = true) : HT.lexLt a c = true := by
  rw [← lexT] at h1 h2 ⊢
  exact PyProof.Rows.lex_trans _ _ _ h1 h2
theorem lex_tri : ∀ a b : List Int, HT.lexLt a b = false → HT.lexLt b a = false → a = b
  | [], [], _, _ => rfl
  | [], y :: b, h1, _ => by simp [HT.lexLt] at h1
  | x :: a, [], _, h2 => by simp [HT.lexLt] at h2
  | x :: a, y :: b, h1, h2 => by
    rw [HT.lexLt_cons] at h1 h2
    by_cases q : x = y
    · subst q
      rw [if_pos rfl] at h1 h2
      rw [lex_tri a b h1 h2]
    · rw [if_neg q] at h1
      rw [if_neg (Ne.symm q)] at h2
      simp at h1 h2
      omega
theorem alike_tI : ∀ a b : List Int, alikeAll (a.map PyData.int) (b.map PyData.int) = true
  | [], _ => by simp [alikeAll]
  | _ :: _, [] => by simp [alikeAll]
  | x :: a, y :: b => by simp [alikeAll, alike, alike_tI a b]
theorem depth_ints : ∀ k : List Int, PyData.depthAll (k.map PyData.int) ≤ 0
  | [] => by simp [PyData.depthAll]
  | x :: k => by
    have := depth_ints k
    simp [PyData.depthAll, PyData.depth] at this ⊢
    omega
theorem mem_insT {x k : List Int} : ∀ {l : List (List Int)}, k ∈ insT x l ↔ k = x ∨ k ∈ l
  | [] => by simp [insT]
  | y :: l => by
    unfold insT
    split
    · simp
    · split
      · rename_i h
        subst h
        simp
      · rw [List.mem_cons, mem_insT (l := l), List.mem_cons]
        constructor
        · rintro (h | h | h)
          · exact .inr (.inl h)
          · exact .inl h
          · exact .inr (.inr h)
        · rintro (h | h | h)
          · exact .inr (.inl h)
          · exact .inl h
          · exact .inr (.inr h)
theorem mem_ssetT {k : List Int} : ∀ {l : List (List Int)}, k ∈ ssetT l ↔ k ∈ l
  | [] => by simp [ssetT]
  | x :: l => by rw [ssetT, mem_insT, mem_ssetT (l := l), List.mem_cons]
abbrev pwT (l : List (List Int)) : Prop := l.Pairwise fun a b => HT.lexLt a b = true
theorem pw_insT {x : List Int} : ∀ {l : List (List Int)}, pwT l → pwT (insT x l)
  | [], _ => List.pairwise_singleton _ _
  | y :: l, h => by
    obtain ⟨h1, h2⟩ := List.pairwise_cons.mp h
    unfold insT
    split
    · rename_i q
      refine List.pairwise_cons.mpr ⟨fun z hz => ?_, h⟩
      rcases List.mem_cons.mp hz with e | e
      · rw [e]; exact q
      · exact lex_tr q (h1 z e)
    · split
      · exact h
      · rename_i q1 q2
        refine List.pairwise_cons.mpr ⟨fun z hz => ?_, pw_insT h2⟩
        rcases mem_insT.mp hz with e | e
        · subst e
          cases q3 : HT.lexLt y z with
          | true => rfl
          | false => exact absurd (lex_tri _ _ (by simpa using q1) q3) q2
        · exact h1 z e
theorem pw_ssetT : ∀ l : List (List Int), pwT (ssetT l)
  | [] => List.Pairwise.nil
  | x :: l => pw_insT (pw_ssetT l)
theorem pwT_ext : ∀ (A B : List (List Int)), pwT A → pwT B → (∀ x, x ∈ A ↔ x ∈ B) → A = B := by
  have asy : ∀ {a b : List Int}, HT.lexLt a b = true → HT.lexLt b a = true → False := fun h1 h2 => by
    have := lex_tr h1 h2
    rw [lex_irr] at this
    cases this
  intro A
  induction A with
  | nil =>
    intro B _ _ e
    cases B with
    | nil => rfl
    | cons b B => exact absurd ((e b).mpr (by simp)) (by simp)
  | cons a A ih =>
    intro B ha hb e
    cases B with
    | nil => exact absurd ((e a).mp (by simp)) (by simp)
    | cons b B =>
      obtain ⟨a1, a2⟩ := List.pairwise_cons.mp ha
      obtain ⟨b1, b2⟩ := List.pairwise_cons.mp hb
      have hab : a = b := by
        have u := (e a).mp (by simp)
        have v := (e b).mpr (by simp)
        rcases List.mem_cons.mp u with u | u
        · exact u
        · rcases List.mem_cons.mp v with v | v
          · exact v.symm
          · exact (asy (a1 b v) (b1 a u)).elim
      subst hab
      rw [ih B a2 b2 fun x => ?_]
      constructor
      · intro hx
        rcases List.mem_cons.mp ((e x).mp (by simp [hx])) with q | q
        · exact (asy (a1 x hx) (q ▸ a1 x hx)).elim
        · exact q
      · intro hx
        rcases List.mem_cons.mp ((e x).mpr (by simp [hx])) with q | q
        · exact (asy (b1 x hx) (q ▸ b1 x hx)).elim
        · exact q
theorem ssetT_eq {A ks : List (List Int)} (h : pwT A) (e : ∀ x, x ∈ A ↔ x ∈ ks) : A = ssetT ks := pwT_ext _ _ h (pw_ssetT ks) fun x => by rw [e, mem_ssetT]
theorem ssetT_nodup (ks : List (List Int)) : (ssetT ks).Nodup := (pw_ssetT ks).imp fun h e => by
  subst e
  rw [lex_irr] at h
  cases h
end
section
open L2
variable {X : Cx}
/-- sorted of a set of tuples of whole numbers -/
def rSortedG (K : PySem.W.Frag) (P : Program) (w : World) : List V → Hp → VK → Prop := fun vs H Q => ∃ (a : Addr) (L : List (Addr × List Int)), vs = [V.ref a] ∧ H a = some (SetTO P w a L) ∧ (∀ p ∈ L, SqT K H p.1 (p.2.map V.int)) ∧
  ∀ (L' : List (Addr × List Int)) (p : Addr), L'.Perm L → pwT (L'.map (·.2)) → H p = none → Q (.ref p) (upd H p (.lst (L'.map fun q => V.ref q.1)))
theorem perm_map_ex {α β : Type} {f : α → β} {vs m : List β} (h : vs.Perm m) : ∀ L : List α, m = L.map f → ∃ L1 : List α, vs = L1.map f ∧ L1.Perm L := by
  induction h with
  | nil =>
    intro L e
    cases L with
    | nil => exact ⟨[], rfl, .refl _⟩
    | cons y L => cases e
  | cons x h ih =>
    intro L e
    cases L with
    | nil => cases e
    | cons y L =>
      simp only [List.map_cons, List.cons.injEq] at e
      obtain ⟨L1, e1, p⟩ := ih L e.2
      exact ⟨y :: L1, by rw [List.map_cons, e.1, e1], p.cons y⟩
  | swap x y l =>
    intro L e
    rcases L with _ | ⟨a, _ | ⟨b, L⟩⟩
    · cases e
    · simp at e
    · simp only [List.map_cons, List.cons.injEq] at e
      exact ⟨b :: a :: L, by simp only [List.map_cons]; rw [e.1, e.2.1, e.2.2], .swap a b L⟩
  | trans h1 h2 ih1 ih2 =>
    intro L e
    obtain ⟨L2, e2, p2⟩ := ih2 L e
    obtain ⟨L1, e1, p1⟩ := ih1 L2 e2
    exact ⟨L1, e1, p1.trans p2⟩
theorem each_ref : ∀ L : List (Addr × List Int), EachIs (fun (v : Value) (q : Addr × List Int) => v = Value.ref q.1) (L.map fun q => Value.ref q.1) L
  | [] => .nil
  | q :: L => .cons rfl (each_ref L)
theorem of_ref : ∀ {vs : List Value} {L : List (Addr × List Int)}, EachIs (fun (v : Value) (q : Addr × List Int) => v = Value.ref q.1) vs L → vs = L.map fun q => Value.ref q.1
  | _, _, .nil => rfl
  | _, _, .cons h t => by rw [List.map_cons, h, of_ref t]
theorem cr_sortedG (hc : X.calm = true) (hu : X.A.units + 70 < cLine) : CallR X (.builtin "sorted") (rSortedG X.K X.prog X.w) := by
  intro pins s σ H vs us Q I r h
  obtain ⟨a, L, rfl, ha, hk, q⟩ := h
  have R0 : SetT0 X.prog X.w s.heap a L := (I.hok a _ ha).1
  obtain ⟨es, ep, t, R⟩ := R0.full fun p hp => I.isT (hk p hp)
  rw [Vals.ref1 r]
  obtain ⟨o, ho, hex, hd⟩ := R.ob
  have hsz := R.size
  have hfew := R.few
  refine sorted_collD (enc := fun q : Addr × List Int => tI_ q.2) (R := fun (v : Value) (q : Addr × List Int) => v = Value.ref q.1) (collect_set (A := X.A.in1) (by simp [I.ok.hd hc]) ⟨o, ho, hex.1, hd⟩ R.fits (by unfold scanBound; omega) R.tab.ris R.led fun s1 vs k1 hz g1 o1 pm => ?_)
  have hes : es.toList.map (·.2) = L.map fun q => Value.ref q.1 := by
    rw [R.rows]
    unfold L2.rowsOf
    rw [List.map_map] <;> rfl
  rw [hes] at pm
  obtain ⟨L1, rfl, pL⟩ := perm_map_ex pm L rfl
  have hm : ∀ q ∈ L1, q ∈ L := fun q hq => pL.mem_iff.mp hq
  have rd : ∀ L0 : List (Addr × List Int), (∀ q ∈ L0, q ∈ L) → EachIs (fun (v : Value) (q : Addr × List Int) => ∃ as, Reads s1.heap v (tI_ q.2) as) (L0.map fun q => Value.ref q.1) L0 := fun L0 => by
    induction L0 with
    | nil => intro _; exact .nil
    | cons q L0 ih =>
      intro h0
      refine .cons ?_ (ih fun r hr => h0 r (List.mem_cons_of_mem _ hr))
      obtain ⟨as, z⟩ := Dp.reads I (tI_ q.2) (V.ref q.1) (Value.ref q.1) (.tup (hk q (h0 q (List.mem_cons_self ..))) (dpAll_ints _ _ _)) rfl
      exact ⟨as, PyProof.Rows.Reads.keeps k1 z⟩
  have hl1 : L1.length < 64 := by rw [pL.length_eq]; exact hfew
  refine ⟨L1, each_ref L1, rd L1 hm, fun d hd d' hd' => ?_, ?_, by rw [sizeLine_eq]; omega, fun b _ => ?_, fun out h' c kp hg eo => ?_⟩
  · obtain ⟨b, _, rfl⟩ := List.mem_map.mp hd
    obtain ⟨b', _, rfl⟩ := List.mem_map.mp hd'
    simp only [alike]
    exact alike_tI _ _
  · by_cases he : [] ∈ L1.map (·.2)
    · refine .inr ⟨?_, fun d hd => ?_⟩
      · obtain ⟨b, hb, e⟩ := List.mem_map.mp he
        exact List.mem_map.mpr ⟨b, hb, by rw [show b.2 = [] from e]; rfl⟩
      · obtain ⟨b, _, rfl⟩ := List.mem_map.mp hd
        exact ⟨_, rfl⟩
    · refine .inl (.inl fun d hd => ?_)
      obtain ⟨b, hb, rfl⟩ := List.mem_map.mp hd
      cases e : b.2 with
      | nil => exact absurd (List.mem_map.mpr ⟨b, hb, e⟩) he
      | cons x r => exact ⟨.int x, r.map PyData.int, rfl⟩
  · have := depth_ints b.2
    simp only [PyData.depth]
    omega
  · have eo := of_ref eo
    have ele : (dataLe false fun q : Addr × List Int => tI_ q.2) = fun a b => !HT.lexLt b.2 a.2 := by
      funext a b
      show (!dataLt (tI_ b.2) (tI_ a.2)) = _
      rw [lexT]
    rw [ele] at eo
    have pm2 := List.mergeSort_perm L1 fun a b => !HT.lexLt b.2 a.2
    have srt := List.pairwise_mergeSort (le := fun a b : Addr × List Int => !HT.lexLt b.2 a.2) (fun a b c h1 h2 => by
      simp only [Bool.not_eq_true'] at h1 h2 ⊢
      cases h : HT.lexLt c.2 a.2 with
      | false => rfl
      | true =>
        cases h3 : HT.lexLt a.2 b.2 with
        | true => rw [lex_tr h h3] at h2; cases h2
        | false =>
          have := lex_tri _ _ h3 h1
          rw [this] at h
          rw [h2] at h; cases h) (fun a b => by
      cases h : HT.lexLt b.2 a.2 with
      | false => simp
      | true =>
        cases h2 : HT.lexLt a.2 b.2 with
        | false => simp
        | true =>
          have := lex_tr h h2
          rw [lex_irr] at this
          cases this) L1
    generalize L1.mergeSort (fun a b => !HT.lexLt b.2 a.2) = L' at *
    have p2 : L'.Perm L := pm2.trans pL
    have nd : (L'.map (·.2)).Nodup := (p2.map (·.2)).nodup_iff.mpr R.nd
    have pw : pwT (L'.map (·.2)) := by
      refine List.pairwise_map.mpr (List.Pairwise.imp_of_mem (fun {a b} _ _ h => ?_) (List.Pairwise.and srt (List.pairwise_map.mp nd)))
      obtain ⟨h1, h2⟩ := h
      cases h3 : HT.lexLt a.2 b.2 with
      | true => rfl
      | false => exact absurd (lex_tri _ _ h3 (by simpa using h1)) h2
    have hlen : (L'.map fun q => V.ref q.1).length ≤ sizeLine := by rw [List.length_map, sizeLine_eq, p2.length_eq]; omega
    have hn : H s1.heap.objs.size = none := I.hok.fresh hz
    have hv : Vals (L'.map fun q => V.ref q.1) out := by rw [eo]; exact vals_of_refs L'
    have kk : ∀ b o, s.heap.get? b = some o → h'.get? b = some o := fun b o e => kp b o (k1 b o e)
    have J : Inv X pins σ (upd H s1.heap.objs.size (.lst (L'.map fun q => V.ref q.1))) { s with heap := h', gens := s1.gens, drawn := s1.drawn, toks := s1.toks } :=
      I.call (ch := []) (Un.laid kk hz hn) (I.hok.laid kk hz ⟨hlen, out, c, hv, hg⟩) (by rw [g1]; exact I.bare) (fun _ z => nomatch z)
    have e : ({ s1 with heap := h' } : Shared) = { s with heap := h', gens := s1.gens, drawn := s1.drawn, toks := s1.toks } := by
      cases s1
      cases s
      cases o1
      rfl
    rw [e]
    exact ⟨.ref _, _, J, rfl, q L' _ p2 pw hn⟩
/-- len of a set -/
def rLenSet (P : Program) (w : World) : List V → Hp → VK → Prop := fun vs H Q => ∃ (a : Addr), vs = [V.ref a] ∧
  ((∃ S n, H a = some (SetO w a S n) ∧ Q (.int n) H) ∨ (∃ L, H a = some (SetTO P w a L) ∧ ((L.map (·.2)).Nodup → Q (.int L.length) H)))
theorem cr_lenSet : CallR X (.builtin "len") (rLenSet X.prog X.w) := by
  intro pins s σ H vs us Q I r h
  obtain ⟨a, rfl, h⟩ := h
  rw [Vals.ref1 r]
  rcases h with ⟨S, n, ha, q⟩ | ⟨L, ha, q⟩
  · obtain ⟨o, es, ep, t, ho, hex, hd, _, _, _, hb, hf, hn, _⟩ := (I.hok a _ ha).1
    exact call_len_set ho hex hd hf (by unfold scanBound at hb; omega) ⟨.int n, H, I.tok _, ⟨_, by rw [hn]⟩, q⟩
  · obtain ⟨es, ep, t, ⟨o, ho, hex, hd⟩, hr, ht, h4, h5, h6, h7, h8⟩ := SetT0.ex (I.hok a _ ha).1
    have hs : es.size = L.length := by
      rw [← Array.length_toList, hr]
      unfold L2.rowsOf
      rw [List.length_map]
    have hf : t.fits es.size = true := by
      have h1 := ht.sz
      rw [List.length_map] at h1
      unfold SetTable.fits SetTable.fill
      rw [ht.dm, Bool.and_eq_true, beq_iff_eq, decide_eq_true_eq]
      show t.place.size = es.size ∧ t.place.size + 0 ≤ t.mask
      omega
    exact call_len_set ho hex hd hf (by omega) ⟨.int L.length, H, I.tok _, ⟨_, by rw [hs]⟩, q h4⟩
end
end Dl
set_option Elab.async false
set_option linter.all false
set_option maxRecDepth 100000
set_option maxHeartbeats 4000000
/-! sets of tuples from a tuple; a tuple, sorted. -/
namespace Dl
open PySem PySem.Spec PyProof.Rows L2
section
variable {prog : Program} {w : World} {A : Around} {E : Value → Shared → Prop} {s : Shared}
theorem set_tps {p : Addr} {us : Array Value} (ks : List (Addr × List Int)) {Q : Value → Shared → Prop} (ha : A.handled = none) (hp : s.heap.IsTuple p us) (hz : us.toList = ks.map fun q => Value.ref q.1)
    (hk : ∀ q ∈ ks, IsT prog w s.heap q.2 q.1) (hn : ks.length < 64) (hu : A.units + 3 < cLine)
    (k : ∀ (g : Heap) (tk : Nat) (L : List (Addr × List Int)) (es : Array (Int × Value)) (ep : Nat) (t : SetTable), SetTR prog w g s.heap.objs.size L es ep t → Got ks ks.length L → (∀ b o, s.heap.get? b = some o → g.get? b = some o) → Q (.ref s.heap.objs.size) { s with heap := g, toks := tk }) :
    wpAny (model prog w) A (call (.type "set") [.ref p]) Q E s := by
  have usz : us.size = ks.length := by have q := congrArg List.length hz; rwa [Array.length_toList, List.length_map] at q
  obtain ⟨_, _, m1⟩ := F.called_set.mro
  have m2 := F.called_set.made; have m3 := F.called_set.sub
  refine wpAny_call (codeAny_of_tree (show wpAny _ _ (callAny (.type "set") _) _ _ _ from wpAny_pure ⟨Code.quiet_builtin _ (by decide +kernel), codeAny_builtin F.entry_type_call ?_⟩))
  rw [Around.under_plain (weight_type_call_type "set" [.ref p] []) rfl]
  have n1 := F.called_set.notType; have n2 := F.called_set.canCreate; have n3 := F.typeCall_set_1 (.ref p)
  repeat (any_goals (first | assumption | wp_step))
  refine codeAny_mono (code_set_led1 (.ref p) (E := E) (Q₁ := fun ob r => ob = .ref s.heap.objs.size ∧ r = { s with heap := s.heap.push (set0 w) }) ⟨rfl, rfl⟩) fun f r hf => ?_
  match f, hf with
  | .error _, hf => exact hf
  | .ok (.ret ob), hf =>
    obtain ⟨rfl, rfl⟩ := hf
    have g0 : (s.heap.push (set0 w)).get? s.heap.objs.size = some (set0 w) := Heap.get?_push_size _ rfl
    have ty : Shared.TypeIs { s with heap := s.heap.push (set0 w) } (.ref s.heap.objs.size) "set" := ⟨_, g0, rfl⟩
    have i1 := F.called_set.init.lookup; have i2 := F.called_set.init.bind (.ref s.heap.objs.size)
    repeat (any_goals (first | assumption | wp_step))
    refine codeAny_mono (codeAny_call_builtin (R := wants (fun v r => v = .none ∧ ∃ g tk L es ep t, r = { s with heap := g, toks := tk } ∧ SetTR prog w g s.heap.objs.size L es ep t ∧ Got ks ks.length L ∧ (∀ b o, s.heap.get? b = some o → g.get? b = some o)) E) F.called_set.init.plain F.entry_set_init (check_set_init_1 ty ?_)) fun f2 r2 hf2 => ?_
    · obtain ⟨⟨oc, od, odt, os⟩, op, oc', on, odt'⟩ := hp
      simp only at oc' odt'; subst oc' odt'
      have op' : (s.heap.push (set0 w)).get? p = some { cls := .type "tuple", dict := od, data := .seq us on, slots := os } := Heap.get?_push_of_some _ op
      have j1 := F.sub_tuple_set; have j2 := F.sub_tuple_frozenset
      have j3 : (Value.type "tuple" == Value.type "dict") = false := by decide
      have lst1 : (s.heap.push (set0 w)).IsTuple p us := ⟨_, op', rfl, on, rfl⟩
      unfold Builtin.«set.__init__» noKeywords Builtin.Frozenset.updateFrom
      generalize hIt : pyIter = It
      wp_walk
      subst hIt
      refine wpAny_pyIter_tuple lst1 (wpAny_bind (wpAny_runValue ?_))
      have plt : p < s.heap.objs.size := Heap.lt_size op
      have h3 : A.in1.in1.in1.handled = none := by simp [ha]
      have zsz : (s.heap.push (set0 w)).objs.size = s.heap.objs.size + 1 := Heap.size_push ..
      have pne : p ≠ (s.heap.push (set0 w)).objs.size := by
        rw [zsz]; exact Nat.ne_of_lt (Nat.lt_succ_of_lt plt)
      have fre : s.heap.objs.size ∉ [(s.heap.push (set0 w)).objs.size, p] := by
        rw [zsz]; simp only [List.mem_cons, List.not_mem_nil, or_false, not_or]
        exact ⟨Nat.ne_of_lt (Nat.lt_succ_self _), Nat.ne_of_gt plt⟩
      have val : ∀ (i : Nat) (v : Value), us[i]? = some v → ∃ q, ks[i]? = some q ∧ v = .ref q.1 := fun i v hv => by
        have e : us.toList[i]? = some v := by rw [Array.getElem?_toList]; exact hv
        rw [hz, List.getElem?_map] at e
        obtain ⟨q, e1, e2⟩ := Option.map_eq_some_iff.mp e
        exact ⟨q, e1, e2.symm⟩
      have gone : ∀ b, s.heap.objs.size ≤ b → s.heap.get? b = none := fun b hb => by
        cases e : s.heap.get? b with
        | none => rfl
        | some o => have := Heap.lt_size e; exact absurd (show b < b from Nat.lt_of_lt_of_le this hb) (Nat.lt_irrefl b)
      refine set_update_tups ((Walks.tuple h3 _ p pne us).toS) s.heap.objs.size fre ks usz hn val s.heap hk (gone _ (Nat.le_refl _)) (fun b hb => gone b (by rw [List.mem_singleton.mp hb, zsz]; exact Nat.le_succ _)) hu (us.size - 0) 0 _ (by omega) (Nat.zero_le _)
        ⟨⟨_, Heap.get?_push_size _ rfl, rfl, rfl⟩, (lst1.push _)⟩ (fun b o e => Heap.get?_push_of_some _ (Heap.get?_push_of_some _ e)) ⟨[], #[], 0, _, setTR_fresh (Heap.get?_push_of_some _ g0), Got.zero ks⟩ fun r L es ep t mv hS hG hK => ?_
      obtain ⟨g, gg, gd, tk, gos⟩ := r
      cases (show gg = s.gens from mv.gens); cases (show gd = s.drawn from mv.drawn); cases (show gos = s.os from mv.os)
      rw [usz] at hG
      exact (show wpAny _ _ _ _ _ _ from wpAny_pure (show wpAny _ _ (ret Value.none) _ _ _ from wpAny_pure ⟨rfl, g, tk, L, es, ep, t, rfl, hS, hG, hK⟩))
    · match f2, hf2 with
      | .error _, hf2 => exact hf2
      | .ok (.ret v), hf2 =>
        obtain ⟨rfl, g, tk, L, es, ep, t, rfl, e1, e2, e3⟩ := hf2
        repeat (any_goals (first | assumption | wp_step))
        exact k _ _ _ _ _ _ e1 e2 e3
      | .ok (.next), hf2 => exact hf2.elim
      | .ok (.brk), hf2 => exact hf2.elim
      | .ok (.cont), hf2 => exact hf2.elim
  | .ok (.next), hf => exact hf.elim
  | .ok (.brk), hf => exact hf.elim
  | .ok (.cont), hf => exact hf.elim
end
section
variable {X : Cx}
def rSetTT (K : PySem.W.Frag) (P : Program) (w : World) : List V → Hp → VK → Prop := fun xs H Q => ∃ (l : Addr) (ks : List (Addr × List Int)), xs = [V.ref l] ∧ SqT K H l (ks.map fun p => V.ref p.1) ∧ (∀ p ∈ ks, SqT K H p.1 (p.2.map V.int)) ∧ ks.length < 64 ∧
  ∀ a L, H a = none → (∀ p ∈ L, p ∈ ks) → (∀ p ∈ ks, p.2 ∈ L.map (·.2)) → Q (.ref a) (upd H a (SetTO P w a L))
theorem cr_setTT (hc : X.calm = true) (hu : X.A.units + 64 < cLine) : CallR X (.type "set") (rSetTT X.K X.prog X.w) := by
  intro pins s σ H xs us Q I r h
  obtain ⟨l, ks, rfl, hl, hk, hf, q⟩ := h
  rw [Vals.ref1 r]
  obtain ⟨its, rv, pl, _⟩ := I.tuple hl
  have hn : H s.heap.objs.size = none := I.hok.fresh (Nat.le_refl _)
  refine set_tps (prog := X.prog) (w := X.w) ks (I.ok.hd hc) (show s.heap.IsTuple l its.toArray from pl) (by simpa using refs_of_vals rv) (fun p hp => I.isT (hk p hp)) hf (by omega) fun g tk L es ep t R hG kp => ?_
  exact ⟨.ref s.heap.objs.size, upd H s.heap.objs.size (SetTO X.prog X.w s.heap.objs.size L), I.laid (t' := tk) kp (Nat.le_refl _) (setTO_new R.t0), rfl, q _ L hn (fun p hp => List.mem_of_mem_take (hG.sub p hp)) fun p hp => hG.all p (by rw [List.take_length]; exact hp)⟩
end
end Dl
set_option Elab.async false
set_option linter.all false
set_option maxRecDepth 100000
set_option maxHeartbeats 4000000
/-! Operations on data are the machine's. -/
namespace Dl
open PySem PySem.Spec PyProof.Rows L2
section
variable {X : Cx}
theorem same_new {H : Hp} {p : Addr} {o : HO} (h : H p = none) : Same H (upd H p o) := .of fun b x e => by
  rw [upd_ne (ne_of_none e h)]
  exact e
/-- a new object that bears data -/
theorem Reps.new {K : PySem.W.Frag} {G : Addr → Prop} {H : Hp} {ds : List D} {vs : List V} {p : Addr} {o : HO} (r : Reps K G H ds vs) (hp : H p = none) : Reps K (Gx G H) (upd H p o) ds vs :=
  (r.keep (Keep.same (same_new hp))).mono fun _ h => .inl h
theorem out_lst {K : PySem.W.Frag} {G : Addr → Prop} {H : Hp} {ds : List D} {vs : List V} {fr : Bool} {Q : VK} (r : Reps K G H ds vs) (o : Out K G H fr (.lst ds) Q) : ∀ p, H p = none → Q (.ref p) (upd H p (.lst vs)) := fun p hp =>
  o _ _ (same_new hp) ⟨p, vs, rfl, .inr hp, upd_same, r.new hp⟩ fun _ l hl a ha => by cases ha; exact hp
theorem out_tup {K : PySem.W.Frag} {G : Addr → Prop} {H : Hp} {ds : List D} {vs : List V} {fr : Bool} {Q : VK} (r : Reps K G H ds vs) (o : Out K G H fr (.tup ds) Q) : ∀ p, H p = none → Q (.ref p) (upd H p (.tup vs)) := fun p hp =>
  o _ _ (same_new hp) ⟨p, vs, rfl, .inl (.inl upd_same), r.new hp⟩ fun _ l hl => by cases hl
theorem out_sc {K : PySem.W.Frag} {G : Addr → Prop} {H : Hp} {fr : Bool} {d : D} {v : V} {Q : VK} (o : Out K G H fr d Q) (r : Rep K G H d v) (hd : ∀ l, d ≠ .lst l) : Q v H := out_here o r fun _ l hl => absurd hl (hd l)
theorem out_int {K : PySem.W.Frag} {G : Addr → Prop} {H : Hp} {fr : Bool} {i : Int} {Q : VK} (o : Out K G H fr (.int i) Q) : Q (.int i) H := out_sc o rfl fun _ h => by cases h
theorem out_bl {K : PySem.W.Frag} {G : Addr → Prop} {H : Hp} {fr : Bool} {i : Bool} {Q : VK} (o : Out K G H fr (.bl i) Q) : Q (.bl i) H := out_sc o rfl fun _ h => by cases h
theorem out_str {K : PySem.W.Frag} {G : Addr → Prop} {H : Hp} {fr : Bool} {i : Str} {Q : VK} (o : Out K G H fr (.str i) Q) : Q (.str i) H := out_sc o rfl fun _ h => by cases h

/-! ### arithmetic -/
abbrev rAdd' (K : PySem.W.Frag) : R2 := fun x y H Q => rI0 (fun i j => .int (i + j)) x y H Q ∨ (∃ i j, x = .str i ∧ y = .str j ∧ i.length + j.length ≤ sizeLine ∧ Q (.str (i ++ j)) H) ∨ rCatA K x y H Q ∨ rCat x y H Q
theorem op_addD : OpR X (binaryOp .Add) (rAdd' X.K) := op_add.or (op_add_str.or (op_catA.or op_cat))
theorem ok_add {K : PySem.W.Frag} : OpD K true (rAdd' K) addD := by
  intro G H x y dx dy dz Q rx ry e o
  cases dx <;> cases dy <;> simp only [addD, reduceCtorEq] at e
  · cases e
    cases rx; cases ry
    exact .inl ⟨_, _, rfl, rfl, out_int o⟩
  · obtain ⟨hc, rfl⟩ := grd_some e
    cases rx; cases ry
    exact .inr (.inl ⟨_, _, rfl, rfl, hc, out_str o⟩)
  · obtain ⟨hc, rfl⟩ := grd_some e
    obtain ⟨a, vs, rfl, sa, ra⟩ := rx
    obtain ⟨b, us, rfl, sb, rb⟩ := ry
    refine .inr (.inr (.inl ⟨a, b, vs, us, rfl, rfl, sa, sb, by rw [← ra.length, ← rb.length]; exact hc, fun z => ?_, fun z z' => ?_, fun _ _ => ?_⟩))
    · subst z
      have : (_ : List D) = [] := List.eq_nil_of_length_eq_zero (by rw [ra.length]; rfl)
      subst this
      exact out_sc o ⟨b, us, rfl, sb, rb⟩ fun _ h => by cases h
    · subst z'
      have : (_ : List D) = [] := List.eq_nil_of_length_eq_zero (by rw [rb.length]; rfl)
      subst this
      exact out_sc o ⟨a, vs, rfl, sa, by rw [List.append_nil]; exact ra⟩ fun _ h => by cases h
    · exact out_tup (ra.append rb) o
  · obtain ⟨hc, rfl⟩ := grd_some e
    obtain ⟨a, vs, rfl, ga, sa, ra⟩ := rx
    obtain ⟨b, us, rfl, gb, sb, rb⟩ := ry
    exact .inr (.inr (.inr ⟨a, b, vs, us, rfl, rfl, sa, sb, by rw [← ra.length, ← rb.length]; exact hc, out_lst (ra.append rb) o⟩))
theorem ok_sub {K : PySem.W.Frag} : OpD K true (rI0 fun i j => .int (i - j)) subD := by
  intro G H x y dx dy dz Q rx ry e o
  cases dx <;> cases dy <;> simp only [subD, reduceCtorEq] at e
  cases e
  cases rx; cases ry
  exact ⟨_, _, rfl, rfl, out_int o⟩
abbrev rMul' (K : PySem.W.Frag) : R2 := fun x y H Q => rI CMul (fun i j => .int (i * j)) x y H Q ∨ rTupMul K x y H Q ∨ rRep x y H Q
theorem op_mulD : OpR X (binaryOp .Mult) (rMul' X.K) := op_mul.or (op_tupMul.or op_rep)
theorem ok_mul {K : PySem.W.Frag} : OpD K true (rMul' K) mulD := by
  intro G H x y dx dy dz Q rx ry e o
  cases dx <;> cases dy <;> simp only [mulD, reduceCtorEq] at e
  · obtain ⟨hc, rfl⟩ := grd_some e
    cases rx; cases ry
    exact .inl ⟨_, _, rfl, rfl, hc, out_int o⟩
  · obtain ⟨hc, rfl⟩ := grd_some e
    obtain ⟨a, vs, rfl, sa, ra⟩ := rx
    cases ry
    have hl := ra.length
    refine .inr (.inl ⟨a, _, vs, rfl, rfl, sa, fun z => ?_, hc.2.2.1, hc.2.2.2, by omega, fun z => ?_, fun _ => out_tup (ra.rep _) o⟩)
    · subst z
      have : (_ : List D) = [] := List.eq_nil_of_length_eq_zero hl
      subst this
      exact absurd hc.2.1 (by simp)
    · subst z
      exact out_sc o ⟨a, vs, rfl, sa, by simpa using ra⟩ fun _ h => by cases h
  · obtain ⟨hc, rfl⟩ := grd_some e
    obtain ⟨a, vs, rfl, ga, sa, ra⟩ := rx
    cases ry
    refine .inr (.inr ⟨a, _, vs, rfl, rfl, sa, by omega, by omega, by rw [← ra.length]; exact hc.2.2, out_lst (ra.rep _) o⟩)
theorem ok_fdiv {K : PySem.W.Frag} : OpD K true (rI CDivN fun i j => .int (i.fdiv j)) fdivD := by
  intro G H x y dx dy dz Q rx ry e o
  cases dx <;> cases dy <;> simp only [fdivD, reduceCtorEq] at e
  obtain ⟨hc, rfl⟩ := grd_some e
  cases rx; cases ry
  exact ⟨_, _, rfl, rfl, hc, out_int o⟩
theorem ok_mod {K : PySem.W.Frag} : OpD K true (rI (fun _ j => j ≠ 0) fun i j => .int (i.fmod j)) modD := by
  intro G H x y dx dy dz Q rx ry e o
  cases dx <;> cases dy <;> simp only [modD, reduceCtorEq] at e
  obtain ⟨hc, rfl⟩ := grd_some e
  cases rx; cases ry
  exact ⟨_, _, rfl, rfl, hc, out_int o⟩
theorem ok_pow {K : PySem.W.Frag} : OpD K true (rI CPow fun i j => .int (i ^ j.toNat)) powD := by
  intro G H x y dx dy dz Q rx ry e o
  cases dx <;> cases dy <;> simp only [powD, reduceCtorEq] at e
  obtain ⟨hc, rfl⟩ := grd_some e
  cases rx; cases ry
  exact ⟨_, _, rfl, rfl, hc, out_int o⟩
def boOp : BO → Operator
  | .add => .Add
  | .sub => .Sub
  | .mul => .Mult
  | .fdiv => .FloorDiv
  | .mod => .Mod
  | .pow => .Pow
theorem op_bin (o : BO) : ∃ r, OpR X (binaryOp (boOp o)) r ∧ OpD X.K true r (binD o) := by
  cases o
  · exact ⟨_, op_addD, ok_add⟩
  · exact ⟨_, op_sub, ok_sub⟩
  · exact ⟨_, op_mulD, ok_mul⟩
  · exact ⟨_, op_fdivN, ok_fdiv⟩
  · exact ⟨_, op_modN, ok_mod⟩
  · exact ⟨_, op_pow, ok_pow⟩

/-! ### comparisons -/
/-- a comparison by values: the heap stays -/
def CmD (K : PySem.W.Frag) (r : R2) (op : D → D → Option Bool) : Prop := ∀ (G : Addr → Prop) (H : Hp) (x y : V) (dx dy : D) (k : Bool) (Q : VK), Rep K G H dx x → Rep K G H dy y → op dx dy = some k → Q (.bl k) H → r x y H Q
theorem CmD.op {K : PySem.W.Frag} {r : R2} {op : D → D → Option Bool} (h : CmD K r op) : OpD K true r (fun x y => (op x y).map .bl) := fun G H x y dx dy dz Q rx ry e o => by
  obtain ⟨k, e1, rfl⟩ := Option.map_eq_some_iff.mp e
  exact h G H x y dx dy k Q rx ry e1 (out_bl o)
theorem pys_map : ∀ l : List D, pys l = l.map D.py
  | [] => rfl
  | d :: ds => by rw [pys, pys_map ds]; rfl
theorem plain_ints : ∀ l : List Int, PyData.plainAll (l.map PyData.int) = true
  | [] => rfl
  | n :: l => by simp [PyData.plainAll, PyData.plain, plain_ints l]
mutual
theorem py_plain : ∀ d : D, d.py.plain = true
  | .non => rfl
  | .bl _ => rfl
  | .int _ => rfl
  | .str _ => rfl
  | .tup l => by simp only [D.py, PyData.plain]; exact pys_plain l
  | .lst l => by simp only [D.py, PyData.plain]; exact pys_plain l
  | .scr l => by simp only [D.py, PyData.plain]; exact plain_ints l
theorem pys_plain : ∀ l : List D, PyData.plainAll (pys l) = true
  | [] => rfl
  | d :: ds => by simp [pys, PyData.plainAll, py_plain d, pys_plain ds]
end
def rEqP (K : PySem.W.Frag) (neg : Bool) : R2 := fun x y H Q => ∃ d e, Dp K H x d ∧ Dp K H y e ∧ d.plain = true ∧ e.plain = true ∧ d.depth ≤ 64 ∧ Q (.bl (if neg then !(PyData.eqv d e) else PyData.eqv d e)) H
theorem op_eqP (hu : X.A.units + 64 < cLine) : OpR X (compareOp .Eq) (rEqP X.K false) := by
  intro pins s σ H x y v u Q I rx ry h
  obtain ⟨d, e, hd, he, sd, se, hl, q⟩ := h
  obtain ⟨as, r1⟩ := Dp.reads I d x v hd rx
  obtain ⟨bs, r2⟩ := Dp.reads I e y u he ry
  have h2 : min d.depth e.depth ≤ d.depth := Nat.min_le_left _ _
  exact SeqAt.eq_plain r1 r2 sd se (by omega) ⟨.bl _, H, I, rfl, q⟩
theorem op_neP (hu : X.A.units + 64 < cLine) : OpR X (compareOp .NotEq) (rEqP X.K true) := by
  intro pins s σ H x y v u Q I rx ry h
  obtain ⟨d, e, hd, he, sd, se, hl, q⟩ := h
  obtain ⟨as, r1⟩ := Dp.reads I d x v hd rx
  obtain ⟨bs, r2⟩ := Dp.reads I e y u he ry
  have h2 : min d.depth e.depth ≤ d.depth := Nat.min_le_left _ _
  exact SeqAt.ne_plain r1 r2 sd se (by omega) ⟨.bl _, H, I, rfl, q⟩
theorem cm_eq {K : PySem.W.Frag} : CmD K (rEqP K false) eqD := fun G H x y dx dy k Q rx ry e q => by
  obtain ⟨hc, rfl⟩ := grd_some e
  exact ⟨_, _, rx.dp, ry.dp, py_plain _, py_plain _, hc.1, q⟩
theorem cm_ne {K : PySem.W.Frag} : CmD K (rEqP K true) (fun x y => (eqD x y).map (!·)) := fun G H x y dx dy k Q rx ry e q => by
  obtain ⟨k', e2, rfl⟩ := Option.map_eq_some_iff.mp e
  obtain ⟨hc, rfl⟩ := grd_some e2
  exact ⟨_, _, rx.dp, ry.dp, py_plain _, py_plain _, hc.1, q⟩
abbrev rLt' (K : PySem.W.Frag) : R2 := fun x y H Q => rI0 (fun i j => .bl (decide (i < j))) x y H Q ∨ (∃ i j, x = .str i ∧ y = .str j ∧ Q (.bl (decide (i.cps.toList < j.cps.toList))) H) ∨ rLtT K x y H Q
theorem op_ltD (hu : X.A.units < cLine) : OpR X (compareOp .Lt) (rLt' X.K) := op_lt.or (op_lt_str.or (op_ltT hu))
theorem cm_lt {K : PySem.W.Frag} : CmD K (rLt' K) ltD := fun G H x y dx dy k Q rx ry e q => by
  cases dx <;> cases dy <;> simp only [ltD, reduceCtorEq] at e
  · cases e
    cases rx; cases ry
    exact .inl ⟨_, _, rfl, rfl, q⟩
  · cases e
    cases rx; cases ry
    exact .inr (.inl ⟨_, _, rfl, rfl, q⟩)
  · obtain ⟨ns, e1, e⟩ := Option.bind_eq_some_iff.mp e
    obtain ⟨ms, e2, rfl⟩ := Option.map_eq_some_iff.mp e
    obtain ⟨a, vs, rfl, sa, ra⟩ := rx
    obtain ⟨b, us, rfl, sb, rb⟩ := ry
    have h1 := ra.ints e1
    have h2 := rb.ints e2
    subst h1 h2
    exact .inr (.inr ⟨a, b, ns, ms, rfl, rfl, sa, sb, q⟩)
theorem cm_le {K : PySem.W.Frag} : CmD K (rI0 fun i j => .bl (decide (i ≤ j))) leD := fun G H x y dx dy k Q rx ry e q => by
  cases dx <;> cases dy <;> simp only [leD, reduceCtorEq] at e
  cases e
  cases rx; cases ry
  exact ⟨_, _, rfl, rfl, q⟩
theorem cm_gt {K : PySem.W.Frag} : CmD K (rI0 fun i j => .bl (decide (j < i))) (cmpD .gt) := fun G H x y dx dy k Q rx ry e q => by
  cases dx <;> cases dy <;> simp only [cmpD, reduceCtorEq] at e
  cases e
  cases rx; cases ry
  exact ⟨_, _, rfl, rfl, q⟩
theorem cm_ge {K : PySem.W.Frag} : CmD K (rI0 fun i j => .bl (decide (j ≤ i))) (cmpD .ge) := fun G H x y dx dy k Q rx ry e q => by
  cases dx <;> cases dy <;> simp only [cmpD, reduceCtorEq] at e
  cases e
  cases rx; cases ry
  exact ⟨_, _, rfl, rfl, q⟩
/-! in -/
def rInT (K : PySem.W.Frag) (neg : Bool) : R2 := fun x y H Q => ∃ d e ds, Dp K H x d ∧ Dp K H y e ∧ (e = .list ds ∨ e = .tuple ds) ∧ d.plain = true ∧ PyData.plainAll ds = true ∧ d.depth ≤ 64 ∧ Q (.bl (if neg then !(ds.any fun z => PyData.eqv z d) else ds.any fun z => PyData.eqv z d)) H
theorem room_in {d : PyData} {n : Nat} {A : Around} (sd : d.depth ≤ 64) (hu : A.units + 65 < cLine) : A.units + 1 + min n d.depth < cLine := by
  have h2 : min n d.depth ≤ d.depth := Nat.min_le_right _ _
  omega
theorem op_inT (hu : X.A.units + 65 < cLine) : OpR X (compareOp .In) (rInT X.K false) := by
  intro pins s σ H x y v u Q I rx ry h
  obtain ⟨d, e, ds, hd, he, ee, sd, se, hl, q⟩ := h
  obtain ⟨as, r1⟩ := Dp.reads I d x v hd rx
  obtain ⟨bs, r2⟩ := Dp.reads I e y u he ry
  have hq : EP X pins σ Q (Value.bool (ds.any fun z => PyData.eqv z d)) s := ⟨.bl _, H, I, rfl, q⟩
  rcases ee with rfl | rfl
  · exact SeqAt.in_list_data r2 r1 se sd (room_in hl hu) hq
  · exact SeqAt.in_tuple_data r2 r1 se sd (room_in hl hu) hq
theorem op_ninT (hu : X.A.units + 65 < cLine) : OpR X (compareOp .NotIn) (rInT X.K true) := by
  intro pins s σ H x y v u Q I rx ry h
  obtain ⟨d, e, ds, hd, he, ee, sd, se, hl, q⟩ := h
  obtain ⟨as, r1⟩ := Dp.reads I d x v hd rx
  obtain ⟨bs, r2⟩ := Dp.reads I e y u he ry
  have hq : EP X pins σ Q (Value.bool (!(ds.any fun z => PyData.eqv z d))) s := ⟨.bl _, H, I, rfl, q⟩
  rcases ee with rfl | rfl
  · exact SeqAt.notIn_list_data r2 r1 se sd (room_in hl hu) hq
  · exact SeqAt.notIn_tuple_data r2 r1 se sd (room_in hl hu) hq
theorem pys_any (p : PyData → Bool) (l : List D) : (pys l).any p = l.any fun z => p z.py := by
  rw [pys_map, List.any_map]; rfl
theorem inD_some {dx dy : D} {k : Bool} (e : inD dx dy = some k) : ∃ ds, (dy.py = .list ds ∨ dy.py = .tuple ds) ∧ dx.py.depth ≤ 64 ∧ PyData.plainAll ds = true ∧ (ds.any fun z => PyData.eqv z dx.py) = k := by
  unfold inD at e
  obtain ⟨l, e1, e⟩ := Option.bind_eq_some_iff.mp e
  obtain ⟨hc, rfl⟩ := grd_some e
  cases dy <;> simp only [itemsD, reduceCtorEq] at e1
  · cases e1
    exact ⟨pys l, .inr rfl, hc.1, pys_plain _, pys_any _ _⟩
  · cases e1
    exact ⟨pys l, .inl rfl, hc.1, pys_plain _, pys_any _ _⟩
theorem cm_in {K : PySem.W.Frag} : CmD K (rInT K false) inD := fun G H x y dx dy k Q rx ry e q => by
  obtain ⟨ds, e1, s1, s2, rfl⟩ := inD_some e
  exact ⟨_, _, ds, rx.dp, ry.dp, e1, py_plain _, s2, s1, q⟩
theorem cm_nin {K : PySem.W.Frag} : CmD K (rInT K true) (fun x y => (inD x y).map (!·)) := fun G H x y dx dy k Q rx ry e q => by
  obtain ⟨k', e2, rfl⟩ := Option.map_eq_some_iff.mp e
  obtain ⟨ds, e1, s1, s2, rfl⟩ := inD_some e2
  exact ⟨_, _, ds, rx.dp, ry.dp, e1, py_plain _, s2, s1, q⟩
def coOp : CO → CmpOp
  | .eq => .Eq
  | .ne => .NotEq
  | .lt => .Lt
  | .le => .LtE
  | .gt => .Gt
  | .ge => .GtE
  | .inn => .In
  | .nin => .NotIn
theorem op_cmp (hu : X.A.units + 65 < cLine) (o : CO) : ∃ r, OpR X (compareOp (coOp o)) r ∧ CmD X.K r (cmpD o) := by
  cases o
  · exact ⟨_, op_eqP (by omega), cm_eq⟩
  · exact ⟨_, op_neP (by omega), cm_ne⟩
  · exact ⟨_, op_ltD (by omega), cm_lt⟩
  · exact ⟨_, op_le, cm_le⟩
  · exact ⟨_, op_gt, cm_gt⟩
  · exact ⟨_, op_ge, cm_ge⟩
  · exact ⟨_, op_inT hu, cm_in⟩
  · exact ⟨_, op_ninT hu, cm_nin⟩

/-! ### truth -/
theorem empty_of {α β : Type} {l : List α} {m : List β} (h : l.length = m.length) : l.isEmpty = m.isEmpty := by
  cases l <;> cases m <;> first | rfl | (simp at h)
theorem tru_of {K : PySem.W.Frag} {G : Addr → Prop} {H : Hp} {d : D} {v : V} {k : Bool} (r : Rep K G H d v) (e : truth d = some k) : TruV K v H k := by
  cases d <;> simp only [truth] at e
  · cases e; cases r; rfl
  · cases e; cases r; rfl
  · cases e; cases r; rfl
  · obtain ⟨hc, rfl⟩ := grd_some e
    cases r
    exact ⟨hc, rfl⟩
  · cases e
    obtain ⟨a, vs, rfl, s, rr⟩ := r
    exact .inr (.inl ⟨vs, s, by rw [empty_of rr.length]⟩)
  · cases e
    obtain ⟨a, vs, rfl, g, s, rr⟩ := r
    exact .inl ⟨vs, SqL.of s, by rw [empty_of rr.length]⟩
  · cases e
    obtain ⟨a, rfl, s⟩ := r
    refine .inl ⟨_, s.sql, ?_⟩
    rename_i l
    cases l <;> rfl

/-! ### subscripts -/
theorem atI_reps {K : PySem.W.Frag} {G : Addr → Prop} {H : Hp} {ds : List D} {vs : List V} {i : Int} {d : D} (r : Reps K G H ds vs) (e : atI ds i = some d) : ∃ v, atI vs i = some v ∧ Rep K G H d v := by
  unfold atI at e ⊢
  obtain ⟨j, e1, e2⟩ := Option.bind_eq_some_iff.mp e
  rw [← r.length, e1]
  exact r.get e2
theorem atI_ints {ns : List Int} {i z : Int} (e : atI ns i = some z) : atI (ns.map V.int) i = some (.int z) := by
  unfold atI at e ⊢
  obtain ⟨j, e1, e2⟩ := Option.bind_eq_some_iff.mp e
  rw [List.length_map, e1]
  simp [e2]
theorem ok_idx {K : PySem.W.Frag} : OpD K false (rIx K) idxD := by
  intro G H x y dx dy dz Q rx ry e o
  cases dx <;> cases dy <;> simp only [idxD, reduceCtorEq] at e
  · split at e
    · rename_i hz
      obtain ⟨c, e1, rfl⟩ := Option.map_eq_some_iff.mp e
      cases rx; cases ry
      exact .inr (.inr ⟨_, _, c, rfl, rfl, hz, e1, out_str o⟩)
    · cases e
  · obtain ⟨a, vs, rfl, s, rr⟩ := rx
    cases ry
    obtain ⟨v, e1, rv⟩ := atI_reps rr e
    exact .inr (.inl ⟨a, vs, _, v, rfl, rfl, s, e1, out_here o rv fun h => by cases h⟩)
  · obtain ⟨a, vs, rfl, g, s, rr⟩ := rx
    cases ry
    obtain ⟨v, e1, rv⟩ := atI_reps rr e
    exact .inl ⟨a, vs, _, v, rfl, rfl, SqL.of s, e1, out_here o rv fun h => by cases h⟩
  · obtain ⟨a, rfl, s⟩ := rx
    cases ry
    obtain ⟨z, e1, rfl⟩ := Option.map_eq_some_iff.mp e
    exact .inl ⟨a, _, _, _, rfl, rfl, s.sql, atI_ints e1, out_int o⟩
/-- a slice, by values -/
theorem ok_slice {K : PySem.W.Frag} {G : Addr → Prop} {H : Hp} {x : V} {dx dz : D} {lo hi : Option Int} {Q : VK} (rx : Rep K G H dx x) (e : sliceD dx lo hi = some dz) (o : Out K G H true dz Q) : rSlA K x lo hi H Q ∨ rSlL K x lo hi H Q := by
  cases dx <;> simp only [sliceD, reduceCtorEq] at e
  · cases e
    obtain ⟨a, vs, rfl, s, rr⟩ := rx
    refine .inl ⟨a, vs, rfl, s, fun h => ?_, fun h => out_tup (rr.cut lo hi) o⟩
    refine out_sc o ⟨a, vs, rfl, s, ?_⟩ fun _ h => by cases h
    have h' := h
    rw [← rr.length] at h'
    unfold cutL
    rw [h'.1, h'.2, List.drop_zero, Nat.sub_zero, List.take_length]
    exact rr
  · cases e
    obtain ⟨a, vs, rfl, g, s, rr⟩ := rx
    exact .inr ⟨a, vs, rfl, SqL.of s, out_lst (rr.cut lo hi) o⟩
end
end Dl
set_option Elab.async false
set_option linter.all false
set_option maxRecDepth 100000
set_option maxHeartbeats 4000000
/-! Built-in functions on data. -/
namespace Dl
open PySem PySem.Spec PyProof.Rows L2
/-- the built-in's name, and what it is -/
def biName : BI → Str
  | .len => "len"
  | .abs => "abs"
  | .int => "int"
  | .bool => "bool"
  | .sum => "sum"
  | .max => "max"
  | .min => "min"
  | .max2 => "max"
  | .min2 => "min"
  | .all => "all"
  | .any => "any"
  | .tuple => "tuple"
  | .list => "list"
  | .sorted => "sorted"
def biVal : BI → Value
  | .len => .builtin "len"
  | .abs => .builtin "abs"
  | .int => .type "int"
  | .bool => .type "bool"
  | .sum => .builtin "sum"
  | .max => .builtin "max"
  | .min => .builtin "min"
  | .max2 => .builtin "max"
  | .min2 => .builtin "min"
  | .all => .builtin "all"
  | .any => .builtin "any"
  | .tuple => .type "tuple"
  | .list => .type "list"
  | .sorted => .builtin "sorted"
def rF (K : PySem.W.Frag) (fr : Bool) (f : List D → Option D) : List V → Hp → VK → Prop := fun vs H Q => ∃ G ds d, Reps K G H ds vs ∧ f ds = some d ∧ Out K G H fr d Q
theorem _root_.L2.CallR.imp {X : Cx} {f : Value} {r r' : List V → Hp → VK → Prop} (h : CallR X f r) (i : ∀ vs H Q, r' vs H Q → r vs H Q) : CallR X f r' := fun pins s σ H xs us Q I rv q => h pins s σ H xs us Q I rv (i _ _ _ q)
section
variable {K : PySem.W.Frag} {G : Addr → Prop} {H : Hp}
theorem reps1 {d : D} {vs : List V} (r : Reps K G H [d] vs) : ∃ v, vs = [v] ∧ Rep K G H d v := by
  obtain ⟨v, r, rfl, h, rfl⟩ := r
  exact ⟨v, rfl, h⟩
theorem reps2 {d e : D} {vs : List V} (r : Reps K G H [d, e] vs) : ∃ v w, vs = [v, w] ∧ Rep K G H d v ∧ Rep K G H e w := by
  obtain ⟨v, r, rfl, h, w, r', rfl, h', rfl⟩ := r
  exact ⟨v, w, rfl, h, h'⟩
end
theorem one_of {α : Type} {f : List D → Option α} {ds : List D} {x : α} (h : f ds = some x) (h0 : f [] = none) (h2 : ∀ a b l, f (a :: b :: l) = none) : ∃ d, ds = [d] := by
  match ds, h with
  | [], h => rw [h0] at h; cases h
  | [d], _ => exact ⟨d, rfl⟩
  | a :: b :: l, h => rw [h2] at h; cases h
theorem two_of {α : Type} {f : List D → Option α} {ds : List D} {x : α} (h : f ds = some x) (h0 : f [] = none) (h1 : ∀ a, f [a] = none) (h2 : ∀ a b c l, f (a :: b :: c :: l) = none) : ∃ d e, ds = [d, e] := by
  match ds, h with
  | [], h => rw [h0] at h; cases h
  | [d], h => rw [h1] at h; cases h
  | [a, b], _ => exact ⟨a, b, rfl⟩
  | a :: b :: c :: l, h => rw [h2] at h; cases h
/-- the sequence of a datum -/
theorem Rep.items {K : PySem.W.Frag} {G : Addr → Prop} {H : Hp} {d : D} {v : V} {l : List D} (r : Rep K G H d v) (e : itemsD d = some l) : ∃ a vs, v = .ref a ∧ (SqL K H a vs ∨ SqT K H a vs) ∧ Reps K G H l vs := by
  cases d <;> simp only [itemsD, reduceCtorEq] at e
  · cases e
    obtain ⟨a, vs, e, s, rr⟩ := r
    exact ⟨a, vs, e, .inr s, rr⟩
  · cases e
    obtain ⟨a, vs, e, g, s, rr⟩ := r
    exact ⟨a, vs, e, .inl (SqL.of s), rr⟩
section
variable {X : Cx}
theorem bi_len : CallR X (.builtin "len") (rF X.K false (biD .len)) := by
  refine CallR.imp call_len fun vs H Q h => ?_
  obtain ⟨G, ds, d, rv, e, o⟩ := h
  obtain ⟨x, rfl⟩ := one_of e rfl fun _ _ _ => rfl
  obtain ⟨v, rfl, r⟩ := reps1 rv
  simp only [biD] at e
  obtain ⟨n, e1, rfl⟩ := Option.map_eq_some_iff.mp e
  refine ⟨v, n, rfl, ?_, out_int o⟩
  cases x <;> simp only [lenD, reduceCtorEq] at e1
  · obtain ⟨hc, rfl⟩ := grd_some e1
    cases r
    exact ⟨hc, rfl⟩
  · cases e1
    obtain ⟨a, us, rfl, s, rr⟩ := r
    exact .inr ⟨us, s, rr.length⟩
  · cases e1
    obtain ⟨a, us, rfl, g, s, rr⟩ := r
    exact .inl ⟨us, SqL.of s, rr.length⟩
  · cases e1
    obtain ⟨a, rfl, s⟩ := r
    exact .inl ⟨_, s.sql, by rw [List.length_map]⟩
theorem bi_abs : CallR X (.builtin "abs") (rF X.K false (biD .abs)) := by
  refine CallR.imp call_abs fun vs H Q h => ?_
  obtain ⟨G, ds, d, rv, e, o⟩ := h
  obtain ⟨x, rfl⟩ := one_of e rfl fun _ _ _ => by simp [biD]
  obtain ⟨v, rfl, r⟩ := reps1 rv
  cases x <;> simp only [biD, reduceCtorEq] at e
  cases e
  cases r
  exact ⟨_, rfl, out_int o⟩
theorem bi_int : CallR X (.type "int") (rF X.K false (biD .int)) := by
  refine CallR.imp call_int1 fun vs H Q h => ?_
  obtain ⟨G, ds, d, rv, e, o⟩ := h
  obtain ⟨x, rfl⟩ := one_of e rfl fun a _ _ => by cases a <;> simp [biD]
  obtain ⟨v, rfl, r⟩ := reps1 rv
  cases x <;> simp only [biD, reduceCtorEq] at e
  · cases e
    cases r
    exact .inr ⟨_, rfl, out_int o⟩
  · cases e
    cases r
    exact .inl ⟨_, rfl, out_int o⟩
theorem bi_bool : CallR X (.type "bool") (rF X.K false (biD .bool)) := by
  refine CallR.imp call_bool1 fun vs H Q h => ?_
  obtain ⟨G, ds, d, rv, e, o⟩ := h
  obtain ⟨x, rfl⟩ := one_of e rfl fun a _ _ => by cases a <;> simp [biD]
  obtain ⟨v, rfl, r⟩ := reps1 rv
  cases x <;> simp only [biD, reduceCtorEq] at e
  · cases e
    cases r
    exact .inr ⟨_, rfl, out_bl o⟩
  · cases e
    cases r
    exact .inl ⟨_, rfl, out_bl o⟩
theorem bi_max2 (hc : X.calm = true) : CallR X (.builtin "max") (rF X.K false (biD .max2)) := by
  refine CallR.imp (call_max2 hc) fun vs H Q h => ?_
  obtain ⟨G, ds, d, rv, e, o⟩ := h
  obtain ⟨x, y, rfl⟩ := two_of e rfl (fun a => by simp [biD]) fun a b _ _ => by cases a <;> simp [biD]
  obtain ⟨v, w, rfl, r, r'⟩ := reps2 rv
  cases x <;> cases y <;> simp only [biD, reduceCtorEq] at e
  cases e
  cases r; cases r'
  exact ⟨_, _, rfl, out_int o⟩
theorem bi_all (hc : X.calm = true) : CallR X (.builtin "all") (rF X.K false (biD .all)) := by
  refine CallR.imp (cr_all hc) fun vs H Q h => ?_
  obtain ⟨G, ds, d, rv, e, o⟩ := h
  obtain ⟨x, rfl⟩ := one_of e rfl fun a _ _ => by cases a <;> simp [biD]
  obtain ⟨v, rfl, r⟩ := reps1 rv
  cases x <;> simp only [biD, reduceCtorEq] at e
  obtain ⟨bs, e1, rfl⟩ := Option.map_eq_some_iff.mp e
  obtain ⟨a, us, rfl, g, s, rr⟩ := r
  have := rr.bls e1
  subst this
  exact ⟨a, bs, rfl, SqL.of s, out_bl o⟩
theorem bi_any (hc : X.calm = true) : CallR X (.builtin "any") (rF X.K false (biD .any)) := by
  intro pins s σ H vs us Q I rv0 h
  obtain ⟨G, ds, d, rv, e, o⟩ := h
  obtain ⟨x, rfl⟩ := one_of e rfl fun a _ _ => by cases a <;> simp [biD]
  obtain ⟨v, rfl, r⟩ := reps1 rv
  cases x <;> simp only [biD, reduceCtorEq] at e
  · obtain ⟨ns, e1, rfl⟩ := Option.map_eq_some_iff.mp e
    obtain ⟨a, us', rfl, s', rr⟩ := r
    have := rr.ints e1
    subst this
    exact call_anyT hc pins s σ H _ us Q I rv0 ⟨a, ns, rfl, s', out_bl o⟩
  · obtain ⟨bs, e1, rfl⟩ := Option.map_eq_some_iff.mp e
    obtain ⟨a, us', rfl, g, s', rr⟩ := r
    have := rr.bls e1
    subst this
    exact cr_any hc pins s σ H _ us Q I rv0 ⟨a, bs, rfl, SqL.of s', out_bl o⟩
theorem bi_tuple : CallR X (.type "tuple") (rF X.K false (biD .tuple)) := by
  refine CallR.imp call_tuple_of fun vs H Q h => ?_
  obtain ⟨G, ds, d, rv, e, o⟩ := h
  obtain ⟨x, rfl⟩ := one_of e rfl fun a _ _ => by cases a <;> simp [biD]
  obtain ⟨v, rfl, r⟩ := reps1 rv
  cases x <;> simp only [biD, reduceCtorEq] at e
  · cases e
    obtain ⟨a, us, rfl, s, rr⟩ := r
    exact ⟨a, us, rfl, .inr ⟨s, out_sc o ⟨a, us, rfl, s, rr⟩ fun _ h => by cases h⟩⟩
  · cases e
    obtain ⟨a, us, rfl, g, s, rr⟩ := r
    exact ⟨a, us, rfl, .inl ⟨SqL.of s, out_tup rr o⟩⟩
theorem bi_list : CallR X (.type "list") (rF X.K true (biD .list)) := by
  refine CallR.imp call_list_of fun vs H Q h => ?_
  obtain ⟨G, ds, d, rv, e, o⟩ := h
  obtain ⟨x, rfl⟩ := one_of e rfl fun a _ _ => by cases a <;> simp [biD]
  obtain ⟨v, rfl, r⟩ := reps1 rv
  cases x <;> simp only [biD, reduceCtorEq] at e
  · cases e
    obtain ⟨a, us, rfl, s, rr⟩ := r
    exact ⟨a, us, rfl, .inr s, out_lst rr o⟩
  · cases e
    obtain ⟨a, us, rfl, g, s, rr⟩ := r
    exact ⟨a, us, rfl, .inl (SqL.of s), out_lst rr o⟩
theorem bi_sum (hc : X.calm = true) : CallR X (.builtin "sum") (rF X.K false (biD .sum)) := by
  intro pins s σ H vs us Q I rv h
  obtain ⟨G, ds, d, rd, e, o⟩ := h
  obtain ⟨x, rfl⟩ := one_of e rfl fun a _ _ => by cases a <;> simp [biD]
  obtain ⟨v, rfl, r⟩ := reps1 rd
  cases x <;> simp only [biD, reduceCtorEq] at e
  · obtain ⟨ns, e1, rfl⟩ := Option.map_eq_some_iff.mp e
    obtain ⟨a, vs, rfl, sq, rr⟩ := r
    have := rr.ints e1
    subst this
    obtain ⟨its, r2, hl, _⟩ := I.tuple sq
    have hi := r2.ints
    obtain ⟨xs, e3⟩ := hi.allInts.items
    have hn : numsOf (intItems xs).toList = ns := by rw [← e3]; exact hi.numsOf
    rw [nums_intItems] at hn
    rw [e3] at hl
    rw [Vals.ref1 rv]
    refine call_sum_walkG (PySem.W.iter_tupleW (A := X.A.in1) (I.ok.hd hc) hl fun s₂ e2 W st hfp hw hk => ?_)
    have hlt : a < s.heap.objs.size := hl.lt
    refine ⟨_, _, _, _, _, _, numAt xs, rfl, Walks.tuple (A := X.A.in1) (I.ok.hd hc) _ a (Nat.ne_of_lt hlt) (intItems xs), ?_, hfp, fun _ _ => intItems_at, fun h' tk t' hk' => ?_⟩
    · subst e2
      exact st
    · subst e2
      refine ⟨.int _, H, I.kept (h' := h') (t' := tk) fun b ob eb => hk' b ob (hw b ob eb) (hk b ob eb), ⟨t', ?_⟩, out_int o⟩
      have hs : (intItems xs).size = xs.size := by simp [intItems]
      rw [hs, preSum_eq, List.take_of_length_le (by simp), hn]
  · obtain ⟨ns, e1, rfl⟩ := Option.map_eq_some_iff.mp e
    obtain ⟨a, vs, rfl, g, sq, rr⟩ := r
    have := rr.ints e1
    subst this
    exact cr_sum hc pins s σ H _ us Q I rv ⟨a, ns, rfl, SqL.of sq, out_int o⟩
/-! ### max, min, sorted -/
theorem py_inj_flat {d e : D} (h1 : d.flat = true) (h2 : e.flat = true) (h : d.py = e.py) : d = e := go d e h1 h2 h
where
  go : ∀ d e : D, d.flat = true → e.flat = true → d.py = e.py → d = e
  | .non, e, _, _, h => by cases e <;> simp [D.py] at h <;> rfl
  | .bl b, e, _, _, h => by cases e <;> simp [D.py] at h; rw [h]
  | .int i, e, _, _, h => by cases e <;> simp [D.py] at h; rw [h]
  | .str s, e, _, _, h => by cases e <;> simp [D.py] at h; rw [h]
  | .tup l, e, f, g, h => by
    cases e <;> simp [D.py] at h
    simp only [D.flat] at f g
    rw [gos _ _ f g h]
  | .lst l, e, f, _, h => by simp [D.flat] at f
  | .scr l, e, f, _, h => by simp [D.flat] at f
  gos : ∀ l m : List D, flats l = true → flats m = true → pys l = pys m → l = m
  | [], m, _, _, h => by cases m <;> simp [pys] at h; rfl
  | d :: l, m, f, g, h => by
    cases m <;> simp [pys] at h
    simp only [flats, Bool.and_eq_true] at f g
    rw [go _ _ f.1 g.1 h.1, gos _ _ f.2 g.2 h.2]
theorem flats_mem : ∀ {l : List D} {d : D}, flats l = true → d ∈ l → d.flat = true
  | x :: l, d, f, h => by
    simp only [flats, Bool.and_eq_true] at f
    rcases List.mem_cons.mp h with rfl | h
    · exact f.1
    · exact flats_mem f.2 h
theorem alikeAll_of {l : List D} (h : alikeL l = true) (h2 : l.all notNon = true) : PySem.W.AlikeAll (pys l) := by
  unfold alikeL at h
  simp only [List.all_eq_true] at h h2
  rw [pys_map]
  constructor
  · intro x hx y hy
    obtain ⟨d, hd, rfl⟩ := List.mem_map.mp hx
    obtain ⟨e, he, rfl⟩ := List.mem_map.mp hy
    exact h d hd e he
  · intro x hx
    obtain ⟨d, hd, rfl⟩ := List.mem_map.mp hx
    have := h2 d hd
    cases d <;> simp [notNon] at this <;> simp [D.py]
theorem fold_mem (p : D → D → Bool) : ∀ (l : List D) (x : D), l.foldl (fun a y => if p a y = true then y else a) x ∈ x :: l
  | [], x => by simp
  | y :: l, x => by
    rw [List.foldl_cons]
    have := fold_mem p l (if p x y = true then y else x)
    split at this
    · simp only [List.mem_cons] at this ⊢
      rename_i h
      rw [if_pos h]
      rcases this with h | h
      · exact .inr (.inl h)
      · exact .inr (.inr h)
    · rename_i h
      rw [if_neg h]
      simp only [List.mem_cons] at this ⊢
      rcases this with h | h
      · exact .inl h
      · exact .inr (.inr h)
theorem fold_py (p : PyData → PyData → Bool) : ∀ (l : List D) (x : D), (l.foldl (fun a y => if p a.py y.py = true then y else a) x).py = (pys l).foldl (fun a y => if p a y = true then y else a) x.py
  | [], x => rfl
  | y :: l, x => by
    rw [List.foldl_cons, fold_py p l]
    simp only [pys, List.foldl_cons]
    split <;> rfl
/-- the item of a sequence -/
theorem best_of {pins : List (Addr × Obj)} {σ : L2.St} {H : Hp} {s : Shared} {G : Addr → Prop} {l : List D} {vs : List V} {its : List Value} {h' : Heap} {i : Nat} {u : Value} {p : PyData} {bs : List Addr} {d : D} (I : Inv X pins σ H s) (rr : Reps X.K G H l vs) (rv : Vals vs its)
    (hk : ∀ b o, s.heap.get? b = some o → h'.get? b = some o) (hi : its[i]? = some u) (r : Reads h' u p bs) (fl : flats l = true) (hp : d.py = p) (hd : d ∈ l) : ∃ v, RelV v u ∧ Rep X.K G H d v := by
  have hlen := rv.length
  have hil : i < its.length := (List.getElem?_eq_some_iff.mp hi).1
  have hv : vs[i]? = some vs[i] := List.getElem?_eq_getElem (by omega)
  obtain ⟨u', hu, ru⟩ := rv.get hv
  rw [hi] at hu; cases hu
  obtain ⟨e, he, re⟩ := rr.get' hv
  obtain ⟨as, r1⟩ := Dp.reads I e.py _ u re.dp ru
  have r2 := PyProof.Rows.Reads.keeps hk r1
  have e1 := SeqAt.plain_unique _ _ _ _ _ (py_plain e) r2 r
  have : d = e := py_inj_flat (flats_mem fl hd) (flats_mem fl (List.mem_of_getElem? he)) (hp.trans e1.symm)
  subst this
  exact ⟨_, ru, re⟩
theorem max_py (x : D) (l : List D) : (maxDD x l).py = PySem.W.maxD x.py (pys l) := fold_py (fun a y => PySem.W.dataLt a y) l x
theorem min_py (x : D) (l : List D) : (minDD x l).py = PySem.W.minD x.py (pys l) := fold_py (fun a y => PySem.W.dataLt y a) l x
theorem bestD_some {f : D → List D → D} {l : List D} {d : D} (e : bestD f l = some d) : ∃ x r, l = x :: r ∧ d = f x r ∧ PySem.W.AlikeAll (pys l) ∧ flats l = true ∧ PyData.depthAll (pys l) ≤ 64 := by
  cases l with
  | nil => cases e
  | cons x r =>
    obtain ⟨⟨h1, h2, h3, h4⟩, rfl⟩ := grd_some (show grd _ _ = _ from e)
    exact ⟨x, r, rfl, rfl, alikeAll_of h1 h2, h3, h4⟩
theorem bi_max (hc : X.calm = true) (hu : X.A.units + 66 < cLine) : CallR X (.builtin "max") (rF X.K false (biD .max)) := by
  intro pins s σ H vs us Q I rv h
  obtain ⟨G, ds, d, rd, e, o⟩ := h
  obtain ⟨x, rfl⟩ := one_of e rfl fun a _ _ => by cases a <;> simp [biD]
  obtain ⟨v, rfl, r⟩ := reps1 rd
  cases x <;> simp only [biD, reduceCtorEq] at e
  · obtain ⟨x, l, rfl, rfl, h1, h2, h3⟩ := bestD_some e
    obtain ⟨a, vs, rfl, sq, rr⟩ := r
    obtain ⟨its, r2, hl, _⟩ := I.tuple sq
    obtain ⟨as, rs⟩ := Dp.readsAll I _ _ its rr.dp r2
    rw [Vals.ref1 rv]
    refine PySem.W.max_tuple_data (I.ok.hd hc) (show s.heap.IsTuple a its.toArray from hl) (by simpa [pys] using rs) h1 (by simp only [pys] at h3 ⊢; omega) fun i v h' tk bs hi r hk => ?_
    obtain ⟨w, rw', q⟩ := best_of (d := maxDD x l) I rr r2 hk (by simpa using hi) r h2 (max_py x l) (fold_mem (fun a y => PySem.W.dataLt a.py y.py) l x)
    exact ⟨w, H, I.kept (h' := h') (t' := tk) hk, rw', out_here o q fun h => by cases h⟩
  · obtain ⟨x, l, rfl, rfl, h1, h2, h3⟩ := bestD_some e
    obtain ⟨a, vs, rfl, g, sq, rr⟩ := r
    obtain ⟨its, r2, hl, _⟩ := I.list (SqL.of sq)
    obtain ⟨as, rs⟩ := Dp.readsAll I _ _ its rr.dp r2
    rw [Vals.ref1 rv]
    refine PySem.W.max_list_data (I.ok.hd hc) hl.isList (by simpa [pys] using rs) h1 (by simp only [pys] at h3 ⊢; omega) fun i v h' tk bs hi r hk => ?_
    obtain ⟨w, rw', q⟩ := best_of (d := maxDD x l) I rr r2 hk (by simpa using hi) r h2 (max_py x l) (fold_mem (fun a y => PySem.W.dataLt a.py y.py) l x)
    exact ⟨w, H, I.kept (h' := h') (t' := tk) hk, rw', out_here o q fun h => by cases h⟩
theorem bi_min (hc : X.calm = true) (hu : X.A.units + 66 < cLine) : CallR X (.builtin "min") (rF X.K false (biD .min)) := by
  intro pins s σ H vs us Q I rv h
  obtain ⟨G, ds, d, rd, e, o⟩ := h
  obtain ⟨x, rfl⟩ := one_of e rfl fun a _ _ => by cases a <;> simp [biD]
  obtain ⟨v, rfl, r⟩ := reps1 rd
  cases x <;> simp only [biD, reduceCtorEq] at e
  · obtain ⟨x, l, rfl, rfl, h1, h2, h3⟩ := bestD_some e
    obtain ⟨a, vs, rfl, sq, rr⟩ := r
    obtain ⟨its, r2, hl, _⟩ := I.tuple sq
    obtain ⟨as, rs⟩ := Dp.readsAll I _ _ its rr.dp r2
    rw [Vals.ref1 rv]
    refine PySem.W.min_tuple_data (I.ok.hd hc) (show s.heap.IsTuple a its.toArray from hl) (by simpa [pys] using rs) h1 (by simp only [pys] at h3 ⊢; omega) fun i v h' tk bs hi r hk => ?_
    obtain ⟨w, rw', q⟩ := best_of (d := minDD x l) I rr r2 hk (by simpa using hi) r h2 (min_py x l) (fold_mem (fun a y => PySem.W.dataLt y.py a.py) l x)
    exact ⟨w, H, I.kept (h' := h') (t' := tk) hk, rw', out_here o q fun h => by cases h⟩
  · obtain ⟨x, l, rfl, rfl, h1, h2, h3⟩ := bestD_some e
    obtain ⟨a, vs, rfl, g, sq, rr⟩ := r
    obtain ⟨its, r2, hl, _⟩ := I.list (SqL.of sq)
    obtain ⟨as, rs⟩ := Dp.readsAll I _ _ its rr.dp r2
    rw [Vals.ref1 rv]
    refine PySem.W.min_list_data (I.ok.hd hc) hl.isList (by simpa [pys] using rs) h1 (by simp only [pys] at h3 ⊢; omega) fun i v h' tk bs hi r hk => ?_
    obtain ⟨w, rw', q⟩ := best_of (d := minDD x l) I rr r2 hk (by simpa using hi) r h2 (min_py x l) (fold_mem (fun a y => PySem.W.dataLt y.py a.py) l x)
    exact ⟨w, H, I.kept (h' := h') (t' := tk) hk, rw', out_here o q fun h => by cases h⟩
theorem bi_min2 (hc : X.calm = true) (hu : X.A.units + 66 < cLine) : CallR X (.builtin "min") (rF X.K false (biD .min2)) := by
  intro pins s σ H vs us Q I rv h
  obtain ⟨G, ds, d, rd, e, o⟩ := h
  obtain ⟨x, y, rfl⟩ := two_of e rfl (fun a => by simp [biD]) fun a b _ _ => by cases a <;> simp [biD]
  cases x <;> cases y <;> simp only [biD, reduceCtorEq] at e
  · obtain ⟨v, w, rfl, r, r'⟩ := reps2 rd
    cases e
    cases r; cases r'
    exact call_min2 hc pins s σ H _ us Q I rv ⟨_, _, rfl, out_int o⟩
  · rename_i ta tb
    obtain ⟨x0, l, h0, rfl, h1, h2, h3⟩ := bestD_some e
    cases h0
    obtain ⟨as, rs⟩ := Dp.readsAll I _ _ us rd.dp rv
    have hlen : us.length = 2 := by have := rv.length; have := rd.length; simp at *; omega
    match us, hlen with
    | [u1, u2], _ =>
      refine min_pair_data (I.ok.hd hc) (by simpa [pys] using rs) h1 (by simp only [pys] at h3 ⊢; omega) fun i z h' tk bs hi r hk => ?_
      obtain ⟨w, rw', q⟩ := best_of (d := minDD (.tup ta) [.tup tb]) I rd rv hk (by simpa using hi) r h2 (min_py _ _) (fold_mem (fun a y => PySem.W.dataLt y.py a.py) _ _)
      exact ⟨w, H, I.kept (h' := h') (t' := tk) hk, rw', out_here o q fun h => by cases h⟩
/-! sorted -/
abbrev RD (K : PySem.W.Frag) (G : Addr → Prop) (H : Hp) : Value → D → Prop := fun u d => ∃ v, RelV v u ∧ Rep K G H d v
theorem each_of {K : PySem.W.Frag} {G : Addr → Prop} {H : Hp} : ∀ {l : List D} {vs : List V} {its : List Value}, Reps K G H l vs → Vals vs its → PySem.W.EachIs (RD K G H) its l
  | [], _, _, h, r => by subst h; cases r; exact .nil
  | d :: l, _, _, h, r => by
    obtain ⟨v, w, rfl, h1, h2⟩ := h
    cases r with
    | cons r1 r2 => exact .cons ⟨v, r1, h1⟩ (each_of h2 r2)
theorem of_each {K : PySem.W.Frag} {G : Addr → Prop} {H : Hp} : ∀ {l : List D} {its : List Value}, PySem.W.EachIs (RD K G H) its l → ∃ vs, Vals vs its ∧ Reps K G H l vs
  | _, _, .nil => ⟨[], .nil, rfl⟩
  | _, _, .cons ⟨v, r, h⟩ t => by
    obtain ⟨vs, r2, h2⟩ := of_each t
    exact ⟨v :: vs, .cons r r2, v, vs, rfl, h, h2⟩
theorem each_reads {pins : List (Addr × Obj)} {σ : L2.St} {H : Hp} {s : Shared} {G : Addr → Prop} (I : Inv X pins σ H s) : ∀ {l : List D} {its : List Value}, PySem.W.EachIs (RD X.K G H) its l → PySem.W.EachIs (fun u d => ∃ as, Reads s.heap u (D.py d) as) its l
  | _, _, .nil => .nil
  | _, _, .cons ⟨v, r, h⟩ t => .cons (Dp.reads I _ _ _ h.dp r) (each_reads I t)
abbrev EmT (ds : List PyData) : Prop := PyData.tuple [] ∈ ds ∧ ∀ d ∈ ds, ∃ t, d = .tuple t
theorem isTup_py {d : D} (h : isTupD d = true) : ∃ t, d.py = .tuple t := by
  cases d <;> first | exact ⟨_, rfl⟩ | (simp [isTupD] at h)
theorem sortable_of {l : List D} (h : sortable l = true) : PySem.W.Sortable (l.map D.py) ∨ EmT (l.map D.py) := by
  unfold sortable at h
  simp only [Bool.or_eq_true, List.all_eq_true] at h
  rcases h with (h | h) | (h | h)
  · refine .inr ?_
    unfold emptyFirst at h
    split at h
    · rename_i m
      refine ⟨List.mem_map.mpr ⟨.tup [], List.mem_cons_self .., rfl⟩, fun p hp => ?_⟩
      obtain ⟨d, hd, rfl⟩ := List.mem_map.mp hp
      rcases List.mem_cons.mp hd with rfl | hd
      · exact ⟨[], rfl⟩
      · exact isTup_py (List.all_eq_true.mp h d hd)
    · cases h
  · refine .inl (.inl fun p hp => ?_)
    obtain ⟨d, hd, rfl⟩ := List.mem_map.mp hp
    have := h d hd
    split at this
    · exact ⟨_, _, rfl⟩
    · cases this
  · refine .inl (.inr fun p hp => ?_)
    obtain ⟨d, hd, rfl⟩ := List.mem_map.mp hp
    have := h d hd
    cases d <;> simp at this <;> simp [D.py]
  · unfold emptySome at h
    simp only [Bool.and_eq_true, List.all_eq_true, List.any_eq_true] at h
    obtain ⟨h1, d, hd, h2⟩ := h
    refine .inr ⟨List.mem_map.mpr ⟨d, hd, ?_⟩, fun p hp => ?_⟩
    · split at h2
      · rfl
      · cases h2
    · obtain ⟨d, hd, rfl⟩ := List.mem_map.mp hp
      exact isTup_py (h1 d hd)
/-- sorted of what stands at a, a list or a tuple -/
theorem sorted_seq {pins : List (Addr × Obj)} {s : Shared} {σ : L2.St} {H : Hp} {G : Addr → Prop} {Q : VK} {a : Addr} {its : List Value} {vs : List V} {l m : List D} {T : String} {ob : Obj} {n : Nat} (hu : X.A.units + 67 < cLine) (I : Inv X pins σ H s)
    (hT : T = "list" ∨ T = "tuple") (ho : s.heap.get? a = some ob) (hc : ob.cls = .type T) (hd : ob.data = .seq its.toArray n) (hz : its.length ≤ sizeLine) (rr : Reps X.K G H l vs) (r2 : Vals vs its) (e1 : sortD l = some m) (o : Out X.K G H true (.lst m) Q) :
    wpAny (model X.prog X.w) X.A (call (.builtin "sorted") [.ref a]) (EP X pins σ Q) X.xe s := by
  obtain ⟨⟨h1, h2, h3, h4⟩, rfl⟩ := grd_some (show grd _ _ = _ from e1)
  have hE := each_of rr r2
  have hal : PySem.W.AllAlike (l.map D.py) := by
    intro p hp q hq
    obtain ⟨d, hd, rfl⟩ := List.mem_map.mp hp
    obtain ⟨e, he, rfl⟩ := List.mem_map.mp hq
    exact List.all_eq_true.mp (List.all_eq_true.mp h1 d hd) e he
  refine sorted_collD (enc := D.py) (R := RD X.K G H) (wpAny_collect_seq a hT ho hc hd (fun h' k1 => ?_) (by simpa using hz))
  refine ⟨l, by simpa using hE, ?_, hal, sortable_of h2, h3, fun b hb => ?_, fun out h2' c kp hg eo => ?_⟩
  · have := each_reads I hE
    simpa using this.mono fun _ _ z => let ⟨as, r⟩ := z; ⟨as, PyProof.Rows.Reads.keeps k1 r⟩
  · have := List.all_eq_true.mp h4 b hb
    simp only [decide_eq_true_eq] at this
    omega
  · obtain ⟨ws, r3, rr3⟩ := of_each eo
    have I' := I.kept (h' := h') (t' := s.toks) k1
    have hn : H h'.objs.size = none := I'.hok.fresh (Nat.le_refl _)
    have hw : ws.length ≤ sizeLine := by
      have e2 := r3.length
      have e3 := eo.length
      rw [List.length_mergeSort] at e3
      omega
    refine ⟨.ref _, upd H h'.objs.size (.lst ws), I'.laid (t' := s.toks) kp (Nat.le_refl _) ⟨hw, out, c, r3, hg⟩, rfl, ?_⟩
    exact out_lst rr3 o _ hn
theorem bi_sorted (hu : X.A.units + 67 < cLine) : CallR X (.builtin "sorted") (rF X.K true (biD .sorted)) := by
  intro pins s σ H vs us Q I rv h
  obtain ⟨G, ds, d, rd, e, o⟩ := h
  obtain ⟨x, rfl⟩ := one_of e rfl fun a _ _ => by cases a <;> simp [biD]
  obtain ⟨v, rfl, r⟩ := reps1 rd
  cases x <;> simp only [biD, reduceCtorEq] at e
  · obtain ⟨m, e1, rfl⟩ := Option.map_eq_some_iff.mp e
    obtain ⟨a, vs, rfl, sq, rr⟩ := r
    obtain ⟨its, r2, ⟨ob, ho, hc, n, hd⟩, hz⟩ := I.tuple sq
    rw [Vals.ref1 rv]
    exact sorted_seq hu I (.inr rfl) ho hc hd (by have := r2.length; omega) rr r2 e1 o
  · obtain ⟨m, e1, rfl⟩ := Option.map_eq_some_iff.mp e
    obtain ⟨a, vs, rfl, g, sq, rr⟩ := r
    obtain ⟨its, r2, hl, hz⟩ := I.list (SqL.of sq)
    obtain ⟨ob, ho, hc, n, hd⟩ := hl.isList
    rw [Vals.ref1 rv]
    exact sorted_seq hu I (.inl rfl) ho hc hd (by have := r2.length; omega) rr r2 e1 o
/-! isinstance -/
def tyS : TY → String
  | .int => "int"
  | .bool => "bool"
  | .str => "str"
  | .tuple => "tuple"
  | .list => "list"
theorem bi_isi (t : TY) {pins : List (Addr × Obj)} {s : Shared} {σ : L2.St} {H : Hp} {G : Addr → Prop} {d : D} {v : V} {u : Value} {Q : VK} (I : Inv X pins σ H s) (rd : Rep X.K G H d v) (rv : RelV v u) (q : Q (.bl (isiD t d)) H) :
    wpAny (model X.prog X.w) X.A (call (.builtin "isinstance") [u, .type (tyS t)]) (EP X pins σ Q) X.xe s := by
  obtain ⟨as, r⟩ := Dp.reads I d.py v u rd.dp rv
  cases t
  · refine PySem.W.isinstance_int_data r fun tk _ => ⟨.bl _, H, I.tok tk, ?_, q⟩
    cases d <;> rfl
  · refine PySem.W.isinstance_bool_data r fun tk _ => ⟨.bl _, H, I.tok tk, ?_, q⟩
    cases d <;> rfl
  · refine PySem.W.isinstance_str_data r fun tk _ => ⟨.bl _, H, I.tok tk, ?_, q⟩
    cases d <;> rfl
  · refine PySem.W.isinstance_tuple_data r fun tk _ => ⟨.bl _, H, I.tok tk, ?_, q⟩
    cases d <;> rfl
  · refine PySem.W.isinstance_list_data r fun tk _ => ⟨.bl _, H, I.tok tk, ?_, q⟩
    cases d <;> rfl
theorem boot_of (b : BI) : bootBuiltins (biName b) = some (biVal b) := by
  cases b <;> decide +kernel
theorem bi_ok (hc : X.calm = true) (hu : X.A.units + 70 < cLine) (b : BI) : CallR X (biVal b) (rF X.K (b == .list || b == .sorted) (biD b)) := by
  cases b
  · exact bi_len
  · exact bi_abs
  · exact bi_int
  · exact bi_bool
  · exact bi_sum hc
  · exact bi_max hc (by omega)
  · exact bi_min hc (by omega)
  · exact bi_max2 hc
  · exact bi_min2 hc (by omega)
  · exact bi_all hc
  · exact bi_any hc
  · exact bi_tuple
  · exact bi_list
  · exact bi_sorted (by omega)
end
end Dl
set_option Elab.async false
set_option linter.all false
set_option maxRecDepth 100000
set_option maxHeartbeats 4000000
/-! A written expression has the worth that the evaluation of its datum tells: the look, and its proof. -/
namespace Dl
open PySem PySem.Spec PyProof.Rows L2

/-! ### the look -/
structure FnI where
  name : Str
  ps : List Str
/-- the defs, and what is imported -/
structure FnT where
  l : List FnI
  im : List (Str × Value)
/-- where a piece of syntax stands -/
structure Sc where
  sc : Scope
  fn : Str → Bool
  gn : Bool
def visB (sc : Scope) (x : Str) : Bool := match sc.names.lookup x with
  | some .local => true
  | some .cell => true
  | some .free => true
  | _ => false
def locB (s : Sc) (x : Str) : Bool := match s.sc.names.lookup x with
  | some .local => true
  | some .cell => s.fn x
  | _ => false
def glB (sc : Scope) (x : Str) : Bool := decide (sc.names.lookup x = some .globalImplicit)
def okName (x : Str) : Bool := (x == ("__debug__" : Str)) == false && (x == ("__classdict__" : Str)) == false && !decide (x = "__name__")
def tyN : TY → Str
  | .int => "int"
  | .bool => "bool"
  | .str => "str"
  | .tuple => "tuple"
  | .list => "list"
def blkSc (s : Sc) (scope : Scope) : Sc := ⟨relS scope s.sc, fun x => scope.names.lookup x == some .cell, s.gn⟩
/-- within a generator expression -/
def genSc (scope : Scope) : Sc := ⟨scope, fun _ => false, false⟩
def notLst : Expr → Bool
  | .List _ _ => false
  | _ => true
def notCall0 : Expr → Bool
  | .Call (.Name _ _) [] [] _ => false
  | _ => true
/-- the scope of a generator expression -/
def genB (scope : Scope) : Bool := scope.names.all (fun y => decide (y.2 ≠ .cell)) && !scope.isCoroutine && decide (scope.names.lookup (".0" : Str) = some .local)
abbrev imC : Str × Value := ("combinations", .type "itertools.combinations")
abbrev imP : Str × Value := ("permutations", .type "itertools.permutations")
abbrev imG : Str × Value := ("gcd", .builtin "math.gcd")
section
variable (N : List Str) (T : FnT)
mutual
def chkG (s : Sc) : Tg → Expr → Bool
  | .nm i, .Name x _ => decide (N[i]? = some x) && locB s x
  | .tp l, .Tuple es _ _ => chkGs s l es
  | _, _ => false
def chkGs (s : Sc) : List Tg → List Expr → Bool
  | [], [] => true
  | t :: r, e :: es => chkG s t e && chkGs s r es
  | _, _ => false
end
def isTp : Tg → Bool
  | .tp _ => true
  | _ => false
def needTp : CE → Bool
  | .enum _ => true
  | .zip _ _ => true
  | _ => false
def isNonC : CE → Bool
  | .non => true
  | _ => false
/-- the names of the slots -/
def ownP (own : List Nat) : List (Str × Nat) := own.map fun i => (N.getD i "", i)
mutual
def chkE : CE → Bool → Sc → Expr → Bool
  | .var i, _, s, .Name x _ => decide (N[i]? = some x) && visB s.sc x && okName x
  | .int i, _, _, .Constant c _ _ => decide (c = .int i)
  | .bl b, _, _, .Constant c _ _ => decide (c = .bool b)
  | .non, _, _, .Constant c _ _ => decide (c = .none)
  | .str x, _, _, .Constant c _ _ => decide (c = .str x)
  | .bin o a b, _, s, .BinOp x op y _ => decide (op = boOp o) && chkE a false s x && chkE b false s y
  | .neg a, _, s, .UnaryOp op x _ => decide (op = .USub) && chkE a false s x
  | .not a, _, s, .UnaryOp op x _ => decide (op = .Not) && chkE a false s x
  | .cmp o a b, _, s, .Compare x [op] [y] _ => decide (op = coOp o) && chkE a false s x && chkE b false s y && (behindInMarks op y == false)
  | .chain o o' a b c, _, s, .Compare x [op, op'] [y, z] _ => decide (op = coOp o) && decide (op' = coOp o') && chkE a false s x && chkE b false s y && chkE c false s z && (lastMarks [op, op'] [y, z] == false)
  | .chain3 o o' o'' a b c d, _, s, .Compare x [op, op', op''] [y, z, u] _ => decide (op = coOp o) && decide (op' = coOp o') && decide (op'' = coOp o'') && chkE a false s x && chkE b false s y && chkE c false s z && chkE d false s u && (lastMarks [op, op', op''] [y, z, u] == false)
  | .isN a, _, s, .Compare x [op] [.Constant c _ _] _ => decide (op = .Is) && decide (c = .none) && chkE a false s x
  | .notN a, _, s, .Compare x [op] [.Constant c _ _] _ => decide (op = .IsNot) && decide (c = .none) && chkE a false s x
  | .and a b, _, s, .BoolOp op (x :: y :: r) p => decide (op = .And) && chkE a false s x && (match r with | [] => chkE b false s y | _ => chkE b false s (.BoolOp .And (y :: r) p))
  | .or a b, _, s, .BoolOp op (x :: y :: r) p => decide (op = .Or) && chkE a false s x && (match r with | [] => chkE b false s y | _ => chkE b false s (.BoolOp .Or (y :: r) p))
  | .ite c a b, _, s, .IfExp t x y _ => chkE c false s t && chkE a false s x && chkE b false s y
  | .idx a b, _, s, .Subscript x y _ => chkE a false s x && chkE b false s y
  | .lidx a b, _, s, .Call (.Attribute x at_ ap) [y] [] cp => decide (at_ = "index") && (ap.endLine == cp.line) && notCall0 x && chkE a false s x && chkE b false s y
  | .ssor a, _, s, .Call (.Name x _) [.Call (.Name y _) [z] [] _] [] _ => glB s.sc x && decide (x = "sorted") && glB s.sc y && decide (y = "set") && chkE a false s z
  | .slen a, _, s, .Call (.Name x _) [.Call (.Name y _) [z] [] _] [] _ => glB s.sc x && decide (x = "len") && glB s.sc y && decide (y = "set") && chkE a false s z
  | .slc a lo hi, _, s, .Subscript x (.Slice l h none _) _ => chkE a false s x && (match l with | none => isNonC lo | some l => chkE lo false s l) && (match h with | none => isNonC hi | some h => chkE hi false s h)
  | .rev a, _, s, .Subscript x (.Slice none none (some (.UnaryOp op (.Constant c _ _) _)) _) _ => decide (op = .USub) && decide (c = .int 1) && chkE a false s x
  | .tup es, _, s, .Tuple xs _ _ => chkEs es s xs
  | .lst es, _, s, .List xs _ => chkEs es s xs
  | .call f es, _, s, .Call (.Name x _) xs [] _ => glB s.sc x && okName x && (match T.l[f]? with | some fi => decide (fi.name = x) | none => false) && chkEs es s xs
  | .bi b es, _, s, .Call (.Name x _) (y :: ys) [] _ => glB s.sc x && decide (x = biName b) && chkEs es s (y :: ys)
  | .isi t a, _, s, .Call (.Name x _) [y, .Name z _] [] _ => glB s.sc x && decide (x = "isinstance") && glB s.sc z && decide (z = tyN t) && chkE a false s y
  | .lc own tg it cs elt, _, s, .ListComp x [⟨tx, ix, ifs, asy⟩] scope _ => decide (asy = 0) && blkC N s.sc scope (ownP N own) && chkE it true s ix && chkG N (blkSc s scope) tg tx && tg.slots.all (fun i => own.contains i) && (isTp tg || !needTp it) && decide (cs.length ≤ 1) && chkEs cs (blkSc s scope) ifs && chkE elt false (blkSc s scope) x
  | .lc2 own own1 tg it cs tg1 it1 cs1 elt, _, s, .ListComp x [⟨tx, ix, ifs, asy⟩, ⟨tx1, ix1, ifs1, asy1⟩] scope _ => decide (asy = 0) && decide (asy1 = 0) && blkC N s.sc scope (ownP N own) && chkE it true s ix && chkG N (blkSc s scope) tg tx && tg.slots.all (fun i => own.contains i) && (isTp tg || !needTp it) && decide (cs.length ≤ 1) && chkEs cs (blkSc s scope) ifs &&
      chkE it1 true (blkSc s scope) ix1 && chkG N (blkSc s scope) tg1 tx1 && tg1.slots.all (fun i => own1.contains i) && (isTp tg1 || !needTp it1) && decide (cs1.length ≤ 1) && chkEs cs1 (blkSc s scope) ifs1 && own1.all (fun i => own.contains i) && chkE elt false (blkSc s scope) x
  | .gen al own tg it cs elt, _, s, .Call (.Name x _) [.GeneratorExp y [⟨tx, ix, ifs, asy⟩] scope _] [] _ => s.gn && glB s.sc x && decide (x = if al then ("all" : Str) else "any") && decide (asy = 0) && genB scope && blkC N s.sc scope (ownP N own) && chkE it true s ix && notLst ix && chkG N (genSc scope) tg tx &&
      tg.slots.all (fun i => own.contains i) && (isTp tg || !needTp it) && decide (cs.length ≤ 1) && chkEs cs (genSc scope) ifs && chkE elt false (genSc scope) y
  | .rgv1 tp a, _, s, .Call (.Name x _) [.Call (.Name y _) [z] [] _] [] _ => glB s.sc x && decide (x = if tp then ("tuple" : Str) else "list") && glB s.sc y && decide (y = "range") && chkE a false s z
  | .rgv2 tp a b, _, s, .Call (.Name x _) [.Call (.Name y _) [z, u] [] _] [] _ => glB s.sc x && decide (x = if tp then ("tuple" : Str) else "list") && glB s.sc y && decide (y = "range") && chkE a false s z && chkE b false s u
  | .rng1 a, ip, s, .Call (.Name x _) [y] [] _ => ip && glB s.sc x && decide (x = "range") && chkE a false s y
  | .rng2 a b, ip, s, .Call (.Name x _) [y, z] [] _ => ip && glB s.sc x && decide (x = "range") && chkE a false s y && chkE b false s z
  | .rng3 a b c, ip, s, .Call (.Name x _) [y, z, u] [] _ => ip && glB s.sc x && decide (x = "range") && chkE a false s y && chkE b false s z && chkE c false s u
  | .enum a, ip, s, .Call (.Name x _) [y] [] _ => ip && glB s.sc x && decide (x = "enumerate") && chkE a false s y
  | .zip a b, ip, s, .Call (.Name x _) [y, z] [] _ => ip && glB s.sc x && decide (x = "zip") && chkE a false s y && chkE b false s z
  | .rvd a, ip, s, .Call (.Name x _) [y] [] _ => ip && glB s.sc x && decide (x = "reversed") && chkE a false s y
  | .cmb a r, ip, s, .Call (.Name x _) [.Call (.Name y _) [z] [] _, u] [] _ => ip && glB s.sc x && decide (x = "combinations") && decide (imC ∈ T.im) && glB s.sc y && decide (y = "range") && chkE a false s z && chkE r false s u
  | .prm a, ip, s, .Call (.Name x _) [.Call (.Name y _) [z] [] _] [] _ => ip && glB s.sc x && decide (x = "permutations") && decide (imP ∈ T.im) && glB s.sc y && decide (y = "range") && chkE a false s z
  | .gcd a b, _, s, .Call (.Name x _) [y, z] [] _ => glB s.sc x && decide (x = "gcd") && decide (imG ∈ T.im) && chkE a false s y && chkE b false s z
  | _, _, _, _ => false
def chkEs : List CE → Sc → List Expr → Bool
  | [], _, [] => true
  | c :: cs, s, e :: es => chkE c false s e && chkEs cs s es
  | _, _, _ => false
end
end

/-! ### where it stands -/
def bnames : List Str := ["len", "abs", "int", "bool", "sum", "max", "min", "all", "any", "tuple", "list", "sorted", "isinstance", "str", "range", "enumerate", "zip", "reversed", "set", "dict"]
/-- a def's promise by its evaluation -/
def spD (K : PySem.W.Frag) (n : Nat) (f : List D → Option D) : Sp := fun vs H Q _ => vs.length = n ∧ TbsOk K H ∧ ∃ G ds d, Reps K G H ds vs ∧ f ds = some d ∧ ∀ v H', Same H H' → Rep K (Gx G H) H' d v → Q v H'
structure Cok (N : List Str) (T : FnT) (lvl : Nat) (cl : Nat → List D → Option D) (s : Sc) (X : Cx) : Prop where
  arity : ∀ (i : Nat) (f : FnI), T.l[i]? = some f → ∀ ds d, cl i ds = some d → ds.length = f.ps.length
  nd : N.Nodup
  hN : X.N = N
  calm : X.calm = true
  room : Room lvl X.A
  sc : X.env.scope = s.sc
  fn : ∀ x, s.fn x = true → X.fn x = true
  free : ∀ x ∈ bnames, X.mg x = none
  imp : ∀ p ∈ T.im, X.mg p.1 = some p.2
  gn : s.gn = true → Room (lvl + 1) X.A ∧ ∃ c, X.env.code = .ref c ∧ GxR.TabB X.base X.mg c (He.tabOf X.K c) ∧ IsTab X.K (He.tabOf X.K c)
  fns : ∀ (i : Nat) (f : FnI), T.l[i]? = some f → ∃ (a : Addr) (fd : FuncData), X.mg f.name = some (.ref a) ∧ PySem.W.keepIn X.K (.ref a) = true ∧ Binds X.K fd f.ps [] ∧ FnOk X.prog X.w X.K X.mg X.base CX0 lvl a fd f.ps (spD X.K f.ps.length (cl i))
section
variable {N : List Str} {T : FnT} {lvl : Nat} {cl : Nat → List D → Option D} {s : Sc} {X : Cx}
theorem Cok.blk (c : Cok N T lvl cl s X) (sh : Shared) (H : Hp) (scope : Scope) (C : Addr) (cs : List (Str × Addr)) (fp : List Addr) : Cok N T lvl cl (blkSc s scope) (X.blk sh H scope (compEnvC scope cs C X.env) fp) where
  arity := c.arity
  nd := c.nd
  hN := c.hN
  calm := c.calm
  room := c.room
  sc := by
    show relS scope X.env.scope = _
    rw [c.sc]; rfl
  fn := fun x h => h
  free := c.free
  imp := c.imp
  gn := c.gn
  fns := c.fns
theorem Cok.gen (c : Cok N T lvl cl s X) (sh : Shared) (H : Hp) (scope : Scope) (C : Addr) (code : Value) (cs : List (Str × Addr)) (fp : List Addr) (A1 : Around) (r : Room lvl A1) : Cok N T lvl cl (genSc scope) (genC X sh H scope (genEnv scope cs C code builtinsNs X.env) fp A1) where
  arity := c.arity
  nd := c.nd
  hN := c.hN
  calm := c.calm
  room := r
  sc := rfl
  fn := fun x h => by cases h
  free := c.free
  imp := c.imp
  gn := fun h => by cases h
  fns := c.fns
theorem vis_of {sc : Scope} {x : Str} (h : visB sc x = true) : Vis sc x := by
  unfold visB at h
  split at h
  · exact .inl (by assumption)
  · exact .inr (.inl (by assumption))
  · exact .inr (.inr (by assumption))
  · cases h
theorem Cok.gl (c : Cok N T lvl cl s X) {x : Str} (h : glB s.sc x = true) : Gl X x := by
  unfold Gl Env.kindOf
  rw [c.sc]
  exact of_decide_eq_true h
theorem Cok.loc (c : Cok N T lvl cl s X) {x : Str} (h : locB s x = true) : Loc X.env.scope x ∧ (X.fn x = true ∨ X.env.scope.names.lookup x = some .local) := by
  rw [c.sc]
  unfold locB at h
  split at h
  · exact ⟨.inl (by assumption), .inr (by assumption)⟩
  · exact ⟨.inr (by assumption), .inl (c.fn x h)⟩
  · cases h
theorem okName_of {x : Str} (h : okName x = true) : (x == ("__debug__" : Str)) = false ∧ (x == ("__classdict__" : Str)) = false ∧ x ≠ "__name__" := by
  unfold okName at h
  simp only [Bool.and_eq_true, beq_iff_eq, Bool.not_eq_true', decide_eq_false_iff_not] at h
  exact ⟨h.1.1, h.1.2, h.2⟩

/-! ### targets -/
def setAll (σ : L2.St) (ws : List (Nat × V)) : L2.St := ws.foldl (fun σ p => σ.set p.1 (some p.2)) σ
def BindR (K : PySem.W.Frag) (G : Addr → Prop) (H : Hp) : List (Nat × D) → List (Nat × V) → Prop := Paired fun p q => p.1 = q.1 ∧ Rep K G H p.2 q.2
def gT (K : PySem.W.Frag) (t : Tg) : TG := fun v σ H Q => ∃ G d bs, Rep K G H d v ∧ t.binds d = some bs ∧ ∀ ws, BindR K G H bs ws → Q (setAll σ ws) H
def gTs (K : PySem.W.Frag) (t : List Tg) : TGs := fun vs σ H Q => ∃ G ds bs, Reps K G H ds vs ∧ tgBinds t ds = some bs ∧ ∀ ws, BindR K G H bs ws → Q (setAll σ ws) H
theorem _root_.L2.PG.imp {e : Expr} {t t' : TG} (h : PG X e t) (i : ∀ v σ H Q, t' v σ H Q → t v σ H Q) : PG X e t' := ⟨fun pins s σ H v u Q I r q => h.run pins s σ H v u Q I r (i v σ H Q q)⟩
theorem _root_.L2.PGs.imp {e : List Expr} {t t' : TGs} (h : PGs X e t) (i : ∀ v σ H Q, t' v σ H Q → t v σ H Q) : PGs X e t' := ⟨fun pins s σ H v u Q I r q => h.run pins s σ H v u Q I r (i v σ H Q q)⟩
theorem pg_or {e : Expr} {t t' : TG} (h : PG X e t) (h' : PG X e t') : PG X e (fun v σ H Q => t v σ H Q ∨ t' v σ H Q) := ⟨fun pins s σ H v u Q I r q => q.elim (h.run pins s σ H v u Q I r) (h'.run pins s σ H v u Q I r)⟩
theorem paired_app {α β : Type} {F : α → β → Prop} : ∀ {a : List α} {b : List β} {c : List α} {d : List β}, Paired F a b → Paired F c d → Paired F (a ++ c) (b ++ d)
  | _, _, _, _, .nil, h => h
  | _, _, _, _, .cons r t, h => .cons r (paired_app t h)
theorem assign_notStar {t : Tg} {e : Expr} (h : chkG N s t e = true) (es : List Expr) (env : Env) : assignEach (e :: es) env = (false, assign e env) :: assignEach es env := by
  cases t <;> cases e <;> first | rfl | (simp [chkG] at h)
theorem assign_plain : ∀ {ts : List Tg} {es : List Expr} (_ : chkGs N s ts es = true) (env : Env), (assignEach es env).length = ts.length ∧ (assignEach es env).findIdx? (·.1) = none
  | [], [], _, env => ⟨rfl, rfl⟩
  | [], e :: es, h, _ => by simp [chkGs] at h
  | t :: r, [], h, _ => by simp [chkGs] at h
  | t :: r, e :: es, h, env => by
    simp only [chkGs, Bool.and_eq_true] at h
    obtain ⟨h1, h2⟩ := assign_plain h.2 env
    rw [assign_notStar h.1]
    constructor
    · simp [h1]
    · rw [List.findIdx?_cons, h2]; rfl
theorem tgBinds_len : ∀ {ts : List Tg} {ds : List D} {bs : List (Nat × D)}, tgBinds ts ds = some bs → ts.length = ds.length
  | [], [], _, _ => rfl
  | [], d :: ds, _, h => by simp [tgBinds] at h
  | t :: r, [], _, h => by simp [tgBinds] at h
  | t :: r, d :: ds, bs, h => by
    simp only [tgBinds] at h
    obtain ⟨a, h1, h⟩ := Option.bind_eq_some_iff.mp h
    obtain ⟨b, h2, h⟩ := Option.map_eq_some_iff.mp h
    simp [tgBinds_len h2]
mutual
theorem okG (c : Cok N T lvl cl s X) : ∀ (t : Tg) (e : Expr), chkG N s t e = true → PG X e (gT X.K t)
  | .nm i, e, h => by
    cases e <;> simp only [chkG, reduceCtorEq, Bool.false_eq_true] at h
    simp only [Bool.and_eq_true, decide_eq_true_eq] at h
    obtain ⟨l1, l2⟩ := c.loc h.2
    refine (pg_name (i := i) (by rw [c.hN]; exact c.nd) (by rw [c.hN]; exact h.1) l1 l2).imp fun v σ H Q q => ?_
    obtain ⟨G, d, bs, r, e, q⟩ := q
    simp only [Tg.binds, Option.some.injEq] at e
    subst e
    exact q [(i, v)] (.cons ⟨rfl, r⟩ .nil)
  | .tp l, e, h => by
    cases e <;> simp only [chkG, reduceCtorEq, Bool.false_eq_true] at h
    rename_i es k p
    have p1 := pg_tup (n := l.length) (k := k) (pos := p) c.calm (okGs c l es h) (assign_plain h _).1 (assign_plain h _).2
    have p2 := pg_unl (n := l.length) (k := k) (pos := p) c.calm (okGs c l es h) (assign_plain h _).1 (assign_plain h _).2
    refine (pg_or p1 p2).imp fun v σ H Q q => ?_
    obtain ⟨G, d, bs, r, e, q⟩ := q
    cases d <;> simp only [Tg.binds, reduceCtorEq] at e
    · obtain ⟨a, vs, rfl, sq, rr⟩ := r
      exact .inl ⟨a, vs, rfl, sq, by rw [← rr.length, tgBinds_len e], G, _, bs, rr, e, q⟩
    · obtain ⟨a, vs, rfl, _, hd, rr⟩ := r
      exact .inr ⟨a, vs, rfl, SqL.of hd, by rw [← rr.length, tgBinds_len e], G, _, bs, rr, e, q⟩
theorem okGs (c : Cok N T lvl cl s X) : ∀ (t : List Tg) (e : List Expr), chkGs N s t e = true → PGs X e (gTs X.K t)
  | [], [], h => by
    refine pgs_nil.imp fun vs σ H Q q => ?_
    obtain ⟨G, ds, bs, r, e, q⟩ := q
    cases ds <;> simp only [tgBinds, reduceCtorEq] at e
    cases e
    exact ⟨r, q [] .nil⟩
  | [], e :: es, h => by simp [chkGs] at h
  | t :: r, [], h => by simp [chkGs] at h
  | t :: r, e :: es, h => by
    simp only [chkGs, Bool.and_eq_true] at h
    refine (pgs_cons (okG c t e h.1) (okGs c r es h.2) (by rw [assign_notStar h.1]; rfl)).imp fun vs σ H Q q => ?_
    obtain ⟨G, ds, bs, rr, e, q⟩ := q
    cases ds with
    | nil => simp [tgBinds] at e
    | cons d ds =>
      simp only [tgBinds] at e
      obtain ⟨a, h1, e⟩ := Option.bind_eq_some_iff.mp e
      obtain ⟨b, h2, rfl⟩ := Option.map_eq_some_iff.mp e
      obtain ⟨v, w, rfl, r1, r2⟩ := rr
      refine ⟨v, w, rfl, G, d, a, r1, h1, fun ws hw => ⟨G, ds, b, r2, h2, fun ws' hw' => ?_⟩⟩
      have := q (ws ++ ws') (paired_app hw hw')
      unfold setAll at this ⊢
      rwa [List.foldl_append] at this
end
end
end Dl
set_option Elab.async false
set_option linter.all false
set_option maxRecDepth 100000
set_option maxHeartbeats 4000000
/-! The look's proof: expressions. -/
namespace Dl
open PySem PySem.Spec PyProof.Rows L2

def tI (K : PySem.W.Frag) (f : Rho → Option D) (safe : D → Bool) : TI := fun σ H R => ∃ (G : Addr → Prop) (ρ : Rho) (d : D) (items : List D), EnvR K G H σ ρ ∧ f ρ = some d ∧ iterD d = some items ∧
  ∀ (J : It) (H1 : Hp) (Gd : Hp → Prop) (Y : Nat → Hp → V → Hp → Prop) (pa : List Addr), Same H H1 → Walk J items.length Gd Y → (∀ a ∈ pa, Gx G H a ∧ H1 a ≠ none) → (safe d = true → ∀ a ∈ pa, H a = none) →
    (∀ H', Keep (fun a => a ∈ pa) H1 H' → Gd H') →
    (∀ Gp : Addr → Prop, ((∀ a, Gx G H a → H1 a ≠ none → Gp a) ∨ flats items = true) → ∀ i d H' x H'', items[i]? = some d → Keep Gp H1 H' → Gd H' → Y i H' x H'' → Same H' H'' ∧ Rep K Gp H'' d x) → R J H1
section
variable {K : PySem.W.Frag} {G : Addr → Prop} {H H1 : Hp}
/-- the items' data, wherever they are kept -/
theorem Reps.at {items : List D} {vs : List V} (r : Reps K (Gx G H) H1 items vs) (Gp : Addr → Prop) (h : (∀ a, Gx G H a → H1 a ≠ none → Gp a) ∨ flats items = true) {H' : Hp} (k : Keep Gp H1 H') : Reps K Gp H' items vs := by
  rcases h with h | h
  · exact (r.monoT h).keep k
  · exact (Reps.flat h r).keep k
theorem flats_map_int (f : Nat → Int) : ∀ l : List Nat, flats (l.map fun i => D.int (f i)) = true
  | [] => rfl
  | i :: l => by simp [flats, D.flat, flats_map_int f l]
theorem flats_map_str (f : Nat → Str) : ∀ l : List Nat, flats (l.map fun i => D.str (f i)) = true
  | [] => rfl
  | i :: l => by simp [flats, D.flat, flats_map_str f l]
end
theorem isNon_of {K : PySem.W.Frag} {G : Addr → Prop} {H : Hp} {d : D} {v : V} (r : Rep K G H d v) : decide (v = .non) = isNonD d := by
  cases d with
  | non => cases r; rfl
  | bl b => cases r; rfl
  | int b => cases r; rfl
  | str b => cases r; rfl
  | tup l => obtain ⟨a, vs, rfl, _⟩ := r; rfl
  | lst l => obtain ⟨a, vs, rfl, _⟩ := r; rfl
  | scr l => obtain ⟨a, rfl, _⟩ := r; rfl
/-- a test by the truth of its datum -/
def tT (K : PySem.W.Frag) (f : Rho → Option D) : TT := fun σ H Q => ∃ G ρ d b, EnvR K G H σ ρ ∧ f ρ = some d ∧ truth d = some b ∧ ∀ H', Same H H' → Q b H'
section
variable {X : Cx} {K : PySem.W.Frag} {σ : L2.St} {H : Hp} {Q : VK}
theorem tT_in {f : Rho → Option D} {G : Addr → Prop} {ρ : Rho} {d : D} {b : Bool} {Q : Bool → Hp → Prop} (e : EnvR K G H σ ρ) (h : f ρ = some d) (ht : truth d = some b) (k : ∀ H', Same H H' → EnvR K (Gx G H) H' σ ρ → Q b H') : tT K f σ H Q :=
  ⟨G, ρ, d, b, e, h, ht, fun H' s => k H' s (e.step s)⟩
/-- by the value's truth -/
theorem pt_of {a : Expr} {f : Rho → Option D} {fr : Bool} (ha : PE X a (tD X.K fr f)) (he : ∀ whole, isTrue a X.env whole = (do let v ← whole; standAt a.pos; holding [v] (truthy v))) : PT X a (tT X.K f) :=
  (pt_truth ha he).imp fun σ H Q h => by
    obtain ⟨G, ρ, d, b, e, h1, h2, k⟩ := h
    exact tD_un e h1 fun v H1 s r _ _ => ⟨b, tru_of r h2, k H1 s⟩

/-! ### the parts -/
structure Snd (N : List Str) (T : FnT) (lvl : Nat) (cl : Nat → List D → Option D) (c : CE) : Prop where
  e : ∀ (X : Cx) (s : Sc) (e : Expr), Cok N T lvl cl s X → chkE N T c false s e = true → PE X e (tD X.K (freshB c) (evE cl c))
  t : ∀ (X : Cx) (s : Sc) (e : Expr), Cok N T lvl cl s X → chkE N T c false s e = true → PT X e (tT X.K (evE cl c))
  i : ∀ (X : Cx) (s : Sc) (e tg : Expr), Cok N T lvl cl s X → (∃ es k p, tg = .Tuple es k p) ∨ needTp c = false → chkE N T c true s e = true → PI X tg e (tI X.K (evE cl c) (safeI c))
section
variable {N : List Str} {T : FnT} {lvl : Nat} {cl : Nat → List D → Option D} {s : Sc}
theorem Cok.hu (c : Cok N T lvl cl s X) : X.A.units + 70 < cLine := by
  have := c.room.un
  omega
theorem Cok.nm (c : Cok N T lvl cl s X) {x : Str} (h : x ∈ bnames) : X.mg x = none := c.free x h
/-- a walked value -/
theorem pi_val {tg e : Expr} {f : Rho → Option D} {fr : Bool} {safe : D → Bool} (h : PE X e (tD X.K fr f)) (hs : ∀ d, safe d = true → fr = true ∨ isLst d = false) : PI X tg e (tI X.K f safe) := by
  refine ((pi_list h).or ((pi_tup h).or (pi_str h))).imp fun σ H R q => ?_
  obtain ⟨G, ρ, d, items, e, h1, h2, k⟩ := q
  cases d <;> simp only [iterD, reduceCtorEq] at h2
  · cases h2
    rename_i z
    refine .inr (.inr (tD_un e h1 fun v H1 s1 r _ _ => ?_))
    cases r
    refine ⟨z, rfl, k _ H1 _ _ [] s1 (by simpa using (walk_str (z := z))) (fun a h => nomatch h) (fun _ a h => nomatch h) (fun _ _ => trivial) fun Gp _ i d H' x H'' hd _ _ y => ?_⟩
    obtain ⟨rfl, c, hc, rfl⟩ := y
    refine ⟨Same.refl _, ?_⟩
    simp only [List.getElem?_map, Array.getElem?_toList, hc, Option.map_some, Option.some.injEq] at hd
    subst hd
    rfl
  · cases h2
    refine .inr (.inl (tD_un e h1 fun v H1 s1 r _ _ => ?_))
    obtain ⟨a, vs, rfl, sq, rr⟩ := r
    refine ⟨a, rfl, ⟨vs, sq⟩, k _ H1 _ _ [] s1 (by rw [rr.length]; exact walk_tup (xs := vs)) (fun a h => nomatch h) (fun _ a h => nomatch h) (fun H' kp => sqT_keep kp sq) fun Gp hG i d H' x H'' hd kp _ y => ?_⟩
    obtain ⟨rfl, hx⟩ := y
    refine ⟨Same.refl _, ?_⟩
    obtain ⟨w, hw, q⟩ := (rr.at Gp hG kp).get hd
    rw [hx] at hw; cases hw
    exact q
  · cases h2
    refine .inl (tD_un e h1 fun v H1 s1 r _ hf => ?_)
    obtain ⟨a, vs, rfl, g, sq, rr⟩ := r
    refine ⟨a, rfl, ⟨vs, SqL.of sq⟩, k _ H1 _ _ [a] s1 (by rw [rr.length]; exact walk_list (xs := vs)) (fun b h => ?_) (fun hsf b h => ?_) (fun H' kp => SqL.of (kp a _ sq (.inr ⟨by simp, rfl⟩))) fun Gp hG i d H' x H'' hd kp _ y => ?_⟩
    · rcases List.mem_singleton.mp h with rfl
      exact ⟨g, by rw [sq]; exact fun z => nomatch z⟩
    · rcases List.mem_singleton.mp h with rfl
      rcases hs _ hsf with z | z
      · exact hf z _ rfl _ rfl
      · cases z
    · obtain ⟨rfl, hx⟩ := y
      refine ⟨Same.refl _, ?_⟩
      obtain ⟨w, hw, q⟩ := (rr.at Gp hG kp).get hd
      rw [hx] at hw; cases hw
      exact q
/-- from the value alone -/
theorem Snd.mk_e {c : CE} (he : ∀ (X : Cx) (s : Sc) (e : Expr), Cok N T lvl cl s X → chkE N T c false s e = true → PE X e (tD X.K (freshB c) (evE cl c)))
    (hp : ∀ (s : Sc) (e : Expr), chkE N T c false s e = true → ∀ env whole, isTrue e env whole = (do let v ← whole; standAt e.pos; holding [v] (truthy v)))
    (hi : ∀ s e, chkE N T c true s e = chkE N T c false s e) (hs : ∀ d, safeI c d = (freshB c || !isLst d)) : Snd N T lvl cl c where
  e := he
  t := fun X s e k h => pt_of (he X s e k h) (hp s e h X.env)
  i := fun X s e tg k _ h => pi_val (he X s e k (by rw [← hi]; exact h)) fun d hd => by
    rw [hs] at hd
    simpa using hd
/-- from the value and the test -/
theorem Snd.mk_t {c : CE} (he : ∀ (X : Cx) (s : Sc) (e : Expr), Cok N T lvl cl s X → chkE N T c false s e = true → PE X e (tD X.K (freshB c) (evE cl c)))
    (ht : ∀ (X : Cx) (s : Sc) (e : Expr), Cok N T lvl cl s X → chkE N T c false s e = true → PT X e (tT X.K (evE cl c)))
    (hi : ∀ s e, chkE N T c true s e = chkE N T c false s e) (hs : ∀ d, safeI c d = (freshB c || !isLst d)) : Snd N T lvl cl c where
  e := he
  t := ht
  i := fun X s e tg k _ h => pi_val (he X s e k (by rw [← hi]; exact h)) fun d hd => by
    rw [hs] at hd
    simpa using hd
end

/-! ### the single forms -/
section
variable {N : List Str} {T : FnT} {lvl : Nat} {cl : Nat → List D → Option D} {s : Sc}
theorem snd_var (i : Nat) : Snd N T lvl cl (.var i) := by
  refine .mk_e (fun X s e k h => ?_) (fun s e h env whole => ?_) (fun s e => by cases e <;> rfl) fun d => rfl
  · cases e <;> simp only [chkE, reduceCtorEq, Bool.false_eq_true] at h
    simp only [Bool.and_eq_true, decide_eq_true_eq] at h
    obtain ⟨⟨h1, h2⟩, h3⟩ := h
    obtain ⟨n1, n2, _⟩ := okName_of h3
    refine (pe_var (i := i) (by rw [k.hN]; exact h1) (by rw [k.sc]; exact vis_of h2) n1 n2).imp fun σ H Q q => ?_
    obtain ⟨G, ρ, d, e, hd, o⟩ := q
    simp only [evE] at hd
    obtain ⟨x, e1, e2⟩ := Option.bind_eq_some_iff.mp hd
    have e2 : x = some d := e2
    subst e2
    obtain ⟨v, hv, r⟩ := e.2 i d e1
    exact ⟨v, hv, out_here o r fun z => by cases z⟩
  · cases e <;> first | rfl | (simp only [chkE, reduceCtorEq, Bool.false_eq_true] at h)
theorem snd_const {c : CE} {v : V} {d : D} {cc : Const} (h1 : ∀ b s e, chkE N T c b s e = (match e with | .Constant x _ _ => decide (x = cc) | _ => false)) (h2 : ∀ X : Cx, ∀ j pos, PE X (.Constant cc j pos) (tC v)) (h3 : ∀ ρ, evE cl c ρ = some d)
    (h4 : ∀ K G H, Rep K G H d v) (h5 : freshB c = false) (h6 : ∀ d, safeI c d = (freshB c || !isLst d)) : Snd N T lvl cl c := by
  refine .mk_e (fun X s e k h => ?_) (fun s e h env whole => ?_) (fun s e => by rw [h1, h1]) h6
  · rw [h1] at h
    cases e <;> simp only [Bool.false_eq_true] at h
    have := of_decide_eq_true h
    subst this
    refine (h2 X _ _).imp fun σ H Q q => ?_
    obtain ⟨G, ρ, d, e, hd, o⟩ := q
    rw [h3] at hd; cases hd
    exact out_here o (h4 _ _ _) fun z => by rw [h5] at z; cases z
  · rw [h1] at h
    cases e <;> first | rfl | (simp only [Bool.false_eq_true] at h)
theorem snd_bin (o : BO) {a b : CE} (ha : Snd N T lvl cl a) (hb : Snd N T lvl cl b) : Snd N T lvl cl (.bin o a b) := by
  refine .mk_e (fun X s e k h => ?_) (fun s e h env whole => ?_) (fun s e => by cases e <;> rfl) fun d => rfl
  · cases e <;> simp only [chkE, reduceCtorEq, Bool.false_eq_true] at h
    simp only [Bool.and_eq_true, decide_eq_true_eq] at h
    obtain ⟨⟨rfl, h2⟩, h3⟩ := h
    obtain ⟨r, hr, ho⟩ := op_bin (X := X) o
    refine (pe_op hr (ha.e X s _ k h2) (hb.e X s _ k h3)).imp fun σ H Q q => tD_bin ho ?_
    simp only [evE] at q
    exact q
  · cases e <;> first | rfl | (simp only [chkE, reduceCtorEq, Bool.false_eq_true] at h)
theorem snd_neg {a : CE} (ha : Snd N T lvl cl a) : Snd N T lvl cl (.neg a) := by
  refine .mk_e (fun X s e k h => ?_) (fun s e h env whole => ?_) (fun s e => by cases e <;> rfl) fun d => rfl
  · cases e <;> simp only [chkE, reduceCtorEq, Bool.false_eq_true] at h
    simp only [Bool.and_eq_true, decide_eq_true_eq] at h
    obtain ⟨rfl, h2⟩ := h
    refine (pe_un un_neg (ha.e X s _ k h2)).imp fun σ H Q q => ?_
    simp only [evE] at q
    refine tD_un1 (op := fun x => (intOf x).map fun i => .int (-i)) (fun G H x dx dz Q rx e o => ?_) q
    obtain ⟨i, e1, rfl⟩ := Option.map_eq_some_iff.mp e
    cases dx <;> simp only [intOf, reduceCtorEq] at e1
    cases e1
    cases rx
    exact ⟨_, rfl, out_int o⟩
  · cases e <;> simp only [chkE, reduceCtorEq, Bool.false_eq_true] at h
    simp only [Bool.and_eq_true, decide_eq_true_eq] at h
    obtain ⟨rfl, _⟩ := h
    rfl
theorem snd_not {a : CE} (ha : Snd N T lvl cl a) : Snd N T lvl cl (.not a) := by
  refine .mk_t (fun X s e k h => ?_) (fun X s e k h => ?_) (fun s e => by cases e <;> rfl) fun d => rfl
  · cases e <;> simp only [chkE, reduceCtorEq, Bool.false_eq_true] at h
    simp only [Bool.and_eq_true, decide_eq_true_eq] at h
    obtain ⟨rfl, h2⟩ := h
    refine (pe_notT (ha.e X s _ k h2)).imp fun σ H Q q => ?_
    simp only [evE] at q
    obtain ⟨G, ρ, d, e, hd, o⟩ := q
    obtain ⟨x, e1, hd⟩ := Option.bind_eq_some_iff.mp hd
    obtain ⟨b, e2, rfl⟩ := Option.map_eq_some_iff.mp hd
    exact tD_un e e1 fun v H1 s1 r _ _ => ⟨b, tru_of r e2, out_bl (o.from_ s1)⟩
  · cases e <;> simp only [chkE, reduceCtorEq, Bool.false_eq_true] at h
    simp only [Bool.and_eq_true, decide_eq_true_eq] at h
    obtain ⟨rfl, h2⟩ := h
    refine (pt_not (ha.t X s _ k h2)).imp fun σ H Q q => ?_
    obtain ⟨G, ρ, d, b, e, hd, hb, o⟩ := q
    simp only [evE] at hd
    obtain ⟨x, e1, hd⟩ := Option.bind_eq_some_iff.mp hd
    obtain ⟨b', e2, rfl⟩ := Option.map_eq_some_iff.mp hd
    simp only [truth, Option.some.injEq] at hb
    subst hb
    exact ⟨G, ρ, x, b', e, e1, e2, o⟩
theorem snd_cmp (o : CO) {a b : CE} (ha : Snd N T lvl cl a) (hb : Snd N T lvl cl b) : Snd N T lvl cl (.cmp o a b) := by
  have key : ∀ (X : Cx) (s : Sc) (e : Expr), Cok N T lvl cl s X → chkE N T (.cmp o a b) false s e = true → ∃ x y p op, e = .Compare x [op] [y] p ∧ op = coOp o ∧ chkE N T a false s x = true ∧ chkE N T b false s y = true ∧ behindInMarks op y = false := by
    intro X s e k h
    cases e <;> first | exact absurd (show false = true from h) Bool.false_ne_true | skip
    rename_i x ops ys p
    rcases ops with _ | ⟨op, _ | ⟨op2, ops⟩⟩ <;> rcases ys with _ | ⟨y, _ | ⟨y2, ys⟩⟩ <;> first | exact absurd (show false = true from h) Bool.false_ne_true | skip
    have h : (decide (op = coOp o) && chkE N T a false s x && chkE N T b false s y && (behindInMarks op y == false)) = true := h
    simp only [Bool.and_eq_true, decide_eq_true_eq, beq_iff_eq] at h
    exact ⟨x, y, p, op, rfl, h.1.1.1, h.1.1.2, h.1.2, h.2⟩
  refine .mk_t (fun X s e k h => ?_) (fun X s e k h => ?_) (fun s e => ?_) fun d => rfl
  · obtain ⟨x, y, p, op, rfl, rfl, h1, h2, h3⟩ := key X s e k h
    obtain ⟨r, hr, ho⟩ := op_cmp (X := X) (by have := k.hu; omega) o
    refine (pe_cmpR hr (ha.e X s _ k h1) (hb.e X s _ k h2) h3).imp fun σ H Q q => tD_bin ho.op ?_
    simp only [evE] at q
    obtain ⟨G, ρ, d, e, hd, oo⟩ := q
    exact ⟨G, ρ, d, e, hd, fun v H' s' r' f => oo v H' s' r' fun z => by cases z⟩
  · obtain ⟨x, y, p, op, rfl, rfl, h1, h2, h3⟩ := key X s e k h
    obtain ⟨r, hr, ho⟩ := op_cmp (X := X) (by have := k.hu; omega) o
    refine (pt_cmpR hr (ha.e X s _ k h1) (hb.e X s _ k h2) h3).imp fun σ H Q q => ?_
    obtain ⟨G, ρ, d, bb, e, hd, hb', oo⟩ := q
    simp only [evE] at hd
    refine tD_bin (fr := true) ho.op ⟨G, ρ, d, e, hd, fun v H' s' r' _ => ?_⟩
    obtain ⟨x, e1, hd⟩ := Option.bind_eq_some_iff.mp hd
    obtain ⟨y, e2, hd⟩ := Option.bind_eq_some_iff.mp hd
    obtain ⟨kk, e3, rfl⟩ := Option.map_eq_some_iff.mp hd
    simp only [truth, Option.some.injEq] at hb'
    subst hb'
    cases r'
    exact ⟨_, rfl, oo H' s'⟩
  · cases e <;> try rfl
    rename_i x ops ys p
    rcases ops with _ | ⟨op, _ | ⟨op2, ops⟩⟩ <;> rcases ys with _ | ⟨y, _ | ⟨y2, ys⟩⟩ <;> rfl
end
end
end Dl
set_option Elab.async false
set_option linter.all false
set_option maxRecDepth 100000
set_option maxHeartbeats 4000000
/-! The look's proof: more forms. -/
namespace Dl
open PySem PySem.Spec PyProof.Rows L2
section
variable {N : List Str} {T : FnT} {lvl : Nat} {cl : Nat → List D → Option D} {X : Cx}
theorem chk_star {c : CE} {b : Bool} {s : Sc} {x : Expr} {p : Pos} : chkE N T c b s (.Starred x p) = false := by cases c <;> rfl
theorem chk_slice {c : CE} {b : Bool} {s : Sc} {x y z : Option Expr} {p : Pos} : chkE N T c b s (.Slice x y z p) = false := by cases c <;> rfl
theorem chk_set {c : CE} {b : Bool} {s : Sc} {x : List Expr} {k : Nat} {p : Pos} : chkE N T c b s (.Set x k p) = false := by cases c <;> rfl
theorem star_of {c : CE} {b : Bool} {s : Sc} {e : Expr} (h : chkE N T c b s e = true) (es : List Expr) (env : Env) : starEach (e :: es) env = (false, eval e env) :: starEach es env := by
  cases e <;> first | rfl | (rw [chk_star] at h; cases h)
theorem plainIx_of {c : CE} {b : Bool} {s : Sc} {e : Expr} (h : chkE N T c b s e = true) : PlainIx e := by
  intro o i
  cases e <;> first | rfl | (rw [chk_slice] at h; cases h)
theorem fset_of {c : CE} {b : Bool} {s : Sc} {e : Expr} (h : chkE N T c b s e = true) (env : Env) (x : Value) : foldedSetIterable e env x = pure x := by
  cases e <;> first | rfl | (rw [chk_set] at h; cases h)
/-- all items without a star -/
theorem nostars {s : Sc} : ∀ {cs : List CE} {es : List Expr} (_ : chkEs N T cs s es = true) (env : Env) (pos : Pos), (backTo pos (starEach es env)).any (·.1) = false
  | [], [], _, _, _ => rfl
  | [], e :: es, h, _, _ => by simp [chkEs] at h
  | c :: cs, [], h, _, _ => by simp [chkEs] at h
  | c :: cs, e :: es, h, env, pos => by
    simp only [chkEs, Bool.and_eq_true] at h
    rw [star_of h.1]
    show ((false, _) :: backTo pos (starEach es env)).any (·.1) = false
    simp [nostars h.2 env pos]

def tTs (K : PySem.W.Frag) (f : Rho → Option Bool) : TT := fun σ H Q => ∃ G ρ b, EnvR K G H σ ρ ∧ f ρ = some b ∧ ∀ H', Same H H' → Q b H'
structure SndL (N : List Str) (T : FnT) (lvl : Nat) (cl : Nat → List D → Option D) (cs : List CE) : Prop where
  a : ∀ (X : Cx) (s : Sc) (es : List Expr), Cok N T lvl cl s X → chkEs N T cs s es = true → PA X es (tDs X.K (evEs cl cs))
  t : ∀ (X : Cx) (s : Sc) (es : List Expr), Cok N T lvl cl s X → cs.length ≤ 1 → chkEs N T cs s es = true → PTs X es (tTs X.K (evT cl cs))
theorem sndL_nil : SndL N T lvl cl [] where
  a := fun X s es k h => by
    cases es with
    | nil =>
      refine pa_nil.imp fun σ H Q q => ?_
      obtain ⟨G, ρ, ds, e, h1, o⟩ := q
      simp only [evEs, Option.some.injEq] at h1
      subst h1
      exact o [] H (Same.refl _) rfl
    | cons e es => simp [chkEs] at h
  t := fun X s es k hl h => by
    cases es with
    | nil =>
      refine ⟨fun pins s σ H Q I q => pts_nil.run pins s σ H Q I ?_⟩
      obtain ⟨G, ρ, b, e, h1, o⟩ := q
      simp only [evT, Option.some.injEq] at h1
      subst h1
      exact o H (Same.refl _)
    | cons e es => simp [chkEs] at h
theorem sndL_cons {c : CE} {cs : List CE} (hc : Snd N T lvl cl c) (hs : SndL N T lvl cl cs) : SndL N T lvl cl (c :: cs) where
  a := fun X s es k h => by
    cases es with
    | nil => simp [chkEs] at h
    | cons e es =>
      simp only [chkEs, Bool.and_eq_true] at h
      refine (pa_cons (hc.e X s e k h.1) (hs.a X s es k h.2) (star_of h.1 _ _)).imp fun σ H Q q => ?_
      obtain ⟨G, ρ, ds, e, h1, o⟩ := q
      simp only [evEs] at h1
      obtain ⟨d, h2, h1⟩ := Option.bind_eq_some_iff.mp h1
      obtain ⟨ds', h3, rfl⟩ := Option.map_eq_some_iff.mp h1
      exact tD_un e h2 fun v H1 s1 r1 e1 _ => tDs_un e1 h3 fun vs H2 s2 r2 e2 => o _ H2 (s1.trans s2) ⟨v, vs, rfl, r1.keep (Keep.same s2), r2.mono fun _ h => Gx.same s1 h⟩
  t := fun X s es k hl h => by
    cases es with
    | nil => simp [chkEs] at h
    | cons e es =>
      simp only [chkEs, Bool.and_eq_true] at h
      cases cs with
      | cons c' cs' => simp at hl
      | nil =>
        cases es with
        | cons e' es' => simp [chkEs] at h
        | nil =>
          refine ⟨fun pins s σ H Q I q => (pts_one (hc.t X _ e k h.1)).run pins s σ H Q I ?_⟩
          obtain ⟨G, ρ, b, e, h1, o⟩ := q
          simp only [evT] at h1
          obtain ⟨d, h2, h3⟩ := Option.bind_eq_some_iff.mp h1
          exact ⟨G, ρ, d, b, e, h2, h3, o⟩

theorem snd_chain (o o' : CO) {a b c : CE} (ha : Snd N T lvl cl a) (hb : Snd N T lvl cl b) (hc : Snd N T lvl cl c) : Snd N T lvl cl (.chain o o' a b c) := by
  have key : ∀ (X : Cx) (s : Sc) (e : Expr), Cok N T lvl cl s X → chkE N T (.chain o o' a b c) false s e = true → ∃ x y z p, e = .Compare x [coOp o, coOp o'] [y, z] p ∧ chkE N T a false s x = true ∧ chkE N T b false s y = true ∧ chkE N T c false s z = true ∧ lastMarks [coOp o, coOp o'] [y, z] = false := by
    intro X s e k h
    cases e <;> first | exact absurd (show false = true from h) Bool.false_ne_true | skip
    rename_i x ops ys p
    rcases ops with _ | ⟨op, _ | ⟨op2, _ | ⟨op3, ops⟩⟩⟩ <;> rcases ys with _ | ⟨y, _ | ⟨y2, _ | ⟨y3, ys⟩⟩⟩ <;> first | exact absurd (show false = true from h) Bool.false_ne_true | skip
    have h : (decide (op = coOp o) && decide (op2 = coOp o') && chkE N T a false s x && chkE N T b false s y && chkE N T c false s y2 && (lastMarks [op, op2] [y, y2] == false)) = true := h
    simp only [Bool.and_eq_true, decide_eq_true_eq, beq_iff_eq] at h
    obtain ⟨⟨⟨⟨⟨rfl, rfl⟩, h1⟩, h2⟩, h3⟩, h4⟩ := h
    exact ⟨x, y, y2, p, rfl, h1, h2, h3, h4⟩
  have rd : ∀ {X : Cx} {s : Sc} (k : Cok N T lvl cl s X) {r r' : R2}, CmD X.K r (cmpD o) → CmD X.K r' (cmpD o') → ∀ (σ : L2.St) (H : Hp) (Q : VK) (G : Addr → Prop) (ρ : Rho) (d : D), EnvR X.K G H σ ρ → evE cl (.chain o o' a b c) ρ = some d → (∀ v H', Same H H' → Rep X.K (Gx G H) H' d v → Q v H') →
      tChain r r' (tD X.K (freshB a) (evE cl a)) (tD X.K (freshB b) (evE cl b)) (tD X.K (freshB c) (evE cl c)) σ H Q := by
    intro X s k r r' ho ho' σ H Q G ρ d e hd oo
    simp only [evE] at hd
    obtain ⟨x, e1, hd⟩ := Option.bind_eq_some_iff.mp hd
    obtain ⟨y, e2, hd⟩ := Option.bind_eq_some_iff.mp hd
    obtain ⟨kk, e3, hd⟩ := Option.bind_eq_some_iff.mp hd
    refine tD_un e e1 fun v H1 s1 r1 en1 _ => tD_un en1 e2 fun w H2 s2 r2 en2 _ => ?_
    have r1' := (r1.keep (Keep.same s2)).mono (G' := Gx (Gx G H) H1) fun _ h => .inl h
    refine ho _ H2 v w x y kk _ r1' r2 e3 ⟨kk, rfl, ?_⟩
    cases kk with
    | false =>
      simp only [Bool.false_eq_true, if_false] at hd ⊢
      cases hd
      exact oo _ H2 (s1.trans s2) rfl
    | true =>
      simp only [if_true] at hd ⊢
      obtain ⟨z, e4, hd⟩ := Option.bind_eq_some_iff.mp hd
      obtain ⟨k2, e5, rfl⟩ := Option.map_eq_some_iff.mp hd
      refine tD_un en2 e4 fun u H3 s3 r3 en3 _ => ?_
      exact ho' _ H3 w u y z k2 Q ((r2.keep (Keep.same s3)).mono fun _ h => .inl h) r3 e5 (oo _ H3 ((s1.trans s2).trans s3) rfl)
  refine .mk_t (fun X s e k h => ?_) (fun X s e k h => ?_) (fun s e => ?_) fun d => rfl
  · obtain ⟨x, y, z, p, rfl, h1, h2, h3, h4⟩ := key X s e k h
    obtain ⟨r, hr, ho⟩ := op_cmp (X := X) (by have := k.hu; omega) o
    obtain ⟨r', hr', ho'⟩ := op_cmp (X := X) (by have := k.hu; omega) o'
    refine (pe_chain hr hr' (ha.e X s _ k h1) (hb.e X s _ k h2) (hc.e X s _ k h3) h4).imp fun σ H Q q => ?_
    obtain ⟨G, ρ, d, e, hd, oo⟩ := q
    exact rd k ho ho' σ H Q G ρ d e hd fun v H' s' r' => oo v H' s' r' fun z => by cases z
  · obtain ⟨x, y, z, p, rfl, h1, h2, h3, h4⟩ := key X s e k h
    obtain ⟨r, hr, ho⟩ := op_cmp (X := X) (by have := k.hu; omega) o
    obtain ⟨r', hr', ho'⟩ := op_cmp (X := X) (by have := k.hu; omega) o'
    refine (pt_chain hr hr' (ha.e X s _ k h1) (hb.e X s _ k h2) (hc.e X s _ k h3) h4).imp fun σ H Q q => ?_
    obtain ⟨G, ρ, d, bb, e, hd, hb', oo⟩ := q
    refine rd k ho ho' σ H _ G ρ d e hd fun v H' s' r' => ?_
    have : ∃ kk, d = .bl kk := by
      simp only [evE] at hd
      obtain ⟨x, e1, hd⟩ := Option.bind_eq_some_iff.mp hd
      obtain ⟨y, e2, hd⟩ := Option.bind_eq_some_iff.mp hd
      obtain ⟨kk, e3, hd⟩ := Option.bind_eq_some_iff.mp hd
      split at hd
      · obtain ⟨z, e4, hd⟩ := Option.bind_eq_some_iff.mp hd
        obtain ⟨k2, e5, rfl⟩ := Option.map_eq_some_iff.mp hd
        exact ⟨_, rfl⟩
      · cases hd
        exact ⟨_, rfl⟩
    obtain ⟨kk, rfl⟩ := this
    simp only [truth, Option.some.injEq] at hb'
    subst hb'
    cases r'
    exact ⟨_, rfl, oo H' s'⟩
  · cases e <;> try rfl
    rename_i x ops ys p
    rcases ops with _ | ⟨op, _ | ⟨op2, _ | ⟨op3, ops⟩⟩⟩ <;> rcases ys with _ | ⟨y, _ | ⟨y2, _ | ⟨y3, ys⟩⟩⟩ <;> rfl
/-- a op1 b op2 c op3 d -/
def tChain3 (r r' r'' : R2) (ta tb tc td : TE) : TE := fun σ H Q => ta σ H fun x H1 => tb σ H1 fun y H2 => r x y H2 fun z H3 => ∃ k, z = .bl k ∧
  (if k = true then tc σ H3 fun w' H4 => r' y w' H4 fun z' H5 => ∃ k', z' = .bl k' ∧ (if k' = true then td σ H5 fun u' H6 => r'' w' u' H6 Q else Q (.bl false) H5) else Q (.bl false) H3)
theorem pe_chain3 {X : Cx} {a b c d : Expr} {ta tb tc td : TE} {pos : Pos} {op op' op'' : CmpOp} {r r' r'' : R2} (ho : OpR X (compareOp op) r) (ho' : OpR X (compareOp op') r') (ho'' : OpR X (compareOp op'') r'') (ha : PE X a ta) (hb : PE X b tb) (hc : PE X c tc) (hd : PE X d td)
    (hm : lastMarks [op, op', op''] [b, c, d] = false) : PE X (.Compare a [op, op', op''] [b, c, d] pos) (tChain3 r r' r'' ta tb tc td) := by
  refine ⟨fun pins s σ H Q I h => ?_⟩
  refine Compare_chain (thn (ha.run pins s σ H _ I h) fun v s1 ⟨x, H1, I1, r1, q1⟩ => chain_link (thn (hb.run pins s1 σ H1 _ I1 q1) fun u s2 ⟨y, H2, I2, r2, q2⟩ =>
    thn (ho pins s2 σ H2 x y v u _ I2 r1 r2 q2) fun d s3 ⟨z, H3, I3, r3, k, e, q3⟩ => ?_)) hm
  subst e
  cases r3
  refine wpAny_truthy_bool ?_
  cases k with
  | false => exact ite_ff ⟨.bl false, H3, I3, rfl, q3⟩
  | true =>
    refine ite_tt (chain_link (thn (hc.run pins s3 σ H3 _ I3 q3) fun w' s4 ⟨z', H4, I4, r4, q4⟩ => thn (ho' pins s4 σ H4 y z' u w' _ I4 r2 r4 q4) fun d5 s5 ⟨z5, H5, I5, r5, k5, e5, q5⟩ => ?_))
    subst e5
    cases r5
    refine wpAny_truthy_bool ?_
    cases k5 with
    | false => exact ite_ff ⟨.bl false, H5, I5, rfl, q5⟩
    | true => exact ite_tt (chain_last (thn (hd.run pins s5 σ H5 _ I5 q5) fun w6 s6 ⟨z6, H6, I6, r6, q6⟩ => ho'' pins s6 σ H6 z' z6 w' w6 Q I6 r4 r6 q6))
theorem pt_chain3 {X : Cx} {a b c d : Expr} {ta tb tc td : TE} {pos : Pos} {op op' op'' : CmpOp} {r r' r'' : R2} (ho : OpR X (compareOp op) r) (ho' : OpR X (compareOp op') r') (ho'' : OpR X (compareOp op'') r'') (ha : PE X a ta) (hb : PE X b tb) (hc : PE X c tc) (hd : PE X d td)
    (hm : lastMarks [op, op', op''] [b, c, d] = false) : PT X (.Compare a [op, op', op''] [b, c, d] pos) (tTest (tChain3 r r' r'' ta tb tc td)) := by
  refine ⟨fun pins s σ H Q I h => ?_⟩
  refine isTrue_chain (thn (ha.run pins s σ H _ I h) fun v s1 ⟨x, H1, I1, r1, q1⟩ => test_link (thn (hb.run pins s1 σ H1 _ I1 q1) fun u s2 ⟨y, H2, I2, r2, q2⟩ =>
    thn (ho pins s2 σ H2 x y v u _ I2 r1 r2 q2) fun d s3 ⟨z, H3, I3, r3, k, e, q3⟩ => ?_)) hm
  subst e
  cases r3
  refine wpAny_truthy_bool ?_
  cases k with
  | false =>
    obtain ⟨k', e', q'⟩ := q3
    cases e'
    exact ite_ff ⟨H3, I3, q'⟩
  | true =>
    refine ite_tt (test_link (thn (hc.run pins s3 σ H3 _ I3 q3) fun w' s4 ⟨z', H4, I4, r4, q4⟩ => thn (ho' pins s4 σ H4 y z' u w' _ I4 r2 r4 q4) fun d5 s5 ⟨z5, H5, I5, r5, k5, e5, q5⟩ => ?_))
    subst e5
    cases r5
    refine wpAny_truthy_bool ?_
    cases k5 with
    | false =>
      obtain ⟨k', e', q'⟩ := q5
      cases e'
      exact ite_ff ⟨H5, I5, q'⟩
    | true =>
      refine ite_tt (test_last (thn (hd.run pins s5 σ H5 _ I5 q5) fun w6 s6 ⟨z6, H6, I6, r6, q6⟩ => thn (ho'' pins s6 σ H6 z' z6 w' w6 _ I6 r4 r6 q6) fun d7 s7 ⟨z7, H7, I7, r7, k7, e7, q7⟩ => ?_))
      subst e7
      cases r7
      exact wpAny_truthy_bool ⟨H7, I7, q7⟩
theorem snd_chain3 (o o' o'' : CO) {a b c d : CE} (ha : Snd N T lvl cl a) (hb : Snd N T lvl cl b) (hc : Snd N T lvl cl c) (hd : Snd N T lvl cl d) : Snd N T lvl cl (.chain3 o o' o'' a b c d) := by
  have key : ∀ (X : Cx) (s : Sc) (e : Expr), Cok N T lvl cl s X → chkE N T (.chain3 o o' o'' a b c d) false s e = true → ∃ x y z u p, e = .Compare x [coOp o, coOp o', coOp o''] [y, z, u] p ∧ chkE N T a false s x = true ∧ chkE N T b false s y = true ∧ chkE N T c false s z = true ∧ chkE N T d false s u = true ∧ lastMarks [coOp o, coOp o', coOp o''] [y, z, u] = false := by
    intro X s e k h
    cases e <;> first | exact absurd (show false = true from h) Bool.false_ne_true | skip
    rename_i x ops ys p
    rcases ops with _ | ⟨op, _ | ⟨op2, _ | ⟨op3, _ | ⟨op4, ops⟩⟩⟩⟩ <;> rcases ys with _ | ⟨y, _ | ⟨y2, _ | ⟨y3, _ | ⟨y4, ys⟩⟩⟩⟩ <;> first | exact absurd (show false = true from h) Bool.false_ne_true | skip
    have h : (decide (op = coOp o) && decide (op2 = coOp o') && decide (op3 = coOp o'') && chkE N T a false s x && chkE N T b false s y && chkE N T c false s y2 && chkE N T d false s y3 && (lastMarks [op, op2, op3] [y, y2, y3] == false)) = true := h
    simp only [Bool.and_eq_true, decide_eq_true_eq, beq_iff_eq] at h
    obtain ⟨⟨⟨⟨⟨⟨⟨rfl, rfl⟩, rfl⟩, h1⟩, h2⟩, h3⟩, h5⟩, h4⟩ := h
    exact ⟨x, y, y2, y3, p, rfl, h1, h2, h3, h5, h4⟩
  have rd : ∀ {X : Cx} {s : Sc} (k : Cok N T lvl cl s X) {r r' r'' : R2}, CmD X.K r (cmpD o) → CmD X.K r' (cmpD o') → CmD X.K r'' (cmpD o'') → ∀ (σ : L2.St) (H : Hp) (Q : VK) (G : Addr → Prop) (ρ : Rho) (dd : D), EnvR X.K G H σ ρ → evE cl (.chain3 o o' o'' a b c d) ρ = some dd → (∀ v H', Same H H' → Rep X.K (Gx G H) H' dd v → Q v H') →
      tChain3 r r' r'' (tD X.K (freshB a) (evE cl a)) (tD X.K (freshB b) (evE cl b)) (tD X.K (freshB c) (evE cl c)) (tD X.K (freshB d) (evE cl d)) σ H Q := by
    intro X s k r r' r'' ho ho' ho'' σ H Q G ρ dd e hd oo
    simp only [evE] at hd
    obtain ⟨x, e1, hd⟩ := Option.bind_eq_some_iff.mp hd
    obtain ⟨y, e2, hd⟩ := Option.bind_eq_some_iff.mp hd
    obtain ⟨kk, e3, hd⟩ := Option.bind_eq_some_iff.mp hd
    refine tD_un e e1 fun v H1 s1 r1 en1 _ => tD_un en1 e2 fun w H2 s2 r2 en2 _ => ?_
    have r1' := (r1.keep (Keep.same s2)).mono (G' := Gx (Gx G H) H1) fun _ h => .inl h
    refine ho _ H2 v w x y kk _ r1' r2 e3 ⟨kk, rfl, ?_⟩
    cases kk with
    | false =>
      simp only [Bool.false_eq_true, if_false] at hd ⊢
      cases hd
      exact oo _ H2 (s1.trans s2) rfl
    | true =>
      simp only [if_true] at hd ⊢
      obtain ⟨z, e4, hd⟩ := Option.bind_eq_some_iff.mp hd
      obtain ⟨k1, e5, hd⟩ := Option.bind_eq_some_iff.mp hd
      refine tD_un en2 e4 fun u H3 s3 r3 en3 _ => ?_
      refine ho' _ H3 w u y z k1 _ ((r2.keep (Keep.same s3)).mono fun _ h => .inl h) r3 e5 ⟨k1, rfl, ?_⟩
      cases k1 with
      | false =>
        simp only [Bool.false_eq_true, if_false] at hd ⊢
        cases hd
        exact oo _ H3 ((s1.trans s2).trans s3) rfl
      | true =>
        simp only [if_true] at hd ⊢
        obtain ⟨zz, e6, hd⟩ := Option.bind_eq_some_iff.mp hd
        obtain ⟨k2, e7, rfl⟩ := Option.map_eq_some_iff.mp hd
        refine tD_un en3 e6 fun u4 H4 s4 r4 en4 _ => ?_
        exact ho'' _ H4 u u4 z zz k2 Q ((r3.keep (Keep.same s4)).mono fun _ h => .inl h) r4 e7 (oo _ H4 (((s1.trans s2).trans s3).trans s4) rfl)
  refine .mk_t (fun X s e k h => ?_) (fun X s e k h => ?_) (fun s e => ?_) fun d => rfl
  · obtain ⟨x, y, z, u, p, rfl, h1, h2, h3, h5, h4⟩ := key X s e k h
    obtain ⟨r, hr, ho⟩ := op_cmp (X := X) (by have := k.hu; omega) o
    obtain ⟨r', hr', ho'⟩ := op_cmp (X := X) (by have := k.hu; omega) o'
    obtain ⟨r'', hr'', ho''⟩ := op_cmp (X := X) (by have := k.hu; omega) o''
    refine (pe_chain3 hr hr' hr'' (ha.e X s _ k h1) (hb.e X s _ k h2) (hc.e X s _ k h3) (hd.e X s _ k h5) h4).imp fun σ H Q q => ?_
    obtain ⟨G, ρ, d, e, hd, oo⟩ := q
    exact rd k ho ho' ho'' σ H Q G ρ d e hd fun v H' s' r' => oo v H' s' r' fun z => by cases z
  · obtain ⟨x, y, z, u, p, rfl, h1, h2, h3, h5, h4⟩ := key X s e k h
    obtain ⟨r, hr, ho⟩ := op_cmp (X := X) (by have := k.hu; omega) o
    obtain ⟨r', hr', ho'⟩ := op_cmp (X := X) (by have := k.hu; omega) o'
    obtain ⟨r'', hr'', ho''⟩ := op_cmp (X := X) (by have := k.hu; omega) o''
    refine (pt_chain3 hr hr' hr'' (ha.e X s _ k h1) (hb.e X s _ k h2) (hc.e X s _ k h3) (hd.e X s _ k h5) h4).imp fun σ H Q q => ?_
    obtain ⟨G, ρ, d, bb, e, hd, hb', oo⟩ := q
    refine rd k ho ho' ho'' σ H _ G ρ d e hd fun v H' s' r' => ?_
    have : ∃ kk, d = .bl kk := by
      simp only [evE] at hd
      obtain ⟨x, e1, hd⟩ := Option.bind_eq_some_iff.mp hd
      obtain ⟨y, e2, hd⟩ := Option.bind_eq_some_iff.mp hd
      obtain ⟨kk, e3, hd⟩ := Option.bind_eq_some_iff.mp hd
      split at hd
      · obtain ⟨z, e4, hd⟩ := Option.bind_eq_some_iff.mp hd
        obtain ⟨k1, e5, hd⟩ := Option.bind_eq_some_iff.mp hd
        split at hd
        · obtain ⟨zz, e6, hd⟩ := Option.bind_eq_some_iff.mp hd
          obtain ⟨k2, e7, rfl⟩ := Option.map_eq_some_iff.mp hd
          exact ⟨_, rfl⟩
        · cases hd
          exact ⟨_, rfl⟩
      · cases hd
        exact ⟨_, rfl⟩
    obtain ⟨kk, rfl⟩ := this
    simp only [truth, Option.some.injEq] at hb'
    subst hb'
    cases r'
    exact ⟨_, rfl, oo H' s'⟩
  · cases e <;> try rfl
    rename_i x ops ys p
    rcases ops with _ | ⟨op, _ | ⟨op2, _ | ⟨op3, _ | ⟨op4, ops⟩⟩⟩⟩ <;> rcases ys with _ | ⟨y, _ | ⟨y2, _ | ⟨y3, _ | ⟨y4, ys⟩⟩⟩⟩ <;> rfl
theorem key_is {a c : CE} {o : CmpOp} (hk : ∀ b s e, chkE N T c b s e = (match e with | .Compare x [op] [.Constant k _ _] _ => decide (op = o) && decide (k = .none) && chkE N T a false s x | _ => false)) {b : Bool} {s : Sc} {e : Expr} (h : chkE N T c b s e = true) :
    ∃ x j p p', e = .Compare x [o] [.Constant .none j p'] p ∧ chkE N T a false s x = true := by
  rw [hk] at h
  split at h
  · simp only [Bool.and_eq_true, decide_eq_true_eq] at h
    obtain ⟨⟨rfl, rfl⟩, h⟩ := h
    exact ⟨_, _, _, _, rfl, h⟩
  · cases h
theorem snd_isN {a : CE} (ha : Snd N T lvl cl a) : Snd N T lvl cl (.isN a) := by
  have hk : ∀ b s e, chkE N T (.isN a) b s e = (match e with | .Compare x [op] [.Constant k _ _] _ => decide (op = .Is) && decide (k = .none) && chkE N T a false s x | _ => false) := fun b s e => by
    cases e <;> try rfl
    rename_i x ops ys p
    rcases ops with _ | ⟨op, _ | ⟨op2, ops⟩⟩ <;> rcases ys with _ | ⟨y, _ | ⟨y2, ys⟩⟩ <;> try rfl
    all_goals (cases y <;> rfl)
  refine .mk_t (fun X s e k h => ?_) (fun X s e k h => ?_) (fun s e => by rw [hk, hk]) fun d => rfl
  · obtain ⟨x, j, p, p', rfl, h⟩ := key_is hk h
    refine (pe_cmp (pc_isN (ha.e X s _ k h))).imp fun σ H Q q => ?_
    obtain ⟨G, ρ, d, e, hd, o⟩ := q
    simp only [evE] at hd
    obtain ⟨x, e1, rfl⟩ := Option.map_eq_some_iff.mp hd
    refine tD_un e e1 fun v H1 s1 r1 _ _ => ?_
    rw [isNon_of r1]
    exact out_bl (o.from_ s1)
  · obtain ⟨x, j, p, p', rfl, h⟩ := key_is hk h
    refine (pt_cmp (pc_isN (ha.e X s _ k h))).imp fun σ H Q q => ?_
    obtain ⟨G, ρ, d, b, e, hd, hb, o⟩ := q
    simp only [evE] at hd
    obtain ⟨x, e1, rfl⟩ := Option.map_eq_some_iff.mp hd
    refine tD_un e e1 fun v H1 s1 r1 _ _ => ?_
    rw [isNon_of r1]
    simp only [truth, Option.some.injEq] at hb
    subst hb
    exact ⟨_, rfl, o H1 s1⟩
theorem snd_notN {a : CE} (ha : Snd N T lvl cl a) : Snd N T lvl cl (.notN a) := by
  have hk : ∀ b s e, chkE N T (.notN a) b s e = (match e with | .Compare x [op] [.Constant k _ _] _ => decide (op = .IsNot) && decide (k = .none) && chkE N T a false s x | _ => false) := fun b s e => by
    cases e <;> try rfl
    rename_i x ops ys p
    rcases ops with _ | ⟨op, _ | ⟨op2, ops⟩⟩ <;> rcases ys with _ | ⟨y, _ | ⟨y2, ys⟩⟩ <;> try rfl
    all_goals (cases y <;> rfl)
  refine .mk_t (fun X s e k h => ?_) (fun X s e k h => ?_) (fun s e => by rw [hk, hk]) fun d => rfl
  · obtain ⟨x, j, p, p', rfl, h⟩ := key_is hk h
    refine (pe_cmp (pc_notN (ha.e X s _ k h))).imp fun σ H Q q => ?_
    obtain ⟨G, ρ, d, e, hd, o⟩ := q
    simp only [evE] at hd
    obtain ⟨x, e1, rfl⟩ := Option.map_eq_some_iff.mp hd
    refine tD_un e e1 fun v H1 s1 r1 _ _ => ?_
    rw [isNon_of r1]
    exact out_bl (o.from_ s1)
  · obtain ⟨x, j, p, p', rfl, h⟩ := key_is hk h
    refine (pt_cmp (pc_notN (ha.e X s _ k h))).imp fun σ H Q q => ?_
    obtain ⟨G, ρ, d, b, e, hd, hb, o⟩ := q
    simp only [evE] at hd
    obtain ⟨x, e1, rfl⟩ := Option.map_eq_some_iff.mp hd
    refine tD_un e e1 fun v H1 s1 r1 _ _ => ?_
    rw [isNon_of r1]
    simp only [truth, Option.some.injEq] at hb
    subst hb
    exact ⟨_, rfl, o H1 s1⟩
/-- the second part of and, or -/
def bo2 (op : BoolOp) (y : Expr) (r : List Expr) (p : Pos) : Expr := match r with
  | [] => y
  | _ => .BoolOp op (y :: r) p
theorem pe_bo2 {op : BoolOp} {y : Expr} {r : List Expr} {p : Pos} {t : TE} (h : PE X (bo2 op y r p) t) : PE X (.BoolOp op (y :: r) p) t := by
  cases r with
  | nil => exact pe_one h
  | cons z r => exact h
theorem key_bo {a b c : CE} {o : BoolOp} (hk : ∀ f s e, chkE N T c f s e = (match e with | .BoolOp op (x :: y :: r) p => decide (op = o) && chkE N T a false s x && (match r with | [] => chkE N T b false s y | _ => chkE N T b false s (.BoolOp o (y :: r) p)) | _ => false)) {f : Bool} {s : Sc} {e : Expr} (h : chkE N T c f s e = true) :
    ∃ x y r p, e = .BoolOp o (x :: y :: r) p ∧ chkE N T a false s x = true ∧ chkE N T b false s (bo2 o y r p) = true := by
  rw [hk] at h
  split at h
  · rename_i op x y r p
    simp only [Bool.and_eq_true, decide_eq_true_eq] at h
    obtain ⟨⟨rfl, h⟩, h2⟩ := h
    refine ⟨x, y, r, p, rfl, h, ?_⟩
    cases r with
    | nil => exact h2
    | cons z r => exact h2
  · cases h
/-- a chain of one operator as a test -/
theorem pw_bo2 {y : Expr} {r : List Expr} {p : Pos} {t : TT} (hy : PT X (bo2 .And y r p) t) : PW X (.BoolOp .And (y :: r) p) t := by
  cases r with
  | nil => exact pw_and1 hy
  | cons z r => exact ⟨fun w pins s σ H Q I q => by
      have := hy.run pins s σ H Q I q
      simp only [bo2] at this
      rw [PySem.isTrue] at this ⊢
      exact this⟩
theorem pw_bo2o {y : Expr} {r : List Expr} {p : Pos} {t : TT} (hy : PT X (bo2 .Or y r p) t) : PW X (.BoolOp .Or (y :: r) p) t := by
  cases r with
  | nil => exact pw_or1 hy
  | cons z r => exact ⟨fun w pins s σ H Q I q => by
      have := hy.run pins s σ H Q I q
      simp only [bo2] at this
      rw [PySem.isTrue] at this ⊢
      exact this⟩
theorem snd_and {a b : CE} (ha : Snd N T lvl cl a) (hb : Snd N T lvl cl b) : Snd N T lvl cl (.and a b) := by
  have hk : ∀ f s e, chkE N T (.and a b) f s e = (match e with | .BoolOp op (x :: y :: r) p => decide (op = .And) && chkE N T a false s x && (match r with | [] => chkE N T b false s y | _ => chkE N T b false s (.BoolOp .And (y :: r) p)) | _ => false) := fun f s e => by
    cases e <;> try rfl
    rename_i op vs p
    rcases vs with _ | ⟨x, _ | ⟨y, r⟩⟩ <;> rfl
  refine .mk_t (fun X s e k h => ?_) (fun X s e k h => ?_) (fun s e => by rw [hk, hk]) fun d => rfl
  · obtain ⟨x, y, r, p, rfl, h1, h2⟩ := key_bo hk h
    refine (pe_andT (ha.e X s _ k h1) (pe_bo2 (hb.e X s _ k h2))).imp fun σ H Q q => ?_
    obtain ⟨G, ρ, d, e, hd, o⟩ := q
    simp only [evE] at hd
    obtain ⟨x, e1, hd⟩ := Option.bind_eq_some_iff.mp hd
    obtain ⟨kk, e2, hd⟩ := Option.bind_eq_some_iff.mp hd
    refine tD_un e e1 fun v H1 s1 r1 en _ => ⟨kk, tru_of r1 e2, ?_⟩
    cases kk with
    | true =>
      simp only [if_true] at hd ⊢
      exact tD_un en hd fun w H2 s2 r2 _ _ => o w H2 (s1.trans s2) (r2.mono fun _ h => Gx.same s1 h) fun z => by cases z
    | false =>
      simp only [Bool.false_eq_true, if_false] at hd ⊢
      cases hd
      exact o v H1 s1 r1 fun z => by cases z
  · obtain ⟨x, y, r, p, rfl, h1, h2⟩ := key_bo hk h
    refine (PW.pt (pw_and (ha.t X s _ k h1) (pw_bo2 (hb.t X s _ k h2)))).imp fun σ H Q q => ?_
    obtain ⟨G, ρ, d, b, e, hd, hb, o⟩ := q
    simp only [evE] at hd
    obtain ⟨x, e1, hd⟩ := Option.bind_eq_some_iff.mp hd
    obtain ⟨kk, e2, hd⟩ := Option.bind_eq_some_iff.mp hd
    refine tT_in e e1 e2 fun H1 s1 en => ?_
    cases kk with
    | true =>
      simp only [if_true] at hd ⊢
      exact tT_in en hd hb fun H2 s2 _ => o H2 (s1.trans s2)
    | false =>
      simp only [Bool.false_eq_true, if_false] at hd ⊢
      cases hd
      rw [e2] at hb; cases hb
      exact o H1 s1
theorem snd_or {a b : CE} (ha : Snd N T lvl cl a) (hb : Snd N T lvl cl b) : Snd N T lvl cl (.or a b) := by
  have hk : ∀ f s e, chkE N T (.or a b) f s e = (match e with | .BoolOp op (x :: y :: r) p => decide (op = .Or) && chkE N T a false s x && (match r with | [] => chkE N T b false s y | _ => chkE N T b false s (.BoolOp .Or (y :: r) p)) | _ => false) := fun f s e => by
    cases e <;> try rfl
    rename_i op vs p
    rcases vs with _ | ⟨x, _ | ⟨y, r⟩⟩ <;> rfl
  refine .mk_t (fun X s e k h => ?_) (fun X s e k h => ?_) (fun s e => by rw [hk, hk]) fun d => rfl
  · obtain ⟨x, y, r, p, rfl, h1, h2⟩ := key_bo hk h
    refine (pe_orT (ha.e X s _ k h1) (pe_bo2 (hb.e X s _ k h2))).imp fun σ H Q q => ?_
    obtain ⟨G, ρ, d, e, hd, o⟩ := q
    simp only [evE] at hd
    obtain ⟨x, e1, hd⟩ := Option.bind_eq_some_iff.mp hd
    obtain ⟨kk, e2, hd⟩ := Option.bind_eq_some_iff.mp hd
    refine tD_un e e1 fun v H1 s1 r1 en _ => ⟨kk, tru_of r1 e2, ?_⟩
    cases kk with
    | false =>
      simp only [Bool.false_eq_true, if_false] at hd ⊢
      exact tD_un en hd fun w H2 s2 r2 _ _ => o w H2 (s1.trans s2) (r2.mono fun _ h => Gx.same s1 h) fun z => by cases z
    | true =>
      simp only [if_true] at hd ⊢
      cases hd
      exact o v H1 s1 r1 fun z => by cases z
  · obtain ⟨x, y, r, p, rfl, h1, h2⟩ := key_bo hk h
    refine (PW.pt (pw_or (ha.t X s _ k h1) (pw_bo2o (hb.t X s _ k h2)))).imp fun σ H Q q => ?_
    obtain ⟨G, ρ, d, b, e, hd, hb, o⟩ := q
    simp only [evE] at hd
    obtain ⟨x, e1, hd⟩ := Option.bind_eq_some_iff.mp hd
    obtain ⟨kk, e2, hd⟩ := Option.bind_eq_some_iff.mp hd
    refine tT_in e e1 e2 fun H1 s1 en => ?_
    cases kk with
    | false =>
      simp only [Bool.false_eq_true, if_false] at hd ⊢
      exact tT_in en hd hb fun H2 s2 _ => o H2 (s1.trans s2)
    | true =>
      simp only [if_true] at hd ⊢
      cases hd
      rw [e2] at hb; cases hb
      exact o H1 s1
theorem snd_ite {c a b : CE} (hc : Snd N T lvl cl c) (ha : Snd N T lvl cl a) (hb : Snd N T lvl cl b) : Snd N T lvl cl (.ite c a b) := by
  refine .mk_t (fun X s e k h => ?_) (fun X s e k h => ?_) (fun s e => by cases e <;> rfl) fun d => rfl
  · cases e <;> first | exact absurd (show false = true from h) Bool.false_ne_true | skip
    simp only [chkE, Bool.and_eq_true] at h
    obtain ⟨⟨h1, h2⟩, h3⟩ := h
    refine (pe_ifExp (hc.t X s _ k h1) (ha.e X s _ k h2) (hb.e X s _ k h3)).imp fun σ H Q q => ?_
    obtain ⟨G, ρ, d, e, hd, o⟩ := q
    simp only [evE] at hd
    obtain ⟨x, e1, hd⟩ := Option.bind_eq_some_iff.mp hd
    obtain ⟨kk, e2, hd⟩ := Option.bind_eq_some_iff.mp hd
    refine tT_in e e1 e2 fun H1 s1 en => ?_
    cases kk with
    | false =>
      simp only [Bool.false_eq_true, if_false] at hd ⊢
      exact tD_un en hd fun w H2 s2 r2 _ _ => o w H2 (s1.trans s2) (r2.mono fun _ h => Gx.same s1 h) fun z => by cases z
    | true =>
      simp only [if_true] at hd ⊢
      exact tD_un en hd fun w H2 s2 r2 _ _ => o w H2 (s1.trans s2) (r2.mono fun _ h => Gx.same s1 h) fun z => by cases z
  · cases e <;> first | exact absurd (show false = true from h) Bool.false_ne_true | skip
    simp only [chkE, Bool.and_eq_true] at h
    obtain ⟨⟨h1, h2⟩, h3⟩ := h
    refine ⟨fun pins sh σ H Q I q => ?_⟩
    obtain ⟨G, ρ, d, b, e, hd, hb', o⟩ := q
    simp only [evE] at hd
    obtain ⟨x, e1, hd⟩ := Option.bind_eq_some_iff.mp hd
    obtain ⟨kk, e2, hd⟩ := Option.bind_eq_some_iff.mp hd
    refine isTrue_IfExp (thn ((hc.t X s _ k h1).run pins sh σ H (fun b' H' => b' = kk ∧ Same H H' ∧ EnvR X.K (Gx G H) H' σ ρ) I (tT_in e e1 e2 fun H1 s1 en => ⟨rfl, s1, en⟩)) fun b' s2 hq => ?_)
    obtain ⟨H1, I1, rfl, s1, en⟩ := hq
    cases b' with
    | false =>
      simp only [Bool.false_eq_true, if_false] at hd ⊢
      exact (hb.t X s _ k h3).run pins s2 σ H1 Q I1 (tT_in en hd hb' fun H2 s2 _ => o H2 (s1.trans s2))
    | true =>
      simp only [if_true] at hd ⊢
      exact (ha.t X s _ k h2).run pins s2 σ H1 Q I1 (tT_in en hd hb' fun H2 s2 _ => o H2 (s1.trans s2))
theorem snd_idx {a b : CE} (ha : Snd N T lvl cl a) (hb : Snd N T lvl cl b) : Snd N T lvl cl (.idx a b) := by
  refine .mk_e (fun X s e k h => ?_) (fun s e h env whole => ?_) (fun s e => by cases e <;> rfl) fun d => rfl
  · cases e <;> first | exact absurd (show false = true from h) Bool.false_ne_true | skip
    simp only [chkE, Bool.and_eq_true] at h
    refine (pe_ix ix_seq (ha.e X s _ k h.1) (hb.e X s _ k h.2) (plainIx_of h.2)).imp fun σ H Q q => tD_bin ok_idx ?_
    simp only [evE] at q
    exact q
  · cases e <;> first | exact absurd (show false = true from h) Bool.false_ne_true | rfl
end
end Dl
set_option Elab.async false
set_option linter.all false
set_option maxRecDepth 100000
set_option maxHeartbeats 4000000
/-! The look's proof: displays, slices, calls, comprehensions. -/
namespace Dl
open PySem PySem.Spec PyProof.Rows L2
section
variable {N : List Str} {T : FnT} {lvl : Nat} {cl : Nat → List D → Option D} {X : Cx}
theorem snd_tup {es : List CE} (h : SndL N T lvl cl es) : Snd N T lvl cl (.tup es) := by
  refine .mk_e (fun X s e k hh => ?_) (fun s e h env whole => ?_) (fun s e => by cases e <;> rfl) fun d => rfl
  · cases e <;> first | exact absurd (show false = true from hh) Bool.false_ne_true | skip
    refine (pe_tup (h.a X s _ k hh)).imp fun σ H Q q => ?_
    obtain ⟨G, ρ, d, e, hd, o⟩ := q
    simp only [evE] at hd
    obtain ⟨ds, e1, hd⟩ := Option.bind_eq_some_iff.mp hd
    obtain ⟨hc, rfl⟩ := grd_some hd
    refine tDs_un e e1 fun vs H1 s1 r1 _ => ⟨by rw [← r1.length]; exact hc, fun p hp => ?_⟩
    exact out_tup r1 (o.from_ s1) p hp
  · cases e <;> first | exact absurd (show false = true from h) Bool.false_ne_true | rfl
theorem snd_lst {es : List CE} (h : SndL N T lvl cl es) : Snd N T lvl cl (.lst es) := by
  refine .mk_e (fun X s e k hh => ?_) (fun s e h env whole => ?_) (fun s e => by cases e <;> rfl) fun d => rfl
  · cases e <;> first | exact absurd (show false = true from hh) Bool.false_ne_true | skip
    refine (pe_lst (h.a X s _ k hh)).imp fun σ H Q q => ?_
    obtain ⟨G, ρ, d, e, hd, o⟩ := q
    simp only [evE] at hd
    obtain ⟨ds, e1, hd⟩ := Option.bind_eq_some_iff.mp hd
    obtain ⟨hc, rfl⟩ := grd_some hd
    refine tDs_un e e1 fun vs H1 s1 r1 _ => ⟨by rw [← r1.length]; exact hc, fun p hp => ?_⟩
    exact out_lst r1 (o.from_ s1) p hp
  · cases e <;> first | exact absurd (show false = true from h) Bool.false_ne_true | rfl
/-- a slice's end -/
def tP (K : PySem.W.Frag) (f : Rho → Option D) : TO := fun σ H Q => ∃ G ρ o, EnvR K G H σ ρ ∧ (f ρ).bind partD = some o ∧ ∀ H', Same H H' → Q o H'
theorem PO.imp {e : Option Expr} {t t' : TO} (h : PO X e t) (i : ∀ σ H Q, t' σ H Q → t σ H Q) : PO X e t' := ⟨fun pins s σ H Q I q => h.run pins s σ H Q I (i σ H Q q)⟩
theorem po_ok {c : CE} (hc : Snd N T lvl cl c) {s : Sc} (k : Cok N T lvl cl s X) {l : Option Expr} (h : (match l with | none => isNonC c | some l => chkE N T c false s l) = true) : PO X l (tP X.K (evE cl c)) := by
  cases l with
  | none =>
    refine PO.imp po_none fun σ H Q q => ?_
    obtain ⟨G, ρ, o, e, h1, kk⟩ := q
    cases c <;> simp only [isNonC, Bool.false_eq_true] at h
    simp only [evE, Option.bind_some, partD, Option.some.injEq] at h1
    subst h1
    exact kk H (Same.refl _)
  | some l =>
    refine ⟨fun pins sh σ H Q I q => ?_⟩
    obtain ⟨G, ρ, o, e, h1, kk⟩ := q
    obtain ⟨d, h2, h3⟩ := Option.bind_eq_some_iff.mp h1
    rw [evalPart_some]
    refine thn ((hc.e X s l k h).run pins sh σ H (fun v H' => Same H H' ∧ Rep X.K (Gx G H) H' d v) I (tD_un e h2 fun v H1 s1 r1 _ _ => ⟨s1, r1⟩)) fun u s1 hq => ?_
    obtain ⟨v, H1, I1, ru, ss, r1⟩ := hq
    cases d <;> simp only [partD, reduceCtorEq] at h3
    · cases h3
      cases r1
      cases ru
      exact ⟨none, H1, I1, .none, kk H1 ss⟩
    · cases h3
      cases r1
      obtain ⟨t, rfl⟩ := ru
      exact ⟨some _, H1, I1, .int _ t, kk H1 ss⟩
theorem key_slc {a lo hi : CE} : ∀ (s : Sc) (e : Expr), chkE N T (.slc a lo hi) false s e = true → ∃ x l h p p2, e = .Subscript x (.Slice l h none p2) p ∧ chkE N T a false s x = true ∧
      (match l with | none => isNonC lo | some l => chkE N T lo false s l) = true ∧ (match h with | none => isNonC hi | some h => chkE N T hi false s h) = true := by
    intro s e h
    cases e <;> first | exact absurd (show false = true from h) Bool.false_ne_true | skip
    rename_i x y p
    cases y <;> first | exact absurd (show false = true from h) Bool.false_ne_true | skip
    rename_i l h' st p2
    cases st <;> first | exact absurd (show false = true from h) Bool.false_ne_true | skip
    simp only [chkE, Bool.and_eq_true] at h
    exact ⟨x, l, h', p, p2, rfl, h.1.1, h.1.2, h.2⟩
theorem snd_slc {a lo hi : CE} (ha : Snd N T lvl cl a) (hl : Snd N T lvl cl lo) (hh : Snd N T lvl cl hi) : Snd N T lvl cl (.slc a lo hi) := by
  refine .mk_e (fun X s e k h => ?_) (fun s e h env whole => ?_) (fun s e => ?_) fun d => rfl
  · obtain ⟨x, l, h', p, p2, rfl, h1, h2, h3⟩ := key_slc s e h
    refine (pe_slice (sl_tupA.or sl_list) (ha.e X s _ k h1) (po_ok hl k h2) (po_ok hh k h3)).imp fun σ H Q q => ?_
    obtain ⟨G, ρ, d, e, hd, o⟩ := q
    simp only [evE] at hd
    obtain ⟨x, e1, hd⟩ := Option.bind_eq_some_iff.mp hd
    obtain ⟨l, e2, hd⟩ := Option.bind_eq_some_iff.mp hd
    obtain ⟨u, e3, hd⟩ := Option.bind_eq_some_iff.mp hd
    refine tD_un e e1 fun v H1 s1 r1 en _ => ⟨_, ρ, l, en, e2, fun H2 s2 => ⟨_, ρ, u, en.step s2, e3, fun H3 s3 => ?_⟩⟩
    exact ok_slice (r1.keep (Keep.same (s2.trans s3))) hd (o.from_ ((s1.trans s2).trans s3))
  · cases e <;> first | exact absurd (show false = true from h) Bool.false_ne_true | rfl
  · cases e <;> try rfl
    rename_i x y p
    cases y <;> try rfl
    rename_i l h' st p2
    cases st <;> rfl
theorem rep_rev {K : PySem.W.Frag} {G : Addr → Prop} {H : Hp} {ds : List D} {vs : List V} (r : Reps K G H ds vs) : Reps K G H ds.reverse vs.reverse := by
  induction ds generalizing vs with
  | nil => cases r; exact rfl
  | cons d ds ih =>
    obtain ⟨v, w, rfl, h1, h2⟩ := r
    rw [List.reverse_cons, List.reverse_cons]
    exact (ih h2).append ⟨v, [], rfl, h1, rfl⟩
theorem key_rev {a : CE} : ∀ (s : Sc) (e : Expr), chkE N T (.rev a) false s e = true → ∃ x k p1 p2 p3 p, e = .Subscript x (.Slice none none (some (.UnaryOp .USub (.Constant (.int 1) k p1) p2)) p3) p ∧ chkE N T a false s x = true := by
  intro s e h
  cases e <;> first | exact absurd (show false = true from h) Bool.false_ne_true | skip
  rename_i x y p
  cases y <;> first | exact absurd (show false = true from h) Bool.false_ne_true | skip
  rename_i l h' st p2
  cases l <;> first | exact absurd (show false = true from h) Bool.false_ne_true | skip
  cases h' <;> first | exact absurd (show false = true from h) Bool.false_ne_true | skip
  cases st <;> first | exact absurd (show false = true from h) Bool.false_ne_true | skip
  rename_i z
  cases z <;> first | exact absurd (show false = true from h) Bool.false_ne_true | skip
  rename_i op c p4
  cases c <;> first | exact absurd (show false = true from h) Bool.false_ne_true | skip
  simp only [chkE, Bool.and_eq_true, decide_eq_true_eq] at h
  obtain ⟨⟨rfl, rfl⟩, h⟩ := h
  exact ⟨_, _, _, _, _, _, rfl, h⟩
theorem snd_rev {a : CE} (ha : Snd N T lvl cl a) : Snd N T lvl cl (.rev a) := by
  refine .mk_e (fun X s e k h => ?_) (fun s e h env whole => ?_) (fun s e => ?_) fun d => rfl
  · obtain ⟨x, kk, p1, p2, p3, p, rfl, h1⟩ := key_rev s e h
    refine (pe_revD (ha.e X s _ k h1)).imp fun σ H Q q => ?_
    obtain ⟨G, ρ, d, e, hd, o⟩ := q
    simp only [evE] at hd
    obtain ⟨x, e1, hd⟩ := Option.bind_eq_some_iff.mp hd
    refine tD_un e e1 fun v H1 s1 r1 en _ => ?_
    cases x <;> simp only [revD, reduceCtorEq, Option.some.injEq] at hd
    · subst hd
      obtain ⟨b, vs, rfl, sb, rr⟩ := r1
      exact ⟨b, vs, rfl, .inl ⟨sb, out_tup (rep_rev rr) (o.from_ s1)⟩⟩
    · subst hd
      obtain ⟨b, vs, rfl, gb, sb, rr⟩ := r1
      exact ⟨b, vs, rfl, .inr ⟨SqL.of sb, out_lst (rep_rev rr) (o.from_ s1)⟩⟩
  · cases e <;> first | exact absurd (show false = true from h) Bool.false_ne_true | rfl
  · cases e <;> try rfl
    rename_i x y p
    cases y <;> try rfl
    rename_i l h' st p2
    cases l <;> try rfl
    cases h' <;> try rfl
    cases st <;> try rfl
    rename_i z
    cases z <;> try rfl
    rename_i op c p4
    cases c <;> rfl
theorem snd_call (f : Nat) {es : List CE} (h : SndL N T lvl cl es) : Snd N T lvl cl (.call f es) := by
  have hk : ∀ b s e, chkE N T (.call f es) b s e = (match e with | .Call (.Name x _) xs [] _ => glB s.sc x && okName x && (match T.l[f]? with | some fi => decide (fi.name = x) | none => false) && chkEs N T es s xs | _ => false) := fun b s e => by
    cases e <;> try rfl
    rename_i fn xs kw p
    cases fn <;> try rfl
    cases kw <;> rfl
  refine .mk_e (fun X s e k hh => ?_) (fun s e h env whole => ?_) (fun s e => by rw [hk, hk]) fun d => rfl
  · rw [hk] at hh
    split at hh
    · rename_i x p xs pos
      simp only [Bool.and_eq_true] at hh
      obtain ⟨⟨⟨h1, h2⟩, h3⟩, h4⟩ := hh
      cases hf : T.l[f]? with
      | none => rw [hf] at h3; cases h3
      | some fi =>
        rw [hf] at h3
        have := of_decide_eq_true h3
        subst this
        obtain ⟨a, fd, m1, m2, m3, m4⟩ := k.fns f fi hf
        obtain ⟨n1, _, _⟩ := okName_of h2
        have hrd : ∀ (σ : L2.St) (H : Hp) (Q : VK), tD X.K (freshB (.call f es)) (evE cl (.call f es)) σ H Q → tCall (spD X.K fi.ps.length (cl f)) [] E0 (tDs X.K (evEs cl es)) σ H Q := by
          intro σ H Q q
          obtain ⟨G, ρ, d, e, hd, o⟩ := q
          simp only [evE] at hd
          obtain ⟨ds, e1, hd⟩ := Option.bind_eq_some_iff.mp hd
          refine tDs_un e e1 fun vs H1 s1 r1 en => ?_
          rw [List.append_nil]
          by_cases hl : vs.length = fi.ps.length
          · exact ⟨hl, en.tb, _, ds, d, r1, hd, fun v H' s' r' => o v H' (s1.trans s') (r'.mono fun _ h => Gx.same s1 h) fun z => by cases z⟩
          · exact (hl (k.arity f fi hf ds d hd ▸ r1.length.symm)).elim
        cases xs with
        | nil =>
          refine (pe_call0 m4 k.room (k.gl h1) m1 m2 m3 .nil pass0 n1).imp fun σ H Q q => ?_
          have := hrd σ H Q q
          cases es with
          | nil =>
            obtain ⟨G, ρ, ds, e, e1, o⟩ := this
            simp only [evEs, Option.some.injEq] at e1
            subst e1
            exact o [] H (Same.refl _) rfl
          | cons c cs => simp [chkEs] at h4
        | cons x xs =>
          have hs : starEach (x :: xs) X.env = (false, eval x X.env) :: starEach xs X.env := by
            cases es with
            | nil => simp [chkEs] at h4
            | cons c cs =>
              simp only [chkEs, Bool.and_eq_true] at h4
              exact star_of h4.1 _ _
          have hp : (backTo pos (starEach xs X.env)).any (·.1) = false := by
            cases es with
            | nil => simp [chkEs] at h4
            | cons c cs =>
              simp only [chkEs, Bool.and_eq_true] at h4
              exact nostars h4.2 _ _
          exact (pe_call m4 k.room (k.gl h1) m1 m2 m3 .nil pass0 (h.a X s _ k h4) n1 hs hp).imp hrd
    · cases hh
  · rw [hk] at h
    split at h
    · rfl
    · cases h
theorem snd_bi (b : BI) {es : List CE} (h : SndL N T lvl cl es) : Snd N T lvl cl (.bi b es) := by
  have hk : ∀ f s e, chkE N T (.bi b es) f s e = (match e with | .Call (.Name x _) (y :: ys) [] _ => glB s.sc x && decide (x = biName b) && chkEs N T es s (y :: ys) | _ => false) := fun f s e => by
    cases e <;> try rfl
    rename_i fn xs kw p
    cases fn <;> try rfl
    cases xs <;> try rfl
    cases kw <;> rfl
  refine .mk_e (fun X s e k hh => ?_) (fun s e h env whole => ?_) (fun s e => by rw [hk, hk]) fun d => by cases d <;> rfl
  · rw [hk] at hh
    split at hh
    · rename_i x p y ys pos
      simp only [Bool.and_eq_true, decide_eq_true_eq] at hh
      obtain ⟨⟨h1, rfl⟩, h4⟩ := hh
      have hs : starEach (y :: ys) X.env = (false, eval y X.env) :: starEach ys X.env := by
        cases es with
        | nil => simp [chkEs] at h4
        | cons c cs =>
          simp only [chkEs, Bool.and_eq_true] at h4
          exact star_of h4.1 _ _
      have hp : (backTo pos (starEach ys X.env)).any (·.1) = false := by
        cases es with
        | nil => simp [chkEs] at h4
        | cons c cs =>
          simp only [chkEs, Bool.and_eq_true] at h4
          exact nostars h4.2 _ _
      have hrd : ∀ (σ : L2.St) (H : Hp) (Q : VK), tD X.K (freshB (.bi b es)) (evE cl (.bi b es)) σ H Q → tCB (rF X.K (b == .list || b == .sorted) (biD b)) (tDs X.K (evEs cl es)) σ H Q := by
        intro σ H Q q
        obtain ⟨G, ρ, d, e, hd, o⟩ := q
        simp only [evE] at hd
        obtain ⟨ds, e1, hd⟩ := Option.bind_eq_some_iff.mp hd
        exact tDs_un e e1 fun vs H1 s1 r1 _ => ⟨_, ds, d, r1, hd, o.from_ s1⟩
      have hm : X.mg (biName b) = none := k.free _ (by cases b <;> simp [biName, bnames])
      have hn : biName b ≠ "__name__" := by cases b <;> decide
      have hd : (biName b == ("__debug__" : Str)) = false := by cases b <;> decide
      have hc := bi_ok (X := X) k.calm k.hu b
      have hv := boot_of b
      cases hb : biVal b with
      | builtin id =>
        rw [hb] at hc hv
        exact (pe_callB hc (k.gl h1) hm hv (h.a X s _ k h4) hn hd hs hp).imp hrd
      | type id =>
        rw [hb] at hc hv
        exact (pe_callTy hc (k.gl h1) hm hv (h.a X s _ k h4) hn hd hs hp).imp hrd
      | _ => cases b <;> cases hb
    · cases hh
  · rw [hk] at h
    split at h
    · rfl
    · cases h
theorem snd_isi (t : TY) {a : CE} (h : Snd N T lvl cl a) : Snd N T lvl cl (.isi t a) := by
  have hk : ∀ f s e, chkE N T (.isi t a) f s e = (match e with | .Call (.Name x _) [y, .Name z _] [] _ => glB s.sc x && decide (x = "isinstance") && glB s.sc z && decide (z = tyN t) && chkE N T a false s y | _ => false) := fun f s e => by
    cases e <;> try rfl
    rename_i fn xs kw p
    cases fn <;> try rfl
    rcases xs with _ | ⟨x, _ | ⟨y, _ | ⟨z, xs⟩⟩⟩ <;> try rfl
    all_goals (cases y <;> try rfl)
    all_goals (cases kw <;> rfl)
  refine .mk_e (fun X s e k hh => ?_) (fun s e h env whole => ?_) (fun s e => by rw [hk, hk]) fun d => rfl
  · rw [hk] at hh
    split at hh
    · rename_i x p y z p2 pos
      simp only [Bool.and_eq_true, decide_eq_true_eq] at hh
      obtain ⟨⟨⟨⟨h1, rfl⟩, h2⟩, rfl⟩, h4⟩ := hh
      have hT : PE X (.Name (tyN t) p2) (tC (.ty (tyS t))) := by
        refine pe_bltn (k.gl h2) (k.free _ (by cases t <;> simp [tyN, bnames])) (u := .type (tyS t)) (by cases t <;> decide +kernel) rfl (by cases t <;> decide) (by cases t <;> decide)
      have hC : CallR X (.builtin "isinstance") (fun vs H Q => ∃ (v : V) (G : Addr → Prop) (d : D), vs = [v, .ty (tyS t)] ∧ Rep X.K G H d v ∧ Q (.bl (isiD t d)) H) := by
        intro pins sh σ H vs us Q I r q
        obtain ⟨v, G, d, rfl, rd, q⟩ := q
        obtain ⟨u, u2, rfl, r1, r2⟩ := vals2 r
        cases r2
        exact bi_isi t I rd r1 q
      refine (pe_callB hC (k.gl h1) (k.free _ (by simp [bnames])) (by decide +kernel) (pa_cons (h.e X s y k h4) (pa_cons hT pa_nil) (star_of h4 _ _)) (by decide) (by decide) (star_of h4 _ _) rfl).imp fun σ H Q q => ?_
      obtain ⟨G, ρ, d, e, hd, o⟩ := q
      simp only [evE] at hd
      obtain ⟨x, e1, rfl⟩ := Option.map_eq_some_iff.mp hd
      exact tD_un e e1 fun v H1 s1 r1 _ _ => ⟨v, _, x, rfl, r1, out_bl (o.from_ s1)⟩
    · cases hh
  · rw [hk] at h
    split at h
    · rfl
    · cases h
/-! ### l.index(x) -/
theorem notCall0_of {o : Expr} (h : notCall0 o = true) (at_ : Str) (env : Env) (whole : Sem Value) : attributeBase o at_ env whole = whole := by
  cases o <;> try rfl
  rename_i f xs kw p
  cases f <;> try rfl
  cases xs <;> try rfl
  cases kw <;> first | rfl | cases h
theorem idx_first (ns : List Int) (i : Int) (h : i ∈ ns) : (ns.map V.int)[ns.idxOf i]? = some (V.int i) ∧ ∀ (m : Nat) (z' : V), m < ns.idxOf i → (ns.map V.int)[m]? = some z' → eqV z' (.int i) = false := by
  have hl : ns.idxOf i < ns.length := List.idxOf_lt_length_iff.mpr h
  refine ⟨by rw [List.getElem?_map, List.getElem?_eq_getElem hl, List.getElem_idxOf hl]; rfl, fun m z' hm hz => ?_⟩
  rw [List.getElem?_map] at hz
  obtain ⟨y, hy, rfl⟩ := Option.map_eq_some_iff.mp hz
  have h1 : m < ns.length := (List.getElem?_eq_some_iff.mp hy).1
  have h2 : ns[m] = y := (List.getElem?_eq_some_iff.mp hy).2
  have h3 := List.not_of_lt_findIdx (p := (· == i)) (xs := ns) (i := m) hm
  rw [h2] at h3
  show (y == i) = false
  simpa using h3
theorem reps_ints {K : PySem.W.Frag} {G : Addr → Prop} {H : Hp} : ∀ ns : List Int, Reps K G H (ns.map D.int) (ns.map V.int)
  | [] => rfl
  | n :: ns => ⟨.int n, ns.map V.int, rfl, rfl, reps_ints ns⟩
theorem snd_lidx {a b : CE} (ha : Snd N T lvl cl a) (hb : Snd N T lvl cl b) : Snd N T lvl cl (.lidx a b) := by
  have hk : ∀ f s e, chkE N T (.lidx a b) f s e = (match e with | .Call (.Attribute x at_ ap) [y] [] cp => decide (at_ = "index") && (ap.endLine == cp.line) && notCall0 x && chkE N T a false s x && chkE N T b false s y | _ => false) := fun f s e => by
    cases e <;> try rfl
    rename_i fn xs kw p
    cases fn <;> try rfl
    rcases xs with _ | ⟨x, _ | ⟨y, xs⟩⟩ <;> try rfl
    all_goals (cases kw <;> rfl)
  refine .mk_e (fun X s e k hh => ?_) (fun s e h env whole => ?_) (fun s e => by rw [hk, hk]) fun d => rfl
  · rw [hk] at hh
    split at hh
    · rename_i x at_ ap y cp
      simp only [Bool.and_eq_true, decide_eq_true_eq] at hh
      obtain ⟨⟨⟨⟨rfl, h5⟩, h1⟩, h2⟩, h3⟩ := hh
      have hs := star_of h3 [] X.env
      refine (pe_bm PySem.F.plainAttrs_list PySem.F.slot_list_index PySem.F.type_list_index mt_index (ha.e X s x k h2) (pa_cons (hb.e X s y k h3) pa_nil hs) (notCall0_of h1 _ _ _) (by rw [hs]; rfl) h5 hs rfl).imp fun σ H Q q => ?_
      obtain ⟨G, ρ, d, e, hd, o⟩ := q
      simp only [evE] at hd
      obtain ⟨x, e1, hd⟩ := Option.bind_eq_some_iff.mp hd
      obtain ⟨y, e2, hd⟩ := Option.bind_eq_some_iff.mp hd
      cases x <;> simp only [lidxD, reduceCtorEq] at hd
      rename_i l
      cases y <;> simp only [lidxD, reduceCtorEq] at hd
      rename_i i
      obtain ⟨ns, hn, hd⟩ := Option.bind_eq_some_iff.mp hd
      obtain ⟨hin, rfl⟩ := grd_some hd
      refine tD_un e e1 fun v H1 s1 r1 en _ => ?_
      obtain ⟨p, vs, rfl, g, hp, rr⟩ := r1
      refine ⟨.inl ⟨rfl, vs, SqL.of hp⟩, tD_un en e2 fun w H2 s2 r2 _ _ => ?_⟩
      cases r2
      have hvs : vs = ns.map V.int := rr.ints hn
      subst hvs
      obtain ⟨i1, i2⟩ := idx_first ns i hin
      exact ⟨p, _, _, _, _, rfl, rfl, SqL.of (s2.lst hp), rfl, by simp [flatV], i1, by simp [eqV], i2, out_int (o.from_ (s1.trans s2))⟩
    · cases hh
  · rw [hk] at h
    split at h
    · rfl
    · cases h
/-- what a set is made of -/
theorem set_of {X : Cx} {H : Hp} {v : V} {x : D} {l : List D} {G : Addr → Prop} (r : Rep X.K G H x v) (h : ssetD x = some l) {Q : V → Hp → Prop}
    (q1 : ∀ (ns : List Int) (p : Addr), l = (sset ns).map .int → (sset ns).length < 64 → H p = none → Q (.ref p) (upd H p (SetO X.w p (fun j => decide (j ∈ ns)) (sset ns).length)))
    (q2 : ∀ (ks : List (List Int)) (L : List (Addr × List Int)) (p : Addr), l = (ssetT ks).map intT → (∀ p ∈ L, SqT X.K H p.1 (p.2.map V.int)) → (∀ k, k ∈ L.map (·.2) ↔ k ∈ ks) → ks.length < 64 → H p = none → Q (.ref p) (upd H p (SetTO X.prog X.w p L))) : rSetI X.K X.w [v] H Q ∨ rSetOfT X.K X.prog X.w [v] H Q ∨ rSetTT X.K X.prog X.w [v] H Q := by
  have ofI : ∀ ns : List Int, (∃ a, v = V.ref a ∧ (SqL X.K H a (ns.map V.int) ∨ SqT X.K H a (ns.map V.int))) → ns.length ≤ 1000 → (sset ns).length < 64 → l = (sset ns).map .int → rSetI X.K X.w [v] H Q := by
    rintro ns ⟨a, rfl, hs⟩ z1 z2 rfl
    exact ⟨a, ns, rfl, hs, z1, fun p hp => q1 ns p rfl z2 hp⟩
  have key : ∀ (m : List D) (vs : List V) (ks : List (List Int)), Reps X.K G H m vs → tupsOf m = some ks → ∃ L : List (Addr × List Int), vs = L.map (fun q => V.ref q.1) ∧ L.map (·.2) = ks ∧ ∀ q ∈ L, SqT X.K H q.1 (q.2.map V.int) := fun m => by
    induction m with
    | nil =>
      intro vs ks r e
      cases e
      exact ⟨[], r, rfl, fun q hq => nomatch hq⟩
    | cons d m ih =>
      intro vs ks r e
      obtain ⟨v, us, rfl, r1, r2⟩ := r
      have e : (tupOfI d).bind (fun x => (tupsOf m).map fun xs => x :: xs) = some ks := e
      obtain ⟨k, e1, e⟩ := Option.bind_eq_some_iff.mp e
      obtain ⟨ks', e2, rfl⟩ := Option.map_eq_some_iff.mp e
      cases d <;> simp only [tupOfI, reduceCtorEq] at e1
      obtain ⟨b, ws, rfl, hb, rr⟩ := r1
      have hw : ws = k.map V.int := rr.ints e1
      subst hw
      obtain ⟨L, l1, l2, l3⟩ := ih us ks' r2 e2
      refine ⟨(b, k) :: L, by rw [List.map_cons, l1], by rw [List.map_cons, l2], fun q hq => ?_⟩
      rcases List.mem_cons.mp hq with rfl | hq
      · exact hb
      · exact l3 q hq
  have fin : ∀ (L : List (Addr × List Int)) (ks : List (List Int)), L.map (·.2) = ks → (∀ q ∈ L, SqT X.K H q.1 (q.2.map V.int)) → ks.length < 64 → l = (ssetT ks).map intT → ∀ (a : Addr) (L' : List (Addr × List Int)), H a = none → (∀ p ∈ L', p ∈ L) → (∀ p ∈ L, p.2 ∈ L'.map (·.2)) → Q (.ref a) (upd H a (SetTO X.prog X.w a L')) := fun L ks l2 l3 z1 e a L' ha h1 h2 => by
    refine q2 ks L' a e (fun q hq => l3 q (h1 q hq)) (fun k => ⟨fun hk => ?_, fun hk => ?_⟩) z1 ha
    · obtain ⟨q, hq, rfl⟩ := List.mem_map.mp hk
      rw [← l2]
      exact List.mem_map.mpr ⟨q, h1 q hq, rfl⟩
    · rw [← l2] at hk
      obtain ⟨q, hq, rfl⟩ := List.mem_map.mp hk
      exact h2 q hq
  cases x <;> simp only [ssetD, reduceCtorEq] at h
  · rename_i m
    obtain ⟨p, vs, rfl, hp, rr⟩ := r
    cases hn : intsOf m with
    | some ns =>
      rw [hn] at h
      obtain ⟨⟨z1, z2⟩, rfl⟩ := grd_some h
      have hvs : vs = ns.map V.int := rr.ints hn
      subst hvs
      exact .inl (ofI ns ⟨p, rfl, .inr hp⟩ z1 z2 rfl)
    | none =>
      rw [hn] at h
      obtain ⟨ks, hk, h⟩ := Option.bind_eq_some_iff.mp h
      obtain ⟨z1, rfl⟩ := grd_some h
      obtain ⟨L, l1, l2, l3⟩ := key m vs ks rr hk
      subst l1
      have ll : L.length = ks.length := by rw [← l2, List.length_map]
      exact .inr (.inr ⟨p, L, rfl, hp, l3, by omega, fin L ks l2 l3 z1 rfl⟩)
  · rename_i m
    obtain ⟨p, vs, rfl, g, hp, rr⟩ := r
    cases hn : intsOf m with
    | some ns =>
      rw [hn] at h
      obtain ⟨⟨z1, z2⟩, rfl⟩ := grd_some h
      have hvs : vs = ns.map V.int := rr.ints hn
      subst hvs
      exact .inl (ofI ns ⟨p, rfl, .inl (SqL.of hp)⟩ z1 z2 rfl)
    | none =>
      rw [hn] at h
      obtain ⟨ks, hk, h⟩ := Option.bind_eq_some_iff.mp h
      obtain ⟨z1, rfl⟩ := grd_some h
      obtain ⟨L, l1, l2, l3⟩ := key m vs ks rr hk
      subst l1
      have ll : L.length = ks.length := by rw [← l2, List.length_map]
      exact .inr (.inl ⟨p, L, rfl, SqL.of hp, l3, by omega, fin L ks l2 l3 z1 rfl⟩)
theorem cr_or {X : Cx} {f : Value} {r r' : List V → Hp → VK → Prop} (h : CallR X f r) (h' : CallR X f r') : CallR X f (fun vs H Q => r vs H Q ∨ r' vs H Q) := fun pins s σ H vs us Q I rv z => z.elim (h pins s σ H vs us Q I rv) (h' pins s σ H vs us Q I rv)
theorem reps_tups {K : PySem.W.Frag} {G : Addr → Prop} {H : Hp} : ∀ L : List (Addr × List Int), (∀ p ∈ L, SqT K H p.1 (p.2.map V.int)) → Reps K G H ((L.map (·.2)).map intT) (L.map fun q => V.ref q.1)
  | [], _ => rfl
  | q :: L, h => ⟨V.ref q.1, _, rfl, ⟨q.1, _, rfl, h q (List.mem_cons_self ..), reps_ints _⟩, reps_tups L fun p hp => h p (List.mem_cons_of_mem _ hp)⟩
theorem same_free {H H1 : Hp} (s : Same H H1) {p : Addr} (h : H1 p = none) : H p = none := s.free h
theorem pwT_perm_len {L : List (List Int)} {ks : List (List Int)} (h : L.Nodup) (e : ∀ k, k ∈ L ↔ k ∈ ks) : L.length = (ssetT ks).length := by
  refine List.Perm.length_eq ((List.perm_ext_iff_of_nodup h (ssetT_nodup ks)).mpr fun k => ?_)
  rw [e, mem_ssetT]
theorem key_set {a : CE} {nm : Str} (c : CE) (hc : c = .ssor a ∧ nm = "sorted" ∨ c = .slen a ∧ nm = "len") : ∀ f s e, chkE N T c f s e = (match e with | .Call (.Name x _) [.Call (.Name y _) [z] [] _] [] _ => glB s.sc x && decide (x = nm) && glB s.sc y && decide (y = "set") && chkE N T a false s z | _ => false) := fun f s e => by
  rcases hc with ⟨rfl, rfl⟩ | ⟨rfl, rfl⟩
  all_goals
    cases e <;> try rfl
    rename_i fn xs kw p
    cases fn <;> try rfl
    rcases xs with _ | ⟨x, _ | ⟨y, xs⟩⟩ <;> try rfl
    all_goals (cases kw <;> try rfl)
    all_goals (cases x <;> try rfl)
    all_goals first
      | rfl
      | (rename_i fc xc kc pc; cases fc <;> first
          | rfl
          | (rcases xc with _ | ⟨z, _ | ⟨z2, xc⟩⟩ <;> first
              | rfl
              | (cases kc <;> rfl)))
theorem snd_ssor {a : CE} (ha : Snd N T lvl cl a) : Snd N T lvl cl (.ssor a) := by
  have hk := key_set (N := N) (T := T) (a := a) (nm := "sorted") (.ssor a) (.inl ⟨rfl, rfl⟩)
  refine .mk_e (fun X s e k hh => ?_) (fun s e h env whole => ?_) (fun s e => by rw [hk, hk]) fun d => rfl
  · rw [hk] at hh
    split at hh
    · rename_i x p1 y p2 z pos2 pos1
      simp only [Bool.and_eq_true, decide_eq_true_eq] at hh
      obtain ⟨⟨⟨⟨h1, rfl⟩, h2⟩, rfl⟩, h3⟩ := hh
      have hs := star_of h3 [] X.env
      have hu := k.hu
      have inner := pe_callTy (X := X) (p := p2) (pos := pos2) (cr_or (cr_setI k.calm) (cr_or (cr_setOfT k.calm (by omega)) (cr_setTT k.calm (by omega)))) (k.gl h2) (k.free "set" (by simp [bnames])) (by decide +kernel) (pa_cons (ha.e X s z k h3) pa_nil hs) (by decide) (by decide) hs rfl
      refine (pe_callB (X := X) (cr_or (cr_sortedSet k.calm) (cr_sortedG k.calm hu)) (k.gl h1) (k.free "sorted" (by simp [bnames])) (by decide +kernel) (pa_cons inner pa_nil rfl) (by decide) (by decide) rfl rfl).imp fun σ H Q q => ?_
      obtain ⟨G, ρ, d, e, hd, o⟩ := q
      simp only [evE] at hd
      obtain ⟨x, e1, hd⟩ := Option.bind_eq_some_iff.mp hd
      obtain ⟨l, e2, rfl⟩ := Option.map_eq_some_iff.mp hd
      refine tD_un e e1 fun v H1 s1 r1 en _ => ?_
      refine set_of r1 e2 (fun ns p e3 z2 hp => .inl ⟨p, _, _, rfl, upd_same, z2, fun ms p' m1 m2 m3 hp' => ?_⟩) fun ks L p e3 hL hm z1 hp => .inr ⟨p, L, rfl, upd_same, fun q hq => ?_, fun L' p' m1 m2 hp' => ?_⟩
      · have hne : p' ≠ p := fun z => by
          rw [z, upd_same] at hp'
          cases hp'
        have em : ms = sset ns := sset_eq m1 fun x => by rw [m2, decide_eq_true_eq]
        subst em
        have hp1 : H1 p' = none := by
          rw [← hp']
          exact (upd_ne hne).symm
        have hp0 : H p' = none := s1.free hp1
        refine o _ _ ((s1.trans (same_new hp)).trans (same_new hp')) ⟨p', _, rfl, .inr hp0, upd_same, by rw [e3]; exact reps_ints _⟩ fun _ l hl b hb => by
          cases hb
          exact hp0
      · exact sqT_keep (P := fun _ => False) (Keep.same (same_new hp)) (hL q hq)
      · have hne : p' ≠ p := fun z => by
          rw [z, upd_same] at hp'
          cases hp'
        have hp1 : H1 p' = none := by
          rw [← hp']
          exact (upd_ne hne).symm
        have hp0 : H p' = none := s1.free hp1
        have em : L'.map (·.2) = ssetT ks := ssetT_eq m2 fun x => by rw [← hm, (m1.map (·.2)).mem_iff]
        refine o _ _ ((s1.trans (same_new hp)).trans (same_new hp')) ⟨p', _, rfl, .inr hp0, upd_same, ?_⟩ fun _ l hl b hb => by
          cases hb
          exact hp0
        rw [e3, ← em]
        exact reps_tups L' fun q hq => sqT_keep (P := fun _ => False) (Keep.same (same_new hp')) (sqT_keep (P := fun _ => False) (Keep.same (same_new hp)) (hL q (m1.mem_iff.mp hq)))
    · cases hh
  · rw [hk] at h
    split at h
    · rfl
    · cases h
theorem snd_slen {a : CE} (ha : Snd N T lvl cl a) : Snd N T lvl cl (.slen a) := by
  have hk := key_set (N := N) (T := T) (a := a) (nm := "len") (.slen a) (.inr ⟨rfl, rfl⟩)
  refine .mk_e (fun X s e k hh => ?_) (fun s e h env whole => ?_) (fun s e => by rw [hk, hk]) fun d => rfl
  · rw [hk] at hh
    split at hh
    · rename_i x p1 y p2 z pos2 pos1
      simp only [Bool.and_eq_true, decide_eq_true_eq] at hh
      obtain ⟨⟨⟨⟨h1, rfl⟩, h2⟩, rfl⟩, h3⟩ := hh
      have hs := star_of h3 [] X.env
      have hu := k.hu
      have inner := pe_callTy (X := X) (p := p2) (pos := pos2) (cr_or (cr_setI k.calm) (cr_or (cr_setOfT k.calm (by omega)) (cr_setTT k.calm (by omega)))) (k.gl h2) (k.free "set" (by simp [bnames])) (by decide +kernel) (pa_cons (ha.e X s z k h3) pa_nil hs) (by decide) (by decide) hs rfl
      refine (pe_callB (X := X) (cr_lenSet (X := X)) (k.gl h1) (k.free "len" (by simp [bnames])) (by decide +kernel) (pa_cons inner pa_nil rfl) (by decide) (by decide) rfl rfl).imp fun σ H Q q => ?_
      obtain ⟨G, ρ, d, e, hd, o⟩ := q
      simp only [evE] at hd
      obtain ⟨x, e1, hd⟩ := Option.bind_eq_some_iff.mp hd
      obtain ⟨l, e2, rfl⟩ := Option.map_eq_some_iff.mp hd
      refine tD_un e e1 fun v H1 s1 r1 en _ => ?_
      refine set_of r1 e2 (Q := fun v H2 => rLenSet X.prog X.w [v] H2 Q) (fun ns p e3 z2 hp => ⟨p, rfl, .inl ⟨_, _, upd_same, ?_⟩⟩) fun ks L p e3 hL hm z1 hp => ⟨p, rfl, .inr ⟨L, upd_same, fun nd => ?_⟩⟩
      · refine o _ _ (s1.trans (same_new hp)) ?_ fun z => by cases z
        rw [e3, List.length_map]
        rfl
      · refine o _ _ (s1.trans (same_new hp)) ?_ fun z => by cases z
        have := pwT_perm_len nd hm
        rw [List.length_map] at this
        rw [e3, List.length_map, ← this]
        rfl
    · cases hh
  · rw [hk] at h
    split at h
    · rfl
    · cases h
end
end Dl
set_option Elab.async false
set_option linter.all false
set_option maxRecDepth 100000
set_option maxHeartbeats 4000000
/-! The look's proof: comprehensions and what is walked. -/
namespace Dl
open PySem PySem.Spec PyProof.Rows L2
/-! ### slots stored and forgotten -/
theorem setAll_length (σ : L2.St) : ∀ ws : List (Nat × V), (setAll σ ws).length = σ.length
  | [] => rfl
  | w :: ws => by
    show (setAll (σ.set w.1 (some w.2)) ws).length = _
    rw [setAll_length, List.length_set]
theorem putAll_length (ρ : Rho) : ∀ ws : List (Nat × D), (putAll ρ ws).length = ρ.length
  | [] => rfl
  | w :: ws => by
    show (putAll (ρ.set w.1 (some w.2)) ws).length = _
    rw [putAll_length, List.length_set]
theorem wipeD_length (ρ : Rho) : ∀ vs : List Nat, (wipeD ρ vs).length = ρ.length
  | [] => rfl
  | v :: vs => by unfold wipeD; rw [List.length_set, wipeD_length ρ vs]
theorem EnvR.set {K : PySem.W.Frag} {G : Addr → Prop} {H : Hp} {σ : L2.St} {ρ : Rho} (e : EnvR K G H σ ρ) {d : D} {v : V} (i : Nat) (r : Rep K G H d v) : EnvR K G H (σ.set i (some v)) (ρ.set i (some d)) := by
  refine ⟨by rw [List.length_set, List.length_set, e.1], fun j x h => ?_, e.tb⟩
  by_cases hj : i = j
  · subst hj
    by_cases hi : i < ρ.length
    · rw [List.getElem?_set_self hi] at h
      cases h
      exact ⟨v, by rw [List.getElem?_set_self (by rw [e.1]; exact hi)], r⟩
    · rw [List.getElem?_eq_none (by simpa using hi)] at h; cases h
  · rw [List.getElem?_set_ne hj] at h
    obtain ⟨w, h1, h2⟩ := e.2 j x h
    exact ⟨w, by rw [List.getElem?_set_ne hj]; exact h1, h2⟩
theorem EnvR.unset {K : PySem.W.Frag} {G : Addr → Prop} {H : Hp} {σ : L2.St} {ρ : Rho} (e : EnvR K G H σ ρ) (i : Nat) : EnvR K G H (σ.set i none) (ρ.set i none) := by
  refine ⟨by rw [List.length_set, List.length_set, e.1], fun j x h => ?_, e.tb⟩
  by_cases hj : i = j
  · subst hj
    by_cases hi : i < ρ.length
    · rw [List.getElem?_set_self hi] at h; cases h
    · rw [List.getElem?_eq_none (by simpa using hi)] at h; cases h
  · rw [List.getElem?_set_ne hj] at h
    obtain ⟨w, h1, h2⟩ := e.2 j x h
    exact ⟨w, by rw [List.getElem?_set_ne hj]; exact h1, h2⟩
theorem EnvR.wipe {K : PySem.W.Frag} {G : Addr → Prop} {H : Hp} {σ : L2.St} {ρ : Rho} (e : EnvR K G H σ ρ) : ∀ vs : List Nat, EnvR K G H (wipe σ vs) (wipeD ρ vs)
  | [] => e
  | v :: vs => by
    unfold L2.wipe wipeD
    exact (EnvR.wipe e vs).unset v
theorem EnvR.putAll {K : PySem.W.Frag} {G : Addr → Prop} {H : Hp} : ∀ {bs : List (Nat × D)} {ws : List (Nat × V)} {σ : L2.St} {ρ : Rho}, EnvR K G H σ ρ → BindR K G H bs ws → EnvR K G H (setAll σ ws) (putAll ρ bs)
  | _, _, σ, ρ, e, .nil => e
  | b :: bs, w :: ws, σ, ρ, e, .cons ⟨h1, h2⟩ t => by
    show EnvR K G H (setAll (σ.set w.1 (some w.2)) ws) (Dl.putAll (ρ.set b.1 (some b.2)) bs)
    rw [h1]
    exact EnvR.putAll (e.set w.1 h2) t
mutual
theorem binds_slots : ∀ {t : Tg} {d : D} {bs : List (Nat × D)}, t.binds d = some bs → ∀ p ∈ bs, p.1 ∈ t.slots
  | .nm i, d, bs, h, p, hp => by
    simp only [Tg.binds, Option.some.injEq] at h
    subst h
    rw [List.mem_singleton.mp hp]
    simp [Tg.slots]
  | .tp l, d, bs, h, p, hp => by
    cases d <;> simp only [Tg.binds, reduceCtorEq] at h
    all_goals
      simp only [Tg.slots]
      exact bindsL_slots h p hp
theorem bindsL_slots : ∀ {t : List Tg} {d : List D} {bs : List (Nat × D)}, tgBinds t d = some bs → ∀ p ∈ bs, p.1 ∈ tgSlots t
  | [], [], bs, h, p, hp => by
    simp only [tgBinds, Option.some.injEq] at h
    subst h
    cases hp
  | [], d :: ds, bs, h, p, hp => by simp [tgBinds] at h
  | t :: r, [], bs, h, p, hp => by simp [tgBinds] at h
  | t :: r, d :: ds, bs, h, p, hp => by
    simp only [tgBinds] at h
    obtain ⟨a, h1, h⟩ := Option.bind_eq_some_iff.mp h
    obtain ⟨b, h2, rfl⟩ := Option.map_eq_some_iff.mp h
    simp only [tgSlots, List.mem_append]
    rcases List.mem_append.mp hp with hp | hp
    · exact .inl (binds_slots h1 p hp)
    · exact .inr (bindsL_slots h2 p hp)
end
theorem bindR_slots {K : PySem.W.Frag} {G : Addr → Prop} {H : Hp} : ∀ {bs : List (Nat × D)} {ws : List (Nat × V)}, BindR K G H bs ws → ∀ p ∈ ws, ∃ q ∈ bs, q.1 = p.1
  | _, _, .nil, p, hp => nomatch hp
  | b :: bs, w :: ws, .cons ⟨h1, _⟩ t, p, hp => by
    rcases List.mem_cons.mp hp with rfl | hp
    · exact ⟨b, List.mem_cons_self, h1⟩
    · obtain ⟨q, h2, h3⟩ := bindR_slots t p hp
      exact ⟨q, List.mem_cons_of_mem _ h2, h3⟩
theorem wipe_get (σ : L2.St) (i : Nat) : ∀ vs : List Nat, (wipe σ vs)[i]? = if i ∈ vs ∧ i < σ.length then some none else σ[i]?
  | [] => by simp [L2.wipe]
  | v :: vs => by
    unfold L2.wipe
    by_cases h : v = i
    · subst h
      by_cases hl : v < σ.length
      · rw [List.getElem?_set_self (by rw [wipe_length]; exact hl)]
        simp [hl]
      · rw [List.getElem?_eq_none (by rw [List.length_set, wipe_length]; omega)]
        simp [hl]
    · rw [List.getElem?_set_ne h, wipe_get σ i vs]
      have : i ≠ v := fun e => h e.symm
      simp [this]
theorem wipe_set (σ : L2.St) {i : Nat} {x : Option V} {vs : List Nat} (h : i ∈ vs) : wipe (σ.set i x) vs = wipe σ vs := by
  apply List.ext_getElem?
  intro j
  rw [wipe_get, wipe_get, List.length_set]
  split
  · rfl
  · rename_i hn
    by_cases hj : i = j
    · subst hj
      have : ¬ i < σ.length := fun z => hn ⟨h, z⟩
      rw [List.getElem?_eq_none (by simpa using this), List.getElem?_eq_none (by simpa using this)]
    · rw [List.getElem?_set_ne hj]
theorem wipe_setAll {vs : List Nat} : ∀ (ws : List (Nat × V)) (σ : L2.St), (∀ p ∈ ws, p.1 ∈ vs) → wipe (setAll σ ws) vs = wipe σ vs
  | [], _, _ => rfl
  | w :: ws, σ, h => by
    show wipe (setAll (σ.set w.1 (some w.2)) ws) vs = _
    rw [wipe_setAll ws _ fun p hp => h p (List.mem_cons_of_mem _ hp), wipe_set _ (h w List.mem_cons_self)]
theorem wipe_wipe (σ : L2.St) (vs : List Nat) : wipe (wipe σ vs) vs = wipe σ vs := by
  apply List.ext_getElem?
  intro j
  rw [wipe_get, wipe_get, wipe_length]
  split <;> simp_all

/-! ### a comprehension's items -/
theorem lcD_at {step : D → Option (Option D)} : ∀ {l : List D} {ys : List D}, lcD step l = some ys → ∀ {i : Nat} {d : D}, l[i]? = some d → ∃ r, step d = some r
  | [], _, _, i, d, h => by simp at h
  | x :: l, ys, e, i, d, h => by
    simp only [lcD] at e
    obtain ⟨r, h1, e⟩ := Option.bind_eq_some_iff.mp e
    obtain ⟨rs, h2, _⟩ := Option.map_eq_some_iff.mp e
    cases i with
    | zero =>
      simp at h; subst h
      exact ⟨r, h1⟩
    | succ i => exact lcD_at h2 (by simpa using h)
theorem lcD_snoc {step : D → Option (Option D)} {d : D} {r : Option D} (h : step d = some r) : ∀ {l : List D} {ys : List D}, lcD step l = some ys → lcD step (l ++ [d]) = some (ys ++ r.toList)
  | [], ys, e => by
    simp only [lcD, Option.some.injEq] at e
    subst e
    simp only [List.nil_append, lcD, h, Option.bind_some, Option.map_some]
    cases r <;> rfl
  | x :: l, ys, e => by
    simp only [lcD] at e
    obtain ⟨r', h1, e⟩ := Option.bind_eq_some_iff.mp e
    obtain ⟨rs, h2, rfl⟩ := Option.map_eq_some_iff.mp e
    simp only [List.cons_append, lcD, h1, Option.bind_some, lcD_snoc h h2, Option.map_some]
    cases r <;> cases r' <;> rfl
theorem lcD_pre {step : D → Option (Option D)} : ∀ {l m : List D} {ys : List D}, lcD step (l ++ m) = some ys → ∃ zs, lcD step l = some zs ∧ zs.length ≤ ys.length
  | [], m, ys, e => ⟨[], rfl, Nat.zero_le _⟩
  | x :: l, m, ys, e => by
    simp only [List.cons_append, lcD] at e ⊢
    obtain ⟨r, h1, e⟩ := Option.bind_eq_some_iff.mp e
    obtain ⟨rs, h2, rfl⟩ := Option.map_eq_some_iff.mp e
    obtain ⟨zs, h3, h4⟩ := lcD_pre h2
    rw [h1, h3]
    cases r with
    | none => exact ⟨zs, rfl, h4⟩
    | some y => exact ⟨y :: zs, rfl, Nat.succ_le_succ h4⟩
section
variable {N : List Str} {T : FnT} {lvl : Nat} {cl : Nat → List D → Option D} {X : Cx}
theorem ownP_snd {N : List Str} (own : List Nat) : (ownP N own).map (·.2) = own := by
  unfold ownP
  rw [List.map_map]
  exact List.map_id _
theorem lc_read {K : PySem.W.Frag} {own : List Nat} {tg : Tg} {it : CE} {cs : List CE} {elt : CE} (h5 : ∀ x ∈ tg.slots, own.contains x = true) {σ : L2.St} {H : Hp} {Q : VK} (q : tD K true (evE cl (.lc own tg it cs elt)) σ H Q) :
    tLc (tI K (evE cl it) (safeI it)) (gT K tg) (tTs K (evT cl cs)) (tD K (freshB elt) (evE cl elt)) own σ H Q := by
  obtain ⟨G, ρ, d, e, hd, o⟩ := q
  simp only [evE] at hd
  obtain ⟨items, e1, hd⟩ := Option.bind_eq_some_iff.mp hd
  obtain ⟨dit, e0, e1⟩ := Option.bind_eq_some_iff.mp e1
  obtain ⟨ys, e2, hd⟩ := Option.bind_eq_some_iff.mp hd
  obtain ⟨hz, rfl⟩ := grd_some hd
  -- the frozen addresses that are tracked
  have eG : EnvR K (fun a => G a ∧ H a ≠ none) H σ ρ := ⟨e.1, fun i d h => let ⟨v, a, b⟩ := e.2 i d h; ⟨v, a, b.monoT fun a g t => ⟨g, t⟩⟩, e.tb⟩
  refine ⟨_, ρ, dit, items, eG, e0, e1, fun J H1 Gd Y pa s1 hw hpa _ hGd hY D hD => ?_⟩
  have hHD : H D = none := s1.free hD
  -- what may hold lists: all but the new one
  let E : Addr → Prop := fun a => Gx (fun a => G a ∧ H a ≠ none) H a ∧ a ≠ D
  have eE : EnvR K E H σ ρ := eG.mono fun a g => ⟨.inl g, fun z => g.2 (z ▸ hHD)⟩
  refine lc_it hw (fun i Hh => ∃ acc ds, Hh D = some (.lst acc) ∧ lcD (fun x => (tg.put x (wipeD ρ own)).bind fun ρ1 => (evT cl cs ρ1).bind fun k => if k = true then (evE cl elt ρ1).map some else some none) (items.take i) = some ds ∧ Reps K E Hh ds acc ∧ Same H1 Hh) ?_ ?_ ?_ ?_
  · exact ⟨[], [], upd_same, rfl, rfl, same_new hD⟩
  · rintro i Hh hi ⟨acc, ds, _, _, _, ss⟩
    exact hGd Hh (Keep.same ss)
  · rintro i x Hh H' hi ⟨acc, ds, hacc, hds, hr, ss⟩ hy
    obtain ⟨di, hdi⟩ : ∃ di, items[i]? = some di := ⟨_, List.getElem?_eq_getElem hi⟩
    have hdi' := hdi
    obtain ⟨r, hr1⟩ := lcD_at e2 hdi
    obtain ⟨sy, ry⟩ := hY E (.inl fun a g t => ⟨g, fun z => t (z ▸ hD)⟩) i di Hh x H' hdi (Keep.same ss) (hGd Hh (Keep.same ss)) hy
    have hr1' := hr1
    obtain ⟨ρ1, e3, hr1⟩ := Option.bind_eq_some_iff.mp hr1
    obtain ⟨kk, e4, hr1⟩ := Option.bind_eq_some_iff.mp hr1
    unfold Tg.put at e3
    obtain ⟨bs, e5, rfl⟩ := Option.map_eq_some_iff.mp e3
    refine ⟨E, di, bs, ry, e5, fun ws hws => ⟨?_, ?_⟩⟩
    · rw [wipe_setAll, wipe_wipe]
      intro p hp
      obtain ⟨q, hq, hqp⟩ := bindR_slots hws p hp
      have := h5 _ (binds_slots e5 q hq)
      rw [← hqp]
      simpa using this
    · have sH : Same H H' := (s1.trans ss).trans sy
      have e6 : EnvR K E H' (setAll (wipe σ own) ws) (putAll (wipeD ρ own) bs) := EnvR.putAll ((eE.sm sH).wipe own) hws
      refine ⟨E, _, kk, e6, e4, fun H3 s3 => ?_⟩
      have htake : items.take (i + 1) = items.take i ++ [di] := by rw [List.take_add_one, hdi']; rfl
      have hstep := lcD_snoc hr1' hds
      have hD3 : H3 D = some (.lst acc) := s3.lst (sy.lst hacc)
      cases kk with
      | false =>
        simp only [Bool.false_eq_true, if_false] at hr1 ⊢
        cases hr1
        refine ⟨acc, ds, hD3, ?_, hr.keep (Keep.same (sy.trans s3)), (ss.trans sy).trans s3⟩
        rw [htake]
        simpa using hstep
      | true =>
        simp only [if_true] at hr1 ⊢
        obtain ⟨dy, e7, rfl⟩ := Option.map_eq_some_iff.mp hr1
        refine tD_un (e6.sm s3) e7 fun y H4 s4 r4 _ _ => ?_
        have hD4 : H4 D = some (.lst acc) := s4.lst hD3
        refine ⟨acc, hD4, ?_, acc ++ [y], ds ++ [dy], upd_same, ?_, ?_, ?_⟩
        · obtain ⟨zs, h10, h11⟩ := lcD_pre (m := items.drop (i + 1)) (show lcD _ (items.take (i + 1) ++ items.drop (i + 1)) = some ys by rw [List.take_append_drop]; exact e2)
          rw [htake, hstep] at h10
          cases h10
          simp only [Option.toList] at h11
          rw [List.length_append, hr.length] at h11
          simp only [List.length_singleton] at h11
          omega
        · rw [htake]
          simpa using hstep
        · have kU : ∀ {P : Addr → Prop}, (∀ a, P a → a ≠ D) → Keep P H4 (upd H4 D (.lst (acc ++ [y]))) := fun {P} hP a ob ha hq => by
            have : a ≠ D := by
              rcases hq with hq | hq
              · rintro rfl
                rw [hD4] at ha; cases ha; cases hq
              · exact hP a hq.1
            rw [upd_ne this]
            exact ha
          refine Reps.append ?_ (Reps.one ?_)
          · exact (hr.keep (Keep.same ((sy.trans s3).trans s4))).keep (kU fun a z => z.2)
          · have r5 : Rep K E H4 dy y := r4.mono fun a z => by
              rcases z with z | z
              · exact z
              · refine ⟨.inr ((sH.trans s3).free z), ?_⟩
                rintro rfl
                rw [hD3] at z; cases z
            exact r5.keep (kU fun a z => z.2)
        · intro a ob ha
          rw [upd_ne (ne_of_none ha hD)]
          exact (((ss.trans sy).trans s3).trans s4) _ _ ha
  · rintro Hh ⟨acc, ds, hacc, hds, hr, ss⟩
    rw [List.take_length, e2] at hds
    cases hds
    refine o (.ref D) Hh (s1.trans ss) ⟨D, acc, rfl, .inr hHD, hacc, hr.mono fun a z => z.1.imp (fun z => z.1) id⟩ fun _ l hl a ha => ?_
    cases ha
    exact hHD
theorem snd_lc {own : List Nat} {tg : Tg} {it : CE} {cs : List CE} {elt : CE} (hi : Snd N T lvl cl it) (hc : SndL N T lvl cl cs) (he : Snd N T lvl cl elt) : Snd N T lvl cl (.lc own tg it cs elt) := by
  have hk : ∀ f s e, chkE N T (.lc own tg it cs elt) f s e = (match e with | .ListComp x [⟨tx, ix, ifs, asy⟩] scope _ => decide (asy = 0) && blkC N s.sc scope (ownP N own) && chkE N T it true s ix && chkG N (blkSc s scope) tg tx && tg.slots.all (fun i => own.contains i) && (isTp tg || !needTp it) && decide (cs.length ≤ 1) && chkEs N T cs (blkSc s scope) ifs && chkE N T elt false (blkSc s scope) x | _ => false) := fun f s e => by
    cases e <;> try rfl
    rename_i x gs sc p
    rcases gs with _ | ⟨⟨tx, ix, ifs, asy⟩, _ | ⟨g2, gs⟩⟩ <;> rfl
  refine .mk_e (fun X s e k hh => ?_) (fun s e h env whole => ?_) (fun s e => by rw [hk, hk]) fun d => rfl
  · rw [hk] at hh
    split at hh
    · rename_i x tx ix ifs asy scope p
      simp only [Bool.and_eq_true, decide_eq_true_eq, List.all_eq_true] at hh
      obtain ⟨⟨⟨⟨⟨⟨⟨⟨rfl, h2⟩, h3⟩, h4⟩, h5⟩, h6⟩, h7⟩, h8⟩, h9⟩ := hh
      have htg : (∃ es k p, tx = .Tuple es k p) ∨ needTp it = false := by
        rcases Bool.or_eq_true _ _ ▸ h6 with h6 | h6
        · refine .inl ?_
          cases tg with
          | nm i => cases h6
          | tp l => cases tx <;> first | exact ⟨_, _, _, rfl⟩ | exact absurd (show false = true from h4) Bool.false_ne_true
        · exact .inr (by simpa using h6)
      refine (pe_lc (own := ownP N own) (g := gT X.K tg) (tt := tTs X.K (evT cl cs)) (te := tD X.K (freshB elt) (evE cl elt)) k.calm (by rw [k.hN]; exact k.nd) (hi.i X s ix tx k htg h3) (by rw [k.hN, k.sc]; exact blkOk_by h2)
        (fun sh H C cells fp => okG (k.blk sh H scope C cells fp) tg tx h4) (fun sh H C cells fp => hc.t _ (blkSc s scope) ifs (k.blk sh H scope C cells fp) h7 h8)
        (fun sh H C cells fp => he.e _ (blkSc s scope) x (k.blk sh H scope C cells fp) h9) (fset_of h3 _)).imp fun σ H Q q => ?_
      rw [ownP_snd]
      exact lc_read h5 q
    · cases hh
  · rw [hk] at h
    split at h
    · rfl
    · cases h
theorem lcL_at {step : D → Option (List D)} : ∀ {l : List D} {ys : List D}, lcL step l = some ys → ∀ {i : Nat} {d : D}, l[i]? = some d → ∃ r, step d = some r
  | [], _, _, i, d, h => by simp at h
  | x :: l, ys, e, i, d, h => by
    simp only [lcL] at e
    obtain ⟨r, h1, e⟩ := Option.bind_eq_some_iff.mp e
    obtain ⟨rs, h2, rfl⟩ := Option.map_eq_some_iff.mp e
    cases i with
    | zero => cases h; exact ⟨r, h1⟩
    | succ i => exact lcL_at h2 (by simpa using h)
theorem lcL_snoc {step : D → Option (List D)} {d : D} {r : List D} (h : step d = some r) : ∀ {l : List D} {ys : List D}, lcL step l = some ys → lcL step (l ++ [d]) = some (ys ++ r)
  | [], ys, e => by cases e; simp [lcL, h]
  | x :: l, ys, e => by
    simp only [lcL] at e
    obtain ⟨q, h1, e⟩ := Option.bind_eq_some_iff.mp e
    obtain ⟨rs, h2, rfl⟩ := Option.map_eq_some_iff.mp e
    simp [lcL, h1, lcL_snoc h h2]
theorem lcL_pre {step : D → Option (List D)} : ∀ {l m : List D} {ys : List D}, lcL step (l ++ m) = some ys → ∃ zs, lcL step l = some zs ∧ zs.length ≤ ys.length
  | [], m, ys, _ => ⟨[], rfl, Nat.zero_le _⟩
  | x :: l, m, ys, e => by
    simp only [List.cons_append, lcL] at e
    obtain ⟨r, h1, e⟩ := Option.bind_eq_some_iff.mp e
    obtain ⟨rs, h2, rfl⟩ := Option.map_eq_some_iff.mp e
    obtain ⟨zs, h3, h4⟩ := lcL_pre h2
    refine ⟨r ++ zs, by simp [lcL, h1, h3], ?_⟩
    rw [List.length_append, List.length_append]
    omega
section
variable {J : It} {n : Nat} {G : Hp → Prop} {Y : Nat → Hp → V → Hp → Prop}
/-- a loop over a walk, whatever a turn does -/
theorem it_loop (w : Walk J n G Y) {H0 : Hp} {Qd : Hp → Prop} (B : V → Hp → (Hp → Prop) → Prop) (Pv : Nat → Hp → Prop) (h0 : Pv 0 H0) (hG : ∀ i H, i ≤ n → Pv i H → G H)
    (hs : ∀ i x H H', i < n → Pv i H → Y i H x H' → B x H' (Pv (i + 1))) (hd : ∀ H, Pv n H → Qd H) :
    ∃ W : Nat → Nat → Hp → Prop, (∃ m, W 0 m H0) ∧ ∀ i m H, W i m H →
      (J.stop i H ∧ Qd H) ∨ (J.go i H ∧ ∃ Nx : Hp → Prop, (∀ H', Nx H' → ∃ m', m' < m ∧ W (i + 1) m' H') ∧ ∀ x H', J.yld i H x H' → B x H' Nx) := by
  refine ⟨fun i m H => m = n - i ∧ i ≤ n ∧ Pv i H, ⟨n, by simp, Nat.zero_le _, h0⟩, ?_⟩
  rintro i m H ⟨rfl, hi, p⟩
  have q := hG i H hi p
  by_cases hlt : i < n
  · refine .inr ⟨w.goes i H hlt q, Pv (i + 1), fun H' p' => ⟨n - (i + 1), by omega, rfl, hlt, p'⟩, fun x H' y => hs i x H H' hlt p (w.yields i H x H' hlt q y)⟩
  · have e : i = n := by omega
    subst e
    exact .inl ⟨w.stops H q, hd H p⟩
end
/-- all but D stands -/
def SB (D : Addr) (H H' : Hp) : Prop := ∀ a o, a ≠ D → H a = some o → Nx o (H' a)
theorem SB.same {D : Addr} {H H' : Hp} (s : Same H H') : SB D H H' := fun a o _ e => s a o e
theorem SB.trans {D : Addr} {H H1 H2 : Hp} (a : SB D H H1) (b : SB D H1 H2) : SB D H H2 := fun c o n e => (a c o n e).trans fun u e => b c u n e
theorem SB.upd {D : Addr} {H : Hp} {o : HO} : SB D H (upd H D o) := fun a _ n e => by rw [upd_ne n]; exact .inl e
theorem SB.tbs {K : PySem.W.Frag} {D : Addr} {H H' : Hp} (t : TbsOk K H) (s : SB D H H') (hD : ∃ l, H D = some (.lst l)) : TbsOk K H' := fun P h => by
  obtain ⟨ps, e, k⟩ := t P h
  have n : P ≠ D := by
    rintro rfl
    obtain ⟨l, hl⟩ := hD
    rw [e] at hl
    cases hl
  rcases s P _ n e with z | ⟨qs, qs', z, z2, z3⟩
  · exact ⟨ps, z, k⟩
  · cases z
    exact ⟨qs', z2, z3 k⟩
theorem SB.keep {D : Addr} {H H' : Hp} {P : Addr → Prop} (s : SB D H H') (hD : ∃ l, H D = some (.lst l)) (hP : ∀ a, P a → a ≠ D) : Keep P H H' := fun a o e q => by
  refine (s a o ?_ e).eq (q.elim stab_tb fun z => z.2)
  rcases q with q | q
  · rintro rfl
    obtain ⟨l, hl⟩ := hD
    rw [hl] at e
    cases e
    cases q
  · exact hP a q.1
/-- the second clause's part of a turn -/
def lc2I (cl : Nat → List D → Option D) (own1 : List Nat) (tg1 : Tg) (it1 : CE) (cs1 : List CE) (elt : CE) (ρ1 : Rho) : Option (List D) := ((evE cl it1 ρ1).bind iterD).bind fun ys => lcD (fun y => (tg1.put y (wipeD ρ1 own1)).bind fun ρ2 => (evT cl cs1 ρ2).bind fun k => if k = true then (evE cl elt ρ2).map some else some none) ys
def lc2S (cl : Nat → List D → Option D) (own own1 : List Nat) (tg : Tg) (cs : List CE) (tg1 : Tg) (it1 : CE) (cs1 : List CE) (elt : CE) (ρ : Rho) (x : D) : Option (List D) := (tg.put x (wipeD ρ own)).bind fun ρ1 => (evT cl cs ρ1).bind fun k => if k = true then lc2I cl own1 tg1 it1 cs1 elt ρ1 else some []
def lc2D (cl : Nat → List D → Option D) (own own1 : List Nat) (tg : Tg) (it : CE) (cs : List CE) (tg1 : Tg) (it1 : CE) (cs1 : List CE) (elt : CE) (ρ : Rho) : Option D := ((evE cl it ρ).bind iterD).bind fun xs => (lcL (lc2S cl own own1 tg cs tg1 it1 cs1 elt ρ) xs).bind fun ys => grd (ys.length ≤ sizeLine) (.lst ys)
theorem lc2_read {K : PySem.W.Frag} {own own1 : List Nat} {tg tg1 : Tg} {it it1 : CE} {cs cs1 : List CE} {elt : CE} (h5 : ∀ x ∈ tg.slots, own.contains x = true) (h51 : ∀ x ∈ tg1.slots, own1.contains x = true) (hsub : ∀ x ∈ own1, x ∈ own) {σ : L2.St} {H : Hp} {Q : VK} (q : tD K true (lc2D cl own own1 tg it cs tg1 it1 cs1 elt) σ H Q) :
    tLc2 (tI K (evE cl it) (safeI it)) (gT K tg) (tTs K (evT cl cs)) (tI K (evE cl it1) (safeI it1)) (gT K tg1) (tTs K (evT cl cs1)) (tD K (freshB elt) (evE cl elt)) own own1 σ H Q := by
  obtain ⟨G, ρ, d, e, hd, o⟩ := q
  unfold lc2D at hd
  obtain ⟨items, e1, hd⟩ := Option.bind_eq_some_iff.mp hd
  obtain ⟨dit, e0, e1⟩ := Option.bind_eq_some_iff.mp e1
  obtain ⟨ys, e2, hd⟩ := Option.bind_eq_some_iff.mp hd
  obtain ⟨hz, rfl⟩ := grd_some hd
  have eG : EnvR K (fun a => G a ∧ H a ≠ none) H σ ρ := ⟨e.1, fun i d h => let ⟨v, a, b⟩ := e.2 i d h; ⟨v, a, b.monoT fun a g t => ⟨g, t⟩⟩, e.tb⟩
  refine ⟨_, ρ, dit, items, eG, e0, e1, fun J H1 Gd Y pa s1 hw hpa _ hGd hY D hD => ?_⟩
  have hHD : H D = none := s1.free hD
  let E : Addr → Prop := fun a => Gx (fun a => G a ∧ H a ≠ none) H a ∧ a ≠ D
  have eE : EnvR K E H σ ρ := eG.mono fun a g => ⟨.inl g, fun z => g.2 (z ▸ hHD)⟩
  have nE : ∀ {Hh : Hp} {a : Addr}, Same H Hh → (∃ l, Hh D = some (.lst l)) → Hh a = none → E a := fun {Hh a} s hl z => ⟨.inr (s.free z), by
    rintro rfl
    obtain ⟨l, hl⟩ := hl
    rw [hl] at z
    cases z⟩
  refine it_loop hw _ (fun i Hh => ∃ acc ds, Hh D = some (.lst acc) ∧ lcL (lc2S cl own own1 tg cs tg1 it1 cs1 elt ρ) (items.take i) = some ds ∧ Reps K E Hh ds acc ∧ Same H1 Hh) ?_ ?_ ?_ ?_
  · exact ⟨[], [], upd_same, rfl, rfl, same_new hD⟩
  · rintro i Hh hi ⟨acc, ds, _, _, _, ss⟩
    exact hGd Hh (Keep.same ss)
  · rintro i x Hh H' hi ⟨acc, ds, hacc, hds, hr, ss⟩ hy
    obtain ⟨di, hdi⟩ : ∃ di, items[i]? = some di := ⟨_, List.getElem?_eq_getElem hi⟩
    have hdi' := hdi
    obtain ⟨r, hr1⟩ := lcL_at e2 hdi
    obtain ⟨sy, ry⟩ := hY E (.inl fun a g t => ⟨g, fun z => t (z ▸ hD)⟩) i di Hh x H' hdi (Keep.same ss) (hGd Hh (Keep.same ss)) hy
    have hr1' := hr1
    unfold lc2S at hr1
    obtain ⟨ρ1, e3, hr1⟩ := Option.bind_eq_some_iff.mp hr1
    obtain ⟨kk, e4, hr1⟩ := Option.bind_eq_some_iff.mp hr1
    unfold Tg.put at e3
    obtain ⟨bs, e5, rfl⟩ := Option.map_eq_some_iff.mp e3
    have htake : items.take (i + 1) = items.take i ++ [di] := by rw [List.take_add_one, hdi']; rfl
    have hstep := lcL_snoc hr1' hds
    refine ⟨E, di, bs, ry, e5, fun ws hws => ⟨?_, ?_⟩⟩
    · rw [wipe_setAll, wipe_wipe]
      intro p hp
      obtain ⟨q, hq, hqp⟩ := bindR_slots hws p hp
      have := h5 _ (binds_slots e5 q hq)
      rw [← hqp]
      simpa using this
    · have sH : Same H H' := (s1.trans ss).trans sy
      have e6 : EnvR K E H' (setAll (wipe σ own) ws) (putAll (wipeD ρ own) bs) := EnvR.putAll ((eE.sm sH).wipe own) hws
      refine ⟨E, _, kk, e6, e4, fun H3 s3 => ?_⟩
      have hD3 : H3 D = some (.lst acc) := s3.lst (sy.lst hacc)
      have sH3 : Same H H3 := sH.trans s3
      cases kk with
      | false =>
        simp only [Bool.false_eq_true, if_false] at hr1 ⊢
        cases hr1
        refine ⟨acc, ds, hD3, ?_, hr.keep (Keep.same (sy.trans s3)), (ss.trans sy).trans s3⟩
        rw [htake]
        simpa using hstep
      | true =>
        simp only [if_true] at hr1 ⊢
        have e7 := e6.sm s3
        generalize setAll (wipe σ own) ws = σ2 at e7 ⊢
        generalize putAll (wipeD ρ own) bs = ρ1 at e7 hr1 ⊢
        unfold lc2I at hr1
        obtain ⟨items1, f1, hr1⟩ := Option.bind_eq_some_iff.mp hr1
        obtain ⟨dit1, f0, f1⟩ := Option.bind_eq_some_iff.mp f1
        refine ⟨E, ρ1, dit1, items1, e7, f0, f1, fun J1 H4 Gd1 Y1 pa1 s4 hw1 hpa1 _ hGd1 hY1 => ?_⟩
        have sH4 : Same H H4 := sH3.trans s4
        have hD4 : H4 D = some (.lst acc) := s4.lst hD3
        have paD : ∀ a, a ∈ pa1 → a ≠ D := fun a ha => by
          rcases (hpa1 a ha).1 with z | z
          · exact z.2
          · rintro rfl
            rw [hD3] at z; cases z
        refine it_loop hw1 _ (fun j Hh => ∃ acc1 ds1, Hh D = some (.lst acc1) ∧ lcD (fun y => (tg1.put y (wipeD ρ1 own1)).bind fun ρ2 => (evT cl cs1 ρ2).bind fun k => if k = true then (evE cl elt ρ2).map some else some none) (items1.take j) = some ds1 ∧ Reps K E Hh (ds ++ ds1) acc1 ∧ SB D H4 Hh) ?_ ?_ ?_ ?_
        · exact ⟨acc, [], hD4, rfl, by rw [List.append_nil]; exact hr.keep (Keep.same ((sy.trans s3).trans s4)), SB.same (Same.refl _)⟩
        · rintro j Hj hj ⟨acc1, ds1, _, _, _, sj⟩
          exact hGd1 Hj (sj.keep ⟨_, hD4⟩ paD)
        · rintro j x1 Hj Hj' hj ⟨acc1, ds1, hacc1, hds1, hrj, sj⟩ hyj
          obtain ⟨dj, hdj⟩ : ∃ dj, items1[j]? = some dj := ⟨_, List.getElem?_eq_getElem hj⟩
          have hdj' := hdj
          obtain ⟨rj, hrj1⟩ := lcD_at hr1 hdj
          have kE : Keep E H4 Hj := sj.keep ⟨_, hD4⟩ fun a z => z.2
          obtain ⟨syj, ryj⟩ := hY1 E (.inl fun a g t => by
            rcases g with g | g
            · exact g
            · exact nE sH3 ⟨_, hD3⟩ g) j dj Hj x1 Hj' hdj kE (hGd1 Hj (sj.keep ⟨_, hD4⟩ paD)) hyj
          have hrj1' := hrj1
          obtain ⟨ρ2, g3, hrj1⟩ := Option.bind_eq_some_iff.mp hrj1
          obtain ⟨k1, g4, hrj1⟩ := Option.bind_eq_some_iff.mp hrj1
          unfold Tg.put at g3
          obtain ⟨bs1, g5, rfl⟩ := Option.map_eq_some_iff.mp g3
          have htk : items1.take (j + 1) = items1.take j ++ [dj] := by rw [List.take_add_one, hdj']; rfl
          have hst := lcD_snoc hrj1' hds1
          have hDj : ∃ l, Hj D = some (.lst l) := ⟨_, hacc1⟩
          refine ⟨E, dj, bs1, ryj, g5, fun ws1 hws1 => ⟨?_, ?_⟩⟩
          · rw [wipe_setAll, wipe_wipe]
            intro p hp
            obtain ⟨q, hq, hqp⟩ := bindR_slots hws1 p hp
            have := h51 _ (binds_slots g5 q hq)
            rw [← hqp]
            simpa using this
          · have kJ : Keep E H3 Hj' := (Keep.same (P := E) s4).trans (kE.trans (Keep.same syj))
            have e8 : EnvR K E Hj' (setAll (wipe σ2 own1) ws1) (putAll (wipeD ρ1 own1) bs1) := EnvR.putAll ((e7.keep kJ (((e7.tb.same s4 |> fun t => SB.tbs t sj ⟨_, hD4⟩)).same syj)).wipe own1) hws1
            refine ⟨E, _, k1, e8, g4, fun H6 s6 => ?_⟩
            have hD6 : H6 D = some (.lst acc1) := s6.lst (syj.lst hacc1)
            cases k1 with
            | false =>
              simp only [Bool.false_eq_true, if_false] at hrj1 ⊢
              cases hrj1
              refine ⟨acc1, ds1, hD6, ?_, hrj.keep (Keep.same (syj.trans s6)), (sj.trans (SB.same syj)).trans (SB.same s6)⟩
              rw [htk]
              simpa using hst
            | true =>
              simp only [if_true] at hrj1 ⊢
              obtain ⟨dy, g7, rfl⟩ := Option.map_eq_some_iff.mp hrj1
              refine tD_un (e8.sm s6) g7 fun y H7 s7 r7 _ _ => ?_
              have hD7 : H7 D = some (.lst acc1) := s7.lst hD6
              have hlast : (ds ++ (ds1 ++ [dy])).length ≤ ys.length := by
                obtain ⟨zs, h10, h11⟩ := lcL_pre (m := items.drop (i + 1)) (show lcL _ (items.take (i + 1) ++ items.drop (i + 1)) = some ys by rw [List.take_append_drop]; exact e2)
                rw [htake, hstep] at h10
                cases h10
                obtain ⟨zs1, h12, h13⟩ := lcD_pre (m := items1.drop (j + 1)) (show lcD _ (items1.take (j + 1) ++ items1.drop (j + 1)) = some r by rw [List.take_append_drop]; exact hr1)
                rw [htk, hst] at h12
                cases h12
                simp only [Option.toList] at h13
                rw [List.length_append] at h11 ⊢
                omega
              refine ⟨acc1, hD7, ?_, acc1 ++ [y], ds1 ++ [dy], upd_same, ?_, ?_, ?_⟩
              · have hl := hrj.length
                rw [List.length_append, List.length_append, List.length_singleton] at hlast
                rw [List.length_append] at hl
                omega
              · rw [htk]
                simpa using hst
              · rw [← List.append_assoc]
                have kU : Keep E H7 (upd H7 D (.lst (acc1 ++ [y]))) := SB.upd.keep ⟨_, hD7⟩ fun a z => z.2
                refine Reps.append ?_ (Reps.one ?_)
                · exact (hrj.keep (Keep.same ((syj.trans s6).trans s7))).keep kU
                · have r9 : Rep K E H7 dy y := r7.mono fun a z => by
                    rcases z with z | z
                    · exact z
                    · refine ⟨.inr ?_, ?_⟩
                      · have z2 : Hj a = none := syj.free (s6.free z)
                        by_cases hh : H a = none
                        · exact hh
                        · exfalso
                          obtain ⟨ob, hob⟩ := Option.ne_none_iff_exists'.mp hh
                          have aD : a ≠ D := by
                            rintro rfl
                            rw [hHD] at hob; cases hob
                          have := ((sH4 _ _ hob).trans fun u e => sj a u aD e).some
                          exact this z2
                      · rintro rfl
                        rw [hD6] at z; cases z
                  exact r9.keep kU
              · exact ((sj.trans (SB.same syj)).trans ((SB.same s6).trans (SB.same s7))).trans SB.upd
        · rintro Hj ⟨acc1, ds1, hacc1, hds1, hrj, sj⟩
          rw [List.take_length, hr1] at hds1
          cases hds1
          refine ⟨acc1, ds ++ r, hacc1, ?_, hrj, fun a ob ha => ?_⟩
          · rw [htake]
            exact hstep
          · have aD : a ≠ D := by
              rintro rfl
              rw [hD] at ha; cases ha
            exact ((((ss.trans sy).trans s3).trans s4) _ _ ha).trans fun u e => sj a u aD e
  · rintro Hh ⟨acc, ds, hacc, hds, hr, ss⟩
    rw [List.take_length, e2] at hds
    cases hds
    refine o (.ref D) Hh (s1.trans ss) ⟨D, acc, rfl, .inr hHD, hacc, hr.mono fun a z => z.1.imp (fun z => z.1) id⟩ fun _ l hl a ha => ?_
    cases ha
    exact hHD
theorem htg_of {N : List Str} {s : Sc} {tg : Tg} {tx : Expr} {it : CE} (h4 : chkG N s tg tx = true) (h6 : (isTp tg || !needTp it) = true) : (∃ es k p, tx = .Tuple es k p) ∨ needTp it = false := by
  rcases Bool.or_eq_true _ _ ▸ h6 with h6 | h6
  · refine .inl ?_
    cases tg with
    | nm i => cases h6
    | tp l => cases tx <;> first | exact ⟨_, _, _, rfl⟩ | exact absurd (show false = true from h4) Bool.false_ne_true
  · exact .inr (by simpa using h6)
theorem key_lc2 {own own1 : List Nat} {tg tg1 : Tg} {it it1 : CE} {cs cs1 : List CE} {elt : CE} : ∀ f s e, chkE N T (.lc2 own own1 tg it cs tg1 it1 cs1 elt) f s e = (match e with | .ListComp x [⟨tx, ix, ifs, asy⟩, ⟨tx1, ix1, ifs1, asy1⟩] scope _ => decide (asy = 0) && decide (asy1 = 0) && blkC N s.sc scope (ownP N own) && chkE N T it true s ix && chkG N (blkSc s scope) tg tx && tg.slots.all (fun i => own.contains i) && (isTp tg || !needTp it) && decide (cs.length ≤ 1) && chkEs N T cs (blkSc s scope) ifs && chkE N T it1 true (blkSc s scope) ix1 && chkG N (blkSc s scope) tg1 tx1 && tg1.slots.all (fun i => own1.contains i) && (isTp tg1 || !needTp it1) && decide (cs1.length ≤ 1) && chkEs N T cs1 (blkSc s scope) ifs1 && own1.all (fun i => own.contains i) && chkE N T elt false (blkSc s scope) x | _ => false) := fun f s e => by
    cases e <;> try rfl
    rename_i x gs sc p
    rcases gs with _ | ⟨⟨tx, ix, ifs, asy⟩, _ | ⟨⟨tx1, ix1, ifs1, asy1⟩, _ | ⟨g3, gs⟩⟩⟩ <;> rfl
theorem snd_lc2 {own own1 : List Nat} {tg tg1 : Tg} {it it1 : CE} {cs cs1 : List CE} {elt : CE} (hi : Snd N T lvl cl it) (hc : SndL N T lvl cl cs) (hi1 : Snd N T lvl cl it1) (hc1 : SndL N T lvl cl cs1) (he : Snd N T lvl cl elt) : Snd N T lvl cl (.lc2 own own1 tg it cs tg1 it1 cs1 elt) := by
  refine .mk_e (fun X s e k hh => ?_) (fun s e h env whole => ?_) (fun s e => by rw [key_lc2, key_lc2]) fun d => rfl
  · rw [key_lc2] at hh
    split at hh
    · rename_i x tx ix ifs asy tx1 ix1 ifs1 asy1 scope p
      simp only [Bool.and_eq_true, decide_eq_true_eq, List.all_eq_true] at hh
      obtain ⟨⟨⟨⟨⟨⟨⟨⟨⟨⟨⟨⟨⟨⟨⟨⟨rfl, rfl⟩, h2⟩, h3⟩, h4⟩, h5⟩, h6⟩, h7⟩, h8⟩, m3⟩, m4⟩, m5⟩, m6⟩, m7⟩, m8⟩, hs⟩, h9⟩ := hh
      refine (pe_lc2 (own := ownP N own) (vs1 := own1) (g := gT X.K tg) (tt := tTs X.K (evT cl cs)) (g1 := gT X.K tg1) (tt1 := tTs X.K (evT cl cs1)) (wi1 := tI X.K (evE cl it1) (safeI it1)) (te := tD X.K (freshB elt) (evE cl elt)) k.calm (by rw [k.hN]; exact k.nd) (hi.i X s ix tx k (htg_of h4 h6) h3) (by rw [k.hN, k.sc]; exact blkOk_by h2)
        (fun i hi => by rw [ownP_snd]; simpa using hs i hi)
        (fun sh H C cells fp => okG (k.blk sh H scope C cells fp) tg tx h4) (fun sh H C cells fp => hc.t _ (blkSc s scope) ifs (k.blk sh H scope C cells fp) h7 h8)
        (fun sh H C cells fp => hi1.i _ (blkSc s scope) ix1 tx1 (k.blk sh H scope C cells fp) (htg_of m4 m6) m3)
        (fun sh H C cells fp => okG (k.blk sh H scope C cells fp) tg1 tx1 m4) (fun sh H C cells fp => hc1.t _ (blkSc s scope) ifs1 (k.blk sh H scope C cells fp) m7 m8)
        (fun sh H C cells fp => he.e _ (blkSc s scope) x (k.blk sh H scope C cells fp) h9) (fset_of h3 _) (fun env x => fset_of m3 env x)).imp fun σ H Q q => ?_
      rw [ownP_snd]
      exact lc2_read h5 m5 (fun i hi => by simpa using hs i hi) q
    · cases hh
  · rw [key_lc2] at h
    split at h
    · rfl
    · cases h
end
end Dl
set_option Elab.async false
set_option linter.all false
set_option maxRecDepth 100000
set_option maxHeartbeats 4000000
/-! all, any of a generator expression. -/
namespace Dl
open PySem PySem.Spec PyProof.Rows L2
section
variable {N : List Str} {T : FnT} {lvl : Nat} {cl : Nat → List D → Option D} {X : Cx}
def genS (cl : Nat → List D → Option D) (own : List Nat) (tg : Tg) (cs : List CE) (elt : CE) (ρ : Rho) (x : D) : Option (Option Bool) := (tg.put x (wipeD ρ own)).bind fun ρ1 => (evT cl cs ρ1).bind fun k => if k = true then ((evE cl elt ρ1).bind blOf).map some else some none
theorem gen_read {K : PySem.W.Frag} {P : Addr} {al : Bool} {own : List Nat} {tg : Tg} {it : CE} {cs : List CE} {elt : CE} (hP : IsTab K P) (h5 : ∀ x ∈ tg.slots, own.contains x = true) {σ : L2.St} {H : Hp} {Q : VK} (q : tD K false (evE cl (.gen al own tg it cs elt)) σ H Q) :
    tGen P (!al) (tI K (evE cl it) (safeI it)) (gT K tg) (tTs K (evT cl cs)) (tD K (freshB elt) (evE cl elt)) own σ H Q := by
  obtain ⟨G, ρ, d, e, hd, o⟩ := q
  simp only [evE] at hd
  obtain ⟨items, e1, hd⟩ := Option.bind_eq_some_iff.mp hd
  obtain ⟨dit, e0, e1⟩ := Option.bind_eq_some_iff.mp e1
  obtain ⟨res, e2, rfl⟩ := Option.map_eq_some_iff.mp hd
  have e2 : genD al (genS cl own tg cs elt ρ) items = some res := e2
  refine ⟨G, ρ, dit, items, e, e0, e1, fun J H1 Gd Y pa s1 hw hpa _ hGd hY => ?_⟩
  obtain ⟨ps, hps, tps⟩ := (e.tb.same s1) P hP
  refine ⟨⟨ps, hps, tps⟩, fun H2 ht => ?_⟩
  obtain ⟨⟨ps', hps', tps'⟩, hne⟩ := ht
  have s12 : Same H1 H2 := fun a ob ha => by
    by_cases h : a = P
    · subst h
      rw [hps] at ha
      cases ha
      exact .inr ⟨ps, ps', rfl, hps', fun _ => tps'⟩
    · rw [hne a h]
      exact .inl ha
  refine ⟨fun i m Hh => m = items.length - i ∧ i ≤ items.length ∧ genD al (genS cl own tg cs elt ρ) (items.drop i) = some res ∧ Same H1 Hh, ⟨items.length, by simp, Nat.zero_le _, by rw [List.drop_zero]; exact e2, s12⟩, ?_⟩
  rintro i m Hh ⟨rfl, hi, hg, ss⟩
  have gd := hGd Hh (Keep.same ss)
  by_cases hlt : i < items.length
  · refine .inr ⟨hw.goes i Hh hlt gd, items.length - (i + 1), by omega, fun x H' hy => ?_⟩
    have hdi : items[i]? = some items[i] := List.getElem?_eq_getElem hlt
    obtain ⟨sy, ry⟩ := hY (Gx G H) (.inl fun a g _ => g) i items[i] Hh x H' hdi (Keep.same ss) gd (hw.yields i Hh x H' hlt gd hy)
    rw [List.drop_eq_getElem_cons hlt] at hg
    simp only [genD] at hg
    obtain ⟨r, hr1, hg⟩ := Option.bind_eq_some_iff.mp hg
    unfold genS at hr1
    obtain ⟨ρ1, e3, hr1⟩ := Option.bind_eq_some_iff.mp hr1
    obtain ⟨kk, e4, hr1⟩ := Option.bind_eq_some_iff.mp hr1
    unfold Tg.put at e3
    obtain ⟨bs, e5, rfl⟩ := Option.map_eq_some_iff.mp e3
    refine ⟨Gx G H, items[i], bs, ry, e5, fun ws hws => ⟨?_, ?_⟩⟩
    · rw [wipe_setAll, wipe_wipe]
      intro p hp
      obtain ⟨q, hq, hqp⟩ := bindR_slots hws p hp
      have := h5 _ (binds_slots e5 q hq)
      rw [← hqp]
      simpa using this
    · have sH : Same H H' := (s1.trans ss).trans sy
      have e6 : EnvR K (Gx G H) H' (setAll (wipe σ own) ws) (putAll (wipeD ρ own) bs) := EnvR.putAll ((e.step sH).wipe own) hws
      refine ⟨Gx G H, _, kk, e6, e4, fun H3 s3 => ?_⟩
      have s13 : Same H1 H3 := (ss.trans sy).trans s3
      cases kk with
      | false =>
        simp only [Bool.false_eq_true, if_false] at hr1 ⊢
        cases hr1
        first | exact ⟨rfl, hlt, hg, s13⟩ | exact ⟨trivial, hlt, hg, s13⟩ | (refine ⟨?_, hlt, hg, s13⟩; trivial)
      | true =>
        simp only [if_true] at hr1 ⊢
        obtain ⟨b0, e7, rfl⟩ := Option.map_eq_some_iff.mp hr1
        obtain ⟨dy, e8, e9⟩ := Option.bind_eq_some_iff.mp e7
        obtain ⟨b, rfl⟩ : ∃ b, dy = .bl b := by
          cases dy <;> first | exact ⟨_, rfl⟩ | (simp only [blOf, reduceCtorEq] at e9)
        simp only [blOf, Option.some.injEq] at e9
        subst e9
        refine tD_un (e6.sm s3) e8 fun y H4 s4 r4 _ _ => ?_
        have hy : y = .bl b := r4
        have hg : (if b = al then genD al (genS cl own tg cs elt ρ) (items.drop (i + 1)) else some (!al)) = some res := hg
        refine ⟨b, hy, fun hb => ?_, fun hb => ?_⟩
        · rw [if_neg (by subst hb; cases al <;> simp)] at hg
          cases hg
          exact o _ H4 ((s1.trans s13).trans s4) rfl fun z => by cases z
        · rw [if_pos (by subst hb; cases al <;> simp)] at hg
          first | exact ⟨rfl, hlt, hg, s13.trans s4⟩ | (refine ⟨?_, hlt, hg, s13.trans s4⟩; trivial)
  · have hn : i = items.length := by omega
    subst hn
    refine .inl ⟨hw.stops Hh gd, ?_⟩
    rw [List.drop_length] at hg
    simp only [genD, Option.some.injEq] at hg
    subst hg
    rw [Bool.not_not]
    exact o _ Hh (s1.trans ss) rfl fun z => by cases z
theorem gfold_of {c : CE} {b : Bool} {s : Sc} {e : Expr} (h : chkE N T c b s e = true) (hl : notLst e = true) (env : Env) (x : Value) : genFold e env x = pure x := by
  have := fset_of h env x
  cases e <;> first | exact this | (cases hl)
theorem key_gen {al : Bool} {own : List Nat} {tg : Tg} {it : CE} {cs : List CE} {elt : CE} : ∀ (f : Bool) (s : Sc) (e : Expr), chkE N T (.gen al own tg it cs elt) f s e = (match e with | .Call (.Name x _) [.GeneratorExp y [⟨tx, ix, ifs, asy⟩] scope _] [] _ => s.gn && glB s.sc x && decide (x = if al then ("all" : Str) else "any") && decide (asy = 0) && genB scope && blkC N s.sc scope (ownP N own) && chkE N T it true s ix && notLst ix && chkG N (genSc scope) tg tx && tg.slots.all (fun i => own.contains i) && (isTp tg || !needTp it) && decide (cs.length ≤ 1) && chkEs N T cs (genSc scope) ifs && chkE N T elt false (genSc scope) y | _ => false) := fun f s e => by
    cases e <;> try rfl
    rename_i fn xs kw p
    cases fn <;> try rfl
    rcases xs with _ | ⟨x, _ | ⟨x2, xs⟩⟩ <;> try rfl
    all_goals (cases kw <;> try rfl)
    all_goals (cases x <;> try rfl)
    all_goals (rename_i y gs sc gp; rcases gs with _ | ⟨⟨tx, ix, ifs, asy⟩, _ | ⟨g2, gs⟩⟩ <;> rfl)
theorem snd_gen {al : Bool} {own : List Nat} {tg : Tg} {it : CE} {cs : List CE} {elt : CE} (hi : Snd N T lvl cl it) (hc : SndL N T lvl cl cs) (he : Snd N T lvl cl elt) : Snd N T lvl cl (.gen al own tg it cs elt) := by
  refine .mk_e (fun X s e k hh => ?_) (fun s e h env whole => ?_) (fun s e => by rw [key_gen, key_gen]) fun d => rfl
  · rw [key_gen] at hh
    split at hh
    · rename_i x p y tx ix ifs asy scope gp pos
      simp only [Bool.and_eq_true, decide_eq_true_eq] at hh
      obtain ⟨⟨⟨⟨⟨⟨⟨⟨⟨⟨⟨⟨⟨hgn, h1⟩, h2⟩, ha⟩, hgb⟩, h3⟩, h4⟩, hnl⟩, h5⟩, h6⟩, h7⟩, h8⟩, h9⟩, h10⟩ := hh
      subst ha
      unfold genB at hgb
      simp only [Bool.and_eq_true, decide_eq_true_eq, List.all_eq_true, Bool.not_eq_true'] at hgb
      obtain ⟨⟨g1, g2⟩, g3⟩ := hgb
      have h6' : ∀ x ∈ tg.slots, own.contains x = true := List.all_eq_true.mp h6
      obtain ⟨hr, c, hcode, TB, hT⟩ := k.gn hgn
      have hg := fun (sh : Shared) (H : Hp) (C : Addr) (code : Value) (fp : List Addr) (A1 : Around) (r : Room lvl A1) => okG (k.gen sh H scope C code (cloFrom X.env.cells scope.names []) fp A1 r) tg tx h5
      have ht := fun (sh : Shared) (H : Hp) (C : Addr) (code : Value) (fp : List Addr) (A1 : Around) (r : Room lvl A1) => hc.t _ (genSc scope) ifs (k.gen sh H scope C code (cloFrom X.env.cells scope.names []) fp A1 r) h8 h9
      have hee := fun (sh : Shared) (H : Hp) (C : Addr) (code : Value) (fp : List Addr) (A1 : Around) (r : Room lvl A1) => he.e _ (genSc scope) y (k.gen sh H scope C code (cloFrom X.env.cells scope.names []) fp A1 r) h10
      have ok : BlkOk X.N X.env.scope scope (ownP N own) := by rw [k.hN, k.sc]; exact blkOk_by h3
      cases al with
      | true =>
        have h2 : x = "all" := h2
        subst h2
        refine (pe_allG (gg := gT X.K tg) (tt := tTs X.K (evT cl cs)) (te := tD X.K (freshB elt) (evE cl elt)) (p := p) (pos := pos) (gpos := gp) (c := c) (P := He.tabOf X.K c) hr (k.gl h1) (k.free _ (by simp [bnames])) k.calm (by rw [k.hN]; exact k.nd) TB hcode ok g1 g2 g3 (hi.i X s ix tx k (htg_of h5 h7) h4) hg ht hee (fun v => gfold_of h4 hnl _ v)).imp fun σ H Q q => ?_
        rw [ownP_snd]
        exact gen_read hT h6' q
      | false =>
        have h2 : x = "any" := h2
        subst h2
        refine (pe_anyG (gg := gT X.K tg) (tt := tTs X.K (evT cl cs)) (te := tD X.K (freshB elt) (evE cl elt)) (p := p) (pos := pos) (gpos := gp) (c := c) (P := He.tabOf X.K c) hr (k.gl h1) (k.free _ (by simp [bnames])) k.calm (by rw [k.hN]; exact k.nd) TB hcode ok g1 g2 g3 (hi.i X s ix tx k (htg_of h5 h7) h4) hg ht hee (fun v => gfold_of h4 hnl _ v)).imp fun σ H Q q => ?_
        rw [ownP_snd]
        exact gen_read hT h6' q
    · cases hh
  · rw [key_gen] at h
    split at h
    · rfl
    · cases h
end
end Dl
set_option Elab.async false
set_option linter.all false
set_option maxRecDepth 100000
set_option maxHeartbeats 4000000
/-! The look's proof: reversed, combinations, permutations, gcd. -/
namespace Dl
open PySem PySem.Spec PyProof.Rows L2
theorem numT_flat (l : List Nat) : (numT l).flat = true := by
  show flats (l.map fun j => D.int (j : Nat)) = true
  exact flats_map_int (fun j => (j : Nat)) l
theorem flats_numT : ∀ L : List (List Nat), flats (L.map numT) = true
  | [] => rfl
  | l :: L => by
    show ((numT l).flat && flats (L.map numT)) = true
    rw [numT_flat, flats_numT L]
    rfl
theorem reps_nums {K : PySem.W.Frag} {G : Addr → Prop} {H : Hp} : ∀ l : List Nat, Reps K G H (l.map fun j => D.int (j : Nat)) (l.map fun j => V.int (j : Nat))
  | [] => rfl
  | j :: l => ⟨_, _, rfl, rfl, reps_nums l⟩
section
variable {N : List Str} {T : FnT} {lvl : Nat} {cl : Nat → List D → Option D} {X : Cx}
theorem snd_cmb {a r : CE} (ha : Snd N T lvl cl a) (hr : Snd N T lvl cl r) : Snd N T lvl cl (.cmb a r) := by
  have hk : ∀ f s e, chkE N T (.cmb a r) f s e = (match e with | .Call (.Name x _) [.Call (.Name y _) [z] [] _, u] [] _ => f && glB s.sc x && decide (x = "combinations") && decide (imC ∈ T.im) && glB s.sc y && decide (y = "range") && chkE N T a false s z && chkE N T r false s u | _ => false) := fun f s e => by
    cases e <;> try rfl
    rename_i fn xs kw p
    cases fn <;> try rfl
    rcases xs with _ | ⟨x, _ | ⟨y, _ | ⟨z, xs⟩⟩⟩ <;> try rfl
    all_goals (cases kw <;> try rfl)
    all_goals (cases x <;> try rfl)
    all_goals first
      | rfl
      | (rename_i fc xc kc pc; cases fc <;> first
          | rfl
          | (rcases xc with _ | ⟨z, _ | ⟨z2, xc⟩⟩ <;> first
              | rfl
              | (cases kc <;> rfl)))
  have h0 : ∀ s e, chkE N T (.cmb a r) false s e = true → False := fun s e h => by
    rw [hk] at h
    split at h <;> simp at h
  refine ⟨fun X s e k h => (h0 s e h).elim, fun X s e k h => (h0 s e h).elim, fun X s e tg k _ h => ?_⟩
  rw [hk] at h
  split at h
  · rename_i x p1 y p2 z pos2 u pos1
    simp only [Bool.true_and, Bool.and_eq_true, decide_eq_true_eq] at h
    obtain ⟨⟨⟨⟨⟨⟨h1, rfl⟩, him⟩, h2⟩, rfl⟩, h3⟩, h4⟩ := h
    have hs := star_of h3 [] X.env
    have inner := pe_callTy (X := X) (p := p2) (pos := pos2) cr_range1 (k.gl h2) (k.free "range" (by simp [bnames])) (by decide +kernel) (pa_cons (ha.e X s z k h3) pa_nil hs) (by decide) (by decide) hs rfl
    refine (pi_cmb k.calm (k.gl h1) (k.imp _ him) (pa_cons inner (pa_cons (hr.e X s u k h4) pa_nil (star_of h4 _ _)) rfl) rfl (by rw [star_of h4]; rfl)).imp fun σ H R q => ?_
    obtain ⟨G, ρ, d, items, e, hd, hI, kk⟩ := q
    simp only [evE] at hd
    obtain ⟨x, e1, hd⟩ := Option.bind_eq_some_iff.mp hd
    obtain ⟨n, e2, hd⟩ := Option.bind_eq_some_iff.mp hd
    obtain ⟨y, e3, hd⟩ := Option.bind_eq_some_iff.mp hd
    obtain ⟨m, e4, hd⟩ := Option.bind_eq_some_iff.mp hd
    obtain ⟨⟨z1, z2, z3, z4⟩, rfl⟩ := grd_some hd
    simp only [iterD, Option.some.injEq] at hI
    subst hI
    cases x <;> simp only [intOf, reduceCtorEq] at e2
    cases e2
    cases y <;> simp only [intOf, reduceCtorEq] at e4
    cases e4
    refine tD_un e e1 fun v H1 s1 r1 en _ => ?_
    cases r1
    refine ⟨n, rfl, fun p hp => ?_⟩
    have sp : Same H1 (upd H1 p (.rng 0 n)) := same_new hp
    refine tD_un (en.sm sp) e3 fun w H2 s2 r2 _ _ => ?_
    cases r2
    obtain ⟨n', rfl⟩ : ∃ n' : Nat, n = n' := ⟨n.toNat, by omega⟩
    obtain ⟨m', rfl⟩ : ∃ m' : Nat, m = m' := ⟨m.toNat, by omega⟩
    simp only [Int.toNat_natCast] at kk
    have hp2 : H2 p = some (.rng 0 (n' : Int)) := by
      rcases s2 p _ upd_same with q | ⟨_, _, q, _⟩
      · exact q
      · cases q
    refine ⟨p, n', m', rfl, hp2, by omega, by omega, kk _ H2 _ _ [] ((s1.trans sp).trans s2) (by rw [List.length_map]; exact walk_m) (fun a h => nomatch h) (fun _ a h => nomatch h) (fun _ _ => trivial) fun Gp hG i d H' x H'' hd kp _ yy => ?_⟩
    obtain ⟨Tt, rfl, hT, rfl⟩ := yy
    rw [List.getElem?_map] at hd
    obtain ⟨l, hl, rfl⟩ := Option.map_eq_some_iff.mp hd
    have eg : (cmbL n' m').getD i [] = l := by rw [List.getD_eq_getElem?_getD, hl]; rfl
    rw [eg]
    exact ⟨same_new hT, Tt, _, rfl, .inl (.inl upd_same), reps_nums l⟩
  · cases h
theorem snd_prm {a : CE} (ha : Snd N T lvl cl a) : Snd N T lvl cl (.prm a) := by
  have hk : ∀ f s e, chkE N T (.prm a) f s e = (match e with | .Call (.Name x _) [.Call (.Name y _) [z] [] _] [] _ => f && glB s.sc x && decide (x = "permutations") && decide (imP ∈ T.im) && glB s.sc y && decide (y = "range") && chkE N T a false s z | _ => false) := fun f s e => by
    cases e <;> try rfl
    rename_i fn xs kw p
    cases fn <;> try rfl
    rcases xs with _ | ⟨x, _ | ⟨y, xs⟩⟩ <;> try rfl
    all_goals (cases kw <;> try rfl)
    all_goals (cases x <;> try rfl)
    all_goals first
      | rfl
      | (rename_i fc xc kc pc; cases fc <;> first
          | rfl
          | (rcases xc with _ | ⟨z, _ | ⟨z2, xc⟩⟩ <;> first
              | rfl
              | (cases kc <;> rfl)))
  have h0 : ∀ s e, chkE N T (.prm a) false s e = true → False := fun s e h => by
    rw [hk] at h
    split at h <;> simp at h
  refine ⟨fun X s e k h => (h0 s e h).elim, fun X s e k h => (h0 s e h).elim, fun X s e tg k _ h => ?_⟩
  rw [hk] at h
  split at h
  · rename_i x p1 y p2 z pos2 pos1
    simp only [Bool.true_and, Bool.and_eq_true, decide_eq_true_eq] at h
    obtain ⟨⟨⟨⟨⟨h1, rfl⟩, him⟩, h2⟩, rfl⟩, h3⟩ := h
    have hs := star_of h3 [] X.env
    have inner := pe_callTy (X := X) (p := p2) (pos := pos2) cr_range1 (k.gl h2) (k.free "range" (by simp [bnames])) (by decide +kernel) (pa_cons (ha.e X s z k h3) pa_nil hs) (by decide) (by decide) hs rfl
    refine (pi_prm k.calm (k.gl h1) (k.imp _ him) (pa_cons inner pa_nil rfl) rfl rfl).imp fun σ H R q => ?_
    obtain ⟨G, ρ, d, items, e, hd, hI, kk⟩ := q
    simp only [evE] at hd
    obtain ⟨x, e1, hd⟩ := Option.bind_eq_some_iff.mp hd
    obtain ⟨n, e2, hd⟩ := Option.bind_eq_some_iff.mp hd
    obtain ⟨⟨z1, z2⟩, rfl⟩ := grd_some hd
    simp only [iterD, Option.some.injEq] at hI
    subst hI
    cases x <;> simp only [intOf, reduceCtorEq] at e2
    cases e2
    refine tD_un e e1 fun v H1 s1 r1 en _ => ?_
    cases r1
    refine ⟨n, rfl, fun p hp => ?_⟩
    have sp : Same H1 (upd H1 p (.rng 0 n)) := same_new hp
    obtain ⟨n', rfl⟩ : ∃ n' : Nat, n = n' := ⟨n.toNat, by omega⟩
    simp only [Int.toNat_natCast] at kk
    refine ⟨p, n', rfl, upd_same, by omega, kk _ _ _ _ [] (s1.trans sp) (by rw [List.length_map]; exact walk_m) (fun a h => nomatch h) (fun _ a h => nomatch h) (fun _ _ => trivial) fun Gp hG i d H' x H'' hd kp _ yy => ?_⟩
    obtain ⟨Tt, rfl, hT, rfl⟩ := yy
    rw [List.getElem?_map] at hd
    obtain ⟨l, hl, rfl⟩ := Option.map_eq_some_iff.mp hd
    have eg : (prmL n').getD i [] = l := by rw [List.getD_eq_getElem?_getD, hl]; rfl
    rw [eg]
    exact ⟨same_new hT, Tt, _, rfl, .inl (.inl upd_same), reps_nums l⟩
  · cases h
theorem walk_revL {K : PySem.W.Frag} {a : Addr} {xs : List V} : Walk (Itv K a xs.length) xs.length (fun H => SqL K H a xs) (fun i H x H' => H' = H ∧ xs[xs.length - 1 - i]? = some x) :=
  ⟨fun i H hi q => ⟨hi, xs, xs[xs.length - 1 - i], q, by rw [List.getElem?_eq_getElem (by omega)]⟩, fun _ _ => Nat.le_refl _, fun i H x H' _ q y => ⟨y.1, y.2 xs q⟩⟩
theorem walk_revT {K : PySem.W.Frag} {a : Addr} {xs : List V} : Walk (RT.ItvT K a xs.length) xs.length (fun H => SqT K H a xs) (fun i H x H' => H' = H ∧ xs[xs.length - 1 - i]? = some x) :=
  ⟨fun i H hi q => ⟨hi, xs, xs[xs.length - 1 - i], q, by rw [List.getElem?_eq_getElem (by omega)]⟩, fun _ _ => Nat.le_refl _, fun i H x H' _ q y => ⟨y.1, y.2 xs q⟩⟩
theorem flats_rev {l : List D} (h : flats l.reverse = true) : flats l = true := by
  have : ∀ (l : List D), flats l = l.all D.flat := fun l => by
    induction l with
    | nil => rfl
    | cons d l ih => show (d.flat && flats l) = _; rw [ih]; rfl
  rw [this] at h ⊢
  rwa [List.all_reverse] at h
theorem snd_rvd {a : CE} (ha : Snd N T lvl cl a) : Snd N T lvl cl (.rvd a) := by
  have hk : ∀ f s e, chkE N T (.rvd a) f s e = (match e with | .Call (.Name x _) [y] [] _ => f && glB s.sc x && decide (x = "reversed") && chkE N T a false s y | _ => false) := fun f s e => by
    cases e <;> try rfl
    rename_i fn xs kw p
    cases fn <;> try rfl
    rcases xs with _ | ⟨x, _ | ⟨y, xs⟩⟩ <;> try rfl
    all_goals (cases kw <;> rfl)
  have h0 : ∀ s e, chkE N T (.rvd a) false s e = true → False := fun s e h => by
    rw [hk] at h
    split at h <;> simp at h
  refine ⟨fun X s e k h => (h0 s e h).elim, fun X s e k h => (h0 s e h).elim, fun X s e tg k _ h => ?_⟩
  rw [hk] at h
  split at h
  · rename_i x p y pos
    simp only [Bool.true_and, Bool.and_eq_true, decide_eq_true_eq] at h
    obtain ⟨⟨h1, rfl⟩, h3⟩ := h
    refine (RT.pi_revA (k.gl h1) (k.free _ (by simp [bnames])) (ha.e X s y k h3) (star_of h3 _ _)).imp fun σ H R q => ?_
    obtain ⟨G, ρ, d, items, e, hd, h2, kk⟩ := q
    simp only [evE] at hd
    obtain ⟨x, e1, hd⟩ := Option.bind_eq_some_iff.mp hd
    obtain ⟨xs, e2, rfl⟩ := Option.map_eq_some_iff.mp hd
    simp only [iterD, Option.some.injEq] at h2
    subst h2
    refine tD_un e e1 fun v H1 s1 r1 _ _ => ?_
    cases x <;> simp only [itemsD, reduceCtorEq] at e2
    · cases e2
      obtain ⟨a, vs, rfl, sq, rr⟩ := r1
      refine ⟨a, vs, rfl, .inr ⟨sq, kk _ H1 _ _ [] s1 (by rw [List.length_reverse, rr.length]; exact walk_revT (xs := vs)) (fun a h => nomatch h) (fun _ a h => nomatch h) (fun H' kp => sqT_keep kp sq) fun Gp hG i d H' x H'' hd kp _ y => ?_⟩⟩
      obtain ⟨rfl, hx⟩ := y
      refine ⟨Same.refl _, ?_⟩
      have hi : i < xs.length := by
        have := (List.getElem?_eq_some_iff.mp hd).1
        simpa using this
      rw [List.getElem?_reverse hi] at hd
      obtain ⟨w, hw, q⟩ := (rr.at Gp (hG.imp id flats_rev) kp).get hd
      rw [rr.length, hx] at hw; cases hw
      exact q
    · cases e2
      obtain ⟨a, vs, rfl, g, sq, rr⟩ := r1
      refine ⟨a, vs, rfl, .inl ⟨SqL.of sq, kk _ H1 _ _ [a] s1 (by rw [List.length_reverse, rr.length]; exact walk_revL (xs := vs)) (fun b h => ?_) (fun hsf b h => by cases hsf) (fun H' kp => SqL.of (kp a _ sq (.inr ⟨by simp, rfl⟩))) fun Gp hG i d H' x H'' hd kp _ y => ?_⟩⟩
      · rcases List.mem_singleton.mp h with rfl
        exact ⟨g, by rw [sq]; exact fun z => nomatch z⟩
      · obtain ⟨rfl, hx⟩ := y
        refine ⟨Same.refl _, ?_⟩
        have hi : i < xs.length := by
          have := (List.getElem?_eq_some_iff.mp hd).1
          simpa using this
        rw [List.getElem?_reverse hi] at hd
        obtain ⟨w, hw, q⟩ := (rr.at Gp (hG.imp id flats_rev) kp).get hd
        rw [rr.length, hx] at hw; cases hw
        exact q
  · cases h
theorem snd_gcd {a b : CE} (ha : Snd N T lvl cl a) (hb : Snd N T lvl cl b) : Snd N T lvl cl (.gcd a b) := by
  have hk : ∀ f s e, chkE N T (.gcd a b) f s e = (match e with | .Call (.Name x _) [y, z] [] _ => glB s.sc x && decide (x = "gcd") && decide (imG ∈ T.im) && chkE N T a false s y && chkE N T b false s z | _ => false) := fun f s e => by
    cases e <;> try rfl
    rename_i fn xs kw p
    cases fn <;> try rfl
    rcases xs with _ | ⟨x, _ | ⟨y, _ | ⟨z, xs⟩⟩⟩ <;> try rfl
    all_goals (cases kw <;> rfl)
  refine .mk_e (fun X s e k hh => ?_) (fun s e h env whole => ?_) (fun s e => by rw [hk, hk]) fun d => rfl
  · rw [hk] at hh
    split at hh
    · rename_i x p y z pos
      simp only [Bool.and_eq_true, decide_eq_true_eq] at hh
      obtain ⟨⟨⟨⟨h1, rfl⟩, him⟩, h3⟩, h4⟩ := hh
      refine (pe_callBfun cr_gcd (k.gl h1) (k.imp _ him) (pa_cons (ha.e X s y k h3) (pa_cons (hb.e X s z k h4) pa_nil (star_of h4 _ _)) (star_of h3 _ _)) (by decide) (star_of h3 _ _) (by rw [star_of h4]; rfl)).imp fun σ H Q q => ?_
      obtain ⟨G, ρ, d, e, hd, o⟩ := q
      simp only [evE] at hd
      obtain ⟨x, e1, hd⟩ := Option.bind_eq_some_iff.mp hd
      obtain ⟨i, e2, hd⟩ := Option.bind_eq_some_iff.mp hd
      obtain ⟨y, e3, hd⟩ := Option.bind_eq_some_iff.mp hd
      obtain ⟨j, e4, rfl⟩ := Option.map_eq_some_iff.mp hd
      cases x <;> simp only [intOf, reduceCtorEq] at e2
      cases e2
      cases y <;> simp only [intOf, reduceCtorEq] at e4
      cases e4
      refine tD_un e e1 fun v H1 s1 r1 en _ => tD_un en e3 fun w H2 s2 r2 _ _ => ?_
      cases r1
      cases r2
      exact ⟨i, j, rfl, o _ H2 (s1.trans s2) rfl fun z => by cases z⟩
    · cases hh
  · rw [hk] at h
    split at h
    · rfl
    · cases h
end
end Dl
set_option Elab.async false
set_option linter.all false
set_option maxRecDepth 100000
set_option maxHeartbeats 4000000
/-! enumerate of a tuple; what is walked; all expressions. -/
namespace Dl
open PySem PySem.Spec PyProof.Rows L2
open AutoSeq1 (wpAny_loadPart')
theorem meets_enum1 {v : Value} {o : Obj} {H : Heap → Prop} (B : Begins v o H) :
    Meets (Builtin.«enumerate.__new__» ⟨[.type "enumerate", v], []⟩) (fun _ R s => H s.heap ∧
      R (.ok (.ret (.ref (s.heap.push o).objs.size))) { s with heap := (s.heap.push o).push { cls := .type "enumerate", data := .fields #[.none, .bool false, .ref s.heap.objs.size, rawInt 0, .none, .none] } }) :=
  .of_wp fun prog w A R s h => by
    obtain ⟨hp, g, d, tk, os⟩ := s; obtain ⟨h1, h⟩ := h
    have hsub := sub_enumerate
    have q1 : ∀ {A' : Around} {E : Value → Shared → Prop} {Q : Value → Shared → Prop}, Q (.ref hp.objs.size) ⟨hp.push o, g, d, tk, os⟩ → wpAny (model prog w) A' (pyIter v) Q E ⟨hp, g, d, tk, os⟩ :=
      fun q => B.iter prog w _ _ ⟨hp, g, d, tk, os⟩ _ h1 q
    wp_walk using q1
    refine wpAny_stack_any fun st => wpAny_pure ?_
    split
    · rename_i c _ _ _ _ _
      cases (c == Value.type "enumerate")
      · wp_walk using q1
        exact ⟨_, rfl, h⟩
      · wp_walk using q1
        exact ⟨_, rfl, h⟩
    · wp_walk using q1
      exact ⟨_, rfl, h⟩
theorem enum1_begins {prog : Program} {w : World} {A : Around} {E : Value → Shared → Prop} {s : Shared} {v : Value} {o : Obj} {H : Heap → Prop} {Q : Value → Shared → Prop} (B : Begins v o H) (h1 : H s.heap)
    (h : ∀ h', IsEnum h' (s.heap.objs.size + 1) s.heap.objs.size 0 .none → h'.get? s.heap.objs.size = some o → h'.objs.size = s.heap.objs.size + 2 →
      (∀ b o, s.heap.get? b = some o → h'.get? b = some o) → Q (.ref (s.heap.objs.size + 1)) { s with heap := h' }) :
    wpAny (model prog w) A (call (.type "enumerate") [v]) Q E s := by
  refine callType_new F.called_enumerate (by decide) (F.typeCall_enumerate_1 _) (F.newCall_enumerate_1 _) (fun obj => F.args_object_init_2 obj _) F.entry_enumerate_new
    (meets_enum1 B) ⟨h1, ?_⟩
  have hz : (s.heap.push o).objs.size = s.heap.objs.size + 1 := Heap.size_push ..
  show _ ∧ _
  rw [hz]
  have he : IsEnum ((s.heap.push o).push { cls := .type "enumerate", data := .fields #[.none, .bool false, .ref s.heap.objs.size, rawInt 0, .none, .none] }) (s.heap.objs.size + 1) s.heap.objs.size 0 .none := by
    have := Heap.get?_push_size (s.heap.push o) (o := { cls := .type "enumerate", data := .fields #[.none, .bool false, .ref s.heap.objs.size, rawInt 0, .none, .none] }) rfl
    rw [hz] at this; exact this
  refine ⟨⟨_, he, rfl⟩, h _ he (Heap.get?_push_of_some _ (Heap.get?_push_size _ B.free)) (by rw [Heap.size_push, hz]) fun b o x => Heap.get?_push_of_some _ (Heap.get?_push_of_some _ x)⟩

/-- the tuple at a, each item in a new pair -/
def IteT (K : PySem.W.Frag) (a : Addr) : It :=
  ⟨fun i H => ∃ (xs : List V) (x : V), SqT K H a xs ∧ xs[i]? = some x, fun i H v H' => ∃ T x, v = .ref T ∧ H T = none ∧ H' = upd H T (.tup [.int (i : Nat), x]) ∧ ∀ xs, SqT K H a xs → xs[i]? = some x, fun i H => ∃ xs : List V, SqT K H a xs ∧ xs.length = i⟩
theorem turn_enumT {P : Program} {w : World} {K : PySem.W.Frag} {elts : List Expr} {kk : Nat} {tpos : Pos} (a e it : Addr) :
    Turn P w K (.Tuple elts kk tpos) (IteT K a) [e, it] e (fun i h => (∃ old, IsEnum h e it ((i : Nat) : Int) old) ∧ h.IsTupleIter it a i ∧ e ≠ it ∧ a < it ∧ e ≠ a) where
  mem := by simp
  obj := fun i h st b hb => by
    obtain ⟨⟨old, he⟩, ⟨o, ho, hc, hd⟩, _⟩ := st
    have e' : b = e ∨ b = it := by simpa using hb
    rcases e' with z | z
    · rw [z]; exact ⟨_, he, fun v q => nomatch q⟩
    · rw [z]; exact ⟨o, ho, fun v q => by rw [hd] at q; cases q⟩
  keep := fun i h h' st k => let ⟨⟨old, he⟩, hi, hne⟩ := st; ⟨⟨old, k e (by simp) _ he⟩, hi.at fun o q => k it (by simp) o q, hne⟩
  item := by
    intro X hP hw hK hc i pins s σ H E I hf st hg
    subst hP hw hK
    obtain ⟨⟨old, he⟩, hit, hne, hai, hea⟩ := st
    obtain ⟨xs, x, hq, hx⟩ := hg
    obtain ⟨its, rv, p, hz⟩ := I.tuple hq
    obtain ⟨u, hu, ru⟩ := rv.get hx
    have hel : e < s.heap.objs.size := Heap.lt_size he
    have hil : it < s.heap.objs.size := by obtain ⟨_, q, _⟩ := hit; exact Heap.lt_size q
    have hli : i < its.length := (List.getElem?_eq_some_iff.mp hu).1
    refine wpAny_pyNext_enum_itemD (Draws.tuple (A := X.A.in1) (I.ok.hd hc) it a (Nat.ne_of_lt hai) its.toArray) he ⟨hit, p⟩ (by simpa using hli) hne (by simp [hne, hea]) fun x1 h' tk hp1 ho hit' hT hsz hk => ?_
    have hx1 : x1 = u := by
      have : its.toArray[i]? = some x1 := hp1
      simp only [List.getElem?_toArray] at this
      rw [hu] at this
      exact (Option.some.inj this).symm
    subst hx1
    refine ⟨_, rfl, wpAny_letOwnedTupleGo_enum (s := { s with heap := h', toks := tk + 1 }) ho fun h'' he' sb => ?_⟩
    have hT2 : h''.get? s.heap.objs.size = some { cls := .type "tuple", data := .seq #[.int i tk, x1] } := (sb.2 _ (Nat.ne_of_gt hel)).trans hT
    have new : ObjOk X.prog X.w (upd H s.heap.objs.size (.tup [.int (i : Nat), x])) h'' s.heap.objs.size (.tup [.int (i : Nat), x]) :=
      ⟨by show 2 ≤ sizeLine; decide, [.int i tk, x1], .cons ⟨_, rfl⟩ (.cons ru .nil), ⟨_, hT2, rfl, _, rfl⟩⟩
    have I1 : Inv X pins σ (upd H s.heap.objs.size (.tup [.int (i : Nat), x])) { s with heap := h'', toks := tk + 1 } :=
      I.turnedNew (ch := [e, it]) (fun b ob hb q => (sb.2 b (fun z => hb (by simp [z]))).trans (hk b ob (fun z => hb (by simp [z])) (fun z => hb (by simp [z])) q)) hf (Nat.le_refl _) new
    refine ⟨.ref s.heap.objs.size, _, I1, rfl, ⟨_, x, rfl, I.hok.fresh (Nat.le_refl _), rfl, fun ys hy => by rw [I.tuple_inj hy hq]; exact hx⟩, ⟨⟨x1, ?_⟩, hit'.1.at fun o q => (sb.2 it (Ne.symm hne)).trans q, hne, hai, hea⟩, fun b hb => ?_⟩
    · have e1 : ((i + 1 : Nat) : Int) = (i : Int) + 1 := by omega
      rw [e1]; exact he'
    · have hb' : b < s.heap.objs.size := by
        have e' : b = e ∨ b = it := by simpa using hb
        rcases e' with z | z
        · rw [z]; exact hel
        · rw [z]; exact hil
      rw [upd_ne (Nat.ne_of_lt hb')]
      exact (hf b hb).1
  done := by
    intro X hP hw hK hc i pins s σ H E I hf st hg
    subst hP hw hK
    obtain ⟨⟨old, he⟩, hit, hne, hai, hea⟩ := st
    obtain ⟨xs, hq, hx⟩ := hg
    obtain ⟨its, rv, p, hz⟩ := I.tuple hq
    obtain ⟨f0, f1, f2, f3, f4, f5⟩ := hf it (by simp)
    have hl := rv.length
    have hi : i = its.toArray.size := by simp; omega
    subst hi
    exact wpAny_pyNext_enum_endD (Draws.tuple (A := X.A.in1) (I.ok.hd hc) it a (Nat.ne_of_lt hai) its.toArray) he ⟨hit, p⟩ fun h' eb => ⟨rfl, I.turned (t' := s.toks) (fun b o hb q => eb b o hb q) f0 f1 f3 f4 f5⟩
  self := fun A i s Q E st h => let ⟨⟨_, he⟩, _⟩ := st; wpAny_pyIter_enum he h
theorem walk_enumT {K : PySem.W.Frag} {a : Addr} {xs : List V} : Walk (IteT K a) xs.length (fun H => SqT K H a xs) (YPair (fun i => some (.int (i : Nat))) (fun i => xs[i]?)) := by
  refine ⟨fun i _ hi q => ⟨xs, xs[i], q, by simp [hi]⟩, fun _ q => ⟨xs, q, rfl⟩, fun i H v H' _ q y => ?_⟩
  obtain ⟨T, x, h1, h2, h3, h4⟩ := y
  exact ⟨T, .int (i : Nat), x, h1, h2, h3, rfl, h4 xs q⟩
def iEnumT (K : PySem.W.Frag) (ta : TA) : TI := fun σ H R => ta σ H fun vs H1 => ∃ a xs, vs = [.ref a] ∧ SqT K H1 a xs ∧ R (IteT K a) H1
theorem pi_enumT {X : Cx} {e : Expr} {ta : TA} {p pos tpos : Pos} {elts : List Expr} {kk : Nat} (hg : Gl X "enumerate") (hm : X.mg "enumerate" = none) (ha : PA X [e] ta) (hs : starEach [e] X.env = [(false, eval e X.env)] := by rfl) :
    PI X (.Tuple elts kk tpos) (.Call (.Name "enumerate" p) [e] [] pos) (iEnumT X.K ta) := by
  refine ⟨fun pins s σ H R I h => ?_⟩
  refine Call_ (ld_blt I hg hm boot_enumerate (PyProof.Rows.callWith_type1 (thn (ha.run pos pins s σ H _ I h) fun us s1 ⟨vs, H1, I1, r1, q1⟩ => ?_) hs rfl))
  obtain ⟨a, xs, ex, hq, q⟩ := q1
  subst ex
  cases r1 with
  | cons r rr =>
    cases rr
    cases r
    obtain ⟨its, rv, p', hz⟩ := I1.tuple hq
    have hlt : a < s1.heap.objs.size := p'.lt
    refine enum1_begins (begins_tuple a its.toArray) p' fun h' he hit hsz hk => wpAny_pyIter_enum he ?_
    have I2 : Inv X pins σ H1 { s1 with heap := h' } := I1.kept (t' := s1.toks) hk
    refine ⟨s1.heap.objs.size + 1, [s1.heap.objs.size + 1, s1.heap.objs.size], _, _, H1, rfl, I2, turn_enumT a (s1.heap.objs.size + 1) s1.heap.objs.size, ⟨⟨.none, he⟩, ⟨_, hit, rfl, rfl⟩, Nat.succ_ne_self _, hlt, Nat.ne_of_gt (Nat.lt_succ_of_lt hlt)⟩, fun b hb => ?_, q⟩
    have e' : b = s1.heap.objs.size + 1 ∨ b = s1.heap.objs.size := by simpa using hb
    have hle : s1.heap.objs.size ≤ b := by
      rcases e' with z | z
      · rw [z]; exact Nat.le_add_right _ _
      · rw [z]; exact Nat.le_refl _
    exact I1.fpOk hle (I1.hok.fresh hle)

section
variable {N : List Str} {T : FnT} {lvl : Nat} {cl : Nat → List D → Option D} {X : Cx}
theorem snd_rng1 {a : CE} (ha : Snd N T lvl cl a) : Snd N T lvl cl (.rng1 a) := by
  have hk : ∀ f s e, chkE N T (.rng1 a) f s e = (match e with | .Call (.Name x _) [y] [] _ => f && glB s.sc x && decide (x = "range") && chkE N T a false s y | _ => false) := fun f s e => by
    cases e <;> try rfl
    rename_i fn xs kw p
    cases fn <;> try rfl
    rcases xs with _ | ⟨x, _ | ⟨y, xs⟩⟩ <;> try rfl
    all_goals (cases kw <;> rfl)
  have h0 : ∀ s e, chkE N T (.rng1 a) false s e = true → False := fun s e h => by
    rw [hk] at h
    split at h <;> simp at h
  refine ⟨fun X s e k h => (h0 s e h).elim, fun X s e k h => (h0 s e h).elim, fun X s e tg k _ h => ?_⟩
  rw [hk] at h
  split at h
  · rename_i x p y pos
    simp only [Bool.true_and, Bool.and_eq_true, decide_eq_true_eq] at h
    obtain ⟨⟨h1, rfl⟩, h3⟩ := h
    refine (pi_range1 (k.gl h1) (k.free _ (by simp [bnames])) (pa_cons (ha.e X s y k h3) pa_nil (star_of h3 _ _)) (star_of h3 _ _)).imp fun σ H R q => ?_
    obtain ⟨G, ρ, d, items, e, hd, h2, kk⟩ := q
    simp only [evE] at hd
    obtain ⟨x, e1, hd⟩ := Option.bind_eq_some_iff.mp hd
    obtain ⟨n, e2, hd⟩ := Option.bind_eq_some_iff.mp hd
    obtain ⟨hc, rfl⟩ := grd_some hd
    simp only [iterD, Option.some.injEq] at h2
    subst h2
    refine tD_un e e1 fun v H1 s1 r1 _ _ => ?_
    cases x <;> simp only [intOf, reduceCtorEq] at e2
    cases e2
    cases r1
    refine ⟨n, rfl, hc.1, hc.2, kk _ H1 _ _ [] s1 (by simpa using (walk_range (lo := 0) (n := n.toNat))) (fun a h => nomatch h) (fun _ a h => nomatch h) (fun _ _ => trivial) fun Gp _ i d H' x H'' hd _ _ y => ?_⟩
    obtain ⟨rfl, rfl⟩ := y
    refine ⟨Same.refl _, ?_⟩
    obtain ⟨hi, hd⟩ := List.getElem?_eq_some_iff.mp hd
    simp only [List.getElem_map, List.getElem_range] at hd
    subst hd
    rfl
  · cases h
theorem snd_rng2 {a b : CE} (ha : Snd N T lvl cl a) (hb : Snd N T lvl cl b) : Snd N T lvl cl (.rng2 a b) := by
  have hk : ∀ f s e, chkE N T (.rng2 a b) f s e = (match e with | .Call (.Name x _) [y, z] [] _ => f && glB s.sc x && decide (x = "range") && chkE N T a false s y && chkE N T b false s z | _ => false) := fun f s e => by
    cases e <;> try rfl
    rename_i fn xs kw p
    cases fn <;> try rfl
    rcases xs with _ | ⟨x, _ | ⟨y, _ | ⟨z, xs⟩⟩⟩ <;> try rfl
    all_goals (cases kw <;> rfl)
  have h0 : ∀ s e, chkE N T (.rng2 a b) false s e = true → False := fun s e h => by
    rw [hk] at h
    split at h <;> simp at h
  refine ⟨fun X s e k h => (h0 s e h).elim, fun X s e k h => (h0 s e h).elim, fun X s e tg k _ h => ?_⟩
  rw [hk] at h
  split at h
  · rename_i x p y z pos
    simp only [Bool.true_and, Bool.and_eq_true, decide_eq_true_eq] at h
    obtain ⟨⟨⟨h1, rfl⟩, h3⟩, h4⟩ := h
    refine (pi_range2 (k.gl h1) (k.free _ (by simp [bnames])) (pa_cons (ha.e X s y k h3) (pa_cons (hb.e X s z k h4) pa_nil (star_of h4 _ _)) (star_of h3 _ _)) (by rw [star_of h3, star_of h4]; rfl) (star_of h4 _ _)).imp fun σ H R q => ?_
    obtain ⟨G, ρ, d, items, e, hd, h2, kk⟩ := q
    simp only [evE] at hd
    obtain ⟨x, e1, hd⟩ := Option.bind_eq_some_iff.mp hd
    obtain ⟨m, e2, hd⟩ := Option.bind_eq_some_iff.mp hd
    obtain ⟨y, e3, hd⟩ := Option.bind_eq_some_iff.mp hd
    obtain ⟨n, e4, hd⟩ := Option.bind_eq_some_iff.mp hd
    obtain ⟨hc, rfl⟩ := grd_some hd
    simp only [iterD, Option.some.injEq] at h2
    subst h2
    refine tD_un e e1 fun v H1 s1 r1 en _ => tD_un en e3 fun w H2 s2 r2 _ _ => ?_
    cases x <;> simp only [intOf, reduceCtorEq] at e2
    cases e2
    cases y <;> simp only [intOf, reduceCtorEq] at e4
    cases e4
    cases r1; cases r2
    refine ⟨m, n, rfl, hc, kk _ H2 _ _ [] (s1.trans s2) (by simpa using (walk_range (lo := m) (n := (n - m).toNat))) (fun a h => nomatch h) (fun _ a h => nomatch h) (fun _ _ => trivial) fun Gp _ i d H' x H'' hd _ _ y => ?_⟩
    obtain ⟨rfl, rfl⟩ := y
    refine ⟨Same.refl _, ?_⟩
    obtain ⟨hi, hd⟩ := List.getElem?_eq_some_iff.mp hd
    simp only [List.getElem_map, List.getElem_range] at hd
    subst hd
    rfl
  · cases h
theorem snd_rng3 {a b c : CE} (ha : Snd N T lvl cl a) (hb : Snd N T lvl cl b) (hc : Snd N T lvl cl c) : Snd N T lvl cl (.rng3 a b c) := by
  have hk : ∀ f s e, chkE N T (.rng3 a b c) f s e = (match e with | .Call (.Name x _) [y, z, u] [] _ => f && glB s.sc x && decide (x = "range") && chkE N T a false s y && chkE N T b false s z && chkE N T c false s u | _ => false) := fun f s e => by
    cases e <;> try rfl
    rename_i fn xs kw p
    cases fn <;> try rfl
    rcases xs with _ | ⟨x, _ | ⟨y, _ | ⟨z, _ | ⟨u, xs⟩⟩⟩⟩ <;> try rfl
    all_goals (cases kw <;> rfl)
  have h0 : ∀ s e, chkE N T (.rng3 a b c) false s e = true → False := fun s e h => by
    rw [hk] at h
    split at h <;> simp at h
  refine ⟨fun X s e k h => (h0 s e h).elim, fun X s e k h => (h0 s e h).elim, fun X s e tg k _ h => ?_⟩
  rw [hk] at h
  split at h
  · rename_i x p y z u pos
    simp only [Bool.true_and, Bool.and_eq_true, decide_eq_true_eq] at h
    obtain ⟨⟨⟨⟨h1, rfl⟩, h3⟩, h4⟩, h5⟩ := h
    refine (pi_range3 (k.gl h1) (k.free _ (by simp [bnames])) (pa_cons (ha.e X s y k h3) (pa_cons (hb.e X s z k h4) (pa_cons (hc.e X s u k h5) pa_nil (star_of h5 _ _)) (star_of h4 _ _)) (star_of h3 _ _)) (star_of h3 _ _) (by rw [star_of h4, star_of h5]; rfl)).imp fun σ H R q => ?_
    obtain ⟨G, ρ, d, items, e, hd, h2, kk⟩ := q
    simp only [evE] at hd
    obtain ⟨x, e1, hd⟩ := Option.bind_eq_some_iff.mp hd
    obtain ⟨m, e2, hd⟩ := Option.bind_eq_some_iff.mp hd
    obtain ⟨y, e3, hd⟩ := Option.bind_eq_some_iff.mp hd
    obtain ⟨n, e4, hd⟩ := Option.bind_eq_some_iff.mp hd
    obtain ⟨z, e5, hd⟩ := Option.bind_eq_some_iff.mp hd
    obtain ⟨c3, e6, hd⟩ := Option.bind_eq_some_iff.mp hd
    obtain ⟨hc, rfl⟩ := grd_some hd
    obtain ⟨c1, c2, c4, c5, rfl⟩ := hc
    simp only [iterD, Option.some.injEq] at h2
    subst h2
    refine tD_un e e1 fun v H1 s1 r1 en _ => tD_un en e3 fun w H2 s2 r2 en2 _ => tD_un en2 e5 fun w3 H3 s3 r3 _ _ => ?_
    cases x <;> simp only [intOf, reduceCtorEq] at e2
    cases e2
    cases y <;> simp only [intOf, reduceCtorEq] at e4
    cases e4
    cases z <;> simp only [intOf, reduceCtorEq] at e6
    cases e6
    cases r1; cases r2; cases r3
    refine ⟨m, n, -1, (m - n).toNat, rfl, RgC.neg c1 c2 c4 c5, kk _ H3 _ _ [] ((s1.trans s2).trans s3) (by simpa using (walk_rangeC (lo := m) (c := -1) (n := (m - n).toNat))) (fun a h => nomatch h) (fun _ a h => nomatch h) (fun _ _ => trivial) fun Gp _ i d H' x H'' hd _ _ y => ?_⟩
    obtain ⟨rfl, rfl⟩ := y
    refine ⟨Same.refl _, ?_⟩
    obtain ⟨hi, hd⟩ := List.getElem?_eq_some_iff.mp hd
    simp only [List.getElem_map, List.getElem_range] at hd
    subst hd
    show V.int _ = V.int _
    congr 1
  · cases h
theorem enumF_get : ∀ (xs : List D) (n i : Nat), (enumF n xs)[i]? = (xs[i]?).map fun d => .tup [.int (n + i : Nat), d]
  | [], n, i => by simp [enumF]
  | d :: xs, n, 0 => by simp [enumF]
  | d :: xs, n, i + 1 => by
    simp only [enumF, List.getElem?_cons_succ]
    rw [enumF_get xs (n + 1) i]
    have : n + 1 + i = n + (i + 1) := by omega
    rw [this]
theorem enumF_length : ∀ (xs : List D) (n : Nat), (enumF n xs).length = xs.length
  | [], n => rfl
  | d :: xs, n => by simp [enumF, enumF_length xs]
theorem flats_enumF : ∀ (xs : List D) (n : Nat), flats (enumF n xs) = true → flats xs = true
  | [], n, h => rfl
  | d :: xs, n, h => by
    simp only [enumF, flats, D.flat, Bool.and_eq_true, Bool.and_true, Bool.true_and] at h ⊢
    exact ⟨h.1, flats_enumF xs _ h.2⟩
theorem rep_pair {K : PySem.W.Frag} {Gp : Addr → Prop} {H : Hp} {T : Addr} {d e : D} {x y : V} (hT : H T = none) (r1 : Rep K Gp H d x) (r2 : Rep K Gp H e y) : Same H (upd H T (.tup [x, y])) ∧ Rep K Gp (upd H T (.tup [x, y])) (.tup [d, e]) (.ref T) :=
  ⟨same_new hT, T, [x, y], rfl, .inl (.inl upd_same), x, [y], rfl, r1.keep (Keep.same (same_new hT)), y, [], rfl, r2.keep (Keep.same (same_new hT)), rfl⟩
theorem snd_enum {a : CE} (ha : Snd N T lvl cl a) : Snd N T lvl cl (.enum a) := by
  have hk : ∀ f s e, chkE N T (.enum a) f s e = (match e with | .Call (.Name x _) [y] [] _ => f && glB s.sc x && decide (x = "enumerate") && chkE N T a false s y | _ => false) := fun f s e => by
    cases e <;> try rfl
    rename_i fn xs kw p
    cases fn <;> try rfl
    rcases xs with _ | ⟨x, _ | ⟨y, xs⟩⟩ <;> try rfl
    all_goals (cases kw <;> rfl)
  have h0 : ∀ s e, chkE N T (.enum a) false s e = true → False := fun s e h => by
    rw [hk] at h
    split at h <;> simp at h
  refine ⟨fun X s e k h => (h0 s e h).elim, fun X s e k h => (h0 s e h).elim, fun X s e tg k ht h => ?_⟩
  obtain ⟨es, kt, pt, rfl⟩ : ∃ es k p, tg = .Tuple es k p := by
    rcases ht with h | h
    · exact h
    · cases h
  rw [hk] at h
  split at h
  · rename_i x p y pos
    simp only [Bool.true_and, Bool.and_eq_true, decide_eq_true_eq] at h
    obtain ⟨⟨h1, rfl⟩, h3⟩ := h
    have hpa := pa_cons (ha.e X s y k h3) pa_nil (star_of h3 _ _)
    refine ((pi_enum (k.gl h1) (k.free _ (by simp [bnames])) hpa (star_of h3 _ _)).or (pi_enumT (k.gl h1) (k.free _ (by simp [bnames])) hpa (star_of h3 _ _))).imp fun σ H R q => ?_
    obtain ⟨G, ρ, d, items, e, hd, h2, kk⟩ := q
    simp only [evE] at hd
    obtain ⟨x, e1, hd⟩ := Option.bind_eq_some_iff.mp hd
    obtain ⟨xs, e2, rfl⟩ := Option.map_eq_some_iff.mp hd
    simp only [iterD, Option.some.injEq] at h2
    subst h2
    cases x <;> simp only [itemsD, reduceCtorEq] at e2
    · cases e2
      refine .inr (tD_un e e1 fun v H1 s1 r1 _ _ => ?_)
      obtain ⟨a, vs, rfl, sq, rr⟩ := r1
      refine ⟨a, vs, rfl, sq, kk _ H1 _ _ [] s1 (by rw [enumF_length, rr.length]; exact walk_enumT (xs := vs)) (fun a h => nomatch h) (fun _ a h => nomatch h) (fun H' kp => sqT_keep kp sq) fun Gp hG i d H' x H'' hd kp _ y => ?_⟩
      obtain ⟨Tt, x1, x2, rfl, hT, rfl, hx1, hx2⟩ := y
      rw [enumF_get] at hd
      obtain ⟨dd, hdd, rfl⟩ := Option.map_eq_some_iff.mp hd
      obtain ⟨w, hw, q⟩ := (rr.at Gp (hG.imp id (flats_enumF _ _)) kp).get hdd
      rw [show vs[i]? = some x2 from hx2] at hw; cases hw
      cases hx1
      exact rep_pair hT (by rw [Nat.zero_add]; rfl) q
    · cases e2
      refine .inl (tD_un e e1 fun v H1 s1 r1 _ _ => ?_)
      obtain ⟨a, vs, rfl, g, sq, rr⟩ := r1
      refine ⟨a, vs, rfl, SqL.of sq, kk _ H1 _ _ [a] s1 (by rw [enumF_length, rr.length]; exact walk_enum (xs := vs)) (fun b h => ?_) (fun hsf b h => by cases hsf) (fun H' kp => SqL.of (kp a _ sq (.inr ⟨by simp, rfl⟩))) fun Gp hG i d H' x H'' hd kp _ y => ?_⟩
      · rcases List.mem_singleton.mp h with rfl
        exact ⟨g, by rw [sq]; exact fun z => nomatch z⟩
      · obtain ⟨Tt, x1, x2, rfl, hT, rfl, hx1, hx2⟩ := y
        rw [enumF_get] at hd
        obtain ⟨dd, hdd, rfl⟩ := Option.map_eq_some_iff.mp hd
        obtain ⟨w, hw, q⟩ := (rr.at Gp (hG.imp id (flats_enumF _ _)) kp).get hdd
        rw [show vs[i]? = some x2 from hx2] at hw; cases hw
        cases hx1
        exact rep_pair hT (by rw [Nat.zero_add]; rfl) q
  · cases h
theorem flats_zip : ∀ (xs ys : List D), flats (List.zipWith (fun d e => D.tup [d, e]) xs ys) = true → ∀ (i : Nat) d e, xs[i]? = some d → ys[i]? = some e → d.flat = true ∧ e.flat = true
  | [], ys, _, i, d, e, h1, h2 => by simp at h1
  | x :: xs, [], _, i, d, e, h1, h2 => by simp at h2
  | x :: xs, y :: ys, h, 0, d, e, h1, h2 => by
    simp at h1 h2
    subst h1 h2
    simp only [List.zipWith_cons_cons, flats, D.flat, Bool.and_eq_true, Bool.and_true] at h
    exact h.1
  | x :: xs, y :: ys, h, i + 1, d, e, h1, h2 => by
    simp only [List.zipWith_cons_cons, flats, Bool.and_eq_true] at h
    exact flats_zip xs ys h.2 i d e (by simpa using h1) (by simpa using h2)
theorem walk_zipT {K : PySem.W.Frag} {a b : Addr} {xs ys : List V} {n : Nat} (hn : n = min xs.length ys.length) : Walk (RZ.ItzT K a b) n (fun H => SqT K H a xs ∧ SqT K H b ys) (YPair (fun i => xs[i]?) (fun i => ys[i]?)) := by
  subst hn
  refine ⟨fun i _ hi q => ?_, fun _ q => ⟨xs, ys, q.1, q.2, by omega⟩, fun i H v H' _ q y => ?_⟩
  · have h1 : i < xs.length := by omega
    have h2 : i < ys.length := by omega
    exact ⟨xs, ys, xs[i], ys[i], q.1, q.2, by simp [h1], by simp [h2]⟩
  · obtain ⟨T, x, z, h1, h2, h3, h4, h5⟩ := y
    exact ⟨T, x, z, h1, h2, h3, h4 xs q.1, h5 ys q.2⟩
theorem walk_mix {K : PySem.W.Frag} {a b : Addr} {xs ys : List V} {n : Nat} (hn : n = min xs.length ys.length) : Walk (ItzM K a b) n (fun H => SqT K H a xs ∧ SqL K H b ys) (YPair (fun i => xs[i]?) (fun i => ys[i]?)) := by
  subst hn
  refine ⟨fun i _ hi q => ?_, fun _ q => ⟨xs, ys, q.1, q.2, by omega⟩, fun i H v H' _ q y => ?_⟩
  · have h1 : i < xs.length := by omega
    have h2 : i < ys.length := by omega
    exact ⟨xs, ys, xs[i], ys[i], q.1, q.2, by simp [h1], by simp [h2]⟩
  · obtain ⟨T, x, z, h1, h2, h3, h4, h5⟩ := y
    exact ⟨T, x, z, h1, h2, h3, h4 xs q.1, h5 ys q.2⟩
/-- an item kept, by its own flatness -/
theorem rep_at {K : PySem.W.Frag} {G Gp : Addr → Prop} {H H1 H' : Hp} {l : List D} {vs : List V} (r : Reps K (Gx G H) H1 l vs) {i : Nat} {d : D} {w : V} (hd : l[i]? = some d) (hw : vs[i]? = some w) (h : (∀ a, Gx G H a → H1 a ≠ none → Gp a) ∨ d.flat = true) (k : Keep Gp H1 H') : Rep K Gp H' d w := by
  obtain ⟨w', h1, q⟩ := r.get hd
  rw [hw] at h1; cases h1
  rcases h with h | h
  · exact (q.monoT h).keep k
  · exact (Rep.flat h q).keep k
theorem snd_zip {a b : CE} (ha : Snd N T lvl cl a) (hb : Snd N T lvl cl b) : Snd N T lvl cl (.zip a b) := by
  have hk : ∀ f s e, chkE N T (.zip a b) f s e = (match e with | .Call (.Name x _) [y, z] [] _ => f && glB s.sc x && decide (x = "zip") && chkE N T a false s y && chkE N T b false s z | _ => false) := fun f s e => by
    cases e <;> try rfl
    rename_i fn xs kw p
    cases fn <;> try rfl
    rcases xs with _ | ⟨x, _ | ⟨y, _ | ⟨z, xs⟩⟩⟩ <;> try rfl
    all_goals (cases kw <;> rfl)
  have h0 : ∀ s e, chkE N T (.zip a b) false s e = true → False := fun s e h => by
    rw [hk] at h
    split at h <;> simp at h
  refine ⟨fun X s e k h => (h0 s e h).elim, fun X s e k h => (h0 s e h).elim, fun X s e tg k ht h => ?_⟩
  obtain ⟨es, kt, pt, rfl⟩ : ∃ es k p, tg = .Tuple es k p := by
    rcases ht with h | h
    · exact h
    · cases h
  rw [hk] at h
  split at h
  · rename_i x p y z pos
    simp only [Bool.true_and, Bool.and_eq_true, decide_eq_true_eq] at h
    obtain ⟨⟨⟨h1, rfl⟩, h3⟩, h4⟩ := h
    have hpa := pa_cons (ha.e X s y k h3) (pa_cons (hb.e X s z k h4) pa_nil (star_of h4 _ _)) (star_of h3 _ _)
    refine ((RZ.pi_zipA (k.gl h1) (k.free _ (by simp [bnames])) hpa (star_of h3 _ _) (by rw [star_of h4]; rfl)).or (pi_mix (k.gl h1) (k.free _ (by simp [bnames])) hpa (star_of h3 _ _) (by rw [star_of h4]; rfl))).imp fun σ H R q => ?_
    obtain ⟨G, ρ, d, items, e, hd, h2, kk⟩ := q
    simp only [evE] at hd
    obtain ⟨x, e1, hd⟩ := Option.bind_eq_some_iff.mp hd
    obtain ⟨y, e2, hd⟩ := Option.bind_eq_some_iff.mp hd
    cases x <;> cases y <;> simp only [zipD, Option.map_some, Option.map_none, Option.some.injEq, reduceCtorEq] at hd
    · subst hd
      simp only [iterD, Option.some.injEq] at h2
      subst h2
      refine .inl (tD_un e e1 fun v H1 s1 r1 en _ => tD_un en e2 fun w H2 s2 r2 _ _ => ?_)
      have r1 := r1.keep (Keep.same s2)
      have r2 := r2.mono (G' := Gx G H) fun _ h => Gx.same s1 h
      obtain ⟨a, vs, rfl, sq, rr⟩ := r1
      obtain ⟨b, ws, rfl, sq2, rr2⟩ := r2
      refine ⟨a, b, vs, ws, rfl, .inr ⟨sq, sq2, kk _ H2 _ _ [] (s1.trans s2) (walk_zipT (xs := vs) (ys := ws) (by rw [List.length_zipWith, rr.length, rr2.length])) (fun a h => nomatch h) (fun _ a h => nomatch h) (fun H' kp => ⟨sqT_keep kp sq, sqT_keep kp sq2⟩) fun Gp hG i d H' x H'' hd kp _ y => ?_⟩⟩
      obtain ⟨Tt, x1, x2, rfl, hT, rfl, hx1, hx2⟩ := y
      rw [List.getElem?_zipWith] at hd
      split at hd
      · rename_i da db ea eb
        cases hd
        exact rep_pair hT (rep_at rr ea hx1 (hG.imp id fun f => (flats_zip _ _ f i da db ea eb).1) kp) (rep_at rr2 eb hx2 (hG.imp id fun f => (flats_zip _ _ f i da db ea eb).2) kp)
      · cases hd
    · subst hd
      simp only [iterD, Option.some.injEq] at h2
      subst h2
      refine .inr (tD_un e e1 fun v H1 s1 r1 en _ => tD_un en e2 fun w H2 s2 r2 _ _ => ?_)
      have r1 := r1.keep (Keep.same s2)
      have r2 := r2.mono (G' := Gx G H) fun _ h => Gx.same s1 h
      obtain ⟨a, vs, rfl, sq, rr⟩ := r1
      obtain ⟨b, ws, rfl, g2, sq2, rr2⟩ := r2
      refine ⟨a, b, vs, ws, rfl, sq, SqL.of sq2, kk _ H2 _ _ [b] (s1.trans s2) (walk_mix (xs := vs) (ys := ws) (by rw [List.length_zipWith, rr.length, rr2.length])) (fun c h => ?_) (fun hsf b h => by cases hsf) (fun H' kp => ⟨sqT_keep kp sq, SqL.of (kp b _ sq2 (.inr ⟨by simp, rfl⟩))⟩) fun Gp hG i d H' x H'' hd kp _ y => ?_⟩
      · rcases List.mem_singleton.mp h with rfl
        exact ⟨g2, by rw [sq2]; exact fun z => nomatch z⟩
      · obtain ⟨Tt, x1, x2, rfl, hT, rfl, hx1, hx2⟩ := y
        rw [List.getElem?_zipWith] at hd
        split at hd
        · rename_i da db ea eb
          cases hd
          exact rep_pair hT (rep_at rr ea hx1 (hG.imp id fun f => (flats_zip _ _ f i da db ea eb).1) kp) (rep_at rr2 eb hx2 (hG.imp id fun f => (flats_zip _ _ f i da db ea eb).2) kp)
        · cases hd
    · subst hd
      simp only [iterD, Option.some.injEq] at h2
      subst h2
      refine .inl (tD_un e e1 fun v H1 s1 r1 en _ => tD_un en e2 fun w H2 s2 r2 _ _ => ?_)
      have r1 := r1.keep (Keep.same s2)
      have r2 := r2.mono (G' := Gx G H) fun _ h => Gx.same s1 h
      obtain ⟨a, vs, rfl, g, sq, rr⟩ := r1
      obtain ⟨b, ws, rfl, g2, sq2, rr2⟩ := r2
      refine ⟨a, b, vs, ws, rfl, .inl ⟨SqL.of sq, SqL.of sq2, kk _ H2 _ _ [a, b] (s1.trans s2) (walk_zip (xs := vs) (ys := ws) (by rw [List.length_zipWith, rr.length, rr2.length])) (fun c h => ?_) (fun hsf b h => by cases hsf) (fun H' kp => ⟨SqL.of (kp a _ sq (.inr ⟨by simp, rfl⟩)), SqL.of (kp b _ sq2 (.inr ⟨by simp, rfl⟩))⟩) fun Gp hG i d H' x H'' hd kp _ y => ?_⟩⟩
      · have : c = a ∨ c = b := by simpa using h
        rcases this with rfl | rfl
        · exact ⟨g, by rw [sq]; exact fun z => nomatch z⟩
        · exact ⟨g2, by rw [sq2]; exact fun z => nomatch z⟩
      · obtain ⟨Tt, x1, x2, rfl, hT, rfl, hx1, hx2⟩ := y
        rw [List.getElem?_zipWith] at hd
        split at hd
        · rename_i da db ea eb
          cases hd
          exact rep_pair hT (rep_at rr ea hx1 (hG.imp id fun f => (flats_zip _ _ f i da db ea eb).1) kp) (rep_at rr2 eb hx2 (hG.imp id fun f => (flats_zip _ _ f i da db ea eb).2) kp)
        · cases hd
  · cases h
/-! ### tuple, list of a range -/
theorem reps_rg {K : PySem.W.Frag} {G : Addr → Prop} {H : Hp} : ∀ (m : Int) (l : List Nat), Reps K G H (l.map fun i => D.int (m + (i : Nat))) (l.map fun i => V.int (m + (i : Nat)))
  | m, [] => rfl
  | m, i :: l => ⟨_, _, rfl, rfl, reps_rg m l⟩
theorem out_seq {K : PySem.W.Frag} {G : Addr → Prop} {H : Hp} {tp : Bool} {m n : Int} {Q : VK} (o : Out K G H (!tp) (seqD tp (rgl m n)) Q) :
    (tp = true → ∀ q, H q = none → Q (.ref q) (upd H q (.tup (rgV m n)))) ∧ (tp = false → ∀ q, H q = none → Q (.ref q) (upd H q (.lst (rgV m n)))) := by
  constructor
  · rintro rfl
    exact out_tup (ds := rgl m n) (reps_rg m _) o
  · rintro rfl
    exact out_lst (ds := rgl m n) (reps_rg m _) o
theorem tD_mono {K : PySem.W.Frag} {fr : Bool} {f : Rho → Option D} {σ : L2.St} {H : Hp} {Q Q' : VK} (h : tD K fr f σ H Q) (i : ∀ v H', Q v H' → Q' v H') : tD K fr f σ H Q' :=
  let ⟨G, ρ, d, e, hd, o⟩ := h; ⟨G, ρ, d, e, hd, fun v H' s r fr => i v H' (o v H' s r fr)⟩
theorem key_rgv1 {tp : Bool} {a : CE} (f : Bool) (s : Sc) (e : Expr) : chkE N T (.rgv1 tp a) f s e = (match e with | .Call (.Name x _) [.Call (.Name y _) [z] [] _] [] _ => glB s.sc x && decide (x = if tp then ("tuple" : Str) else "list") && glB s.sc y && decide (y = "range") && chkE N T a false s z | _ => false) := by
  cases e <;> try rfl
  rename_i fn xs kw p
  cases fn <;> try rfl
  rcases xs with _ | ⟨x, _ | ⟨x2, xs⟩⟩ <;> try rfl
  all_goals (cases kw <;> try rfl)
  all_goals (cases x <;> try rfl)
  all_goals (rename_i fn2 xs2 kw2 p2; cases fn2 <;> try rfl)
  all_goals (rcases xs2 with _ | ⟨y, _ | ⟨y2, ys⟩⟩ <;> try rfl)
  all_goals (cases kw2 <;> rfl)
theorem key_rgv2 {tp : Bool} {a b : CE} (f : Bool) (s : Sc) (e : Expr) : chkE N T (.rgv2 tp a b) f s e = (match e with | .Call (.Name x _) [.Call (.Name y _) [z, u] [] _] [] _ => glB s.sc x && decide (x = if tp then ("tuple" : Str) else "list") && glB s.sc y && decide (y = "range") && chkE N T a false s z && chkE N T b false s u | _ => false) := by
  cases e <;> try rfl
  rename_i fn xs kw p
  cases fn <;> try rfl
  rcases xs with _ | ⟨x, _ | ⟨x2, xs⟩⟩ <;> try rfl
  all_goals (cases kw <;> try rfl)
  all_goals (cases x <;> try rfl)
  all_goals (rename_i fn2 xs2 kw2 p2; cases fn2 <;> try rfl)
  all_goals (rcases xs2 with _ | ⟨y, _ | ⟨y2, _ | ⟨y3, ys⟩⟩⟩ <;> try rfl)
  all_goals (cases kw2 <;> rfl)
theorem snd_rgv1 (tp : Bool) {a : CE} (ha : Snd N T lvl cl a) : Snd N T lvl cl (.rgv1 tp a) := by
  refine .mk_e (fun X s e k hh => ?_) (fun s e h env whole => ?_) (fun s e => by rw [key_rgv1, key_rgv1]) fun d => rfl
  · rw [key_rgv1] at hh
    split at hh
    · rename_i x p y p2 z pos2 pos
      simp only [Bool.and_eq_true, decide_eq_true_eq] at hh
      obtain ⟨⟨⟨⟨h1, h2⟩, h3⟩, rfl⟩, h4⟩ := hh
      have pr := prg_1 (p := p2) (pos := pos2) (k.gl h3) (k.free _ (by simp [bnames])) (ha.e X s z k h4) (star_of h4 _ _)
      have rd : ∀ σ H (Q : VK), tD X.K (!tp) (evE cl (.rgv1 tp a)) σ H Q → tD X.K (freshB a) (evE cl a) σ H fun x H1 => ∃ n, x = .int n ∧ RgOk 0 n ∧ (tp = true → ∀ q, H1 q = none → Q (.ref q) (upd H1 q (.tup (rgV 0 n)))) ∧ (tp = false → ∀ q, H1 q = none → Q (.ref q) (upd H1 q (.lst (rgV 0 n)))) := by
        intro σ H Q q
        obtain ⟨G, ρ, d, e, hd, o⟩ := q
        simp only [evE] at hd
        obtain ⟨x, e1, hd⟩ := Option.bind_eq_some_iff.mp hd
        obtain ⟨n, e2, hd⟩ := Option.bind_eq_some_iff.mp hd
        obtain ⟨hc, rfl⟩ := grd_some hd
        refine tD_un e e1 fun v H1 s1 r1 _ _ => ?_
        cases x <;> simp only [intOf, reduceCtorEq] at e2
        cases e2
        cases r1
        exact ⟨n, rfl, ⟨by omega, by omega, by omega, by omega, by omega⟩, out_seq (o.from_ s1)⟩
      cases tp with
      | true =>
        have h2 : x = "tuple" := h2
        subst h2
        refine (pe_tupRg (p := p) (pos := pos) k.calm (k.gl h1) (k.free _ (by simp [bnames])) pr rfl).imp fun σ H Q q => ?_
        exact tD_mono (rd σ H Q q) fun v H1 ⟨n, e, ok, a, _⟩ => ⟨n, e, ok, a rfl⟩
      | false =>
        have h2 : x = "list" := h2
        subst h2
        refine (pe_listRg (p := p) (pos := pos) k.calm (k.gl h1) (k.free _ (by simp [bnames])) pr rfl).imp fun σ H Q q => ?_
        exact tD_mono (rd σ H Q q) fun v H1 ⟨n, e, ok, _, a⟩ => ⟨n, e, ok, a rfl⟩
    · cases hh
  · rw [key_rgv1] at h
    split at h
    · rfl
    · cases h
theorem snd_rgv2 (tp : Bool) {a b : CE} (ha : Snd N T lvl cl a) (hb : Snd N T lvl cl b) : Snd N T lvl cl (.rgv2 tp a b) := by
  refine .mk_e (fun X s e k hh => ?_) (fun s e h env whole => ?_) (fun s e => by rw [key_rgv2, key_rgv2]) fun d => rfl
  · rw [key_rgv2] at hh
    split at hh
    · rename_i x p y p2 z u pos2 pos
      simp only [Bool.and_eq_true, decide_eq_true_eq] at hh
      obtain ⟨⟨⟨⟨⟨h1, h2⟩, h3⟩, rfl⟩, h4⟩, h5⟩ := hh
      have pr := prg_2 (p := p2) (pos := pos2) (k.gl h3) (k.free _ (by simp [bnames])) (ha.e X s z k h4) (hb.e X s u k h5) (star_of h4 _ _) (star_of h5 _ _) (by rw [star_of h5]; rfl)
      have rd : ∀ σ H (Q : VK), tD X.K (!tp) (evE cl (.rgv2 tp a b)) σ H Q → tD X.K (freshB a) (evE cl a) σ H fun x H1 => tD X.K (freshB b) (evE cl b) σ H1 fun y H2 => ∃ m n, x = .int m ∧ y = .int n ∧ RgOk m n ∧ (tp = true → ∀ q, H2 q = none → Q (.ref q) (upd H2 q (.tup (rgV m n)))) ∧ (tp = false → ∀ q, H2 q = none → Q (.ref q) (upd H2 q (.lst (rgV m n)))) := by
        intro σ H Q q
        obtain ⟨G, ρ, d, e, hd, o⟩ := q
        simp only [evE] at hd
        obtain ⟨x, e1, hd⟩ := Option.bind_eq_some_iff.mp hd
        obtain ⟨m, e2, hd⟩ := Option.bind_eq_some_iff.mp hd
        obtain ⟨y, e3, hd⟩ := Option.bind_eq_some_iff.mp hd
        obtain ⟨n, e4, hd⟩ := Option.bind_eq_some_iff.mp hd
        obtain ⟨hc, rfl⟩ := grd_some hd
        refine tD_un e e1 fun v H1 s1 r1 en _ => tD_un en e3 fun w H2 s2 r2 _ _ => ?_
        cases x <;> simp only [intOf, reduceCtorEq] at e2
        cases e2
        cases y <;> simp only [intOf, reduceCtorEq] at e4
        cases e4
        cases r1; cases r2
        exact ⟨m, n, rfl, rfl, hc, out_seq (o.from_ (s1.trans s2))⟩
      cases tp with
      | true =>
        have h2 : x = "tuple" := h2
        subst h2
        refine (pe_tupRg (p := p) (pos := pos) k.calm (k.gl h1) (k.free _ (by simp [bnames])) pr rfl).imp fun σ H Q q => ?_
        exact tD_mono (rd σ H Q q) fun v H1 q => tD_mono q fun w H2 ⟨m, n, e, e', ok, a, _⟩ => ⟨m, n, e, e', ok, a rfl⟩
      | false =>
        have h2 : x = "list" := h2
        subst h2
        refine (pe_listRg (p := p) (pos := pos) k.calm (k.gl h1) (k.free _ (by simp [bnames])) pr rfl).imp fun σ H Q q => ?_
        exact tD_mono (rd σ H Q q) fun v H1 q => tD_mono q fun w H2 ⟨m, n, e, e', ok, _, a⟩ => ⟨m, n, e, e', ok, a rfl⟩
    · cases hh
  · rw [key_rgv2] at h
    split at h
    · rfl
    · cases h
/-! ### all forms -/
mutual
theorem snd_all : ∀ c : CE, Snd N T lvl cl c
  | .var i => snd_var i
  | .int i => snd_const (cc := .int i) (d := .int i) (v := .int i) (fun b s e => by cases e <;> rfl) (fun X j p => pe_int) (fun ρ => rfl) (fun _ _ _ => rfl) rfl fun d => rfl
  | .bl i => snd_const (cc := .bool i) (d := .bl i) (v := .bl i) (fun b s e => by cases e <;> rfl) (fun X j p => pe_bl) (fun ρ => rfl) (fun _ _ _ => rfl) rfl fun d => rfl
  | .non => snd_const (cc := .none) (d := .non) (v := .non) (fun b s e => by cases e <;> rfl) (fun X j p => pe_non) (fun ρ => rfl) (fun _ _ _ => rfl) rfl fun d => rfl
  | .str x => snd_const (cc := .str x) (d := .str x) (v := .str x) (fun b s e => by cases e <;> rfl) (fun X j p => pe_str) (fun ρ => rfl) (fun _ _ _ => rfl) rfl fun d => rfl
  | .bin o a b => snd_bin o (snd_all a) (snd_all b)
  | .neg a => snd_neg (snd_all a)
  | .not a => snd_not (snd_all a)
  | .cmp o a b => snd_cmp o (snd_all a) (snd_all b)
  | .chain o o' a b c => snd_chain o o' (snd_all a) (snd_all b) (snd_all c)
  | .chain3 o o' o'' a b c d => snd_chain3 o o' o'' (snd_all a) (snd_all b) (snd_all c) (snd_all d)
  | .isN a => snd_isN (snd_all a)
  | .notN a => snd_notN (snd_all a)
  | .and a b => snd_and (snd_all a) (snd_all b)
  | .or a b => snd_or (snd_all a) (snd_all b)
  | .ite c a b => snd_ite (snd_all c) (snd_all a) (snd_all b)
  | .idx a b => snd_idx (snd_all a) (snd_all b)
  | .lidx a b => snd_lidx (snd_all a) (snd_all b)
  | .ssor a => snd_ssor (snd_all a)
  | .slen a => snd_slen (snd_all a)
  | .slc a lo hi => snd_slc (snd_all a) (snd_all lo) (snd_all hi)
  | .rev a => snd_rev (snd_all a)
  | .tup es => snd_tup (sndL_all es)
  | .lst es => snd_lst (sndL_all es)
  | .call f es => snd_call f (sndL_all es)
  | .bi b es => snd_bi b (sndL_all es)
  | .isi t a => snd_isi t (snd_all a)
  | .lc own tg it cs elt => snd_lc (snd_all it) (sndL_all cs) (snd_all elt)
  | .lc2 own own1 tg it cs tg1 it1 cs1 elt => snd_lc2 (snd_all it) (sndL_all cs) (snd_all it1) (sndL_all cs1) (snd_all elt)
  | .gen al own tg it cs elt => snd_gen (snd_all it) (sndL_all cs) (snd_all elt)
  | .rgv1 tp a => snd_rgv1 tp (snd_all a)
  | .rgv2 tp a b => snd_rgv2 tp (snd_all a) (snd_all b)
  | .rng1 a => snd_rng1 (snd_all a)
  | .rng2 a b => snd_rng2 (snd_all a) (snd_all b)
  | .rng3 a b c => snd_rng3 (snd_all a) (snd_all b) (snd_all c)
  | .enum a => snd_enum (snd_all a)
  | .zip a b => snd_zip (snd_all a) (snd_all b)
  | .rvd a => snd_rvd (snd_all a)
  | .cmb a r => snd_cmb (snd_all a) (snd_all r)
  | .prm a => snd_prm (snd_all a)
  | .gcd a b => snd_gcd (snd_all a) (snd_all b)
theorem sndL_all : ∀ cs : List CE, SndL N T lvl cl cs
  | [] => sndL_nil
  | c :: cs => sndL_cons (snd_all c) (sndL_all cs)
end
end
end Dl
set_option Elab.async false
set_option linter.all false
set_option maxRecDepth 100000
set_option maxHeartbeats 4000000
/-! Statements: the slots' state, the look, its proof. -/
namespace Dl
open PySem PySem.Spec PyProof.Rows L2

/-! ### the state of the slots -/
/-- what stands through a loop: the tuples of a heap, and its lists at F -/
structure Pr where
  H : Hp
  F : Addr → Prop
  S : Addr → Prop
/-- a list that must stand -/
def Pr.at (P : Pr) (a : Addr) : Prop := P.F a ∧ ∃ o, P.H a = some o ∧ isTb o = false
structure StR (K : PySem.W.Frag) (H0 : Hp) (G0 : Addr → Prop) (P : Pr) (F : Addr → Prop) (σ : L2.St) (H : Hp) (ρ : RhoS) : Prop where
  len : σ.length = ρ.length
  base : Same H0 H
  sub : ∀ a, F a → Gx G0 H0 a
  trk : ∀ a, F a → H a ≠ none
  pt : Keep P.F P.H H
  inc : ∀ a, P.S a → F a
  sh : ∀ (i : Nat) (d : D), ρ[i]? = some (some (.sh d)) → ∃ v, σ[i]? = some (some v) ∧ Rep K F H d v
  own : ∀ (i : Nat) (l : List D), ρ[i]? = some (some (.own l)) → ∃ a vs, σ[i]? = some (some (.ref a)) ∧ H a = some (.lst vs) ∧ Reps K F H l vs ∧ ¬ F a ∧ H0 a = none ∧ ¬ P.at a
  dist : ∀ (i j : Nat) (l l' : List D) (a : Addr), i ≠ j → ρ[i]? = some (some (.own l)) → ρ[j]? = some (some (.own l')) → σ[i]? = some (some (.ref a)) → σ[j]? ≠ some (some (.ref a))
  tb : TbsOk K H
section
variable {K : PySem.W.Frag} {H0 : Hp} {G0 : Addr → Prop} {P : Pr} {F : Addr → Prop} {σ : L2.St} {H H1 : Hp} {ρ : RhoS}
theorem snapS_get (ρ : RhoS) (i : Nat) (d : D) (h : (snapS ρ)[i]? = some (some d)) : ∃ s, ρ[i]? = some (some s) ∧ s.d = d := by
  unfold snapS at h
  rw [List.getElem?_map] at h
  cases e : ρ[i]? with
  | none => rw [e] at h; cases h
  | some o =>
    rw [e] at h
    cases o with
    | none => simp at h
    | some s =>
      simp at h
      exact ⟨s, rfl, h⟩
theorem hide_get (fz : List Nat) : ∀ (ρ : RhoS) (n i : Nat) (d : D), (hide fz n ρ)[i]? = some (some d) → ρ[i]? = some (some (.sh d)) ∨ ∃ l, ρ[i]? = some (some (.own l)) ∧ d = .lst l ∧ n + i ∈ fz
  | [], n, i, d, h => by simp [hide] at h
  | o :: r, n, 0, d, h => by
    rcases o with _ | ⟨e⟩ | ⟨l⟩
    · simp [hide] at h
    · simp [hide] at h
      exact .inl (by simp [h])
    · by_cases hc : fz.contains n = true
      · simp only [hide, hc, if_true, List.getElem?_cons_zero, Option.some.injEq] at h
        exact .inr ⟨l, rfl, h.symm, by simpa using hc⟩
      · simp only [hide, hc, if_false, List.getElem?_cons_zero, Option.some.injEq] at h
        cases h
  | o :: r, n, i + 1, d, h => by
    have h' : (hide fz (n + 1) r)[i]? = some (some d) := by
      rcases o with _ | ⟨e⟩ | ⟨l⟩ <;> simpa [hide] using h
    rcases hide_get fz r (n + 1) i d h' with h | ⟨l, h1, h2, h3⟩
    · exact .inl (by simpa using h)
    · exact .inr ⟨l, by simpa using h1, h2, (show n + 1 + i = n + (i + 1) by omega) ▸ h3⟩
theorem hide_length (fz : List Nat) : ∀ (ρ : RhoS) (n : Nat), (hide fz n ρ).length = ρ.length
  | [], n => rfl
  | o :: r, n => by
    rcases o with _ | ⟨e⟩ | ⟨l⟩ <;> simp [hide, hide_length fz r]
theorem frzS_length (fz : List Nat) : ∀ (ρ : RhoS) (n : Nat), (frzS fz n ρ).length = ρ.length
  | [], n => rfl
  | o :: r, n => by
    rcases o with _ | ⟨e⟩ | ⟨l⟩ <;> simp [frzS, frzS_length fz r]
theorem frzS_sh (fz : List Nat) : ∀ (ρ : RhoS) (n i : Nat) (d : D), (frzS fz n ρ)[i]? = some (some (.sh d)) → ρ[i]? = some (some (.sh d)) ∨ ∃ l, ρ[i]? = some (some (.own l)) ∧ d = .lst l ∧ n + i ∈ fz
  | [], n, i, d, h => by simp [frzS] at h
  | o :: r, n, 0, d, h => by
    rcases o with _ | ⟨e⟩ | ⟨l⟩
    · simp [frzS] at h
    · simp [frzS] at h
      exact .inl (by simp [h])
    · by_cases hc : fz.contains n = true
      · simp only [frzS, hc, if_true, List.getElem?_cons_zero, Option.some.injEq, Sl.sh.injEq] at h
        exact .inr ⟨l, rfl, h.symm, by simpa using hc⟩
      · simp only [frzS, hc, if_false, List.getElem?_cons_zero, Option.some.injEq] at h
        cases h
  | o :: r, n, i + 1, d, h => by
    have h' : (frzS fz (n + 1) r)[i]? = some (some (.sh d)) := by
      rcases o with _ | ⟨e⟩ | ⟨l⟩ <;> simpa [frzS] using h
    rcases frzS_sh fz r (n + 1) i d h' with h | ⟨l, h1, h2, h3⟩
    · exact .inl (by simpa using h)
    · exact .inr ⟨l, by simpa using h1, h2, (show n + 1 + i = n + (i + 1) by omega) ▸ h3⟩
theorem frzS_own (fz : List Nat) : ∀ (ρ : RhoS) (n i : Nat) (l : List D), (frzS fz n ρ)[i]? = some (some (.own l)) → ρ[i]? = some (some (.own l)) ∧ n + i ∉ fz
  | [], n, i, d, h => by simp [frzS] at h
  | o :: r, n, 0, d, h => by
    rcases o with _ | ⟨e⟩ | ⟨l⟩
    · simp [frzS] at h
    · simp [frzS] at h
    · by_cases hc : fz.contains n = true
      · simp only [frzS, hc, if_true, List.getElem?_cons_zero, Option.some.injEq] at h
        cases h
      · have h : (if fz.contains n = true then some (Sl.sh (.lst l)) else some (.own l)) = some (Sl.own d) := Option.some.inj h
        rw [if_neg hc] at h
        cases h
        exact ⟨rfl, by simpa using hc⟩
  | o :: r, n, i + 1, d, h => by
    have h' : (frzS fz (n + 1) r)[i]? = some (some (.own d)) := by
      rcases o with _ | ⟨e⟩ | ⟨l⟩ <;> simpa [frzS] using h
    obtain ⟨h1, h2⟩ := frzS_own fz r (n + 1) i d h'
    exact ⟨by simpa using h1, (show n + 1 + i = n + (i + 1) by omega) ▸ h2⟩
/-- the addresses of own lists -/
def OwnA (σ : L2.St) (ρ : RhoS) (fz : Nat → Prop) (a : Addr) : Prop := ∃ i l, fz i ∧ ρ[i]? = some (some (.own l)) ∧ σ[i]? = some (some (.ref a))
theorem StR.envAll (st : StR K H0 G0 P F σ H ρ) : EnvR K (fun a => F a ∨ OwnA σ ρ (fun _ => True) a) H σ (snapS ρ) := by
  refine ⟨by rw [st.len]; simp [snapS], fun i d h => ?_, st.tb⟩
  obtain ⟨s, h1, h2⟩ := snapS_get ρ i d h
  cases s with
  | sh e =>
    cases h2
    obtain ⟨v, a, b⟩ := st.sh i e h1
    exact ⟨v, a, b.mono fun _ h => .inl h⟩
  | own l =>
    cases h2
    obtain ⟨a, vs, e1, e2, e3, e4, e5, e6⟩ := st.own i l h1
    exact ⟨.ref a, e1, a, vs, rfl, .inr ⟨i, l, trivial, h1, e1⟩, e2, e3.mono fun _ h => .inl h⟩
theorem StR.envHide (st : StR K H0 G0 P F σ H ρ) (fz : List Nat) : EnvR K (fun a => F a ∨ OwnA σ ρ (fun i => i ∈ fz) a) H σ (hide fz 0 ρ) := by
  refine ⟨by rw [hide_length]; exact st.len, fun i d h => ?_, st.tb⟩
  rcases hide_get fz ρ 0 i d h with h1 | ⟨l, h1, rfl, h2⟩
  · obtain ⟨v, a, b⟩ := st.sh i d h1
    exact ⟨v, a, b.mono fun _ h => .inl h⟩
  · obtain ⟨a, vs, e1, e2, e3, e4, e5, e6⟩ := st.own i l h1
    rw [Nat.zero_add] at h2
    exact ⟨.ref a, e1, a, vs, rfl, .inr ⟨i, l, h2, h1, e1⟩, e2, e3.mono fun _ h => .inl h⟩
/-- the heap has grown -/
theorem StR.grow (st : StR K H0 G0 P F σ H ρ) (s : Same H H1) : StR K H0 G0 P F σ H1 ρ where
  len := st.len
  base := st.base.trans s
  sub := st.sub
  trk := fun a f z => st.trk a f (s.free z)
  pt := st.pt.trans (Keep.same s)
  inc := st.inc
  sh := fun i d h => let ⟨v, a, b⟩ := st.sh i d h; ⟨v, a, b.keep (Keep.same s)⟩
  own := fun i l h => let ⟨a, vs, e1, e2, e3, e4⟩ := st.own i l h; ⟨a, vs, e1, s.lst e2, e3.keep (Keep.same s), e4⟩
  dist := st.dist
  tb := st.tb.same s
theorem StR.ownA_fresh (st : StR K H0 G0 P F σ H ρ) {fz : Nat → Prop} {a : Addr} (h : OwnA σ ρ fz a) : H0 a = none ∧ H a ≠ none ∧ ¬ F a := by
  obtain ⟨i, l, _, h1, h2⟩ := h
  obtain ⟨b, vs, e1, e2, e3, e4, e5, e6⟩ := st.own i l h1
  rw [e1] at h2; cases h2
  exact ⟨e5, (by rw [e2]; exact fun z => nomatch z), e4⟩
/-- the slots of fz shared, all that is new too -/
theorem StR.modeA {fz : List Nat} (st : StR K H0 G0 P F σ H ρ) (s : Same H H1) : StR K H0 G0 P (fun a => Gx (fun a => F a ∨ OwnA σ ρ (fun i => i ∈ fz) a) H a ∧ H1 a ≠ none) σ H1 (aftM (.a fz) ρ) := by
  have up : ∀ a, F a → Gx (fun a => F a ∨ OwnA σ ρ (fun i => i ∈ fz) a) H a ∧ H1 a ≠ none := fun a f => ⟨.inl (.inl f), fun z => st.trk a f (s.free z)⟩
  refine ⟨by show _ = (frzS fz 0 ρ).length; rw [frzS_length]; exact st.len, st.base.trans s, fun a f => ?_, fun a f => f.2, st.pt.trans (Keep.same s), fun a z => up a (st.inc a z), fun i d h => ?_, fun i l h => ?_, fun i j l l' a hij h1 h2 => ?_, st.tb.same s⟩
  · rcases f.1 with (f | f) | f
    · exact st.sub a f
    · exact .inr (st.ownA_fresh f).1
    · exact .inr (st.base.free f)
  · rcases frzS_sh fz ρ 0 i d h with h1 | ⟨l, h1, rfl, h2⟩
    · obtain ⟨v, a, b⟩ := st.sh i d h1
      exact ⟨v, a, (b.keep (Keep.same s)).mono up⟩
    · obtain ⟨a, vs, e1, e2, e3, e4, e5, e6⟩ := st.own i l h1
      rw [Nat.zero_add] at h2
      exact ⟨.ref a, e1, a, vs, rfl, ⟨.inl (.inr ⟨i, l, h2, h1, e1⟩), by rw [s.lst e2]; exact fun z => nomatch z⟩, s.lst e2, (e3.keep (Keep.same s)).mono up⟩
  · obtain ⟨h1, h2⟩ := frzS_own fz ρ 0 i l h
    obtain ⟨a, vs, e1, e2, e3, e4, e5, e6⟩ := st.own i l h1
    refine ⟨a, vs, e1, s.lst e2, (e3.keep (Keep.same s)).mono up, fun z => ?_, e5, e6⟩
    rcases z.1 with (f | ⟨j, l', hj, h3, h4⟩) | f
    · exact e4 f
    · rw [Nat.zero_add] at h2
      exact st.dist i j l l' a (fun e => h2 (e ▸ hj)) h1 h3 e1 h4
    · rw [e2] at f; cases f
  · exact st.dist i j l l' a hij (frzS_own fz ρ 0 i l h1).1 (frzS_own fz ρ 0 j l' h2).1
/-- behind an expression, taken in a mode -/
theorem StR.mode {m : Md} (st : StR K H0 G0 P F σ H ρ) {f : Rho → Option D} {d : D} {fr : Bool} {Q : VK} (h : f (visM m ρ) = some d) (ok : okM m d = true)
    (q : ∀ v H1 F', Same H H1 → (∀ a, F a → F' a) → StR K H0 G0 P F' σ H1 (aftM m ρ) → Rep K F' H1 d v → (fr = true → Frs d v H) → Q v H1) : tD K fr f σ H Q := by
  cases m with
  | b =>
    refine ⟨_, _, d, st.envAll, h, fun v H1 s r fr' => q v H1 F s (fun _ h => h) (st.grow s) (Rep.flat ok r) fr'⟩
  | a fz =>
    refine ⟨_, _, d, st.envHide fz, h, fun v H1 s r fr' => ?_⟩
    exact q v H1 _ s (fun a f => ⟨.inl (.inl f), fun z => st.trk a f (s.free z)⟩) (st.modeA s) (r.monoT fun a g t => ⟨g, t⟩) fr'
/-- a new list of plain data, shared from now on -/
theorem StR.modeF (st : StR K H0 G0 P F σ H ρ) {f : Rho → Option D} {l : List D} {fr : Bool} {Q : VK} (h : f (snapS ρ) = some (.lst l)) (fl : flats l = true) (hfr : fr = true)
    (q : ∀ v H1 F', Same H H1 → StR K H0 G0 P F' σ H1 ρ → Rep K F' H1 (.lst l) v → Q v H1) : tD K fr f σ H Q := by
  refine ⟨_, _, .lst l, st.envAll, h, fun v H1 s r fr' => ?_⟩
  obtain ⟨a, vs, rfl, g, ha, rr⟩ := r
  have hn : H a = none := fr' hfr l rfl a rfl
  have g1 := st.grow s
  have up : ∀ b, F b → F b ∨ b = a := fun b f => .inl f
  refine q _ H1 (fun b => F b ∨ b = a) s ?_ ⟨a, vs, rfl, .inr rfl, ha, Reps.flat fl rr⟩
  refine ⟨g1.len, g1.base, fun b f => ?_, fun b f => ?_, g1.pt, fun b z => up b (g1.inc b z), fun i d h => ?_, fun i m h => ?_, g1.dist, g1.tb⟩
  · rcases f with f | rfl
    · exact st.sub b f
    · exact .inr (st.base.free hn)
  · rcases f with f | rfl
    · exact g1.trk b f
    · rw [ha]; exact fun z => nomatch z
  · obtain ⟨v, q1, q2⟩ := g1.sh i d h
    exact ⟨v, q1, q2.mono up⟩
  · obtain ⟨b, us, e1, e2, e3, e4, e5, e6⟩ := st.own i m h
    refine ⟨b, us, e1, s.lst e2, (e3.keep (Keep.same s)).mono up, fun z => ?_, e5, e6⟩
    rcases z with z | rfl
    · exact e4 z
    · rw [hn] at e2; cases e2
/-- .. where nothing is kept of it but a plain datum, the heap alone grows -/
theorem StR.peek (st : StR K H0 G0 P F σ H ρ) {f : Rho → Option D} {d : D} {fr : Bool} {Q : VK} (h : f (snapS ρ) = some d)
    (q : ∀ v H1, Same H H1 → StR K H0 G0 P F σ H1 ρ → Rep K (fun a => Gx G0 H0 a) H1 d v → Q v H1) : tD K fr f σ H Q := by
  refine ⟨_, _, d, st.envAll, h, fun v H1 s r fr' => q v H1 s (st.grow s) (r.mono fun a g => ?_)⟩
  rcases g with (f | f) | f
  · exact st.sub a f
  · exact .inr (st.ownA_fresh f).1
  · exact .inr (st.base.free f)
theorem StR.test (st : StR K H0 G0 P F σ H ρ) {f : Rho → Option D} {d : D} {b : Bool} {Q : Bool → Hp → Prop} (h : f (snapS ρ) = some d) (ht : truth d = some b)
    (q : ∀ H1, Same H H1 → StR K H0 G0 P F σ H1 ρ → Q b H1) : tT K f σ H Q := ⟨_, _, d, b, st.envAll, h, ht, fun H1 s => q H1 s (st.grow s)⟩
/-- a slot stored -/
theorem StR.setSh (st : StR K H0 G0 P F σ H ρ) {d : D} {v : V} (i : Nat) (r : Rep K F H d v) : StR K H0 G0 P F (σ.set i (some v)) H (ρ.set i (some (.sh d))) where
  len := by rw [List.length_set, List.length_set]; exact st.len
  base := st.base
  sub := st.sub
  trk := st.trk
  pt := st.pt
  inc := st.inc
  tb := st.tb
  sh := fun j e h => by
    by_cases hj : i = j
    · subst hj
      by_cases hi : i < ρ.length
      · rw [List.getElem?_set_self hi] at h
        cases h
        exact ⟨v, by rw [List.getElem?_set_self (by rw [st.len]; exact hi)], r⟩
      · rw [List.getElem?_eq_none (by simpa using hi)] at h; cases h
    · rw [List.getElem?_set_ne hj] at h ⊢
      exact st.sh j e h
  own := fun j l h => by
    by_cases hj : i = j
    · subst hj
      by_cases hi : i < ρ.length
      · rw [List.getElem?_set_self hi] at h; cases h
      · rw [List.getElem?_eq_none (by simpa using hi)] at h; cases h
    · rw [List.getElem?_set_ne hj] at h ⊢
      exact st.own j l h
  dist := fun j k l l' a hjk h1 h2 => by
    have nj : ∀ {j l}, (ρ.set i (some (Sl.sh d)))[j]? = some (some (.own l)) → i ≠ j := fun {j l} h e => by
      subst e
      by_cases hi : i < ρ.length
      · rw [List.getElem?_set_self hi] at h; cases h
      · rw [List.getElem?_eq_none (by simpa using hi)] at h; cases h
    have a1 := nj h1
    have a2 := nj h2
    rw [List.getElem?_set_ne a1] at h1 ⊢
    rw [List.getElem?_set_ne a2] at h2 ⊢
    exact st.dist j k l l' a hjk h1 h2
theorem StR.setOwn (st : StR K H0 G0 P F σ H ρ) {l : List D} {vs : List V} {a : Addr} (i : Nat) (ha : H a = some (.lst vs)) (r : Reps K F H l vs) (h1 : ¬ F a) (h2 : H0 a = none) (h3 : ¬ P.at a)
    (h4 : ∀ j l', i ≠ j → ρ[j]? = some (some (.own l')) → σ[j]? ≠ some (some (.ref a))) : StR K H0 G0 P F (σ.set i (some (.ref a))) H (ρ.set i (some (.own l))) where
  len := by rw [List.length_set, List.length_set]; exact st.len
  base := st.base
  sub := st.sub
  trk := st.trk
  pt := st.pt
  inc := st.inc
  tb := st.tb
  sh := fun j e h => by
    by_cases hj : i = j
    · subst hj
      by_cases hi : i < ρ.length
      · rw [List.getElem?_set_self hi] at h; cases h
      · rw [List.getElem?_eq_none (by simpa using hi)] at h; cases h
    · rw [List.getElem?_set_ne hj] at h ⊢
      exact st.sh j e h
  own := fun j m h => by
    by_cases hj : i = j
    · subst hj
      by_cases hi : i < ρ.length
      · rw [List.getElem?_set_self hi] at h
        cases h
        exact ⟨a, vs, by rw [List.getElem?_set_self (by rw [st.len]; exact hi)], ha, r, h1, h2, h3⟩
      · rw [List.getElem?_eq_none (by simpa using hi)] at h; cases h
    · rw [List.getElem?_set_ne hj] at h ⊢
      exact st.own j m h
  dist := fun j k l1 l2 b hjk e1 e2 e3 => by
    have at_ : ∀ {j m b}, i = j → (ρ.set i (some (Sl.own l)))[j]? = some (some (.own m)) → (σ.set i (some (.ref a)))[j]? = some (some (.ref b)) → b = a := fun {j m b} e h h' => by
      subst e
      by_cases hi : i < ρ.length
      · rw [List.getElem?_set_self (by rw [st.len]; exact hi)] at h'
        cases h'; rfl
      · rw [List.getElem?_eq_none (by simpa using hi)] at h; cases h
    by_cases hj : i = j
    · have : b = a := at_ hj e1 e3
      subst this
      have hk : i ≠ k := fun e => hjk (hj.symm.trans e)
      rw [List.getElem?_set_ne hk] at e2 ⊢
      exact h4 k l2 hk e2
    · rw [List.getElem?_set_ne hj] at e1 e3
      by_cases hk : i = k
      · intro e4
        have : b = a := at_ hk e2 e4
        subst this
        exact h4 j l1 hj e1 e3
      · rw [List.getElem?_set_ne hk] at e2 ⊢
        exact st.dist j k l1 l2 b hjk e1 e2 e3
/-- an own list changed in place -/
theorem StR.write (st : StR K H0 G0 P F σ H ρ) {i : Nat} {l m : List D} {ws : List V} {a : Addr} (hl : ρ[i]? = some (some (.own l))) (ha : σ[i]? = some (some (.ref a))) (r : Reps K F H m ws) : StR K H0 G0 P F σ (upd H a (.lst ws)) (ρ.set i (some (.own m))) := by
  obtain ⟨b, vs, e1, e2, e3, e4, e5, e6⟩ := st.own i l hl
  rw [ha] at e1; cases e1
  have kp : Keep F H (upd H a (.lst ws)) := fun c o hc q => by
    have : c ≠ a := by
      rintro rfl
      rcases q with q | q
      · rw [e2] at hc; cases hc; cases q
      · exact e4 q.1
    rw [upd_ne this]; exact hc
  have hi : i < ρ.length := (List.getElem?_eq_some_iff.mp hl).1
  refine ⟨by rw [List.length_set]; exact st.len, fun c o h => ?_, st.sub, fun c f z => ?_, fun c o h q => ?_, st.inc, fun j d h => ?_, fun j n h => ?_, fun j k l1 l2 c hjk h1 h2 => ?_, fun P' h => ?_⟩
  · rw [upd_ne (ne_of_none h e5)]
    exact st.base c o h
  · have : c ≠ a := fun e => e4 (e ▸ f)
    rw [upd_ne this] at z
    exact st.trk c f z
  · have : c ≠ a := by
      rintro rfl
      have hc := st.pt c o h q
      rw [e2] at hc
      cases hc
      rcases q with q | q
      · cases q
      · exact e6 ⟨q.1, _, h, rfl⟩
    rw [upd_ne this]
    exact st.pt c o h q
  · by_cases hj : i = j
    · subst hj
      rw [List.getElem?_set_self hi] at h; cases h
    · rw [List.getElem?_set_ne hj] at h
      obtain ⟨v, q1, q2⟩ := st.sh j d h
      exact ⟨v, q1, q2.keep kp⟩
  · by_cases hj : i = j
    · subst hj
      rw [List.getElem?_set_self hi] at h
      cases h
      exact ⟨a, ws, ha, upd_same, r.keep kp, e4, e5, e6⟩
    · rw [List.getElem?_set_ne hj] at h
      obtain ⟨b, us, q1, q2, q3, q4, q5, q6⟩ := st.own j n h
      have : b ≠ a := by
        rintro rfl
        exact st.dist i j l n b hj hl h ha q1
      exact ⟨b, us, q1, by rw [upd_ne this]; exact q2, q3.keep kp, q4, q5, q6⟩
  · have up : ∀ {j n}, (ρ.set i (some (Sl.own m)))[j]? = some (some (Sl.own n)) → ∃ n', ρ[j]? = some (some (Sl.own n')) := fun {j n} h => by
      by_cases hj : i = j
      · subst hj; exact ⟨l, hl⟩
      · rw [List.getElem?_set_ne hj] at h; exact ⟨n, h⟩
    obtain ⟨n1, h1⟩ := up h1
    obtain ⟨n2, h2⟩ := up h2
    exact st.dist j k n1 n2 c hjk h1 h2
  · obtain ⟨ps, e, k⟩ := st.tb P' h
    exact ⟨ps, by rw [upd_ne (by rintro rfl; rw [e2] at e; cases e)]; exact e, k⟩
theorem StR.wkeep (st : StR K H0 G0 P F σ H ρ) {i : Nat} {l : List D} {ws : List V} {a : Addr} (hl : ρ[i]? = some (some (.own l))) (ha : σ[i]? = some (some (.ref a))) : Keep F H (upd H a (.lst ws)) := fun c o hc q => by
  obtain ⟨b, vs, e1, e2, e3, e4, e5, e6⟩ := st.own i l hl
  rw [ha] at e1; cases e1
  have : c ≠ a := by
    rintro rfl
    rcases q with q | q
    · rw [e2] at hc; cases hc; cases q
    · exact e4 q.1
  rw [upd_ne this]; exact hc
theorem StR.setAll (bs : List (Nat × D)) : ∀ {ws : List (Nat × V)} {σ : L2.St} {ρ : RhoS}, StR K H0 G0 P F σ H ρ → BindR K F H bs ws → StR K H0 G0 P F (setAll σ ws) H (putS ρ bs) := by
  induction bs with
  | nil =>
    intro ws σ ρ st h
    cases h
    exact st
  | cons b bs ih =>
    intro ws σ ρ st h
    cases h with
    | cons p t =>
      rename_i w ws
      show StR K H0 G0 P F (Dl.setAll (σ.set w.1 (some w.2)) ws) H (putS (ρ.set b.1 (some (.sh b.2))) bs)
      rw [p.1]
      exact ih (st.setSh w.1 p.2) t
end

/-- what is wanted behind a statement -/
def Wants (K : PySem.W.Frag) (D : Ends) (H0 : Hp) (G0 : Addr → Prop) (P : Pr) : Res → Prop
  | .nx ρ => ∀ σ H F, StR K H0 G0 P F σ H ρ → D.nx σ H
  | .br ρ => ∀ σ H F, StR K H0 G0 P F σ H ρ → D.bk σ H
  | .ct ρ => ∀ σ H F, StR K H0 G0 P F σ H ρ → D.ct σ H
  | .rt d => ∀ v H, Same H0 H → Rep K (Gx G0 H0) H d v → D.rt v H
def tS (K : PySem.W.Frag) (f : RhoS → Option Res) : TS := fun D σ H => ∃ H0 G0 P F ρ r, StR K H0 G0 P F σ H ρ ∧ f ρ = some r ∧ Wants K D H0 G0 P r
end Dl
set_option Elab.async false
set_option linter.all false
set_option maxRecDepth 100000
set_option maxHeartbeats 4000000
/-! Statements: the look and its proof. -/
namespace Dl
open PySem PySem.Spec PyProof.Rows L2
/-- no stores out of order -/
def noSwap : Expr → Expr → Bool
  | _, .Tuple vs _ _ => vs.all (foldedForSure 8)
  | _, _ => true
section
variable (N : List Str) (T : FnT)
mutual
def chkS : CS → Sc → Stmt → Bool
  | .set _ i c, s, .Assign [.Name x _] e _ => decide (N[i]? = some x) && locB s x && chkE N T c false s e
  | .own i c, s, .Assign [.Name x _] e _ => decide (N[i]? = some x) && locB s x && chkE N T c false s e
  | .put _ t c, s, .Assign [tg] e _ => isTp t && chkG N s t tg && chkE N T c false s e && noSwap tg e
  | .par i j a b, s, .Assign [.Tuple [.Name x px, .Name y py] _ _] (.Tuple [u, v] _ _) _ => decide (N[i]? = some x) && decide (N[j]? = some y) && decide (i ≠ j) && decide (s.sc.names.lookup x = some .local) && decide (s.sc.names.lookup y = some .local) &&
      (px.line == py.line) && !([u, v].all (foldedForSure 8)) && !([u, v].all (constantsAlone 8)) && chkE N T a false s u && chkE N T b false s v
  | .app _ i c, s, .Expr (.Call (.Attribute (.Name x _) at_ ap) [e] [] cp) _ => decide (N[i]? = some x) && visB s.sc x && okName x && decide (at_ = "append") && (ap.endLine == cp.line) && chkE N T c false s e
  | .appF i c, s, .Expr (.Call (.Attribute (.Name x _) at_ ap) [e] [] cp) _ => decide (N[i]? = some x) && visB s.sc x && okName x && decide (at_ = "append") && (ap.endLine == cp.line) && chkE N T c false s e
  | .sti _ i k c, s, .Assign [.Subscript (.Name x _) ke _] e _ => decide (N[i]? = some x) && visB s.sc x && okName x && chkE N T k false s ke && chkE N T c false s e
  | .aug i o c, s, .AugAssign (.Name x _) op e _ => decide (N[i]? = some x) && locB s x && decide (op = boOp o) && (decide (o = .add) || decide (o = .sub)) && chkE N T c false s e
  | .popS i j, s, .Assign [.Name x _] (.Call (.Attribute (.Name y _) at_ ap) [] [] cp) _ => decide (N[i]? = some x) && locB s x && decide (N[j]? = some y) && visB s.sc y && okName y && decide (at_ = "pop") && (ap.endLine == cp.line)
  | .popA i o j, s, .AugAssign (.Name x _) op (.Call (.Attribute (.Name y _) at_ ap) [] [] cp) _ => decide (N[i]? = some x) && locB s x && decide (op = boOp o) && (decide (o = .add) || decide (o = .sub)) && decide (N[j]? = some y) && visB s.sc y && okName y && decide (at_ = "pop") && (ap.endLine == cp.line)
  | .ifs c a b, s, .If t x y _ => chkE N T c false s t && chkSs a s x && chkSs b s y
  | .loop _ t it b, s, .For tg ix body [] _ => chkE N T it true s ix && chkG N s t tg && (isTp t || !needTp it) && chkSs b s body
  | .whl _ c b, s, .While t body [] _ => chkE N T c false s t && chkSs b s body
  | .ret c, s, .Return (some e) _ => chkE N T c false s e
  | .retN, _, .Return none _ => true
  | .brk, _, .Break _ => true
  | .cnt, _, .Continue _ => true
  | .pas, _, .Pass _ => true
  | _, _, _ => false
def chkSs : List CS → Sc → List Stmt → Bool
  | [], _, [] => true
  | c :: cs, s, e :: es => chkS c s e && chkSs cs s es
  | _, _, _ => false
end
end
/-! ### stores of a comprehension -/
def swB (sc : Scope) (x : Str) (p : Pos) : Expr → Bool
  | .ListComp _ _ scope pos => decide (sc.names.lookup x = some .local) && (p.line == pos.line) && !(scope.names.any fun (n, k) => n == x && (k == .local || k == .cell))
  | _ => false
section
variable {N : List Str} {T : FnT} {lvl : Nat} {cl : Nat → List D → Option D} {X : Cx} {s : Sc}
theorem chk_setc {c : CE} {b : Bool} {a : Expr} {g : List Comprehension} {sc : Scope} {p : Pos} : chkE N T c b s (.SetComp a g sc p) = false := by cases c <;> rfl
theorem chk_dictc {c : CE} {b : Bool} {a a' : Expr} {g : List Comprehension} {sc : Scope} {p : Pos} : chkE N T c b s (.DictComp a a' g sc p) = false := by cases c <;> rfl
theorem sw_false {c : CE} {b : Bool} {e : Expr} {env : Env} {x : Str} {p : Pos} {l : Nat} (hk : env.scope.kind = .function) (h : chkE N T c b s e = true) (hs : swB env.scope x p e = false) : swapsWith e (some (.Name x p)) l env = pure false := by
  cases e with
  | ListComp elt gs scope pos =>
    have hb : env.blockKind = .function := by unfold Env.blockKind; rw [hk]; rfl
    unfold swapsWith
    show (pure (env.blockKind == .function && env.kindOf x == some .local && p.line == pos.line && !(scope.names.any fun (n, k) => n == x && (k == .local || k == .cell))) : Sem Bool) = pure false
    congr 1
    rw [hb]
    unfold swB at hs
    have e1 : (env.kindOf x == some NameKind.local) = decide (env.scope.names.lookup x = some .local) := by
      unfold Env.kindOf
      by_cases h : env.scope.names.lookup x = some .local
      · rw [h]; rfl
      · rw [decide_eq_false h]
        exact beq_eq_false_iff_ne.mpr h
    rw [e1]
    simpa using hs
  | SetComp _ _ _ _ => rw [chk_setc] at h; cases h
  | DictComp _ _ _ _ _ => rw [chk_dictc] at h; cases h
  | _ => rfl
theorem sw_other {c : CE} {b : Bool} {e : Expr} {env : Env} {t : Expr} {l : Nat} (h : chkE N T c b s e = true) (ht : ∀ x p, t ≠ .Name x p) : swapsWith e (some t) l env = pure false := by
  cases e with
  | SetComp _ _ _ _ => rw [chk_setc] at h; cases h
  | DictComp _ _ _ _ _ => rw [chk_dictc] at h; cases h
  | ListComp _ _ _ _ => cases t <;> first | rfl | exact absurd rfl (ht _ _)
  | _ => rfl
theorem sw_sole {c : CE} {b : Bool} {e : Expr} {env : Env} {t : Expr} {l : Nat} (h : chkE N T c b s e = true) (ht : ∀ x p, t ≠ .Name x p) : swapsWithSole [t] e l env = pure false := sw_other h ht
theorem swapped_none {tg e : Expr} {env : Env} (h : noSwap tg e = true) : swappedStores [tg] e env = pure none := by
  cases e with
  | Tuple vs k p =>
    have h : vs.all (foldedForSure 8) = true := h
    cases tg with
    | Tuple ts kt pt =>
      unfold swappedStores
      simp only [h, if_true]
      split
      · rfl
      · split
        · rfl
        · split <;> rfl
    | List ts pt =>
      unfold swappedStores
      simp only [h, if_true]
      split
      · rfl
      · split
        · rfl
        · split <;> rfl
    | _ => rfl
  | _ => cases tg <;> rfl
theorem swapped_sub {o i : Expr} {p : Pos} (e : Expr) {env : Env} : swappedStores [.Subscript o i p] e env = pure none := by
  cases e <;> rfl
theorem swapped_two {x y : Str} {px py pt pt2 : Pos} {kt k2 : Nat} {u v : Expr} {env : Env} (hk : env.scope.kind = .function) (hx : env.scope.names.lookup x = some .local) (hy : env.scope.names.lookup y = some .local) (hne : x ≠ y) (hl : (px.line == py.line) = true)
    (hu : ∀ a p, u ≠ .Starred a p) (hv : ∀ a p, v ≠ .Starred a p)
    (h1 : [u, v].all (foldedForSure 8) = false) (h2 : [u, v].all (constantsAlone 8) = false) :
    swappedStores [.Tuple [.Name x px, .Name y py] kt pt] (.Tuple [u, v] k2 pt2) env = pure (some [x, y]) := by
  have hb : env.blockKind = .function := by unfold Env.blockKind; rw [hk]; rfl
  have e1 : (env.kindOf x == some NameKind.local) = true := by unfold Env.kindOf; rw [hx]; rfl
  have e2 : (env.kindOf y == some NameKind.local) = true := by unfold Env.kindOf; rw [hy]; rfl
  have hl' : py.line = px.line := (beq_iff_eq.mp hl).symm
  have hd : ([x, y] : List Str).eraseDups.length = 2 := by
    have hb : (x == y) = false := beq_eq_false_iff_ne.mpr hne
    have hb' : (y == x) = false := beq_eq_false_iff_ne.mpr (Ne.symm hne)
    simp [List.eraseDups_cons, hb, hb']
  unfold swappedStores
  simp only [h1, h2, hb, List.filterMap_cons, List.filterMap_nil, Expr.pos, List.head?_cons, Option.map_some, Option.getD_some, e1, e2, hl', Bool.true_and, beq_self_eq_true, if_true, hd]
  rw [if_neg (by simp), if_neg (by
    rw [List.any_eq_true]
    rintro ⟨z, hz, hf⟩
    have hz : z = u ∨ z = v := by simpa using hz
    rcases hz with rfl | rfl
    · cases z <;> first | exact absurd hf Bool.false_ne_true | exact hu _ _ rfl
    · cases z <;> first | exact absurd hf Bool.false_ne_true | exact hv _ _ rfl)]
  rfl

structure SndS (N : List Str) (T : FnT) (lvl : Nat) (cl : Nat → List D → Option D) (c : CS) : Prop where
  s : ∀ (X : Cx) (s : Sc) (st : Stmt), Cok N T lvl cl s X → X.env.scope.kind = .function → (X.xe = fun _ _ => False) → chkS N T c s st = true → PS X st (tS X.K (exS cl c))
structure SndSs (N : List Str) (T : FnT) (lvl : Nat) (cl : Nat → List D → Option D) (c : List CS) : Prop where
  s : ∀ (X : Cx) (s : Sc) (st : List Stmt), Cok N T lvl cl s X → X.env.scope.kind = .function → (X.xe = fun _ _ => False) → chkSs N T c s st = true → PSs X st (tS X.K (exSs cl c))
theorem ps_asgn {i : Nat} {c : CE} {x : Str} {p pos : Pos} {e : Expr} (k : Cok N T lvl cl s X) (hk : X.env.scope.kind = .function) (h1 : N[i]? = some x) (h2 : locB s x = true) (h3 : chkE N T c false s e = true) :
    PS X (.Assign [.Name x p] e pos) (tAsg (tD X.K (freshB c) (evE cl c)) (gName i)) := by
  obtain ⟨l1, l2⟩ := k.loc h2
  by_cases hs : swB X.env.scope x p e = false
  · exact ps_set (i := i) (by rw [k.hN]; exact k.nd) (by rw [k.hN]; exact h1) l1 ((snd_all c).e X s e k h3) (sw_false hk h3 hs) l2
  · cases e <;> first | exact absurd rfl hs | skip
    rename_i elt gs scope pe
    simp only [swB, Bool.not_eq_false, Bool.and_eq_true, decide_eq_true_eq, Bool.not_eq_true'] at hs
    obtain ⟨⟨h4, h5⟩, h6⟩ := hs
    cases c <;> first | exact absurd (show false = true from h3) Bool.false_ne_true | skip
    · rename_i own tg it cs el
      have hk2 := h3
      rcases gs with _ | ⟨⟨tx, ix, ifs, asy⟩, _ | ⟨g2, gs⟩⟩ <;> first | exact absurd (show false = true from h3) Bool.false_ne_true | skip
      have h3 : (decide (asy = 0) && blkC N s.sc scope (ownP N own) && chkE N T it true s ix && chkG N (blkSc s scope) tg tx && tg.slots.all (fun i => own.contains i) && (isTp tg || !needTp it) && decide (cs.length ≤ 1) && chkEs N T cs (blkSc s scope) ifs && chkE N T el false (blkSc s scope) elt) = true := h3
      simp only [Bool.and_eq_true, decide_eq_true_eq, List.all_eq_true] at h3
      obtain ⟨⟨⟨⟨⟨⟨⟨⟨rfl, c2⟩, c3⟩, c4⟩, c5⟩, c6⟩, c7⟩, c8⟩, c9⟩ := h3
      have htg : (∃ es k p, tx = .Tuple es k p) ∨ needTp it = false := by
        rcases Bool.or_eq_true _ _ ▸ c6 with h6 | h6
        · refine .inl ?_
          cases tg with
          | nm i => cases h6
          | tp l => cases tx <;> first | exact ⟨_, _, _, rfl⟩ | exact absurd (show false = true from c4) Bool.false_ne_true
        · exact .inr (by simpa using h6)
      have := ps_setLc (i := i) (own := ownP N own) (g := gT X.K tg) (tt := tTs X.K (evT cl cs)) (te := tD X.K (freshB el) (evE cl el)) (pos := pe) (py := p) (spos := pos) k.calm (by rw [k.hN]; exact k.nd) (by rw [k.hN]; exact h1) h4 (sw_true hk h4 h5 h6) ((snd_all it).i X s ix tx k htg c3) (by rw [k.hN, k.sc]; exact blkOk_by c2)
          (fun sh H C cells fp => okG (k.blk sh H scope C cells fp) tg tx c4) (fun sh H C cells fp => (sndL_all cs).t _ (blkSc s scope) ifs (k.blk sh H scope C cells fp) c7 c8)
          (fun sh H C cells fp => (snd_all el).e _ (blkSc s scope) elt (k.blk sh H scope C cells fp) c9) (fset_of c3 _)
      refine this.imp fun D σ H q => ?_
      rw [ownP_snd]
      exact lc_read c5 q
    · rename_i own own1 tg it cs tg1 it1 cs1 el
      have h3' := h3
      rw [key_lc2] at h3
      split at h3
      · rename_i heq
        cases heq
        simp only [Bool.and_eq_true, decide_eq_true_eq, List.all_eq_true] at h3
        obtain ⟨⟨⟨⟨⟨⟨⟨⟨⟨⟨⟨⟨⟨⟨⟨⟨rfl, rfl⟩, c2⟩, c3⟩, c4⟩, c5⟩, c6⟩, c7⟩, c8⟩, m3⟩, m4⟩, m5⟩, m6⟩, m7⟩, m8⟩, hs⟩, c9⟩ := h3
        have := ps_setLc2 (i := i) (own := ownP N own) (vs1 := own1) (g := gT X.K tg) (tt := tTs X.K (evT cl cs)) (g1 := gT X.K tg1) (tt1 := tTs X.K (evT cl cs1)) (wi1 := tI X.K (evE cl it1) (safeI it1)) (te := tD X.K (freshB el) (evE cl el)) (pos := pe) (py := p) (spos := pos) k.calm (by rw [k.hN]; exact k.nd) (by rw [k.hN]; exact h1) h4 (sw_true hk h4 h5 h6) ((snd_all it).i X s _ _ k (htg_of c4 c6) c3) (by rw [k.hN, k.sc]; exact blkOk_by c2)
          (fun i hi => by rw [ownP_snd]; simpa using hs i hi)
          (fun sh H C cells fp => okG (k.blk sh H scope C cells fp) tg _ c4) (fun sh H C cells fp => (sndL_all cs).t _ (blkSc s scope) _ (k.blk sh H scope C cells fp) c7 c8)
          (fun sh H C cells fp => (snd_all it1).i _ (blkSc s scope) _ _ (k.blk sh H scope C cells fp) (htg_of m4 m6) m3)
          (fun sh H C cells fp => okG (k.blk sh H scope C cells fp) tg1 _ m4) (fun sh H C cells fp => (sndL_all cs1).t _ (blkSc s scope) _ (k.blk sh H scope C cells fp) m7 m8)
          (fun sh H C cells fp => (snd_all el).e _ (blkSc s scope) _ (k.blk sh H scope C cells fp) c9) (fset_of c3 _) (fun env x => fset_of m3 env x)
        refine this.imp fun D σ H q => ?_
        rw [ownP_snd]
        exact lc2_read c5 m5 (fun i hi => by simpa using hs i hi) q
      · cases h3
theorem sndS_set (m : Md) (i : Nat) (c : CE) : SndS N T lvl cl (.set m i c) where
  s := fun X s st k hk hx h => by
    cases st <;> first | exact absurd (show false = true from h) Bool.false_ne_true | skip
    rename_i ts e pos
    rcases ts with _ | ⟨t, _ | ⟨t2, ts⟩⟩ <;> first | exact absurd (show false = true from h) Bool.false_ne_true | skip
    all_goals (cases t <;> first | exact absurd (show false = true from h) Bool.false_ne_true | skip)
    simp only [chkS, Bool.and_eq_true, decide_eq_true_eq] at h
    refine (ps_asgn k hk h.1.1 h.1.2 h.2).imp fun D σ H q => ?_
    obtain ⟨H0, G0, P, F, ρ, r, st, hf, hw⟩ := q
    simp only [exS] at hf
    obtain ⟨d, e1, hf⟩ := Option.bind_eq_some_iff.mp hf
    obtain ⟨hc, rfl⟩ := grd_some hf
    exact st.mode e1 hc fun v H1 F' s1 _ st1 r1 _ => hw _ _ _ (st1.setSh i r1)
theorem sndS_own (i : Nat) (c : CE) : SndS N T lvl cl (.own i c) where
  s := fun X s st k hk hx h => by
    cases st <;> first | exact absurd (show false = true from h) Bool.false_ne_true | skip
    rename_i ts e pos
    rcases ts with _ | ⟨t, _ | ⟨t2, ts⟩⟩ <;> first | exact absurd (show false = true from h) Bool.false_ne_true | skip
    all_goals (cases t <;> first | exact absurd (show false = true from h) Bool.false_ne_true | skip)
    simp only [chkS, Bool.and_eq_true, decide_eq_true_eq] at h
    refine (ps_asgn k hk h.1.1 h.1.2 h.2).imp fun D σ H q => ?_
    obtain ⟨H0, G0, P, F, ρ, r, st, hf, hw⟩ := q
    simp only [exS] at hf
    obtain ⟨d, e1, hf⟩ := Option.bind_eq_some_iff.mp hf
    obtain ⟨l, e2, hf⟩ := Option.bind_eq_some_iff.mp hf
    obtain ⟨⟨hc, hfr⟩, rfl⟩ := grd_some hf
    cases d <;> simp only [lstOf, reduceCtorEq] at e2
    cases e2
    refine ⟨_, _, _, st.envAll, e1, fun v H1 s1 r1 fr => ?_⟩
    obtain ⟨a, vs, rfl, _, ha, rr⟩ := r1
    have hn : H a = none := fr hfr _ rfl a rfl
    refine hw _ _ F ((st.grow s1).setOwn i ha (Reps.flat hc rr) (fun f => st.trk a f hn) (st.base.free hn) (fun z => ?_) fun j l' hj h1 h2 => ?_)
    · obtain ⟨z1, o, e, z2⟩ := z
      have := st.pt a o e (.inr ⟨z1, z2⟩)
      rw [hn] at this; cases this
    · obtain ⟨b, us, q1, q2, _⟩ := st.own j l' h1
      rw [q1] at h2; cases h2
      rw [hn] at q2; cases q2
theorem sndS_put (m : Md) (t : Tg) (c : CE) : SndS N T lvl cl (.put m t c) where
  s := fun X s st k hk hx h => by
    cases st <;> first | exact absurd (show false = true from h) Bool.false_ne_true | skip
    rename_i ts e pos
    rcases ts with _ | ⟨tg, _ | ⟨t2, ts⟩⟩ <;> first | exact absurd (show false = true from h) Bool.false_ne_true | skip
    simp only [chkS, Bool.and_eq_true] at h
    obtain ⟨⟨⟨h1, h2⟩, h3⟩, h4⟩ := h
    have hn : ∀ x p, tg ≠ .Name x p := by
      rintro x p rfl
      cases t <;> first | exact absurd (show false = true from h1) Bool.false_ne_true | (simp [chkG] at h2)
    refine (ps_asg ((snd_all c).e X s e k h3) (okG k t tg h2) (sw_sole h3 hn) (swapped_none h4) (by rw [assign_notStar h2]; rfl)).imp fun D σ H q => ?_
    obtain ⟨H0, G0, P, F, ρ, r, st, hf, hw⟩ := q
    simp only [exS] at hf
    obtain ⟨d, e1, hf⟩ := Option.bind_eq_some_iff.mp hf
    split at hf
    · rename_i hc
      obtain ⟨bs, e2, rfl⟩ := Option.map_eq_some_iff.mp hf
      exact st.mode e1 hc fun v H1 F' s1 _ st1 r1 _ => ⟨F', d, bs, r1, e2, fun ws hws => hw _ _ _ (st1.setAll bs hws)⟩
    · cases hf
theorem sndS_par (i j : Nat) (a b : CE) : SndS N T lvl cl (.par i j a b) where
  s := fun X s st k hk hx h => by
    have key : ∃ x px y py kt pt u v k2 p2 pos, st = .Assign [.Tuple [.Name x px, .Name y py] kt pt] (.Tuple [u, v] k2 p2) pos ∧ (decide (N[i]? = some x) && decide (N[j]? = some y) && decide (i ≠ j) && decide (s.sc.names.lookup x = some .local) && decide (s.sc.names.lookup y = some .local) &&
      (px.line == py.line) && !([u, v].all (foldedForSure 8)) && !([u, v].all (constantsAlone 8)) && chkE N T a false s u && chkE N T b false s v) = true := by
      cases st <;> first | exact absurd (show false = true from h) Bool.false_ne_true | skip
      rename_i ts e pos
      rcases ts with _ | ⟨tg, _ | ⟨t2, ts⟩⟩ <;> first | exact absurd (show false = true from h) Bool.false_ne_true | skip
      all_goals (cases tg <;> first | exact absurd (show false = true from h) Bool.false_ne_true | skip)
      all_goals (rename_i es kt pt; rcases es with _ | ⟨n1, _ | ⟨n2, _ | ⟨n3, es⟩⟩⟩ <;> first | exact absurd (show false = true from h) Bool.false_ne_true | skip)
      all_goals (cases n1 <;> first | exact absurd (show false = true from h) Bool.false_ne_true | skip)
      all_goals (cases n2 <;> first | exact absurd (show false = true from h) Bool.false_ne_true | skip)
      all_goals (cases e <;> first | exact absurd (show false = true from h) Bool.false_ne_true | skip)
      all_goals (rename_i vs k2 p2; rcases vs with _ | ⟨u, _ | ⟨v, _ | ⟨w, vs⟩⟩⟩ <;> first | exact absurd (show false = true from h) Bool.false_ne_true | skip)
      exact ⟨_, _, _, _, _, _, _, _, _, _, _, rfl, h⟩
    obtain ⟨x, px, y, py, kt, pt, u, v, k2, p2, pos, rfl, hq⟩ := key
    simp only [Bool.and_eq_true, decide_eq_true_eq, Bool.not_eq_true'] at hq
    obtain ⟨⟨⟨⟨⟨⟨⟨⟨⟨h1, h2⟩, h3⟩, h4⟩, h5⟩, h6⟩, h7⟩, h8⟩, h9⟩, h10⟩ := hq
    have hne : x ≠ y := by
      rintro rfl
      exact h3 (nodup_ix k.nd h1 h2)
    have su : ∀ a p, u ≠ .Starred a p := by
      rintro a p rfl
      rw [chk_star] at h9; cases h9
    have sv : ∀ a p, v ≠ .Starred a p := by
      rintro a p rfl
      rw [chk_star] at h10; cases h10
    refine (ps_par (i := i) (j := j) k.calm (by rw [k.hN]; exact k.nd) (by rw [k.hN]; exact h1) (by rw [k.hN]; exact h2) h3 (by rw [k.sc]; exact h4) (by rw [k.sc]; exact h5)
      (pa_cons ((snd_all a).e X s u k h9) (pa_cons ((snd_all b).e X s v k h10) pa_nil (star_of h10 _ _)) (star_of h9 _ _)) (swapped_two hk (by rw [k.sc]; exact h4) (by rw [k.sc]; exact h5) hne h6 su sv h7 h8) rfl).imp fun D σ H q => ?_
    obtain ⟨H0, G0, P, F, ρ, r, st, hf, hw⟩ := q
    simp only [exS] at hf
    obtain ⟨d, e1, hf⟩ := Option.bind_eq_some_iff.mp hf
    obtain ⟨d2, e2, hf⟩ := Option.bind_eq_some_iff.mp hf
    obtain ⟨hc, rfl⟩ := grd_some hf
    refine st.mode (m := .b) e1 hc.1 fun v H1 F' s1 _ st1 r1 _ => st1.mode (m := .b) e2 hc.2 fun w H2 F2 s2 _ st2 r2 _ => ?_
    exact ⟨v, w, rfl, hw _ _ _ ((st2.setSh i (Rep.flat hc.1 (r1.keep (Keep.same s2)))).setSh j r2)⟩
theorem sndS_app (m : Md) (i : Nat) (c : CE) : SndS N T lvl cl (.app m i c) where
  s := fun X s st k hk hx h => by
    have key : ∃ x p ap cp e pos, st = .Expr (.Call (.Attribute (.Name x p) "append" ap) [e] [] cp) pos ∧ N[i]? = some x ∧ visB s.sc x = true ∧ okName x = true ∧ (ap.endLine == cp.line) = true ∧ chkE N T c false s e = true := by
      cases st <;> first | exact absurd (show false = true from h) Bool.false_ne_true | skip
      rename_i e pos
      cases e <;> first | exact absurd (show false = true from h) Bool.false_ne_true | skip
      rename_i f es kw cp
      cases f <;> first | exact absurd (show false = true from h) Bool.false_ne_true | skip
      rename_i o at_ ap
      cases o <;> first | exact absurd (show false = true from h) Bool.false_ne_true | skip
      rename_i x p
      rcases es with _ | ⟨e, _ | ⟨e2, es⟩⟩ <;> first | exact absurd (show false = true from h) Bool.false_ne_true | skip
      cases kw <;> first | exact absurd (show false = true from h) Bool.false_ne_true | skip
      have h : (decide (N[i]? = some x) && visB s.sc x && okName x && decide (at_ = "append") && (ap.endLine == cp.line) && chkE N T c false s e) = true := h
      simp only [Bool.and_eq_true, decide_eq_true_eq] at h
      obtain ⟨⟨⟨⟨⟨h1, h2⟩, h3⟩, rfl⟩, h5⟩, h6⟩ := h
      exact ⟨x, p, ap, cp, e, pos, rfl, h1, h2, h3, h5, h6⟩
    obtain ⟨x, p, ap, cp, e, pos, rfl, h1, h2, h3, h5, h6⟩ := key
    obtain ⟨n1, n2, _⟩ := okName_of h3
    have hs := star_of h6 [] X.env
    refine (ps_expr (pe_bm PySem.F.plainAttrs_list PySem.F.slot_list_append PySem.F.type_list_append mt_append (pe_var (i := i) (by rw [k.hN]; exact h1) (by rw [k.sc]; exact vis_of h2) n1 n2) (pa_cons ((snd_all c).e X s e k h6) pa_nil hs) rfl (by rw [hs]; rfl) h5 hs rfl)).imp fun D σ H q => ?_
    obtain ⟨H0, G0, P, F, ρ, r, st, hf, hw⟩ := q
    simp only [exS] at hf
    obtain ⟨d, e1, hf⟩ := Option.bind_eq_some_iff.mp hf
    obtain ⟨l, e2, hf⟩ := Option.bind_eq_some_iff.mp hf
    obtain ⟨⟨hc, hl⟩, rfl⟩ := grd_some hf
    have hi : (aftM m ρ)[i]? = some (some (.own l)) := by
      unfold ownOf at e2
      split at e2
      · cases e2; assumption
      · cases e2
    have hi0 : ρ[i]? = some (some (.own l)) := by
      cases m with
      | b => exact hi
      | a fz => exact (frzS_own fz ρ 0 i l hi).1
    obtain ⟨a, vs, q1, q2, q3, q4, q5, q6⟩ := st.own i l hi0
    refine ⟨.ref a, q1, .inl ⟨rfl, vs, SqL.of q2⟩, st.mode e1 hc fun v H1 F' s1 _ st1 r1 _ => ?_⟩
    obtain ⟨a', vs', w1, w2, w3, _⟩ := st1.own i l hi
    rw [q1] at w1; cases w1
    exact ⟨a, vs', v, rfl, rfl, w2, by rw [← w3.length]; exact hl, hw _ _ _ (st1.write hi q1 (w3.append (Reps.one r1)))⟩
theorem sndS_appF (i : Nat) (c : CE) : SndS N T lvl cl (.appF i c) where
  s := fun X s st k hk hx h => by
    have key : ∃ x p ap cp e pos, st = .Expr (.Call (.Attribute (.Name x p) "append" ap) [e] [] cp) pos ∧ N[i]? = some x ∧ visB s.sc x = true ∧ okName x = true ∧ (ap.endLine == cp.line) = true ∧ chkE N T c false s e = true := by
      cases st <;> first | exact absurd (show false = true from h) Bool.false_ne_true | skip
      rename_i e pos
      cases e <;> first | exact absurd (show false = true from h) Bool.false_ne_true | skip
      rename_i f es kw cp
      cases f <;> first | exact absurd (show false = true from h) Bool.false_ne_true | skip
      rename_i o at_ ap
      cases o <;> first | exact absurd (show false = true from h) Bool.false_ne_true | skip
      rename_i x p
      rcases es with _ | ⟨e, _ | ⟨e2, es⟩⟩ <;> first | exact absurd (show false = true from h) Bool.false_ne_true | skip
      cases kw <;> first | exact absurd (show false = true from h) Bool.false_ne_true | skip
      have h : (decide (N[i]? = some x) && visB s.sc x && okName x && decide (at_ = "append") && (ap.endLine == cp.line) && chkE N T c false s e) = true := h
      simp only [Bool.and_eq_true, decide_eq_true_eq] at h
      obtain ⟨⟨⟨⟨⟨h1, h2⟩, h3⟩, rfl⟩, h5⟩, h6⟩ := h
      exact ⟨x, p, ap, cp, e, pos, rfl, h1, h2, h3, h5, h6⟩
    obtain ⟨x, p, ap, cp, e, pos, rfl, h1, h2, h3, h5, h6⟩ := key
    obtain ⟨n1, n2, _⟩ := okName_of h3
    have hs := star_of h6 [] X.env
    refine (ps_expr (pe_bm PySem.F.plainAttrs_list PySem.F.slot_list_append PySem.F.type_list_append mt_append (pe_var (i := i) (by rw [k.hN]; exact h1) (by rw [k.sc]; exact vis_of h2) n1 n2) (pa_cons ((snd_all c).e X s e k h6) pa_nil hs) rfl (by rw [hs]; rfl) h5 hs rfl)).imp fun D σ H q => ?_
    obtain ⟨H0, G0, P, F, ρ, r, st, hf, hw⟩ := q
    simp only [exS] at hf
    obtain ⟨d, e1, hf⟩ := Option.bind_eq_some_iff.mp hf
    obtain ⟨l', e0, hf⟩ := Option.bind_eq_some_iff.mp hf
    obtain ⟨l, e2, hf⟩ := Option.bind_eq_some_iff.mp hf
    obtain ⟨⟨hfl, hfr, hl⟩, rfl⟩ := grd_some hf
    have hi : ρ[i]? = some (some (.own l)) := by
      unfold ownOf at e2
      split at e2
      · cases e2; assumption
      · cases e2
    obtain ⟨a, vs, q1, q2, q3, q4, q5, q6⟩ := st.own i l hi
    cases d <;> simp only [lstOf, reduceCtorEq] at e0
    cases e0
    refine ⟨.ref a, q1, .inl ⟨rfl, vs, SqL.of q2⟩, st.modeF e1 hfl hfr fun v H1 F' s1 st1 r1 => ?_⟩
    obtain ⟨a', vs', w1, w2, w3, _⟩ := st1.own i l hi
    rw [q1] at w1; cases w1
    exact ⟨a, vs', v, rfl, rfl, w2, by rw [← w3.length]; exact hl, hw _ _ _ (st1.write hi q1 (w3.append (Reps.one r1)))⟩
theorem sndS_sti (m : Md) (i : Nat) (kc c : CE) : SndS N T lvl cl (.sti m i kc c) where
  s := fun X s st k hk hx h => by
    have key : ∃ x p ke sp e pos, st = .Assign [.Subscript (.Name x p) ke sp] e pos ∧ N[i]? = some x ∧ visB s.sc x = true ∧ okName x = true ∧ chkE N T kc false s ke = true ∧ chkE N T c false s e = true := by
      cases st <;> first | exact absurd (show false = true from h) Bool.false_ne_true | skip
      rename_i ts e pos
      rcases ts with _ | ⟨tg, _ | ⟨t2, ts⟩⟩ <;> first | exact absurd (show false = true from h) Bool.false_ne_true | skip
      all_goals (cases tg <;> first | exact absurd (show false = true from h) Bool.false_ne_true | skip)
      all_goals (rename_i o ke sp; cases o <;> first | exact absurd (show false = true from h) Bool.false_ne_true | skip)
      rename_i x p
      have h : (decide (N[i]? = some x) && visB s.sc x && okName x && chkE N T kc false s ke && chkE N T c false s e) = true := h
      simp only [Bool.and_eq_true, decide_eq_true_eq] at h
      exact ⟨x, p, ke, sp, e, pos, rfl, h.1.1.1.1, h.1.1.1.2, h.1.1.2, h.1.2, h.2⟩
    obtain ⟨x, p, ke, sp, e, pos, rfl, h1, h2, h3, h5, h6⟩ := key
    obtain ⟨n1, n2, _⟩ := okName_of h3
    refine (ps_asg (tg := .Subscript (.Name x p) ke sp) (pos := pos) ((snd_all c).e X s e k h6) (pg_sub (pe_var (i := i) (by rw [k.hN]; exact h1) (by rw [k.sc]; exact vis_of h2) n1 n2) ((snd_all kc).e X s ke k h5) set_list (fun v => by cases ke <;> first | rfl | (rw [chk_slice] at h5; cases h5))) (sw_sole h6 (fun _ _ z => by cases z)) (swapped_sub e) rfl).imp fun D σ H q => ?_
    obtain ⟨H0, G0, P, F, ρ, r, st, hf, hw⟩ := q
    simp only [exS] at hf
    obtain ⟨d, e1, hf⟩ := Option.bind_eq_some_iff.mp hf
    obtain ⟨l, e2, hf⟩ := Option.bind_eq_some_iff.mp hf
    obtain ⟨z, e3, hf⟩ := Option.bind_eq_some_iff.mp hf
    obtain ⟨dk, e3, e5⟩ := Option.bind_eq_some_iff.mp e3
    obtain ⟨j, e4, hf⟩ := Option.bind_eq_some_iff.mp hf
    obtain ⟨hc, rfl⟩ := grd_some hf
    have hi : (aftM m ρ)[i]? = some (some (.own l)) := by
      unfold ownOf at e2
      split at e2
      · cases e2; assumption
      · cases e2
    refine st.mode e1 hc fun v H1 F' s1 _ st1 r1 _ => ?_
    obtain ⟨a, vs, q1, q2, q3, q4, q5, q6⟩ := st1.own i l hi
    cases dk <;> simp only [intOf, reduceCtorEq] at e5
    cases e5
    refine ⟨.ref a, q1, st1.mode (m := .b) e3 rfl fun w H2 F2 s2 up st2 r2 _ => ?_⟩
    obtain ⟨a', vs', w1, w2, w3, w4⟩ := st2.own i l hi
    rw [q1] at w1; cases w1
    cases r2
    refine ⟨a, vs', _, j, rfl, rfl, w2, by rw [← w3.length]; exact e4, hw _ _ _ (st2.write hi q1 (w3.set j ((r1.keep (Keep.same s2)).mono up)))⟩
theorem sndS_aug (i : Nat) (o : BO) (c : CE) : SndS N T lvl cl (.aug i o c) where
  s := fun X s st k hk hx h => by
    cases st <;> first | exact absurd (show false = true from h) Bool.false_ne_true | skip
    rename_i tg op e pos
    cases tg <;> first | exact absurd (show false = true from h) Bool.false_ne_true | skip
    rename_i x p
    have h : (decide (N[i]? = some x) && locB s x && decide (op = boOp o) && (decide (o = .add) || decide (o = .sub)) && chkE N T c false s e) = true := h
    simp only [Bool.and_eq_true, Bool.or_eq_true, decide_eq_true_eq] at h
    obtain ⟨⟨⟨⟨h1, h2⟩, rfl⟩, h3⟩, h4⟩ := h
    obtain ⟨l1, l2⟩ := k.loc h2
    have hop : ∃ g, PIp X (boOp o) (ipI g) ∧ ∀ x y z, augD o x y = some z → ∃ a b, x = .int a ∧ y = .int b ∧ z = .int (g a b) := by
      rcases h3 with rfl | rfl
      · refine ⟨_, ip_add, fun x y z h => ?_⟩
        cases x <;> cases y <;> simp only [augD, reduceCtorEq] at h
        cases h
        exact ⟨_, _, rfl, rfl, rfl⟩
      · refine ⟨_, ip_sub, fun x y z h => ?_⟩
        cases x <;> cases y <;> simp only [augD, reduceCtorEq] at h
        cases h
        exact ⟨_, _, rfl, rfl, rfl⟩
    obtain ⟨g, hop, hg⟩ := hop
    refine (ps_aug (i := i) (by rw [k.hN]; exact k.nd) (by rw [k.hN]; exact h1) l1 ((snd_all c).e X s e k h4) hop l2).imp fun D σ H q => ?_
    obtain ⟨H0, G0, P, F, ρ, r, st, hf, hw⟩ := q
    simp only [exS] at hf
    obtain ⟨x, e1, hf⟩ := Option.bind_eq_some_iff.mp hf
    obtain ⟨y, e2, hf⟩ := Option.bind_eq_some_iff.mp hf
    obtain ⟨z, e3, rfl⟩ := Option.map_eq_some_iff.mp hf
    obtain ⟨a, b, rfl, rfl, rfl⟩ := hg x y z e3
    have hi : ρ[i]? = some (some (.sh (.int a))) := by
      unfold shOf at e1
      split at e1
      · cases e1; assumption
      · cases e1
    obtain ⟨v, q1, q2⟩ := st.sh i _ hi
    cases q2
    refine ⟨_, q1, st.mode (m := .b) e2 rfl fun w H1 F' s1 _ st1 r1 _ => ?_⟩
    cases r1
    exact ⟨a, b, rfl, rfl, hw _ _ _ (st1.setSh i rfl)⟩
theorem reps_last {K : PySem.W.Frag} {G : Addr → Prop} {H : Hp} : ∀ {l : List D} {vs : List V} {y : D}, Reps K G H l vs → l.getLast? = some y → ∃ v, vs[vs.length - 1]? = some v ∧ Rep K G H y v ∧ Reps K G H l.dropLast vs.dropLast
  | [], _, _, _, e => by cases e
  | [d], _, y, h, e => by
    obtain ⟨v, r, rfl, h1, h2⟩ := h
    cases h2
    cases e
    exact ⟨v, rfl, h1, rfl⟩
  | d :: d2 :: ds, _, y, h, e => by
    obtain ⟨v, r, rfl, h1, h2⟩ := h
    have e2 : (d2 :: ds).getLast? = some y := by rw [List.getLast?_cons_cons] at e; exact e
    obtain ⟨w, q1, q2, q3⟩ := reps_last h2 e2
    obtain ⟨v2, r2, rfl, h3, h4⟩ := h2
    exact ⟨w, by simpa using q1, q2, ⟨v, _, rfl, h1, q3⟩⟩
theorem ownOf_get {ρ : RhoS} {i : Nat} {l : List D} (e2 : ownOf ρ i = some l) : ρ[i]? = some (some (.own l)) := by
  unfold ownOf at e2
  split at e2
  · cases e2; assumption
  · cases e2
theorem sw_call {env : Env} (hk : env.scope.kind = .function) {x : Str} {p p1 p2 cp : Pos} {f : Expr} {es : List Expr} : swappedStores [.Name x p] (.Call f es [] cp) env = pure none := by
  rfl
theorem sndS_popS (i j : Nat) : SndS N T lvl cl (.popS i j) where
  s := fun X s st k hk hx h => by
    have key : ∃ x px y p ap cp pos, st = .Assign [.Name x px] (.Call (.Attribute (.Name y p) "pop" ap) [] [] cp) pos ∧ N[i]? = some x ∧ locB s x = true ∧ N[j]? = some y ∧ visB s.sc y = true ∧ okName y = true ∧ (ap.endLine == cp.line) = true := by
      cases st <;> first | exact absurd (show false = true from h) Bool.false_ne_true | skip
      rename_i ts e pos
      rcases ts with _ | ⟨tg, _ | ⟨t2, ts⟩⟩ <;> first | exact absurd (show false = true from h) Bool.false_ne_true | skip
      all_goals (cases tg <;> first | exact absurd (show false = true from h) Bool.false_ne_true | skip)
      cases e <;> first | exact absurd (show false = true from h) Bool.false_ne_true | skip
      rename_i f es kw cp
      cases f <;> first | exact absurd (show false = true from h) Bool.false_ne_true | skip
      rename_i o at_ ap
      cases o <;> first | exact absurd (show false = true from h) Bool.false_ne_true | skip
      cases es <;> first | exact absurd (show false = true from h) Bool.false_ne_true | skip
      cases kw <;> first | exact absurd (show false = true from h) Bool.false_ne_true | skip
      simp only [chkS, Bool.and_eq_true, decide_eq_true_eq] at h
      obtain ⟨⟨⟨⟨⟨⟨h1, h2⟩, h3⟩, h4⟩, h5⟩, rfl⟩, h6⟩ := h
      exact ⟨_, _, _, _, _, _, _, rfl, h1, h2, h3, h4, h5, h6⟩
    obtain ⟨x, px, y, p, ap, cp, pos, rfl, h1, h2, h3, h4, h5, h6⟩ := key
    obtain ⟨n1, n2, _⟩ := okName_of h5
    obtain ⟨l1, l2⟩ := k.loc h2
    refine (ps_set (i := i) (by rw [k.hN]; exact k.nd) (by rw [k.hN]; exact h1) l1 (pe_bm0 PySem.F.plainAttrs_list PySem.F.slot_list_pop PySem.F.type_list_pop mt_pop (pe_var (i := j) (by rw [k.hN]; exact h3) (by rw [k.sc]; exact vis_of h4) n1 n2) rfl h6) rfl l2).imp fun D σ H q => ?_
    obtain ⟨H0, G0, P, F, ρ, r, st, hf, hw⟩ := q
    simp only [exS] at hf
    obtain ⟨l, e1, hf⟩ := Option.bind_eq_some_iff.mp hf
    obtain ⟨d, e2, rfl⟩ := Option.map_eq_some_iff.mp hf
    have hj := ownOf_get e1
    obtain ⟨a, vs, q1, q2, q3, q4, q5, q6⟩ := st.own j l hj
    obtain ⟨v, w1, w2, w3⟩ := reps_last q3 e2
    exact ⟨.ref a, q1, .inl ⟨rfl, vs, SqL.of q2⟩, a, vs, v, rfl, rfl, q2, w1, hw _ _ _ ((st.write hj q1 w3).setSh i (w2.keep (st.wkeep hj q1)))⟩
theorem sndS_popA (i : Nat) (o : BO) (j : Nat) : SndS N T lvl cl (.popA i o j) where
  s := fun X s st k hk hx h => by
    have key : ∃ x px y p ap cp pos, st = .AugAssign (.Name x px) (boOp o) (.Call (.Attribute (.Name y p) "pop" ap) [] [] cp) pos ∧ N[i]? = some x ∧ locB s x = true ∧ (o = .add ∨ o = .sub) ∧ N[j]? = some y ∧ visB s.sc y = true ∧ okName y = true ∧ (ap.endLine == cp.line) = true := by
      cases st <;> first | exact absurd (show false = true from h) Bool.false_ne_true | skip
      rename_i tg op e pos
      cases tg <;> first | exact absurd (show false = true from h) Bool.false_ne_true | skip
      cases e <;> first | exact absurd (show false = true from h) Bool.false_ne_true | skip
      rename_i f es kw cp
      cases f <;> first | exact absurd (show false = true from h) Bool.false_ne_true | skip
      rename_i o at_ ap
      cases o <;> first | exact absurd (show false = true from h) Bool.false_ne_true | skip
      cases es <;> first | exact absurd (show false = true from h) Bool.false_ne_true | skip
      cases kw <;> first | exact absurd (show false = true from h) Bool.false_ne_true | skip
      simp only [chkS, Bool.and_eq_true, Bool.or_eq_true, decide_eq_true_eq] at h
      obtain ⟨⟨⟨⟨⟨⟨⟨⟨h1, h2⟩, rfl⟩, h0⟩, h3⟩, h4⟩, h5⟩, rfl⟩, h6⟩ := h
      exact ⟨_, _, _, _, _, _, _, rfl, h1, h2, h0, h3, h4, h5, h6⟩
    obtain ⟨x, px, y, p, ap, cp, pos, rfl, h1, h2, h0, h3, h4, h5, h6⟩ := key
    obtain ⟨n1, n2, _⟩ := okName_of h5
    obtain ⟨l1, l2⟩ := k.loc h2
    have hop : ∃ g, PIp X (boOp o) (ipI g) ∧ ∀ x y z, augD o x y = some z → ∃ a b, x = .int a ∧ y = .int b ∧ z = .int (g a b) := by
      rcases h0 with rfl | rfl
      · refine ⟨_, ip_add, fun x y z h => ?_⟩
        cases x <;> cases y <;> simp only [augD, reduceCtorEq] at h
        cases h
        exact ⟨_, _, rfl, rfl, rfl⟩
      · refine ⟨_, ip_sub, fun x y z h => ?_⟩
        cases x <;> cases y <;> simp only [augD, reduceCtorEq] at h
        cases h
        exact ⟨_, _, rfl, rfl, rfl⟩
    obtain ⟨g, hop, hg⟩ := hop
    refine (ps_aug (i := i) (by rw [k.hN]; exact k.nd) (by rw [k.hN]; exact h1) l1 (pe_bm0 PySem.F.plainAttrs_list PySem.F.slot_list_pop PySem.F.type_list_pop mt_pop (pe_var (i := j) (by rw [k.hN]; exact h3) (by rw [k.sc]; exact vis_of h4) n1 n2) rfl h6) hop l2).imp fun D σ H q => ?_
    obtain ⟨H0, G0, P, F, ρ, r, st, hf, hw⟩ := q
    simp only [exS] at hf
    obtain ⟨u, e0, hf⟩ := Option.bind_eq_some_iff.mp hf
    obtain ⟨l, e1, hf⟩ := Option.bind_eq_some_iff.mp hf
    obtain ⟨d, e2, hf⟩ := Option.bind_eq_some_iff.mp hf
    obtain ⟨z, e3, rfl⟩ := Option.map_eq_some_iff.mp hf
    obtain ⟨a0, b0, rfl, rfl, rfl⟩ := hg _ _ _ e3
    have hi : ρ[i]? = some (some (.sh (.int a0))) := by
      unfold shOf at e0
      split at e0
      · cases e0; assumption
      · cases e0
    obtain ⟨v0, t1, t2⟩ := st.sh i _ hi
    cases t2
    have hj := ownOf_get e1
    obtain ⟨a, vs, q1, q2, q3, q4, q5, q6⟩ := st.own j l hj
    obtain ⟨v, w1, w2, w3⟩ := reps_last q3 e2
    cases w2
    exact ⟨_, t1, .ref a, q1, .inl ⟨rfl, vs, SqL.of q2⟩, a, vs, _, rfl, rfl, q2, w1, a0, b0, rfl, rfl, hw _ _ _ ((st.write hj q1 w3).setSh i rfl)⟩
theorem sndS_ret (c : CE) : SndS N T lvl cl (.ret c) where
  s := fun X s st k hk hx h => by
    cases st <;> first | exact absurd (show false = true from h) Bool.false_ne_true | skip
    rename_i v pos
    cases v <;> first | exact absurd (show false = true from h) Bool.false_ne_true | skip
    rename_i e
    refine (ps_ret ((snd_all c).e X s e k h)).imp fun D σ H q => ?_
    obtain ⟨H0, G0, P, F, ρ, r, st, hf, hw⟩ := q
    simp only [exS] at hf
    obtain ⟨d, e1, rfl⟩ := Option.map_eq_some_iff.mp hf
    exact st.peek e1 fun v H1 s1 st1 r1 => hw v H1 st1.base r1
theorem sndS_retN : SndS N T lvl cl .retN where
  s := fun X s st k hk hx h => by
    cases st <;> first | exact absurd (show false = true from h) Bool.false_ne_true | skip
    rename_i v pos
    cases v <;> first | exact absurd (show false = true from h) Bool.false_ne_true | skip
    refine ps_retN.imp fun D σ H q => ?_
    obtain ⟨H0, G0, P, F, ρ, r, st, hf, hw⟩ := q
    simp only [exS, Option.some.injEq] at hf
    subst hf
    exact hw .non H st.base rfl
theorem sndS_brk : SndS N T lvl cl .brk where
  s := fun X s st k hk hx h => by
    cases st <;> first | exact absurd (show false = true from h) Bool.false_ne_true | skip
    refine ps_break.imp fun D σ H q => ?_
    obtain ⟨H0, G0, P, F, ρ, r, st, hf, hw⟩ := q
    simp only [exS, Option.some.injEq] at hf
    subst hf
    exact hw σ H F st
theorem sndS_cnt : SndS N T lvl cl .cnt where
  s := fun X s st k hk hx h => by
    cases st <;> first | exact absurd (show false = true from h) Bool.false_ne_true | skip
    refine ps_continue.imp fun D σ H q => ?_
    obtain ⟨H0, G0, P, F, ρ, r, st, hf, hw⟩ := q
    simp only [exS, Option.some.injEq] at hf
    subst hf
    exact hw σ H F st
theorem sndS_pas : SndS N T lvl cl .pas where
  s := fun X s st k hk hx h => by
    cases st <;> first | exact absurd (show false = true from h) Bool.false_ne_true | skip
    refine ps_pass.imp fun D σ H q => ?_
    obtain ⟨H0, G0, P, F, ρ, r, st, hf, hw⟩ := q
    simp only [exS, Option.some.injEq] at hf
    subst hf
    exact hw σ H F st
theorem sndS_ifs {c : CE} {a b : List CS} (ha : SndSs N T lvl cl a) (hb : SndSs N T lvl cl b) : SndS N T lvl cl (.ifs c a b) where
  s := fun X s st k hk hx h => by
    cases st <;> first | exact absurd (show false = true from h) Bool.false_ne_true | skip
    simp only [chkS, Bool.and_eq_true] at h
    refine (ps_if ((snd_all c).t X s _ k h.1.1) (ha.s X s _ k hk hx h.1.2) (hb.s X s _ k hk hx h.2)).imp fun D σ H q => ?_
    obtain ⟨H0, G0, P, F, ρ, r, st, hf, hw⟩ := q
    simp only [exS] at hf
    obtain ⟨d, e1, hf⟩ := Option.bind_eq_some_iff.mp hf
    obtain ⟨kk, e2, hf⟩ := Option.bind_eq_some_iff.mp hf
    refine st.test e1 e2 fun H1 s1 st1 => ?_
    cases kk with
    | true =>
      simp only [if_true] at hf ⊢
      exact ⟨H0, G0, P, F, ρ, r, st1, hf, hw⟩
    | false =>
      simp only [Bool.false_eq_true, if_false] at hf ⊢
      exact ⟨H0, G0, P, F, ρ, r, st1, hf, hw⟩
theorem sndSs_nil : SndSs N T lvl cl [] where
  s := fun X s st k hk hx h => by
    cases st with
    | cons e es => simp [chkSs] at h
    | nil =>
      refine pss_nil.imp fun D σ H q => ?_
      obtain ⟨H0, G0, P, F, ρ, r, st, hf, hw⟩ := q
      simp only [exSs, Option.some.injEq] at hf
      subst hf
      exact hw σ H F st
theorem sndSs_cons {c : CS} {cs : List CS} (hc : SndS N T lvl cl c) (hs : SndSs N T lvl cl cs) : SndSs N T lvl cl (c :: cs) where
  s := fun X s st k hk hx h => by
    cases st with
    | nil => simp [chkSs] at h
    | cons e es =>
      simp only [chkSs, Bool.and_eq_true] at h
      refine (pss_cons (hc.s X s e k hk hx h.1) (hs.s X s es k hk hx h.2)).imp fun D σ H q => ?_
      obtain ⟨H0, G0, P, F, ρ, r, st, hf, hw⟩ := q
      simp only [exSs] at hf
      obtain ⟨r1, e1, hf⟩ := Option.bind_eq_some_iff.mp hf
      refine ⟨H0, G0, P, F, ρ, r1, st, e1, ?_⟩
      cases r1 with
      | nx ρ1 => exact fun σ H F st1 => ⟨H0, G0, P, F, ρ1, r, st1, hf, hw⟩
      | br ρ1 => cases hf; exact hw
      | ct ρ1 => cases hf; exact hw
      | rt d => cases hf; exact hw
theorem sndS_whl (n : Nat) {c : CE} {b : List CS} (hb : SndSs N T lvl cl b) : SndS N T lvl cl (.whl n c b) where
  s := fun X s st k hk hx h => by
    cases st <;> first | exact absurd (show false = true from h) Bool.false_ne_true | skip
    rename_i t body els pos
    cases els <;> first | exact absurd (show false = true from h) Bool.false_ne_true | skip
    simp only [chkS, Bool.and_eq_true] at h
    refine (ps_while (by rw [hx]; exact PassesOwn.never) ((snd_all c).t X s _ k h.1) (hb.s X s _ k hk hx h.2)).imp fun D σ H q => ?_
    obtain ⟨H0, G0, P, F, ρ, r, st, hf, hw⟩ := q
    simp only [exS] at hf
    refine ⟨fun m σ H => ∃ F ρ, StR X.K H0 G0 P F σ H ρ ∧ whileL (fun ρ => (evE cl c (snapS ρ)).bind truth) (exSs cl b) m ρ = some r, ⟨n, F, ρ, st, hf⟩, fun m σ H hW => ?_⟩
    obtain ⟨F, ρ, st, hf⟩ := hW
    cases m with
    | zero => cases hf
    | succ m =>
      simp only [whileL] at hf
      obtain ⟨kk, e1, hf⟩ := Option.bind_eq_some_iff.mp hf
      obtain ⟨d, e1, e2⟩ := Option.bind_eq_some_iff.mp e1
      refine st.test e1 e2 fun H1 s1 st1 => ?_
      cases kk with
      | false =>
        simp only [Bool.false_eq_true, if_false] at hf ⊢
        cases hf
        exact hw _ _ _ st1
      | true =>
        simp only [if_true] at hf ⊢
        obtain ⟨r1, e3, hf⟩ := Option.bind_eq_some_iff.mp hf
        cases r1 with
        | nx ρ1 => exact ⟨fun σ' H' => ∃ F, StR X.K H0 G0 P F σ' H' ρ1, fun σ' H' ⟨F, st2⟩ => ⟨m, Nat.lt_succ_self _, F, ρ1, st2, hf⟩, H0, G0, P, F, ρ, _, st1, e3, fun σ' H' F' st2 => ⟨F', st2⟩⟩
        | ct ρ1 => exact ⟨fun σ' H' => ∃ F, StR X.K H0 G0 P F σ' H' ρ1, fun σ' H' ⟨F, st2⟩ => ⟨m, Nat.lt_succ_self _, F, ρ1, st2, hf⟩, H0, G0, P, F, ρ, _, st1, e3, fun σ' H' F' st2 => ⟨F', st2⟩⟩
        | br ρ1 =>
          cases hf
          exact ⟨fun _ _ => False, fun _ _ z => z.elim, H0, G0, P, F, ρ, _, st1, e3, fun σ' H' F' st2 => hw _ _ _ st2⟩
        | rt d =>
          cases hf
          exact ⟨fun _ _ => False, fun _ _ z => z.elim, H0, G0, P, F, ρ, _, st1, e3, hw⟩
/-- more stands through the loop -/
theorem StR.weak {K : PySem.W.Frag} {H0 : Hp} {G0 : Addr → Prop} {P P' : Pr} {F : Addr → Prop} {σ : L2.St} {H : Hp} {ρ : RhoS} (st : StR K H0 G0 P' F σ H ρ) (h : ∀ H', Keep P'.F P'.H H' → Keep P.F P.H H') (h2 : ∀ a, P.at a → P'.at a) (h3 : ∀ a, P.S a → P'.S a) : StR K H0 G0 P F σ H ρ where
  len := st.len
  base := st.base
  sub := st.sub
  trk := st.trk
  pt := h H st.pt
  inc := fun a z => st.inc a (h3 a z)
  sh := st.sh
  own := fun i l e => let ⟨a, vs, e1, e2, e3, e4, e5, e6⟩ := st.own i l e; ⟨a, vs, e1, e2, e3, e4, e5, fun z => e6 (h2 a z)⟩
  dist := st.dist
  tb := st.tb
theorem Wants.weak {K : PySem.W.Frag} {D : Ends} {H0 : Hp} {G0 : Addr → Prop} {P P' : Pr} (h : ∀ H', Keep P'.F P'.H H' → Keep P.F P.H H') (h2 : ∀ a, P.at a → P'.at a) (h3 : ∀ a, P.S a → P'.S a) : ∀ {r : Res}, Wants K D H0 G0 P r → Wants K D H0 G0 P' r
  | .nx ρ, w => fun σ H F st => w σ H F (st.weak h h2 h3)
  | .br ρ, w => fun σ H F st => w σ H F (st.weak h h2 h3)
  | .ct ρ, w => fun σ H F st => w σ H F (st.weak h h2 h3)
  | .rt d, w => w
theorem sndS_loop (m : Md) (t : Tg) {it : CE} {b : List CS} (hb : SndSs N T lvl cl b) : SndS N T lvl cl (.loop m t it b) where
  s := fun X s st k hk hx h => by
    cases st <;> first | exact absurd (show false = true from h) Bool.false_ne_true | skip
    rename_i tg ix body els pos
    cases els <;> first | exact absurd (show false = true from h) Bool.false_ne_true | skip
    simp only [chkS, Bool.and_eq_true] at h
    obtain ⟨⟨⟨h1, h2⟩, h3⟩, h4⟩ := h
    have htg : (∃ es k p, tg = .Tuple es k p) ∨ needTp it = false := by
      rcases Bool.or_eq_true _ _ ▸ h3 with h6 | h6
      · refine .inl ?_
        cases t with
        | nm i => cases h6
        | tp l => cases tg <;> first | exact ⟨_, _, _, rfl⟩ | exact absurd (show false = true from h2) Bool.false_ne_true
      · exact .inr (by simpa using h6)
    refine (ps_for (by rw [hx]; exact PassesOwn.never) k.calm ((snd_all it).i X s ix tg k htg h1) (okG k t tg h2) (hb.s X s _ k hk hx h4) (fset_of h1 _)).imp fun D σ H q => ?_
    obtain ⟨H0, G0, P, F, ρ, r, st, hf, hw⟩ := q
    simp only [exS] at hf
    obtain ⟨d, e1, hf⟩ := Option.bind_eq_some_iff.mp hf
    obtain ⟨items, e2, hf⟩ := Option.bind_eq_some_iff.mp hf
    split at hf
    · rename_i hm
      -- the loop, from the state behind the walked thing
      have loop : ∀ (J : It) (H1 : Hp) (Gd : Hp → Prop) (Y : Nat → Hp → V → Hp → Prop) (pa : List Addr) (F1 : Addr → Prop) (Gp : Addr → Prop), Same H H1 → Walk J items.length Gd Y → StR X.K H0 G0 P F1 σ H1 (aftM m ρ) →
          (∀ a ∈ pa, H1 a ≠ none) → (∀ a, a ∈ pa ∨ Gp a → (∃ (i : Nat) (l : List Dl.D), (aftM m ρ)[i]? = some (some (Sl.own l)) ∧ σ[i]? = some (some (V.ref a))) → False) → (∀ a, Gp a → F1 a) → 
          (∀ H', Keep (fun a => a ∈ pa) H1 H' → Gd H') → (∀ i d H' x H'', items[i]? = some d → Keep Gp H1 H' → Gd H' → Y i H' x H'' → Same H' H'' ∧ Rep X.K Gp H'' d x) →
          ∃ W : Nat → Nat → L2.St → Hp → Prop, (∃ m, W 0 m σ H1) ∧ ∀ i m σ H, W i m σ H →
            (J.stop i H ∧ D.nx σ H) ∨ (J.go i H ∧ ∃ N : L2.St → Hp → Prop, (∀ σ' H', N σ' H' → ∃ m', m' < m ∧ W (i + 1) m' σ' H') ∧ ∀ x H', J.yld i H x H' → gT X.K t x σ H' fun σ2 H2 => tS X.K (exSs cl b) { D with nx := N, ct := N, bk := D.nx } σ2 H2) := by
        intro J H1 Gd Y pa F1 Gp s1 hwk st1 hpa hown hGF hGd hY
        let P' : Pr := ⟨H1, fun a => P.at a ∨ a ∈ pa ∨ Gp a, fun a => P.S a ∨ Gp a⟩
        have kPP : ∀ H', Keep P'.F P'.H H' → Keep P.F P.H H' := fun H' kk a o e q => by
          have e1 := st1.pt a o e q
          exact kk a o e1 (q.imp id fun f => ⟨.inl ⟨f.1, o, e, f.2⟩, f.2⟩)
        have kat : ∀ a, P.at a → P'.at a := fun a z => by
          refine ⟨.inl z, ?_⟩
          obtain ⟨z1, o, e, z2⟩ := z
          exact ⟨o, st1.pt a o e (.inr ⟨z1, z2⟩), z2⟩
        have hw' := Wants.weak (P' := P') kPP kat (fun a z => .inl z) hw
        have st1' : StR X.K H0 G0 P' F1 σ H1 (aftM m ρ) := by
          refine ⟨st1.len, st1.base, st1.sub, st1.trk, Keep.refl, fun a z => z.elim (st1.inc a) (hGF a), st1.sh, fun i l e => ?_, st1.dist, st1.tb⟩
          obtain ⟨a, vs, q1, q2, q3, q4, q5, q6⟩ := st1.own i l e
          refine ⟨a, vs, q1, q2, q3, q4, q5, fun z => ?_⟩
          rcases z.1 with z | z
          · exact q6 z
          · exact hown a z ⟨i, l, e, q1⟩
        refine for_it hwk (fun i σ' H' => ∃ F' ρ', StR X.K H0 G0 P' F' σ' H' ρ' ∧ forL (fun x ρ => (t.binds x).bind fun bs => exSs cl b (putS ρ bs)) (items.drop i) ρ' = some r) ?_ ?_ ?_ ?_
        · exact ⟨F1, aftM m ρ, st1', by rw [List.drop_zero]; exact hf⟩
        · rintro i σ' H' hi ⟨F', ρ', st', _⟩
          exact hGd H' (st'.pt.mono fun a h => .inr (.inl h))
        · rintro i x σ' H' H'' hi ⟨F', ρ', st', hl⟩ hy
          have kp' : Keep (fun a => a ∈ pa) H1 H' := st'.pt.mono fun a h => .inr (.inl h)
          have kg' : Keep Gp H1 H' := st'.pt.mono fun a h => .inr (.inr h)
          have hdi : items[i]? = some items[i] := List.getElem?_eq_getElem hi
          obtain ⟨sy, ry⟩ := hY i _ H' x H'' hdi kg' (hGd H' kp') hy
          rw [List.drop_eq_getElem_cons hi] at hl
          simp only [forL] at hl
          obtain ⟨r1, e3, hl⟩ := Option.bind_eq_some_iff.mp hl
          obtain ⟨bs, e4, e5⟩ := Option.bind_eq_some_iff.mp e3
          have stg := st'.grow sy
          -- from here on the items' lists are shared ones
          have ryF : Rep X.K F' H'' items[i] x := ry.mono fun a z => st'.inc a (.inr z)
          refine ⟨F', items[i], bs, ryF, e4, fun ws hws => ⟨H0, G0, P', F', _, r1, stg.setAll bs hws, e5, ?_⟩⟩
          cases r1 with
          | nx ρ1 => exact fun σ3 H3 F3 st3 => ⟨F3, ρ1, st3, hl⟩
          | ct ρ1 => exact fun σ3 H3 F3 st3 => ⟨F3, ρ1, st3, hl⟩
          | br ρ1 =>
            cases hl
            exact hw'
          | rt dd =>
            cases hl
            exact hw'
        · rintro σ' H' ⟨F', ρ', st', hl⟩
          rw [List.drop_length] at hl
          simp only [forL, Option.some.injEq] at hl
          subst hl
          exact hw' σ' H' F' st'
      cases m with
      | b =>
        have hm : (flats items && safeI it d) = true := hm
        simp only [Bool.and_eq_true] at hm
        refine ⟨_, _, d, items, st.envAll, e1, e2, fun J H1 Gd Y pa s1 hwk hpa hsafe hGd hY => ?_⟩
        refine loop J H1 Gd Y pa F (fun _ => False) s1 hwk (st.grow s1) (fun a h => (hpa a h).2) (fun a h hh => ?_) (fun a z => z.elim) hGd fun i d H' x H'' hd kp gd y => hY (fun _ => False) (.inr hm.1) i d H' x H'' hd kp gd y
        obtain ⟨i, l, q1, q2⟩ := hh
        obtain ⟨b, vs, w1, w2, _⟩ := st.own i l q1
        rw [w1] at q2; cases q2
        rcases h with h | h
        · rw [hsafe hm.2 _ h] at w2; cases w2
        · exact h
      | a fz =>
        refine ⟨_, _, d, items, st.envHide fz, e1, e2, fun J H1 Gd Y pa s1 hwk hpa hsafe hGd hY => ?_⟩
        have := st.modeA (fz := fz) s1
        refine loop J H1 Gd Y pa _ _ s1 hwk this (fun a h => (hpa a h).2) (fun a h hh => ?_) (fun a z => z) hGd fun i d H' x H'' hd kp gd y => hY _ (.inl fun a g t => ⟨g, t⟩) i d H' x H'' hd kp gd y
        obtain ⟨i, l, q1, q2⟩ := hh
        obtain ⟨b, vs, w1, w2, w3, w4, _⟩ := this.own i l q1
        rw [w1] at q2; cases q2
        rcases h with h | h
        · exact w4 (hpa _ h)
        · exact w4 h
    · cases hf
mutual
theorem sndS_all : ∀ c : CS, SndS N T lvl cl c
  | .set m i c => sndS_set m i c
  | .own i c => sndS_own i c
  | .put m t c => sndS_put m t c
  | .par i j a b => sndS_par i j a b
  | .app m i c => sndS_app m i c
  | .appF i c => sndS_appF i c
  | .sti m i k c => sndS_sti m i k c
  | .aug i o c => sndS_aug i o c
  | .popS i j => sndS_popS i j
  | .popA i o j => sndS_popA i o j
  | .ifs c a b => sndS_ifs (sndSs_all a) (sndSs_all b)
  | .loop m t it b => sndS_loop m t (sndSs_all b)
  | .whl n c b => sndS_whl n (sndSs_all b)
  | .ret c => sndS_ret c
  | .retN => sndS_retN
  | .brk => sndS_brk
  | .cnt => sndS_cnt
  | .pas => sndS_pas
theorem sndSs_all : ∀ cs : List CS, SndSs N T lvl cl cs
  | [] => sndSs_nil
  | c :: cs => sndSs_cons (sndS_all c) (sndSs_all cs)
end
end
end Dl
set_option Elab.async false
set_option linter.all false
set_option maxRecDepth 100000
set_option maxHeartbeats 4000000
/-! Defs, and a law over them. -/
namespace Dl
open PySem PySem.Spec PyProof.Rows L2
structure Def where
  name : Str
  ps : List Str
  N : List Str
  body : List CS
def Def.fd (d : Def) : Fd := ⟨d.ps.length, d.N.length, d.body⟩
def Def.fi (d : Def) : FnI := ⟨d.name, d.ps⟩
abbrev Tb := List (Def × Stmt)
def Tb.T (tb : Tb) (im : List (Str × Value) := []) : FnT := ⟨tb.map fun p => p.1.fi, im⟩
def Tb.fns (tb : Tb) : List Fd := tb.map fun p => p.1.fd
def parB (sc : Scope) (x : Str) : Bool := match sc.names.lookup x with
  | some .local => true
  | some .cell => true
  | _ => false
def chkD (T : FnT) (d : Def) (st : Stmt) : Bool :=
  decide ((defScope st).kind = .function) && !(defScope st).isCoroutine && !(defScope st).isGenerator && decide d.N.Nodup && decide (d.N.take d.ps.length = d.ps) &&
  d.ps.all (parB (defScope st)) && (defScope st).names.all (fun y => decide (y.2 ≠ .free)) && chkSs d.N T d.body ⟨defScope st, fun _ => true, true⟩ (defBody st)
structure DefOk (T : FnT) (d : Def) (st : Stmt) : Prop where
  chk : chkD T d st = true
  bnd : ∀ (kV doc pm : Value) (an : Option Addr) (cdv ct : Value) (us : List Value), us.length = d.ps.length → bindArgs (PySem.W.fnOf d.name d.name (defArgs st) (defBody st) (defScope st) .none kV doc pm an cdv ct) ⟨us, []⟩ = pure (d.ps.zip us)
theorem chkD_scope {T : FnT} {d : Def} {st : Stmt} (h : chkD T d st = true) : FnScope d.N d.ps (defScope st) ∧ chkSs d.N T d.body ⟨defScope st, fun _ => true, true⟩ (defBody st) = true := by
  unfold chkD at h
  simp only [Bool.and_eq_true, decide_eq_true_eq, Bool.not_eq_true'] at h
  obtain ⟨⟨⟨⟨⟨⟨⟨h1, h2⟩, h3⟩, h4⟩, h5⟩, h6⟩, h7⟩, h8⟩ := h
  refine ⟨⟨h1, h2, h3, h4, h5, fun x hx => ?_, fun y hy => ?_⟩, h8⟩
  · have := List.all_eq_true.mp h6 x hx
    unfold parB at this
    split at this
    · exact .inl (by assumption)
    · exact .inr (by assumption)
    · cases this
  · exact of_decide_eq_true (List.all_eq_true.mp h7 y hy)
theorem startS_get {F : Fd} {ds : List D} {i : Nat} {s : Sl} (h : (startS F ds)[i]? = some (some s)) : ∃ d, ds[i]? = some d ∧ s = .sh d := by
  unfold startS at h
  by_cases hi : i < ds.length
  · rw [List.getElem?_append_left (by simpa using hi), List.getElem?_map, List.getElem?_eq_getElem hi] at h
    refine ⟨ds[i], List.getElem?_eq_getElem hi, ?_⟩
    simpa using h.symm
  · rw [List.getElem?_append_right (by simpa using hi)] at h
    rw [List.getElem?_replicate] at h
    split at h <;> cases h
theorem start_get {N : List Str} {vs : List V} {i : Nat} {v : V} (h : vs[i]? = some v) : (L2.start N vs)[i]? = some (some v) := by
  unfold L2.start
  have hi := (List.getElem?_eq_some_iff.mp h).1
  rw [List.getElem?_append_left (by simpa using hi), List.getElem?_map, h]
  rfl
theorem st_start {K : PySem.W.Frag} {G : Addr → Prop} {H : Hp} {ds : List D} {vs : List V} {N : List Str} {F : Fd} (hF : F.nn = N.length) (hl : ds.length = F.np) (r : Reps K G H ds vs) (tb : TbsOk K H) :
    StR K H G ⟨H, fun _ => False, fun _ => False⟩ (fun a => G a ∧ H a ≠ none) (L2.start N vs) H (startS F ds) where
  len := by
    unfold L2.start startS
    rw [List.length_append, List.length_append, List.length_map, List.length_map, List.length_replicate, List.length_replicate, hF, ← r.length, hl]
  base := Same.refl _
  tb := tb
  sub := fun a h => .inl h.1
  trk := fun a h => h.2
  pt := Keep.refl
  inc := fun a z => z.elim
  sh := fun i d h => by
    obtain ⟨d', h1, h2⟩ := startS_get h
    cases h2
    obtain ⟨v, e, q⟩ := r.get h1
    exact ⟨v, start_get e, q.monoT fun a g t => ⟨g, t⟩⟩
  own := fun i l h => by
    obtain ⟨d', h1, h2⟩ := startS_get h
    cases h2
  dist := fun i j l l' a _ h => by
    obtain ⟨d', h1, h2⟩ := startS_get h
    cases h2
theorem callN_arity {tb : Tb} {n i : Nat} {d : Def} {st : Stmt} (h : tb[i]? = some (d, st)) {ds : List D} {r : D} (e : callN tb.fns n i ds = some r) : ds.length = d.ps.length := by
  cases n with
  | zero => cases e
  | succ n =>
    unfold callN at e
    unfold Tb.fns at e
    rw [List.getElem?_map, h] at e
    have e : runF (callN tb.fns n) d.fd ds = some r := e
    unfold runF at e
    split at e
    · assumption
    · cases e
/-- the names that the module has, and has not -/
structure Top (K : PySem.W.Frag) (mg : Str → Option Value) (tb : Tb) : Prop where
  free : ∀ x ∈ bnames, mg x = none
  fns : ∀ (i : Nat) (d : Def) (st : Stmt), tb[i]? = some (d, st) → ∃ (a : Addr) (fd : FuncData), mg d.name = some (.ref a) ∧ FunD K d.name d.name (defArgs st) (defBody st) (defScope st) [] [] a fd
theorem FunD.okC {CX : CXT} {P : Program} {w : World} {K : PySem.W.Frag} {mg : Str → Option Value} {base : Heap} {x qual : Str} {params : Arguments} {body : List Stmt} {scope : Scope} {dvs : List V} {kws : List (Str × V)} {f : Addr} {fd : FuncData} {N ps : List Str} {k : Nat} {sp : Sp}
    (F : FunD K x qual params body scope dvs kws f fd) (S : FnScope N ps scope) (len : ∀ vs H Q E, sp vs H Q E → vs.length = ps.length)
    (hbody : ∀ (c : Addr), fd.code = .ref c → IsTab K (He.tabOf K c) → ∀ (A : Around) (outer : List Env) (s : Shared) (H : Hp) (vs : List V) (Q : VK) (E : XK), Room k (A.deeper (envOfC qual scope s.heap.objs.size f (.ref c))) → sp vs H Q E →
      ∃ t, PSs (cxOf CX P w K mg base N qual scope f (.ref c) A outer s H E) body t ∧ t { nx := fun _ H' => Q .non H', rt := Q } (L2.start N vs) H) : FnOk P w K mg base CX (k + 1) f fd ps sp := by
  obtain ⟨oc, od, dV, kV, doc, pm, an, cdv, ct, osl, rfl, lk, hcd, _, _⟩ := F.ex
  obtain ⟨c, rfl⟩ := He.codeIn_ref hcd
  exact fn_of lk hcd S len fun A outer s H vs Q E hr hsp => hbody c rfl ⟨f, oc, od, _, osl, c, lk, rfl, rfl⟩ A outer s H vs Q E hr hsp
theorem fns_ok {P : Program} {w : World} {K : PySem.W.Frag} {mg : Str → Option Value} {base : Heap} {tb : Tb} {im : List (Str × Value)} (him : ∀ p ∈ im, mg p.1 = some p.2) (ok : ∀ (i : Nat) (d : Def) (st : Stmt), tb[i]? = some (d, st) → DefOk (tb.T im) d st) (top : Top K mg tb)
    (tabs : ∀ (i : Nat) (d : Def) (st : Stmt), tb[i]? = some (d, st) → ∀ (a : Addr) (fd : FuncData), mg d.name = some (.ref a) → FunD K d.name d.name (defArgs st) (defBody st) (defScope st) [] [] a fd → ∀ c, fd.code = .ref c → GxR.TabB base mg c (He.tabOf K c)) :
    ∀ (n i : Nat) (d : Def) (st : Stmt) (a : Addr) (fd : FuncData), tb[i]? = some (d, st) → mg d.name = some (.ref a) → FunD K d.name d.name (defArgs st) (defBody st) (defScope st) [] [] a fd →
      FnOk P w K mg base CX0 (2 * n) a fd d.ps (spD K d.ps.length (callN tb.fns n i))
  | 0, i, d, st, a, fd, h, hm, F => by
    refine ⟨fun vs H Q E z => z.1, fun A outer s H args us vs Q E _ _ _ _ z => ?_⟩
    obtain ⟨_, _, _, _, _, _, e, _⟩ := z
    cases e
  | n + 1, i, d, st, a, fd, h, hm, F => by
    have ih := fns_ok him ok top tabs (P := P) (w := w) n
    have hd := ok i d st h
    obtain ⟨S, hc⟩ := chkD_scope hd.chk
    refine FunD.okC (k := 2 * n + 1) F S (fun vs H Q E z => z.1) fun c hcode hT A outer s H vs Q E hr hsp => ?_
    refine ⟨_, PSs.nox ((sndSs_all (N := d.N) (T := tb.T im) (lvl := 2 * n) (cl := callN tb.fns n) d.body).s _ ⟨defScope st, fun _ => true, true⟩ _ ⟨?_, S.nd, rfl, rfl, hr.mono (by omega), rfl, fun _ _ => rfl, top.free, him, fun _ => ⟨hr, c, rfl, tabs i d st h a fd hm F c hcode, hT⟩, ?_⟩ S.kind rfl hc), ?_⟩
    · intro j f hj ds r e
      unfold Tb.T at hj
      rw [List.getElem?_map] at hj
      cases hq : tb[j]? with
      | none => rw [hq] at hj; cases hj
      | some p =>
        obtain ⟨d', st'⟩ := p
        rw [hq] at hj
        cases hj
        exact callN_arity hq e
    · intro j f hj
      unfold Tb.T at hj
      rw [List.getElem?_map] at hj
      cases hq : tb[j]? with
      | none => rw [hq] at hj; cases hj
      | some p =>
        obtain ⟨d', st'⟩ := p
        rw [hq] at hj
        cases hj
        obtain ⟨a', fd', g, F'⟩ := top.fns j d' st' hq
        exact ⟨a', fd', g, F'.kp, F'.bindsN (ok j d' st' hq).bnd, ih j d' st' a' fd' hq g F'⟩
    · obtain ⟨hl, htb, G, ds, r, rr, e, q⟩ := hsp
      unfold callN at e
      unfold Tb.fns at e
      rw [List.getElem?_map, h] at e
      have e : runF (callN tb.fns n) d.fd ds = some r := e
      unfold runF at e
      split at e
      · rename_i hn
        obtain ⟨z, e1, e2⟩ := Option.bind_eq_some_iff.mp e
        refine ⟨H, G, ⟨H, fun _ => False, fun _ => False⟩, _, startS d.fd ds, z, st_start rfl hn rr htb, e1, ?_⟩
        cases z with
        | nx ρ =>
          cases e2
          exact fun σ H' F' st => q .non H' st.base rfl
        | br ρ => cases e2
        | ct ρ => cases e2
        | rt d' =>
          cases e2
          exact fun v H' s r => q v H' s r
      · cases e
/-! ### the top -/
def defD (p : Def × Stmt) : He.DefD := ⟨(p.1.name, none), p.1.name, p.1.name, defArgs p.2, defBody p.2, defScope p.2, [], []⟩
def topFn (tb : Tb) : List He.DefD := tb.map defD
def topFa (tb : Tb) : List He.Fa := bnames.map He.Fa.free ++ tb.map fun p => He.Fa.glo p.1.name
theorem top_of {K : PySem.W.Frag} {h : Heap} {mg : Str → Option Value} {tb : Tb} (X : K.In h) (G : h.Ns mainGlobals mg) (c : He.SaysD (topFa tb) (topFn tb) K) : Top K mg tb where
  free := fun x hx => by
    obtain ⟨i, hi, e⟩ := List.mem_iff_getElem.mp hx
    refine He.free_ok X G (c.fact i (f := .free x) ?_)
    unfold topFa
    rw [List.getElem?_append_left (by simpa using hi), List.getElem?_map, List.getElem?_eq_getElem hi, e]
    rfl
  fns := fun i d st h => by
    have h1 : (topFn tb)[i]? = some (defD (d, st)) := by unfold topFn; rw [List.getElem?_map, h]; rfl
    obtain ⟨fd, F⟩ := c.def_ i h1
    have h2 : (topFa tb)[bnames.length + i]? = some (.glo d.name) := by
      unfold topFa
      rw [List.getElem?_append_right (by simp)]
      simp only [List.length_map, Nat.add_sub_cancel_left, List.getElem?_map, h]
      rfl
    exact ⟨_, fd, He.glo_ok X G (c.fact _ h2), F⟩
/-- a law that says True of every script -/
def Law1 (tb : Tb) (k j : Nat) : Prop := ∀ ns : List Int, ns.length ≤ 63 → callN tb.fns k j [.scr ns] = some (.bl true)
/-- the defs' tables -/
def topTf (tb : Tb) : List He.Defn := tb.map fun p => (p.1.name, none)
/-- no other functions -/
def topEx (tb : Tb) (im : List (Str × Value)) (K : PySem.W.Frag) : Bool := (im.all fun p => decide (PySem.W.nsIn K mainGlobals p.1 = some (some p.2))) && K.all fun q => match q.2.data with
  | .func _ => (topTf tb).any fun p => decide (He.fAd K p = q.1)
  | _ => true
theorem frag_mem {a : Addr} {o : Obj} : ∀ {K : PySem.W.Frag}, K.lookup a = some o → (a, o) ∈ K
  | [], e => by cases (show (none : Option Obj) = some o from e)
  | (b, u) :: r, e => by
    have e : List.lookup a ((b, u) :: r) = some o := e
    rw [List.lookup_cons] at e
    cases q : (a == b) with
    | true =>
      rw [q] at e
      cases e
      rw [beq_iff_eq.mp q]
      exact List.mem_cons_self
    | false =>
      rw [q] at e
      exact List.mem_cons_of_mem _ (frag_mem e)
theorem law_at {l : PySem.W.OpenLaw} {w : World} {K : PySem.W.Frag} {h : Heap} {mg : Str → Option Value} {f : Addr} {tb : Tb} {im : List (Str × Value)} {j k : Nat} {d : Def} {st : Stmt} {x : Str}
    (ok : ∀ (i : Nat) (d : Def) (st : Stmt), tb[i]? = some (d, st) → DefOk (tb.T im) d st) (hj : tb[j]? = some (d, st)) (hps : d.ps = [x]) (law : Law1 tb k j)
    (X : K.In h) (G : h.Ns mainGlobals mg) (hfa : mg d.name = some (.ref f)) (c : He.SaysX (topFa tb) (topFn tb) [] (topTf tb) (topEx tb im) w h K) : LamX.LawAtS l w K CX0 (2 * k) 63 x mg f h := by
  have top := top_of X G c.t.d
  have him : ∀ p ∈ im, mg p.1 = some p.2 := fun p hp => PySem.W.mg_of X G (of_decide_eq_true (List.all_eq_true.mp (Bool.and_eq_true_iff.mp c.more).1 p hp))
  obtain ⟨a, fd, g, F⟩ := top.fns j d st hj
  have e := hfa.symm.trans g
  cases e
  have b := FunD.bindsA F (ok j d st hj).bnd
  refine ⟨fd, (topTf tb).map (He.cT K), spD K d.ps.length (callN tb.fns k j), fun p hp => ?_, fun p hp => ?_, fun p hp => ?_, fun s u => ?_, fun H a ns hl _ hH hS => ?_, fun base KB GB TB => ?_⟩
  · obtain ⟨q, hq, rfl⟩ := List.mem_map.mp hp
    exact c.empty q hq
  · obtain ⟨q, hq, rfl⟩ := List.mem_map.mp hp
    exact c.out q hq
  · obtain ⟨q, hq, rfl⟩ := List.mem_map.mp hp
    exact PySem.W.codeHd_of_K X (c.hd q hq)
  · have := b s [u] (by rw [hps]; rfl)
    rw [hps] at this
    exact this
  · refine ⟨by rw [hps]; rfl, fun P hP => ?_, fun _ => True, [.scr ns], .bl true, ⟨.ref a, [], rfl, ⟨a, rfl, .of trivial hS⟩, rfl⟩, law ns hl, fun v H' _ r => r⟩
    obtain ⟨f', oc, od, fd', sl, c', lk, hc', rfl⟩ := hP
    have hm := frag_mem lk
    have := List.all_eq_true.mp (Bool.and_eq_true_iff.mp c.more).2 _ hm
    obtain ⟨p, hp, hpf⟩ := List.any_eq_true.mp this
    have hpf : He.fAd K p = f' := of_decide_eq_true hpf
    have lk' : K.lookup (He.fAd K p) = some ⟨oc, od, .func fd', sl⟩ := by rw [hpf]; exact lk
    have e1 := He.codeOf_eq lk' hc'
    have := hH (He.cT K p) (List.mem_map.mpr ⟨p, hp, rfl⟩)
    have e2 : (He.cT K p).2 = He.tabOf K c' := by show He.tabOf K (He.codeOf K p) = _; rw [e1]
    rw [e2] at this
    exact ⟨#[], this, True.intro⟩
  · have := fns_ok (P := l.prog) (w := w) (base := base) him ok top (fun i d' st' hi a' fd' hm F' c' hc' => ?_) k j d st f fd hj g F
    · rw [hps] at this ⊢
      exact this
    · obtain ⟨oc, od, dV, kV, doc, pm, an, cdv, ct, osl, e, lk, _⟩ := F'.ex
      have h2 : (topFa tb)[bnames.length + i]? = some (.glo d'.name) := by
        unfold topFa
        rw [List.getElem?_append_right (by simp)]
        simp only [List.length_map, Nat.add_sub_cancel_left, List.getElem?_map, hi]
        rfl
      have h3 := hm.symm.trans (He.glo_ok X G (c.t.d.fact _ h2))
      have h4 : He.fAd K (d'.name, none) = a' := by cases h3; rfl
      have e1 := He.codeOf_eq (p := (d'.name, none)) (by rw [h4]; exact lk) hc'
      have := TB (He.cT K (d'.name, none)) (List.mem_map.mpr ⟨(d'.name, none), List.mem_map.mpr ⟨(d', st'), List.mem_of_getElem? hi, rfl⟩, rfl⟩)
      have e2 : He.cT K (d'.name, none) = (c', He.tabOf K c') := by unfold He.cT; rw [e1]
      rw [e2] at this
      exact ⟨this.code, this.bm, this.gP⟩
end Dl
set_option Elab.async false
set_option linter.all false
set_option maxRecDepth 100000
set_option maxHeartbeats 4000000
/-! Words for the evaluation: rewriting rules. -/
namespace Dl
open PySem
/-! no rule here may be one that holds by unfolding alone: the kernel would run the program -/
@[simp high] theorem obind_some {α β : Type} (x : α) (f : α → Option β) : (some x).bind f = f x := .trans rfl rfl
@[simp high] theorem obind_none {α β : Type} (f : α → Option β) : (none : Option α).bind f = none := .trans rfl rfl
@[simp high] theorem omap_some {α β : Type} (x : α) (f : α → β) : (some x).map f = some (f x) := .trans rfl rfl
@[simp high] theorem omap_none {α β : Type} (f : α → β) : (none : Option α).map f = none := .trans rfl rfl
@[simp high] theorem get_zero {α : Type} (x : α) (l : List α) : (x :: l)[0]? = some x := .trans rfl rfl
@[simp high] theorem get_succ {α : Type} (x : α) (l : List α) (n : Nat) : (x :: l)[n + 1]? = l[n]? := .trans rfl rfl
@[simp high] theorem set_zero {α : Type} (x y : α) (l : List α) : (x :: l).set 0 y = y :: l := .trans rfl rfl
@[simp high] theorem set_succ {α : Type} (x y : α) (l : List α) (n : Nat) : (x :: l).set (n + 1) y = x :: l.set n y := .trans rfl rfl
@[simp high] theorem ite_tt {α : Sort u} (a b : α) : (if true = true then a else b) = a := .trans (if_pos (.refl true)) rfl
@[simp high] theorem ite_ff {α : Sort u} (a b : α) : (if false = true then a else b) = b := .trans (if_neg Bool.false_ne_true) rfl
@[simp high] theorem id_of {α : Sort u} (a : α) : id a = a := .trans rfl rfl
section
variable (cl : Nat → List D → Option D) (ρ : Rho) (σ : RhoS)
@[simp] theorem grd_true {α : Type} {c : Prop} [Decidable c] {x : α} (h : c) : grd c x = some x := .trans (if_pos h) rfl
theorem grd_def {α : Type} {c : Prop} [Decidable c] {x : α} : grd c x = if c then some x else none := .trans rfl rfl
/-! the ways on, named: simp does not go into them -/
def op1 (f : D → Option D) (x : Option D) : Option D := x.bind f
def op2 (f : D → D → Option D) (x y : Option D) : Option D := x.bind fun x => y.bind fun y => f x y
def negD (x : D) : Option D := (intOf x).map fun i => .int (-i)
def notD (x : D) : Option D := (truth x).map fun b => .bl (!b)
def cmpB (o : CO) (x y : D) : Option D := (cmpD o x y).map .bl
def chn2 (o' : CO) (c : CE) (y : D) (k : Option Bool) : Option D := k.bind fun k => if k = true then (evE cl c ρ).bind fun z => (cmpD o' y z).map .bl else some (.bl false)
def chn (o o' : CO) (c : CE) (x y : Option D) : Option D := x.bind fun x => y.bind fun y => chn2 cl ρ o' c y (cmpD o x y)
def chn3a (o' o'' : CO) (c d : CE) (y : D) (k : Option Bool) : Option D := k.bind fun k => if k = true then chn cl ρ o' o'' d (some y) (evE cl c ρ) else some (.bl false)
def chn3 (o o' o'' : CO) (c d : CE) (x y : Option D) : Option D := x.bind fun x => y.bind fun y => chn3a cl ρ o' o'' c d y (cmpD o x y)
def isNK (x : Option D) : Option D := x.map fun x => .bl (isNonD x)
def notNK (x : Option D) : Option D := x.map fun x => .bl (!isNonD x)
def andT (b : CE) (x : D) (k : Option Bool) : Option D := k.bind fun k => if k = true then evE cl b ρ else some x
def andK (b : CE) (x : Option D) : Option D := x.bind fun x => andT cl ρ b x (truth x)
def orT (b : CE) (x : D) (k : Option Bool) : Option D := k.bind fun k => if k = true then some x else evE cl b ρ
def orK (b : CE) (x : Option D) : Option D := x.bind fun x => orT cl ρ b x (truth x)
def iteT (a b : CE) (k : Option Bool) : Option D := k.bind fun k => if k = true then evE cl a ρ else evE cl b ρ
def iteK (a b : CE) (x : Option D) : Option D := x.bind fun x => iteT cl ρ a b (truth x)
def slc3 (x lo hi : Option D) : Option D := x.bind fun x => (lo.bind partD).bind fun l => (hi.bind partD).bind fun h => sliceD x l h
def tupK (x : Option (List D)) : Option D := x.bind fun ds => grd (ds.length ≤ sizeLine) (.tup ds)
def lstK (x : Option (List D)) : Option D := x.bind fun ds => grd (ds.length ≤ sizeLine) (.lst ds)
def callK (f : Nat) (x : Option (List D)) : Option D := x.bind fun ds => cl f ds
def biK (b : BI) (x : Option (List D)) : Option D := x.bind fun ds => biD b ds
def isiK (t : TY) (x : Option D) : Option D := x.map fun x => .bl (isiD t x)
def consK (x : Option D) (y : Option (List D)) : Option (List D) := x.bind fun d => y.map fun ds => d :: ds
/-- a comprehension's turn -/
def lcS (own : List Nat) (tg : Tg) (cs : List CE) (elt : CE) (ρ : Rho) (x : D) : Option (Option D) := (tg.put x (wipeD ρ own)).bind fun ρ1 => (evT cl cs ρ1).bind fun k => if k = true then (evE cl elt ρ1).map some else some none
/-- a loop's turn -/
def turn (t : Tg) (b : List CS) (x : D) (σ : RhoS) : Option Res := (t.binds x).bind fun bs => exSs cl b (putS σ bs)
def lcE (elt : CE) (ρ : Rho) (k : Option Bool) : Option (Option D) := k.bind fun k => if k = true then (evE cl elt ρ).map some else some none
def lcR (cs : List CE) (elt : CE) (ρ : Option Rho) : Option (Option D) := ρ.bind fun ρ1 => lcE cl elt ρ1 (evT cl cs ρ1)
def turnK (b : List CS) (σ : RhoS) (bs : Option (List (Nat × D))) : Option Res := bs.bind fun bs => exSs cl b (putS σ bs)
theorem lcS_eq (own : List Nat) (tg : Tg) (cs : List CE) (elt : CE) (ρ : Rho) (x : D) : lcS cl own tg cs elt ρ x = lcR cl cs elt (tg.put x (wipeD ρ own)) := .trans rfl rfl
@[simp] theorem lcR_some (cs : List CE) (elt : CE) (ρ : Rho) : lcR cl cs elt (some ρ) = lcE cl elt ρ (evT cl cs ρ) := .trans rfl rfl
@[simp] theorem lcE_some (elt : CE) (ρ : Rho) (k : Bool) : lcE cl elt ρ (some k) = if k = true then (evE cl elt ρ).map some else some none := .trans rfl rfl
theorem turn_eq (t : Tg) (b : List CS) (x : D) (σ : RhoS) : turn cl t b x σ = turnK cl b σ (t.binds x) := .trans rfl rfl
@[simp] theorem turnK_some (b : List CS) (σ : RhoS) (bs : List (Nat × D)) : turnK cl b σ (some bs) = exSs cl b (putS σ bs) := .trans rfl rfl
def lcF (xs : Option (List D)) : Option D := xs.bind fun ys => grd (ys.length ≤ sizeLine) (.lst ys)
def lcK (own : List Nat) (tg : Tg) (cs : List CE) (elt : CE) (x : Option D) : Option D := (x.bind iterD).bind fun xs => lcF (lcD (lcS cl own tg cs elt ρ) xs)
def rng1K (x : Option D) : Option D := x.bind fun x => (intOf x).bind fun n => grd (-(2 ^ 62) ≤ n ∧ n < 2 ^ 62) (.lst ((List.range n.toNat).map fun i => .int (i : Nat)))
def rng2K (x y : Option D) : Option D := x.bind fun x => (intOf x).bind fun m => y.bind fun y => (intOf y).bind fun n =>
      grd (-(2 ^ 62) ≤ m ∧ m < 2 ^ 62 ∧ -(2 ^ 62) ≤ n ∧ n < 2 ^ 62) (.lst ((List.range (n - m).toNat).map fun i => .int (m + (i : Nat))))
def rng3K (x y z : Option D) : Option D := x.bind fun x => (intOf x).bind fun m => y.bind fun y => (intOf y).bind fun n => z.bind fun z => (intOf z).bind fun k =>
      grd (-(2 ^ 62) ≤ m ∧ m < 2 ^ 62 ∧ -(2 ^ 62) ≤ n ∧ n < 2 ^ 62 ∧ k = -1) (.lst ((List.range (m - n).toNat).map fun i => .int (m - (i : Nat))))
def rgv1K (tp : Bool) (x : Option D) : Option D := x.bind fun x => (intOf x).bind fun n => grd (-(2 ^ 62) ≤ n ∧ n ≤ 2 ^ 24) (seqD tp (rgl 0 n))
def rgv2K (tp : Bool) (x y : Option D) : Option D := x.bind fun x => (intOf x).bind fun m => y.bind fun y => (intOf y).bind fun n =>
      grd (-(2 ^ 62) ≤ m ∧ m < 2 ^ 62 ∧ -(2 ^ 62) ≤ n ∧ n < 2 ^ 62 ∧ (n - m).toNat ≤ 2 ^ 24) (seqD tp (rgl m n))
def enumK (x : Option D) : Option D := x.bind fun x => (itemsD x).map fun xs => .lst (enumF 0 xs)
def zipK (x y : Option D) : Option D := x.bind fun x => y.bind fun y => (zipD x y).map .lst
def lc2E (own1 : List Nat) (tg1 : Tg) (it1 : CE) (cs1 : List CE) (elt : CE) (ρ1 : Rho) (k : Option Bool) : Option (List D) := k.bind fun k => if k = true then lc2I cl own1 tg1 it1 cs1 elt ρ1 else some []
def lc2R (own1 : List Nat) (cs : List CE) (tg1 : Tg) (it1 : CE) (cs1 : List CE) (elt : CE) (ρ : Option Rho) : Option (List D) := ρ.bind fun ρ1 => lc2E cl own1 tg1 it1 cs1 elt ρ1 (evT cl cs ρ1)
def lc2J (own1 : List Nat) (tg1 : Tg) (cs1 : List CE) (elt : CE) (ρ1 : Rho) (x : Option D) : Option (List D) := (x.bind iterD).bind fun ys => lcD (lcS cl own1 tg1 cs1 elt ρ1) ys
def lc2K (own own1 : List Nat) (tg : Tg) (cs : List CE) (tg1 : Tg) (it1 : CE) (cs1 : List CE) (elt : CE) (x : Option D) : Option D := (x.bind iterD).bind fun xs => lcF (lcL (lc2S cl own own1 tg cs tg1 it1 cs1 elt ρ) xs)
theorem lc2S_eq (own own1 : List Nat) (tg : Tg) (cs : List CE) (tg1 : Tg) (it1 : CE) (cs1 : List CE) (elt : CE) (ρ : Rho) (x : D) : lc2S cl own own1 tg cs tg1 it1 cs1 elt ρ x = lc2R cl own1 cs tg1 it1 cs1 elt (tg.put x (wipeD ρ own)) := .trans rfl rfl
@[simp] theorem lc2R_some (own1 : List Nat) (cs : List CE) (tg1 : Tg) (it1 : CE) (cs1 : List CE) (elt : CE) (ρ : Rho) : lc2R cl own1 cs tg1 it1 cs1 elt (some ρ) = lc2E cl own1 tg1 it1 cs1 elt ρ (evT cl cs ρ) := .trans rfl rfl
@[simp] theorem lc2E_some (own1 : List Nat) (tg1 : Tg) (it1 : CE) (cs1 : List CE) (elt : CE) (ρ : Rho) (k : Bool) : lc2E cl own1 tg1 it1 cs1 elt ρ (some k) = if k = true then lc2J cl own1 tg1 cs1 elt ρ (evE cl it1 ρ) else some [] := .trans rfl rfl
@[simp] theorem lc2J_some (own1 : List Nat) (tg1 : Tg) (cs1 : List CE) (elt : CE) (ρ : Rho) (d : D) : lc2J cl own1 tg1 cs1 elt ρ (some d) = (iterD d).bind fun ys => lcD (lcS cl own1 tg1 cs1 elt ρ) ys := .trans rfl rfl
@[simp] theorem lc2K_some (own own1 : List Nat) (tg : Tg) (cs : List CE) (tg1 : Tg) (it1 : CE) (cs1 : List CE) (elt : CE) (d : D) : lc2K cl ρ own own1 tg cs tg1 it1 cs1 elt (some d) = (iterD d).bind fun xs => lcF (lcL (lc2S cl own own1 tg cs tg1 it1 cs1 elt ρ) xs) := .trans rfl rfl
@[simp] theorem evE_lc2 (own own1 : List Nat) (tg : Tg) (it : CE) (cs : List CE) (tg1 : Tg) (it1 : CE) (cs1 : List CE) (elt : CE) : evE cl (.lc2 own own1 tg it cs tg1 it1 cs1 elt) ρ = lc2K cl ρ own own1 tg cs tg1 it1 cs1 elt (evE cl it ρ) := .trans rfl rfl
@[simp] theorem op1_some (f : D → Option D) (x : D) : op1 f (some x) = f x := .trans rfl rfl
@[simp] theorem op2_some (f : D → D → Option D) (x y : D) : op2 f (some x) (some y) = f x y := .trans rfl rfl
@[simp] theorem negD_int (i : Int) : negD (.int i) = some (.int (-i)) := .trans rfl rfl
@[simp] theorem notD_eq (x : D) : notD x = (truth x).map fun b => .bl (!b) := .trans rfl rfl
@[simp] theorem cmpB_eq (o : CO) (x y : D) : cmpB o x y = (cmpD o x y).map .bl := .trans rfl rfl
@[simp] theorem chn_some (o o' : CO) (c : CE) (x y : D) : chn cl ρ o o' c (some x) (some y) = chn2 cl ρ o' c y (cmpD o x y) := .trans rfl rfl
@[simp] theorem chn3_some (o o' o'' : CO) (c d : CE) (x y : D) : chn3 cl ρ o o' o'' c d (some x) (some y) = chn3a cl ρ o' o'' c d y (cmpD o x y) := .trans rfl rfl
@[simp] theorem chn3a_some (o' o'' : CO) (c d : CE) (y : D) (k : Bool) : chn3a cl ρ o' o'' c d y (some k) = if k = true then chn cl ρ o' o'' d (some y) (evE cl c ρ) else some (.bl false) := .trans rfl rfl
@[simp] theorem chn2_some (o' : CO) (c : CE) (y : D) (k : Bool) : chn2 cl ρ o' c y (some k) = if k = true then op2 (cmpB o') (some y) (evE cl c ρ) else some (.bl false) := .trans rfl rfl
@[simp] theorem isNK_some (x : D) : isNK (some x) = some (.bl (isNonD x)) := .trans rfl rfl
@[simp] theorem notNK_some (x : D) : notNK (some x) = some (.bl (!isNonD x)) := .trans rfl rfl
@[simp] theorem andK_some (b : CE) (x : D) : andK cl ρ b (some x) = andT cl ρ b x (truth x) := .trans rfl rfl
@[simp] theorem andT_some (b : CE) (x : D) (k : Bool) : andT cl ρ b x (some k) = if k = true then evE cl b ρ else some x := .trans rfl rfl
@[simp] theorem orK_some (b : CE) (x : D) : orK cl ρ b (some x) = orT cl ρ b x (truth x) := .trans rfl rfl
@[simp] theorem orT_some (b : CE) (x : D) (k : Bool) : orT cl ρ b x (some k) = if k = true then some x else evE cl b ρ := .trans rfl rfl
@[simp] theorem iteK_some (a b : CE) (x : D) : iteK cl ρ a b (some x) = iteT cl ρ a b (truth x) := .trans rfl rfl
@[simp] theorem iteT_some (a b : CE) (k : Bool) : iteT cl ρ a b (some k) = if k = true then evE cl a ρ else evE cl b ρ := .trans rfl rfl
@[simp] theorem slc3_some (x lo hi : D) : slc3 (some x) (some lo) (some hi) = (partD lo).bind fun l => (partD hi).bind fun h => sliceD x l h := .trans rfl rfl
@[simp] theorem tupK_some (ds : List D) : tupK (some ds) = grd (ds.length ≤ sizeLine) (.tup ds) := .trans rfl rfl
@[simp] theorem lstK_some (ds : List D) : lstK (some ds) = grd (ds.length ≤ sizeLine) (.lst ds) := .trans rfl rfl
@[simp] theorem callK_some (f : Nat) (ds : List D) : callK cl f (some ds) = cl f ds := .trans rfl rfl
@[simp] theorem biK_some (b : BI) (ds : List D) : biK b (some ds) = biD b ds := .trans rfl rfl
@[simp] theorem isiK_some (t : TY) (x : D) : isiK t (some x) = some (.bl (isiD t x)) := .trans rfl rfl
@[simp] theorem consK_some (d : D) (ds : List D) : consK (some d) (some ds) = some (d :: ds) := .trans rfl rfl
@[simp] theorem lcK_some (own : List Nat) (tg : Tg) (cs : List CE) (elt : CE) (x : D) : lcK cl ρ own tg cs elt (some x) = (iterD x).bind fun xs => lcF (lcD (lcS cl own tg cs elt ρ) xs) := .trans rfl rfl
@[simp] theorem lcF_some (ys : List D) : lcF (some ys) = grd (ys.length ≤ sizeLine) (.lst ys) := .trans rfl rfl
@[simp] theorem rng1K_some (n : Int) : rng1K (some (.int n)) = grd (-(2 ^ 62) ≤ n ∧ n < 2 ^ 62) (.lst ((List.range n.toNat).map fun i => .int (i : Nat))) := .trans rfl rfl
@[simp] theorem rng2K_some (m n : Int) : rng2K (some (.int m)) (some (.int n)) = grd (-(2 ^ 62) ≤ m ∧ m < 2 ^ 62 ∧ -(2 ^ 62) ≤ n ∧ n < 2 ^ 62) (.lst ((List.range (n - m).toNat).map fun i => .int (m + (i : Nat)))) := .trans rfl rfl
@[simp] theorem rng3K_some (m n k : Int) : rng3K (some (.int m)) (some (.int n)) (some (.int k)) = grd (-(2 ^ 62) ≤ m ∧ m < 2 ^ 62 ∧ -(2 ^ 62) ≤ n ∧ n < 2 ^ 62 ∧ k = -1) (.lst ((List.range (m - n).toNat).map fun i => .int (m - (i : Nat)))) := .trans rfl rfl
theorem rgl_zero (n : Int) : rgl 0 n = (List.range n.toNat).map fun i => .int (i : Nat) := by
  unfold rgl
  rw [Int.sub_zero]
  exact List.map_congr_left fun i _ => by rw [Int.zero_add]
@[simp] theorem rgv1K_t (n : Int) : rgv1K true (some (.int n)) = grd (-(2 ^ 62) ≤ n ∧ n ≤ 2 ^ 24) (.tup ((List.range n.toNat).map fun i => .int (i : Nat))) := by rw [← rgl_zero]; exact .trans rfl rfl
@[simp] theorem rgv1K_f (n : Int) : rgv1K false (some (.int n)) = grd (-(2 ^ 62) ≤ n ∧ n ≤ 2 ^ 24) (.lst ((List.range n.toNat).map fun i => .int (i : Nat))) := by rw [← rgl_zero]; exact .trans rfl rfl
@[simp] theorem rgv2K_t (m n : Int) : rgv2K true (some (.int m)) (some (.int n)) = grd (-(2 ^ 62) ≤ m ∧ m < 2 ^ 62 ∧ -(2 ^ 62) ≤ n ∧ n < 2 ^ 62 ∧ (n - m).toNat ≤ 2 ^ 24) (.tup ((List.range (n - m).toNat).map fun i => .int (m + (i : Nat)))) := .trans rfl rfl
@[simp] theorem rgv2K_f (m n : Int) : rgv2K false (some (.int m)) (some (.int n)) = grd (-(2 ^ 62) ≤ m ∧ m < 2 ^ 62 ∧ -(2 ^ 62) ≤ n ∧ n < 2 ^ 62 ∧ (n - m).toNat ≤ 2 ^ 24) (.lst ((List.range (n - m).toNat).map fun i => .int (m + (i : Nat)))) := .trans rfl rfl
@[simp] theorem enumK_some (x : D) : enumK (some x) = (itemsD x).map fun xs => .lst (enumF 0 xs) := .trans rfl rfl
@[simp] theorem zipK_some (x y : D) : zipK (some x) (some y) = (zipD x y).map .lst := .trans rfl rfl
@[simp] theorem evE_var (i : Nat) : evE cl (.var i) ρ = (ρ[i]?).bind id := .trans rfl rfl
@[simp] theorem evE_int (i : Int) : evE cl (.int i) ρ = some (.int i) := .trans rfl rfl
@[simp] theorem evE_bl (i : Bool) : evE cl (.bl i) ρ = some (.bl i) := .trans rfl rfl
@[simp] theorem evE_non : evE cl .non ρ = some .non := .trans rfl rfl
@[simp] theorem evE_str (s : Str) : evE cl (.str s) ρ = some (.str s) := .trans rfl rfl
@[simp] theorem evE_bin (o : BO) (a b : CE) : evE cl (.bin o a b) ρ = op2 (binD o) (evE cl a ρ) (evE cl b ρ) := .trans rfl rfl
@[simp] theorem evE_neg (a : CE) : evE cl (.neg a) ρ = op1 negD (evE cl a ρ) := .trans rfl rfl
@[simp] theorem evE_not (a : CE) : evE cl (.not a) ρ = op1 notD (evE cl a ρ) := .trans rfl rfl
@[simp] theorem evE_cmp (o : CO) (a b : CE) : evE cl (.cmp o a b) ρ = op2 (cmpB o) (evE cl a ρ) (evE cl b ρ) := .trans rfl rfl
@[simp] theorem evE_chain (o o' : CO) (a b c : CE) : evE cl (.chain o o' a b c) ρ = chn cl ρ o o' c (evE cl a ρ) (evE cl b ρ) := .trans rfl rfl
@[simp] theorem evE_chain3 (o o' o'' : CO) (a b c d : CE) : evE cl (.chain3 o o' o'' a b c d) ρ = chn3 cl ρ o o' o'' c d (evE cl a ρ) (evE cl b ρ) := .trans rfl rfl
@[simp] theorem evE_isN (a : CE) : evE cl (.isN a) ρ = isNK (evE cl a ρ) := .trans rfl rfl
@[simp] theorem evE_notN (a : CE) : evE cl (.notN a) ρ = notNK (evE cl a ρ) := .trans rfl rfl
@[simp] theorem evE_and (a b : CE) : evE cl (.and a b) ρ = andK cl ρ b (evE cl a ρ) := .trans rfl rfl
@[simp] theorem evE_or (a b : CE) : evE cl (.or a b) ρ = orK cl ρ b (evE cl a ρ) := .trans rfl rfl
@[simp] theorem evE_ite (c a b : CE) : evE cl (.ite c a b) ρ = iteK cl ρ a b (evE cl c ρ) := .trans rfl rfl
@[simp] theorem evE_ssor (a : CE) : evE cl (.ssor a) ρ = op1 (fun x => (ssetD x).map .lst) (evE cl a ρ) := .trans rfl rfl
@[simp] theorem evE_slen (a : CE) : evE cl (.slen a) ρ = op1 (fun x => (ssetD x).map fun l => .int (l.length : Nat)) (evE cl a ρ) := .trans rfl rfl
@[simp] theorem evE_lidx (a b : CE) : evE cl (.lidx a b) ρ = op2 lidxD (evE cl a ρ) (evE cl b ρ) := .trans rfl rfl
@[simp] theorem evE_idx (a b : CE) : evE cl (.idx a b) ρ = op2 idxD (evE cl a ρ) (evE cl b ρ) := .trans rfl rfl
@[simp] theorem evE_slc (a lo hi : CE) : evE cl (.slc a lo hi) ρ = slc3 (evE cl a ρ) (evE cl lo ρ) (evE cl hi ρ) := .trans rfl rfl
@[simp] theorem evE_rev (a : CE) : evE cl (.rev a) ρ = op1 revD (evE cl a ρ) := .trans rfl rfl
@[simp] theorem evE_tup (es : List CE) : evE cl (.tup es) ρ = tupK (evEs cl es ρ) := .trans rfl rfl
@[simp] theorem evE_lst (es : List CE) : evE cl (.lst es) ρ = lstK (evEs cl es ρ) := .trans rfl rfl
@[simp] theorem evE_call (f : Nat) (es : List CE) : evE cl (.call f es) ρ = callK cl f (evEs cl es ρ) := .trans rfl rfl
@[simp] theorem evE_bi (b : BI) (es : List CE) : evE cl (.bi b es) ρ = biK b (evEs cl es ρ) := .trans rfl rfl
@[simp] theorem evE_isi (t : TY) (a : CE) : evE cl (.isi t a) ρ = isiK t (evE cl a ρ) := .trans rfl rfl
@[simp] theorem evE_lc (own : List Nat) (tg : Tg) (it : CE) (cs : List CE) (elt : CE) : evE cl (.lc own tg it cs elt) ρ = lcK cl ρ own tg cs elt (evE cl it ρ) := .trans rfl rfl
@[simp] theorem evE_rgv1 (tp : Bool) (a : CE) : evE cl (.rgv1 tp a) ρ = rgv1K tp (evE cl a ρ) := .trans rfl rfl
@[simp] theorem evE_rgv2 (tp : Bool) (a b : CE) : evE cl (.rgv2 tp a b) ρ = rgv2K tp (evE cl a ρ) (evE cl b ρ) := .trans rfl rfl
@[simp] theorem evE_rng1 (a : CE) : evE cl (.rng1 a) ρ = rng1K (evE cl a ρ) := .trans rfl rfl
@[simp] theorem evE_rng2 (a b : CE) : evE cl (.rng2 a b) ρ = rng2K (evE cl a ρ) (evE cl b ρ) := .trans rfl rfl
@[simp] theorem evE_rng3 (a b c : CE) : evE cl (.rng3 a b c) ρ = rng3K (evE cl a ρ) (evE cl b ρ) (evE cl c ρ) := .trans rfl rfl
@[simp] theorem evE_enum (a : CE) : evE cl (.enum a) ρ = enumK (evE cl a ρ) := .trans rfl rfl
@[simp] theorem evE_zip (a b : CE) : evE cl (.zip a b) ρ = zipK (evE cl a ρ) (evE cl b ρ) := .trans rfl rfl
def rvdK (x : Option D) : Option D := x.bind fun x => (itemsD x).map fun xs => .lst xs.reverse
def cmbK (x y : Option D) : Option D := x.bind fun x => (intOf x).bind fun n => y.bind fun y => (intOf y).bind fun k => grd (0 ≤ n ∧ n ≤ 8 ∧ 0 ≤ k ∧ k ≤ 8) (.lst ((cmbs k.toNat (List.range n.toNat)).map numT))
def prmK (x : Option D) : Option D := x.bind fun x => (intOf x).bind fun n => grd (0 ≤ n ∧ n ≤ 5) (.lst ((prms n.toNat (List.range n.toNat)).map numT))
def gcdK (x y : Option D) : Option D := x.bind fun x => (intOf x).bind fun i => y.bind fun y => (intOf y).map fun j => .int ((Nat.gcd i.natAbs j.natAbs : Nat) : Int)
@[simp] theorem rvdK_lst (l : List D) : rvdK (some (.lst l)) = some (.lst l.reverse) := .trans rfl rfl
@[simp] theorem rvdK_tup (l : List D) : rvdK (some (.tup l)) = some (.lst l.reverse) := .trans rfl rfl
@[simp] theorem cmbK_some (n k : Int) : cmbK (some (.int n)) (some (.int k)) = grd (0 ≤ n ∧ n ≤ 8 ∧ 0 ≤ k ∧ k ≤ 8) (.lst ((cmbs k.toNat (List.range n.toNat)).map numT)) := .trans rfl rfl
@[simp] theorem prmK_some (n : Int) : prmK (some (.int n)) = grd (0 ≤ n ∧ n ≤ 5) (.lst ((prms n.toNat (List.range n.toNat)).map numT)) := .trans rfl rfl
@[simp] theorem gcdK_some (i j : Int) : gcdK (some (.int i)) (some (.int j)) = some (.int ((Nat.gcd i.natAbs j.natAbs : Nat) : Int)) := .trans rfl rfl
@[simp] theorem evE_rvd (a : CE) : evE cl (.rvd a) ρ = rvdK (evE cl a ρ) := .trans rfl rfl
@[simp] theorem evE_cmb (a b : CE) : evE cl (.cmb a b) ρ = cmbK (evE cl a ρ) (evE cl b ρ) := .trans rfl rfl
@[simp] theorem evE_prm (a : CE) : evE cl (.prm a) ρ = prmK (evE cl a ρ) := .trans rfl rfl
@[simp] theorem evE_gcd (a b : CE) : evE cl (.gcd a b) ρ = gcdK (evE cl a ρ) (evE cl b ρ) := .trans rfl rfl
@[simp] theorem evEs_nil : evEs cl [] ρ = some [] := .trans rfl rfl
@[simp] theorem evEs_cons (e : CE) (es : List CE) : evEs cl (e :: es) ρ = consK (evE cl e ρ) (evEs cl es ρ) := .trans rfl rfl
@[simp] theorem evT_nil : evT cl [] ρ = some true := .trans rfl rfl
@[simp] theorem evT_cons (c : CE) (cs : List CE) : evT cl (c :: cs) ρ = (evE cl c ρ).bind truth := .trans rfl rfl
/-! statements -/
def setK (m : Md) (i : Nat) (x : Option D) : Option Res := x.bind fun d => grd (okM m d = true) (.nx ((aftM m σ).set i (some (.sh d))))
def ownK (e : CE) (i : Nat) (x : Option D) : Option Res := x.bind fun d => (lstOf d).bind fun l => grd (flats l = true ∧ freshB e = true) (.nx (σ.set i (some (.own l))))
def putT (m : Md) (bs : Option (List (Nat × D))) : Option Res := bs.map fun bs => .nx (putS (aftM m σ) bs)
def putK (m : Md) (t : Tg) (x : Option D) : Option Res := x.bind fun d => if okM m d = true then putT σ m (t.binds d) else none
def parK (i j : Nat) (x y : Option D) : Option Res := x.bind fun x => y.bind fun y => grd (x.flat = true ∧ y.flat = true) (.nx ((σ.set i (some (.sh x))).set j (some (.sh y))))
def appT (m : Md) (i : Nat) (d : D) (l : Option (List D)) : Option Res := l.bind fun l => grd (okM m d = true ∧ l.length < sizeLine) (.nx ((aftM m σ).set i (some (.own (l ++ [d])))))
def appK (m : Md) (i : Nat) (x : Option D) : Option Res := x.bind fun d => appT σ m i d (ownOf (aftM m σ) i)
def stiU (m : Md) (i : Nat) (d : D) (l : List D) (j : Option Nat) : Option Res := j.bind fun j => grd (okM m d = true) (.nx ((aftM m σ).set i (some (.own (l.set j d)))))
def stiT (m : Md) (i : Nat) (d : D) (l : List D) (k : Option D) : Option Res := (k.bind intOf).bind fun z => stiU σ m i d l (L2.ixN l.length z)
def stiL (m : Md) (i : Nat) (d : D) (k : CE) (l : Option (List D)) : Option Res := l.bind fun l => stiT σ m i d l (evE cl k (snapS (aftM m σ)))
def stiK (m : Md) (i : Nat) (k : CE) (x : Option D) : Option Res := x.bind fun d => stiL cl σ m i d k (ownOf (aftM m σ) i)
def augT (i : Nat) (o : BO) (x y : D) : Option Res := (augD o x y).map fun z => .nx (σ.set i (some (.sh z)))
def augK (i : Nat) (o : BO) (x y : Option D) : Option Res := x.bind fun x => y.bind fun y => augT σ i o x y
def ifsT (a b : List CS) (k : Option Bool) : Option Res := k.bind fun k => if k = true then exSs cl a σ else exSs cl b σ
def ifsK (a b : List CS) (x : Option D) : Option Res := x.bind fun x => ifsT cl σ a b (truth x)
def loopT (m : Md) (t : Tg) (it : CE) (b : List CS) (d : D) (xs : Option (List D)) : Option Res := xs.bind fun xs => if okI m it d xs = true then forL (turn cl t b) xs (aftM m σ) else none
def loopK (m : Md) (t : Tg) (it : CE) (b : List CS) (x : Option D) : Option Res := x.bind fun d => loopT cl σ m t it b d (iterD d)
def retK (x : Option D) : Option Res := x.map .rt
def thenK (cs : List CS) (r : Option Res) : Option Res := r.bind fun r => thenR r (exSs cl cs)
def wTest (c : CE) (σ : RhoS) : Option Bool := (evE cl c (snapS σ)).bind truth
@[simp] theorem setK_some (m : Md) (i : Nat) (d : D) : setK σ m i (some d) = grd (okM m d = true) (.nx ((aftM m σ).set i (some (.sh d)))) := .trans rfl rfl
@[simp] theorem ownK_some (e : CE) (i : Nat) (l : List D) : ownK σ e i (some (.lst l)) = grd (flats l = true ∧ freshB e = true) (.nx (σ.set i (some (.own l)))) := .trans rfl rfl
@[simp] theorem putT_some (m : Md) (bs : List (Nat × D)) : putT σ m (some bs) = some (.nx (putS (aftM m σ) bs)) := .trans rfl rfl
@[simp] theorem putK_some (m : Md) (t : Tg) (d : D) : putK σ m t (some d) = if okM m d = true then putT σ m (t.binds d) else none := .trans rfl rfl
@[simp] theorem parK_some (i j : Nat) (x y : D) : parK σ i j (some x) (some y) = grd (x.flat = true ∧ y.flat = true) (.nx ((σ.set i (some (.sh x))).set j (some (.sh y)))) := .trans rfl rfl
def appFT (i : Nat) (fr : Bool) (l' : List D) (l : Option (List D)) : Option Res := l.bind fun l => grd (flats l' = true ∧ fr = true ∧ l.length < sizeLine) (.nx (σ.set i (some (.own (l ++ [.lst l'])))))
def appFK (i : Nat) (fr : Bool) (x : Option D) : Option Res := x.bind fun d => (lstOf d).bind fun l' => appFT σ i fr l' (ownOf σ i)
@[simp] theorem appFT_some (i : Nat) (fr : Bool) (l' l : List D) : appFT σ i fr l' (some l) = grd (flats l' = true ∧ fr = true ∧ l.length < sizeLine) (.nx (σ.set i (some (.own (l ++ [.lst l']))))) := .trans rfl rfl
@[simp] theorem appFK_some (i : Nat) (fr : Bool) (l' : List D) : appFK σ i fr (some (.lst l')) = appFT σ i fr l' (ownOf σ i) := .trans rfl rfl
@[simp] theorem appT_some (m : Md) (i : Nat) (d : D) (l : List D) : appT σ m i d (some l) = grd (okM m d = true ∧ l.length < sizeLine) (.nx ((aftM m σ).set i (some (.own (l ++ [d]))))) := .trans rfl rfl
@[simp] theorem appK_some (m : Md) (i : Nat) (d : D) : appK σ m i (some d) = appT σ m i d (ownOf (aftM m σ) i) := .trans rfl rfl
@[simp] theorem stiU_some (m : Md) (i : Nat) (d : D) (l : List D) (j : Nat) : stiU σ m i d l (some j) = grd (okM m d = true) (.nx ((aftM m σ).set i (some (.own (l.set j d))))) := .trans rfl rfl
@[simp] theorem stiT_some (m : Md) (i : Nat) (d : D) (l : List D) (z : Int) : stiT σ m i d l (some (.int z)) = stiU σ m i d l (L2.ixN l.length z) := .trans rfl rfl
@[simp] theorem stiL_some (m : Md) (i : Nat) (d : D) (k : CE) (l : List D) : stiL cl σ m i d k (some l) = stiT σ m i d l (evE cl k (snapS (aftM m σ))) := .trans rfl rfl
@[simp] theorem stiK_some (m : Md) (i : Nat) (k : CE) (d : D) : stiK cl σ m i k (some d) = stiL cl σ m i d k (ownOf (aftM m σ) i) := .trans rfl rfl
@[simp] theorem augK_some (i : Nat) (o : BO) (x y : D) : augK σ i o (some x) (some y) = augT σ i o x y := .trans rfl rfl
@[simp] theorem augT_add (i : Nat) (x y : Int) : augT σ i .add (.int x) (.int y) = some (.nx (σ.set i (some (.sh (.int (x + y)))))) := .trans rfl rfl
@[simp] theorem augT_sub (i : Nat) (x y : Int) : augT σ i .sub (.int x) (.int y) = some (.nx (σ.set i (some (.sh (.int (x - y)))))) := .trans rfl rfl
@[simp] theorem ifsT_some (a b : List CS) (k : Bool) : ifsT cl σ a b (some k) = if k = true then exSs cl a σ else exSs cl b σ := .trans rfl rfl
@[simp] theorem ifsK_some (a b : List CS) (x : D) : ifsK cl σ a b (some x) = ifsT cl σ a b (truth x) := .trans rfl rfl
@[simp] theorem loopT_some (m : Md) (t : Tg) (it : CE) (b : List CS) (d : D) (xs : List D) : loopT cl σ m t it b d (some xs) = if okI m it d xs = true then forL (turn cl t b) xs (aftM m σ) else none := .trans rfl rfl
@[simp] theorem loopK_some (m : Md) (t : Tg) (it : CE) (b : List CS) (d : D) : loopK cl σ m t it b (some d) = loopT cl σ m t it b d (iterD d) := .trans rfl rfl
@[simp] theorem retK_some (d : D) : retK (some d) = some (.rt d) := .trans rfl rfl
@[simp] theorem thenK_nx (cs : List CS) : thenK cl cs (some (.nx σ)) = exSs cl cs σ := .trans rfl rfl
@[simp] theorem thenK_br (cs : List CS) : thenK cl cs (some (.br σ)) = some (.br σ) := .trans rfl rfl
@[simp] theorem thenK_ct (cs : List CS) : thenK cl cs (some (.ct σ)) = some (.ct σ) := .trans rfl rfl
@[simp] theorem thenK_rt (cs : List CS) (d : D) : thenK cl cs (some (.rt d)) = some (.rt d) := .trans rfl rfl
@[simp] theorem exS_set (m : Md) (i : Nat) (e : CE) : exS cl (.set m i e) σ = setK σ m i (evE cl e (visM m σ)) := .trans rfl rfl
@[simp] theorem exS_own (i : Nat) (e : CE) : exS cl (.own i e) σ = ownK σ e i (evE cl e (snapS σ)) := .trans rfl rfl
@[simp] theorem exS_put (m : Md) (t : Tg) (e : CE) : exS cl (.put m t e) σ = putK σ m t (evE cl e (visM m σ)) := .trans rfl rfl
@[simp] theorem exS_par (i j : Nat) (a b : CE) : exS cl (.par i j a b) σ = parK σ i j (evE cl a (snapS σ)) (evE cl b (snapS σ)) := .trans rfl rfl
@[simp] theorem exS_appF (i : Nat) (e : CE) : exS cl (.appF i e) σ = appFK σ i (freshB e) (evE cl e (snapS σ)) := .trans rfl rfl
@[simp] theorem exS_app (m : Md) (i : Nat) (e : CE) : exS cl (.app m i e) σ = appK σ m i (evE cl e (visM m σ)) := .trans rfl rfl
@[simp] theorem exS_sti (m : Md) (i : Nat) (k e : CE) : exS cl (.sti m i k e) σ = stiK cl σ m i k (evE cl e (visM m σ)) := .trans rfl rfl
@[simp] theorem exS_aug (i : Nat) (o : BO) (e : CE) : exS cl (.aug i o e) σ = augK σ i o (shOf σ i) (evE cl e (snapS σ)) := .trans rfl rfl
def popT (i j : Nat) (l : List D) (y : Option D) : Option Res := y.map fun y => .nx ((σ.set j (some (.own l.dropLast))).set i (some (.sh y)))
def popK (i j : Nat) (l : Option (List D)) : Option Res := l.bind fun l => popT σ i j l l.getLast?
def popU (i : Nat) (o : BO) (j : Nat) (x : D) (l : List D) (y : Option D) : Option Res := y.bind fun y => (augD o x y).map fun z => .nx ((σ.set j (some (.own l.dropLast))).set i (some (.sh z)))
def popX (i : Nat) (o : BO) (j : Nat) (x : Option D) (l : Option (List D)) : Option Res := x.bind fun x => l.bind fun l => popU σ i o j x l l.getLast?
@[simp] theorem popT_some (i j : Nat) (l : List D) (y : D) : popT σ i j l (some y) = some (.nx ((σ.set j (some (.own l.dropLast))).set i (some (.sh y)))) := .trans rfl rfl
@[simp] theorem popK_some (i j : Nat) (l : List D) : popK σ i j (some l) = popT σ i j l l.getLast? := .trans rfl rfl
@[simp] theorem popU_add (i j : Nat) (x y : Int) (l : List D) : popU σ i .add j (.int x) l (some (.int y)) = some (.nx ((σ.set j (some (.own l.dropLast))).set i (some (.sh (.int (x + y)))))) := .trans rfl rfl
@[simp] theorem popU_sub (i j : Nat) (x y : Int) (l : List D) : popU σ i .sub j (.int x) l (some (.int y)) = some (.nx ((σ.set j (some (.own l.dropLast))).set i (some (.sh (.int (x - y)))))) := .trans rfl rfl
@[simp] theorem popX_some (i j : Nat) (o : BO) (x : D) (l : List D) : popX σ i o j (some x) (some l) = popU σ i o j x l l.getLast? := .trans rfl rfl
@[simp] theorem exS_popS (i j : Nat) : exS cl (.popS i j) σ = popK σ i j (ownOf σ j) := .trans rfl rfl
@[simp] theorem exS_popA (i : Nat) (o : BO) (j : Nat) : exS cl (.popA i o j) σ = popX σ i o j (shOf σ i) (ownOf σ j) := .trans rfl rfl
@[simp] theorem exS_ifs (c : CE) (a b : List CS) : exS cl (.ifs c a b) σ = ifsK cl σ a b (evE cl c (snapS σ)) := .trans rfl rfl
@[simp] theorem exS_loop (m : Md) (t : Tg) (it : CE) (b : List CS) : exS cl (.loop m t it b) σ = loopK cl σ m t it b (evE cl it (visM m σ)) := .trans rfl rfl
@[simp] theorem exS_whl (n : Nat) (c : CE) (b : List CS) : exS cl (.whl n c b) σ = whileL (wTest cl c) (exSs cl b) n σ := .trans rfl rfl
@[simp] theorem exS_ret (e : CE) : exS cl (.ret e) σ = retK (evE cl e (snapS σ)) := .trans rfl rfl
@[simp] theorem exS_retN : exS cl .retN σ = some (.rt .non) := .trans rfl rfl
@[simp] theorem exS_brk : exS cl .brk σ = some (.br σ) := .trans rfl rfl
@[simp] theorem exS_cnt : exS cl .cnt σ = some (.ct σ) := .trans rfl rfl
@[simp] theorem exS_pas : exS cl .pas σ = some (.nx σ) := .trans rfl rfl
@[simp] theorem exSs_nil : exSs cl [] σ = some (.nx σ) := .trans rfl rfl
@[simp] theorem exSs_cons (c : CS) (cs : List CS) : exSs cl (c :: cs) σ = thenK cl cs (exS cl c σ) := .trans rfl rfl
@[simp] theorem turnR_nx (f : RhoS → Option Res) : turnR (.nx σ) f = f σ := .trans rfl rfl
@[simp] theorem turnR_ct (f : RhoS → Option Res) : turnR (.ct σ) f = f σ := .trans rfl rfl
@[simp] theorem turnR_br (f : RhoS → Option Res) : turnR (.br σ) f = some (.nx σ) := .trans rfl rfl
@[simp] theorem turnR_rt (d : D) (f : RhoS → Option Res) : turnR (.rt d) f = some (.rt d) := .trans rfl rfl
@[simp] theorem endR_nx : endR (.nx σ) = some .non := .trans rfl rfl
@[simp] theorem endR_rt (d : D) : endR (.rt d) = some d := .trans rfl rfl
/-! slots -/
@[simp] theorem visM_b : visM .b σ = snapS σ := .trans rfl rfl
@[simp] theorem aftM_b : aftM .b σ = σ := .trans rfl rfl
@[simp] theorem visM_a (fz : List Nat) : visM (.a fz) σ = hide fz 0 σ := .trans rfl rfl
@[simp] theorem aftM_a (fz : List Nat) : aftM (.a fz) σ = frzS fz 0 σ := .trans rfl rfl
@[simp] theorem okM_b (d : D) : okM .b d = d.flat := .trans rfl rfl
@[simp] theorem okM_a (fz : List Nat) (d : D) : okM (.a fz) d = true := .trans rfl rfl
@[simp] theorem okI_b (it : CE) (d : D) (xs : List D) : okI .b it d xs = (flats xs && safeI it d) := .trans rfl rfl
@[simp] theorem okI_a (fz : List Nat) (it : CE) (d : D) (xs : List D) : okI (.a fz) it d xs = true := .trans rfl rfl
@[simp] theorem snapS_nil : snapS [] = [] := .trans rfl rfl
@[simp] theorem snapS_cons (o : Option Sl) : snapS (o :: σ) = o.map Sl.d :: snapS σ := .trans rfl rfl
@[simp] theorem Sl_d_sh (d : D) : Sl.d (.sh d) = d := .trans rfl rfl
@[simp] theorem Sl_d_own (l : List D) : Sl.d (.own l) = .lst l := .trans rfl rfl
def hideO (b : Bool) : Option Sl → Option D
  | some (.own l) => if b = true then some (.lst l) else none
  | some (.sh d) => some d
  | none => none
def frzO (b : Bool) : Option Sl → Option Sl
  | some (.own l) => if b = true then some (.sh (.lst l)) else some (.own l)
  | some (.sh d) => some (.sh d)
  | none => none
@[simp] theorem hide_nil (fz : List Nat) (n : Nat) : hide fz n [] = [] := .trans rfl rfl
@[simp] theorem hide_cons (fz : List Nat) (n : Nat) (o : Option Sl) : hide fz n (o :: σ) = hideO (fz.contains n) o :: hide fz (n + 1) σ := by
  rcases o with _ | ⟨d⟩ | ⟨l⟩ <;> rfl
@[simp] theorem frzS_nil (fz : List Nat) (n : Nat) : frzS fz n [] = [] := .trans rfl rfl
@[simp] theorem frzS_cons (fz : List Nat) (n : Nat) (o : Option Sl) : frzS fz n (o :: σ) = frzO (fz.contains n) o :: frzS fz (n + 1) σ := by
  rcases o with _ | ⟨d⟩ | ⟨l⟩ <;> rfl
@[simp] theorem hideO_none (b : Bool) : hideO b none = none := .trans rfl rfl
@[simp] theorem hideO_sh (b : Bool) (d : D) : hideO b (some (.sh d)) = some d := .trans rfl rfl
@[simp] theorem hideO_own (b : Bool) (l : List D) : hideO b (some (.own l)) = if b = true then some (.lst l) else none := .trans rfl rfl
@[simp] theorem frzO_none (b : Bool) : frzO b none = none := .trans rfl rfl
@[simp] theorem frzO_sh (b : Bool) (d : D) : frzO b (some (.sh d)) = some (.sh d) := .trans rfl rfl
@[simp] theorem frzO_own (b : Bool) (l : List D) : frzO b (some (.own l)) = if b = true then some (.sh (.lst l)) else some (.own l) := .trans rfl rfl
@[simp] theorem frzO_false (o : Option Sl) : frzO false o = o := by rcases o with _ | ⟨d⟩ | ⟨l⟩ <;> rfl
@[simp] theorem putS_nil : putS σ [] = σ := .trans rfl rfl
@[simp] theorem putS_cons (i : Nat) (d : D) (bs : List (Nat × D)) : putS σ ((i, d) :: bs) = putS (σ.set i (some (.sh d))) bs := .trans rfl rfl
@[simp] theorem putAll_nil : putAll ρ [] = ρ := .trans rfl rfl
@[simp] theorem putAll_cons (i : Nat) (d : D) (bs : List (Nat × D)) : putAll ρ ((i, d) :: bs) = putAll (ρ.set i (some d)) bs := .trans rfl rfl
@[simp] theorem wipeD_nil : wipeD ρ [] = ρ := .trans rfl rfl
@[simp] theorem wipeD_cons (v : Nat) (vs : List Nat) : wipeD ρ (v :: vs) = (wipeD ρ vs).set v none := .trans rfl rfl
@[simp] theorem put_nm (i : Nat) (d : D) : (Tg.nm i).put d ρ = some (ρ.set i (some d)) := .trans rfl rfl
@[simp] theorem put_tp (l : List Tg) (ds : List D) : (Tg.tp l).put (.tup ds) ρ = (tgBinds l ds).map (putAll ρ) := .trans rfl rfl
@[simp] theorem binds_nm (i : Nat) (d : D) : (Tg.nm i).binds d = some [(i, d)] := .trans rfl rfl
@[simp] theorem put_tpL (l : List Tg) (ds : List D) : (Tg.tp l).put (.lst ds) ρ = (tgBinds l ds).map (putAll ρ) := .trans rfl rfl
@[simp] theorem binds_tpL (l : List Tg) (ds : List D) : (Tg.tp l).binds (.lst ds) = tgBinds l ds := .trans rfl rfl
@[simp] theorem binds_tp (l : List Tg) (ds : List D) : (Tg.tp l).binds (.tup ds) = tgBinds l ds := .trans rfl rfl
@[simp] theorem tgBinds_nil : tgBinds [] [] = some [] := .trans rfl rfl
@[simp] theorem tgBinds_cons (t : Tg) (r : List Tg) (d : D) (ds : List D) : tgBinds (t :: r) (d :: ds) = (t.binds d).bind fun a => (tgBinds r ds).map fun b => a ++ b := .trans rfl rfl
@[simp] theorem ownOf_some {i : Nat} {l : List D} (h : σ[i]? = some (some (.own l))) : ownOf σ i = some l := by unfold ownOf; rw [h]
@[simp] theorem shOf_some {i : Nat} {l : D} (h : σ[i]? = some (some (.sh l))) : shOf σ i = some l := by unfold shOf; rw [h]
@[simp] theorem freshB_bin (o : BO) (a b : CE) : freshB (.bin o a b) = true := .trans rfl rfl
@[simp] theorem freshB_rgv1 (tp : Bool) (a : CE) : freshB (.rgv1 tp a) = !tp := .trans rfl rfl
@[simp] theorem freshB_rgv2 (tp : Bool) (a b : CE) : freshB (.rgv2 tp a b) = !tp := .trans rfl rfl
@[simp] theorem freshB_slc (a b c : CE) : freshB (.slc a b c) = true := .trans rfl rfl
@[simp] theorem freshB_rev (a : CE) : freshB (.rev a) = true := .trans rfl rfl
@[simp] theorem freshB_lc2 (own own1 : List Nat) (tg : Tg) (it : CE) (cs : List CE) (tg1 : Tg) (it1 : CE) (cs1 : List CE) (elt : CE) : freshB (.lc2 own own1 tg it cs tg1 it1 cs1 elt) = true := .trans rfl rfl
@[simp] theorem freshB_lst (a : List CE) : freshB (.lst a) = true := .trans rfl rfl
@[simp] theorem freshB_lc (own : List Nat) (tg : Tg) (it : CE) (cs : List CE) (elt : CE) : freshB (.lc own tg it cs elt) = true := .trans rfl rfl
@[simp] theorem freshB_list (a : List CE) : freshB (.bi .list a) = true := .trans rfl rfl
@[simp] theorem freshB_sorted (a : List CE) : freshB (.bi .sorted a) = true := .trans rfl rfl
@[simp] theorem lstOf_lst (l : List D) : lstOf (.lst l) = some l := .trans rfl rfl
@[simp] theorem safeI_fresh (c : CE) (d : D) (h : freshB c = true) : safeI c d = true := by
  cases c <;> simp_all [safeI] <;> simp_all [freshB]
@[simp] theorem safeI_rng1 (a : CE) (d : D) : safeI (.rng1 a) d = true := .trans rfl rfl
@[simp] theorem safeI_rng3 (a b c : CE) (d : D) : safeI (.rng3 a b c) d = true := .trans rfl rfl
@[simp] theorem safeI_rng2 (a b : CE) (d : D) : safeI (.rng2 a b) d = true := .trans rfl rfl
@[simp] theorem safeI_cmb (a b : CE) (d : D) : safeI (.cmb a b) d = true := .trans rfl rfl
@[simp] theorem safeI_prm (a : CE) (d : D) : safeI (.prm a) d = true := .trans rfl rfl
@[simp] theorem safeI_tup (c : CE) (l : List D) (h : (match c with | .enum _ => false | .zip _ _ => false | .rvd _ => false | _ => true) = true) : safeI c (.tup l) = true := by
  cases c <;> simp_all [safeI, isLst]
end
/-! values -/
@[simp] theorem binD_add (x y : D) : binD .add x y = addD x y := .trans rfl rfl
@[simp] theorem binD_sub (x y : D) : binD .sub x y = subD x y := .trans rfl rfl
@[simp] theorem binD_mul (x y : D) : binD .mul x y = mulD x y := .trans rfl rfl
@[simp] theorem binD_fdiv (x y : D) : binD .fdiv x y = fdivD x y := .trans rfl rfl
@[simp] theorem binD_mod (x y : D) : binD .mod x y = modD x y := .trans rfl rfl
@[simp] theorem binD_pow (x y : D) : binD .pow x y = powD x y := .trans rfl rfl
@[simp] theorem addD_int (i j : Int) : addD (.int i) (.int j) = some (.int (i + j)) := .trans rfl rfl
@[simp] theorem addD_tup (x y : List D) : addD (.tup x) (.tup y) = grd (x.length + y.length ≤ sizeLine) (.tup (x ++ y)) := .trans rfl rfl
@[simp] theorem addD_lst (x y : List D) : addD (.lst x) (.lst y) = grd (x.length + y.length ≤ sizeLine) (.lst (x ++ y)) := .trans rfl rfl
@[simp] theorem subD_int (i j : Int) : subD (.int i) (.int j) = some (.int (i - j)) := .trans rfl rfl
@[simp] theorem mulD_int (i j : Int) : mulD (.int i) (.int j) = grd ((-(2 ^ 64) < i ∧ i < 2 ^ 64) ∨ (-(2 ^ 64) < j ∧ j < 2 ^ 64)) (.int (i * j)) := .trans rfl rfl
@[simp] theorem mulD_lst (x : List D) (j : Int) : mulD (.lst x) (.int j) = grd (j ≤ 2 ^ 24 ∧ -(2 ^ 24) ≤ j ∧ x.length * j.toNat ≤ sizeLine) (.lst (List.replicate j.toNat x).flatten) := .trans rfl rfl
@[simp] theorem mulD_tup (x : List D) (j : Int) : mulD (.tup x) (.int j) = grd (x.length ≤ 1000 ∧ x.isEmpty = false ∧ -1000 ≤ j ∧ j ≤ 1000) (.tup (List.replicate j.toNat x).flatten) := .trans rfl rfl
@[simp] theorem fdivD_int (i j : Int) : fdivD (.int i) (.int j) = grd (j ≠ 0 ∧ j.natAbs < 1073741824) (.int (i.fdiv j)) := .trans rfl rfl
@[simp] theorem modD_int (i j : Int) : modD (.int i) (.int j) = grd (j ≠ 0) (.int (i.fmod j)) := .trans rfl rfl
@[simp] theorem powD_int (i j : Int) : powD (.int i) (.int j) = grd (0 ≤ j ∧ j ≤ 1000000 ∧ i.natAbs < 2 ^ 64) (.int (i ^ j.toNat)) := .trans rfl rfl
@[simp] theorem intOf_int (i : Int) : intOf (.int i) = some i := .trans rfl rfl
@[simp] theorem blOf_bl (i : Bool) : blOf (.bl i) = some i := .trans rfl rfl
@[simp] theorem truth_bl (b : Bool) : truth (.bl b) = some b := .trans rfl rfl
@[simp] theorem truth_int (i : Int) : truth (.int i) = some (i != 0) := .trans rfl rfl
@[simp] theorem truth_non : truth .non = some false := .trans rfl rfl
@[simp] theorem truth_tup (l : List D) : truth (.tup l) = some (!l.isEmpty) := .trans rfl rfl
@[simp] theorem truth_lst (l : List D) : truth (.lst l) = some (!l.isEmpty) := .trans rfl rfl
@[simp] theorem isNonD_non : isNonD .non = true := .trans rfl rfl
@[simp] theorem isNonD_int (i : Int) : isNonD (.int i) = false := .trans rfl rfl
@[simp] theorem isNonD_bl (i : Bool) : isNonD (.bl i) = false := .trans rfl rfl
@[simp] theorem isNonD_tup (i : List D) : isNonD (.tup i) = false := .trans rfl rfl
@[simp] theorem isNonD_lst (i : List D) : isNonD (.lst i) = false := .trans rfl rfl
@[simp] theorem isNonD_str (i : Str) : isNonD (.str i) = false := .trans rfl rfl
@[simp] theorem cmpD_eq (x y : D) : cmpD .eq x y = eqD x y := by cases x <;> cases y <;> rfl
@[simp] theorem cmpD_ne (x y : D) : cmpD .ne x y = (eqD x y).map (!·) := by cases x <;> cases y <;> rfl
@[simp] theorem cmpD_lt (x y : D) : cmpD .lt x y = ltD x y := by cases x <;> cases y <;> rfl
@[simp] theorem cmpD_le (x y : D) : cmpD .le x y = leD x y := by cases x <;> cases y <;> rfl
@[simp] theorem cmpD_gt (i j : Int) : cmpD .gt (.int i) (.int j) = some (decide (j < i)) := .trans rfl rfl
@[simp] theorem cmpD_ge (i j : Int) : cmpD .ge (.int i) (.int j) = some (decide (j ≤ i)) := .trans rfl rfl
@[simp] theorem cmpD_inn (x y : D) : cmpD .inn x y = inD x y := by cases x <;> cases y <;> rfl
@[simp] theorem cmpD_nin (x y : D) : cmpD .nin x y = (inD x y).map (!·) := by cases x <;> cases y <;> rfl
@[simp] theorem ltD_int (i j : Int) : ltD (.int i) (.int j) = some (decide (i < j)) := .trans rfl rfl
@[simp] theorem leD_int (i j : Int) : leD (.int i) (.int j) = some (decide (i ≤ j)) := .trans rfl rfl
@[simp] theorem idxD_tup (l : List D) (i : Int) : idxD (.tup l) (.int i) = L2.atI l i := .trans rfl rfl
@[simp] theorem idxD_lst (l : List D) (i : Int) : idxD (.lst l) (.int i) = L2.atI l i := .trans rfl rfl
@[simp] theorem idxD_scr (l : List Int) (i : Int) : idxD (.scr l) (.int i) = (L2.atI l i).map .int := .trans rfl rfl
@[simp] theorem sliceD_tup (l : List D) (lo hi : Option Int) : sliceD (.tup l) lo hi = some (.tup (cutL l lo hi)) := .trans rfl rfl
@[simp] theorem sliceD_lst (l : List D) (lo hi : Option Int) : sliceD (.lst l) lo hi = some (.lst (cutL l lo hi)) := .trans rfl rfl
@[simp] theorem revD_tup (l : List D) : revD (.tup l) = some (.tup l.reverse) := .trans rfl rfl
@[simp] theorem revD_lst (l : List D) : revD (.lst l) = some (.lst l.reverse) := .trans rfl rfl
@[simp] theorem partD_non : partD .non = some none := .trans rfl rfl
@[simp] theorem partD_int (i : Int) : partD (.int i) = some (some i) := .trans rfl rfl
@[simp] theorem itemsD_tup (l : List D) : itemsD (.tup l) = some l := .trans rfl rfl
@[simp] theorem itemsD_lst (l : List D) : itemsD (.lst l) = some l := .trans rfl rfl
@[simp] theorem iterD_tup (l : List D) : iterD (.tup l) = some l := .trans rfl rfl
@[simp] theorem iterD_lst (l : List D) : iterD (.lst l) = some l := .trans rfl rfl
@[simp] theorem lenD_tup (l : List D) : lenD (.tup l) = some l.length := .trans rfl rfl
@[simp] theorem lenD_lst (l : List D) : lenD (.lst l) = some l.length := .trans rfl rfl
@[simp] theorem lenD_scr (l : List Int) : lenD (.scr l) = some l.length := .trans rfl rfl
@[simp] theorem biD_len (d : D) : biD .len [d] = (lenD d).map fun (n : Nat) => .int (n : Int) := by cases d <;> rfl
@[simp] theorem biD_abs (i : Int) : biD .abs [.int i] = some (.int (if i < 0 then -i else i)) := .trans rfl rfl
@[simp] theorem biD_int (i : Int) : biD .int [.int i] = some (.int i) := .trans rfl rfl
@[simp] theorem biD_intb (b : Bool) : biD .int [.bl b] = some (.int (if b then 1 else 0)) := .trans rfl rfl
@[simp] theorem biD_sum (l : List D) : biD .sum [.tup l] = (intsOf l).map fun ns => .int ns.sum := .trans rfl rfl
@[simp] theorem biD_sumL (l : List D) : biD .sum [.lst l] = (intsOf l).map fun ns => .int ns.sum := .trans rfl rfl
@[simp] theorem biD_max (l : List D) : biD .max [.tup l] = bestD maxDD l := .trans rfl rfl
@[simp] theorem biD_maxL (l : List D) : biD .max [.lst l] = bestD maxDD l := .trans rfl rfl
@[simp] theorem biD_min (l : List D) : biD .min [.tup l] = bestD minDD l := .trans rfl rfl
@[simp] theorem biD_minL (l : List D) : biD .min [.lst l] = bestD minDD l := .trans rfl rfl
@[simp] theorem biD_max2 (i j : Int) : biD .max2 [.int i, .int j] = some (.int (if j > i then j else i)) := .trans rfl rfl
theorem ssetD_lst (l : List D) : ssetD (.lst l) = match intsOf l with
    | some ns => grd (ns.length ≤ 1000 ∧ (sset ns).length < 64) ((sset ns).map .int)
    | none => (tupsOf l).bind fun ks => grd (ks.length < 64) ((ssetT ks).map intT) := .trans rfl rfl
theorem ssetD_ints {l : List D} {ns : List Int} (h : intsOf l = some ns) (h1 : ns.length ≤ 1000) (h2 : (sset ns).length < 64) : ssetD (.lst l) = some ((sset ns).map .int) := by
  rw [ssetD_lst, h]
  exact grd_true ⟨h1, h2⟩
theorem ssetD_tup (l : List D) : ssetD (.tup l) = ssetD (.lst l) := .trans rfl rfl
@[simp] theorem biD_min2T (a b : List D) : biD .min2 [.tup a, .tup b] = bestD minDD [.tup a, .tup b] := .trans rfl rfl
@[simp] theorem biD_min2 (i j : Int) : biD .min2 [.int i, .int j] = some (.int (if j < i then j else i)) := .trans rfl rfl
@[simp] theorem biD_all (l : List D) : biD .all [.lst l] = (blsOf l).map fun bs => .bl (bs.all id) := .trans rfl rfl
@[simp] theorem biD_any (l : List D) : biD .any [.lst l] = (blsOf l).map fun bs => .bl (bs.any id) := .trans rfl rfl
@[simp] theorem biD_anyT (l : List D) : biD .any [.tup l] = (intsOf l).map fun ns => .bl (ns.any (· != 0)) := .trans rfl rfl
@[simp] theorem biD_tuple (l : List D) : biD .tuple [.tup l] = some (.tup l) := .trans rfl rfl
@[simp] theorem biD_tupleL (l : List D) : biD .tuple [.lst l] = some (.tup l) := .trans rfl rfl
@[simp] theorem biD_list (l : List D) : biD .list [.tup l] = some (.lst l) := .trans rfl rfl
@[simp] theorem biD_listL (l : List D) : biD .list [.lst l] = some (.lst l) := .trans rfl rfl
@[simp] theorem biD_sorted (l : List D) : biD .sorted [.lst l] = (sortD l).map .lst := .trans rfl rfl
@[simp] theorem biD_sortedT (l : List D) : biD .sorted [.tup l] = (sortD l).map .lst := .trans rfl rfl
@[simp] theorem flat_int (i : Int) : (D.int i).flat = true := .trans rfl rfl
@[simp] theorem flat_bl (i : Bool) : (D.bl i).flat = true := .trans rfl rfl
@[simp] theorem flat_str (i : Str) : (D.str i).flat = true := .trans rfl rfl
@[simp] theorem flat_non : D.non.flat = true := .trans rfl rfl
@[simp] theorem flat_tup (l : List D) : (D.tup l).flat = flats l := .trans rfl rfl
@[simp] theorem flats_nil : flats [] = true := .trans rfl rfl
@[simp] theorem flats_cons (d : D) (l : List D) : flats (d :: l) = (d.flat && flats l) := .trans rfl rfl
theorem flats_all {l : List D} : flats l = true ↔ ∀ d ∈ l, d.flat = true := by
  induction l with
  | nil => simp
  | cons d l ih => simp [ih]
@[simp] theorem flats_append (a b : List D) : flats (a ++ b) = (flats a && flats b) := by
  induction a with
  | nil => simp
  | cons d l ih => simp [ih, Bool.and_assoc]
@[simp] theorem flats_map {α : Type} (f : α → D) (l : List α) (h : ∀ x ∈ l, (f x).flat = true) : flats (l.map f) = true := flats_all.mpr fun d hd => by
  obtain ⟨x, hx, rfl⟩ := List.mem_map.mp hd
  exact h x hx
@[simp] theorem allOf_nil {α : Type} (f : D → Option α) : allOf f [] = some [] := .trans rfl rfl
@[simp] theorem allOf_cons {α : Type} (f : D → Option α) (d : D) (l : List D) : allOf f (d :: l) = (f d).bind fun x => (allOf f l).map fun xs => x :: xs := .trans rfl rfl
@[simp] theorem allOf_append {α : Type} (f : D → Option α) (a b : List D) : allOf f (a ++ b) = (allOf f a).bind fun x => (allOf f b).map fun y => x ++ y := by
  induction a with
  | nil => simp
  | cons d l ih =>
    simp only [List.cons_append, allOf_cons, ih]
    cases f d <;> cases allOf f l <;> cases allOf f b <;> simp
theorem allOf_map {α β : Type} (f : D → Option α) (g : β → D) (k : β → α) (l : List β) (h : ∀ x ∈ l, f (g x) = some (k x)) : allOf f (l.map g) = some (l.map k) := by
  induction l with
  | nil => rfl
  | cons x l ih => simp [h x (List.mem_cons_self ..), ih fun y hy => h y (List.mem_cons_of_mem _ hy)]
@[simp] theorem intsOf_map (l : List Int) : allOf intOf (l.map D.int) = some l := by
  simpa using allOf_map intOf D.int id l fun _ _ => rfl
@[simp] theorem intsOf_take (l : List Int) (k : Nat) : allOf intOf ((l.map D.int).take k) = some (l.take k) := by
  rw [← List.map_take]
  exact intsOf_map _
@[simp] theorem intsOf_drop (l : List Int) (k : Nat) : allOf intOf ((l.map D.int).drop k) = some (l.drop k) := by
  rw [← List.map_drop]
  exact intsOf_map _
theorem ssetD_tups {ks : List (List Int)} (h : ks.length < 64) : ssetD (.lst (ks.map intT)) = some ((ssetT ks).map intT) := by
  rw [ssetD_lst]
  cases ks with
  | nil => rfl
  | cons k ks =>
    rw [show intsOf ((k :: ks).map intT) = none from rfl]
    have : ∀ ks : List (List Int), tupsOf (ks.map intT) = some ks := fun ks => by
      induction ks with
      | nil => rfl
      | cons k ks ih =>
        show (tupOfI (intT k)).bind _ = _
        have : tupOfI (intT k) = some k := by
          show intsOf (k.map D.int) = some k
          exact intsOf_map k
        rw [this]
        show (tupsOf (ks.map intT)).map _ = _
        rw [ih]
        rfl
    rw [this (k :: ks)]
    exact grd_true h
@[simp] theorem blsOf_map (l : List Bool) : allOf blOf (l.map D.bl) = some l := by
  simpa using allOf_map blOf D.bl id l fun _ _ => rfl
/-! equality -/
@[simp] theorem dep_int (i : Int) : (D.int i).py.depth = 0 := by simp [D.py, PyData.depth]
@[simp] theorem dep_bl (i : Bool) : (D.bl i).py.depth = 0 := by simp [D.py, PyData.depth]
@[simp] theorem dep_str (i : Str) : (D.str i).py.depth = 0 := by simp [D.py, PyData.depth]
@[simp] theorem dep_non : D.non.py.depth = 0 := by simp [D.py, PyData.depth]
theorem depAll_le {k : Nat} {l : List D} (h : ∀ d ∈ l, d.py.depth ≤ k) : PyData.depthAll (pys l) ≤ k := by
  induction l with
  | nil => simp [pys, PyData.depthAll]
  | cons d l ih =>
    simp only [pys, PyData.depthAll]
    have := h d (List.mem_cons_self ..)
    have := ih fun x hx => h x (List.mem_cons_of_mem _ hx)
    omega
theorem dep_tup {k : Nat} {l : List D} (h : ∀ d ∈ l, d.py.depth ≤ k) : (D.tup l).py.depth ≤ k + 1 := by
  simp only [D.py, PyData.depth]
  have := depAll_le h
  omega
theorem dep_lst {k : Nat} {l : List D} (h : ∀ d ∈ l, d.py.depth ≤ k) : (D.lst l).py.depth ≤ k + 1 := by
  simp only [D.py, PyData.depth]
  have := depAll_le h
  omega
theorem dep_ints (l : List Int) : (D.tup (l.map .int)).py.depth ≤ 64 := by
  have : (D.tup (l.map .int)).py.depth ≤ 0 + 1 := dep_tup fun d hd => by
    obtain ⟨x, _, rfl⟩ := List.mem_map.mp hd
    simp
  omega
@[simp] theorem eqD_int (i j : Int) : eqD (.int i) (.int j) = some (decide (i = j)) := by
  rw [eqD, grd_true (by simp)]
  simp [D.py, PyData.eqv]
  by_cases h : i = j <;> simp [h]
@[simp] theorem eqD_bl (i j : Bool) : eqD (.bl i) (.bl j) = some (i == j) := by
  rw [eqD, grd_true (by simp)]
  simp [D.py, PyData.eqv]
@[simp] theorem eqD_non : eqD .non .non = some true := by
  rw [eqD, grd_true (by simp)]
  simp [D.py, PyData.eqv]
@[simp] theorem eqD_str (i j : Str) : eqD (.str i) (.str j) = some (i == j) := by
  rw [eqD, grd_true (by simp)]
  simp [D.py, PyData.eqv]
@[simp] theorem eqD_int_non (i : Int) : eqD (.int i) .non = some false := by
  rw [eqD, grd_true (by simp)]
  simp [D.py, PyData.eqv]
@[simp] theorem eqD_non_int (i : Int) : eqD .non (.int i) = some false := by
  rw [eqD, grd_true (by simp)]
  simp [D.py, PyData.eqv]
theorem eqv_ints : ∀ a b : List Int, PyData.eqvAll (pys (a.map .int)) (pys (b.map .int)) = decide (a = b)
  | [], [] => by simp [pys, PyData.eqvAll]
  | [], y :: b => by simp [pys, PyData.eqvAll]
  | x :: a, [] => by simp [pys, PyData.eqvAll]
  | x :: a, y :: b => by
    simp [pys, PyData.eqvAll, D.py, PyData.eqv, eqv_ints a b]
    by_cases h : x = y <;> by_cases h' : a = b <;> simp [h, h']
@[simp] theorem eqD_ints (a b : List Int) : eqD (.tup (a.map .int)) (.tup (b.map .int)) = some (decide (a = b)) := by
  rw [eqD, grd_true ⟨dep_ints a, dep_ints b⟩]
  simp [D.py, PyData.eqv, eqv_ints]
/-! the least, the greatest -/
theorem lt_int (x y : Int) : PySem.W.dataLt (D.int x).py (D.int y).py = decide (x < y) := by
  simp only [D.py]
  exact PySem.W.dataLt_int x y
theorem alike_int (x y : Int) : PySem.W.alike (D.int x).py (D.int y).py = true := by
  simp [D.py, PySem.W.alike]
def minF (x : Int) (l : List Int) : Int := l.foldl (fun a y => if y < a then y else a) x
def maxF (x : Int) (l : List Int) : Int := l.foldl (fun a y => if a < y then y else a) x
theorem minDD_int (x : Int) (l : List Int) : minDD (.int x) (l.map .int) = .int (minF x l) := by
  unfold minDD minF
  induction l generalizing x with
  | nil => rfl
  | cons y l ih =>
    simp only [List.map_cons, List.foldl_cons, lt_int, decide_eq_true_eq]
    rw [← ih]
    split <;> rfl
theorem maxDD_int (x : Int) (l : List Int) : maxDD (.int x) (l.map .int) = .int (maxF x l) := by
  unfold maxDD maxF
  induction l generalizing x with
  | nil => rfl
  | cons y l ih =>
    simp only [List.map_cons, List.foldl_cons, lt_int, decide_eq_true_eq]
    rw [← ih]
    split <;> rfl
theorem best_ok (x : Int) (l : List Int) : alikeL ((x :: l).map D.int) = true ∧ ((x :: l).map D.int).all notNon = true ∧ flats ((x :: l).map D.int) = true ∧ PyData.depthAll (pys ((x :: l).map D.int)) ≤ 64 := by
  refine ⟨?_, ?_, ?_, ?_⟩
  · simp only [alikeL, List.all_eq_true, List.mem_map, forall_exists_index, and_imp]
    rintro _ a _ rfl _ b _ rfl
    exact alike_int a b
  · simp only [List.all_eq_true, List.mem_map, forall_exists_index, and_imp]
    rintro _ a _ rfl
    rfl
  · exact flats_map _ _ fun _ _ => rfl
  · have := depAll_le (k := 0) (l := (x :: l).map D.int) fun d hd => by
      obtain ⟨a, _, rfl⟩ := List.mem_map.mp hd
      simp
    omega
theorem best_min (x : Int) (l : List Int) : bestD minDD ((x :: l).map D.int) = some (.int (minF x l)) := by
  have h := best_ok x l
  rw [List.map_cons] at h ⊢
  show grd _ _ = _
  rw [grd_true h, minDD_int]
theorem best_max (x : Int) (l : List Int) : bestD maxDD ((x :: l).map D.int) = some (.int (maxF x l)) := by
  have h := best_ok x l
  rw [List.map_cons] at h ⊢
  show grd _ _ = _
  rw [grd_true h, maxDD_int]
def minL : List Int → Int
  | [] => 0
  | x :: l => minF x l
def maxL : List Int → Int
  | [] => 0
  | x :: l => maxF x l
@[simp] theorem best_minL {l : List Int} (h : l ≠ []) : bestD minDD (l.map D.int) = some (.int (minL l)) := by
  cases l with
  | nil => exact absurd rfl h
  | cons x l => exact best_min x l
@[simp] theorem best_maxL {l : List Int} (h : l ≠ []) : bestD maxDD (l.map D.int) = some (.int (maxL l)) := by
  cases l with
  | nil => exact absurd rfl h
  | cons x l => exact best_max x l
theorem minF_le (x : Int) (l : List Int) : minF x l ≤ x ∧ ∀ y ∈ l, minF x l ≤ y := by
  unfold minF
  induction l generalizing x with
  | nil => simp
  | cons y l ih =>
    have := ih (if y < x then y else x)
    simp only [List.foldl_cons, List.mem_cons, forall_eq_or_imp]
    split at this <;> rename_i h <;> simp only [h, if_true, if_false] <;> refine ⟨by omega, by omega, this.2⟩
theorem minF_mem (x : Int) (l : List Int) : minF x l = x ∨ minF x l ∈ l := by
  unfold minF
  induction l generalizing x with
  | nil => simp
  | cons y l ih =>
    have := ih (if y < x then y else x)
    simp only [List.foldl_cons, List.mem_cons]
    split at this <;> rename_i h <;> simp only [h, if_true, if_false] <;> rcases this with h | h <;> simp [h]
theorem maxF_le (x : Int) (l : List Int) : x ≤ maxF x l ∧ ∀ y ∈ l, y ≤ maxF x l := by
  unfold maxF
  induction l generalizing x with
  | nil => simp
  | cons y l ih =>
    have := ih (if x < y then y else x)
    simp only [List.foldl_cons, List.mem_cons, forall_eq_or_imp]
    split at this <;> rename_i h <;> simp only [h, if_true, if_false] <;> refine ⟨by omega, by omega, this.2⟩
theorem maxF_mem (x : Int) (l : List Int) : maxF x l = x ∨ maxF x l ∈ l := by
  unfold maxF
  induction l generalizing x with
  | nil => simp
  | cons y l ih =>
    have := ih (if x < y then y else x)
    simp only [List.foldl_cons, List.mem_cons]
    split at this <;> rename_i h <;> simp only [h, if_true, if_false] <;> rcases this with h | h <;> simp [h]
theorem minL_le {l : List Int} {y : Int} (h : y ∈ l) : minL l ≤ y := by
  cases l with
  | nil => cases h
  | cons x l =>
    rcases List.mem_cons.mp h with rfl | h
    · exact (minF_le _ l).1
    · exact (minF_le x l).2 y h
theorem minL_mem {l : List Int} (h : l ≠ []) : minL l ∈ l := by
  cases l with
  | nil => exact absurd rfl h
  | cons x l => exact List.mem_cons.mpr (minF_mem x l)
theorem maxL_le {l : List Int} {y : Int} (h : y ∈ l) : y ≤ maxL l := by
  cases l with
  | nil => cases h
  | cons x l =>
    rcases List.mem_cons.mp h with rfl | h
    · exact (maxF_le _ l).1
    · exact (maxF_le x l).2 y h
theorem maxL_mem {l : List Int} (h : l ≠ []) : maxL l ∈ l := by
  cases l with
  | nil => exact absurd rfl h
  | cons x l => exact List.mem_cons.mpr (maxF_mem x l)
/-! loops -/
@[simp] theorem forL_nil (f : D → RhoS → Option Res) (σ : RhoS) : forL f [] σ = some (.nx σ) := .trans rfl rfl
@[simp] theorem forL_cons (f : D → RhoS → Option Res) (x : D) (xs : List D) (σ : RhoS) : forL f (x :: xs) σ = (f x σ).bind fun r => turnR r (forL f xs) := .trans rfl rfl
/-- each turn maps a state to the next -/
theorem forL_fold {α β : Type} (f : D → RhoS → Option Res) (g : β → D) (S : α → RhoS) (step : α → β → α) : ∀ (xs : List β) (a : α), (∀ a, ∀ x ∈ xs, f (g x) (S a) = some (.nx (S (step a x)))) → forL f (xs.map g) (S a) = some (.nx (S (xs.foldl step a)))
  | [], a, h => rfl
  | x :: xs, a, h => by
    simp only [List.map_cons, forL_cons, h a x (List.mem_cons_self ..), Option.bind_some, turnR_nx, List.foldl_cons]
    exact forL_fold f g S step xs _ fun a y hy => h a y (List.mem_cons_of_mem _ hy)
/-- .. with an invariant -/
theorem forL_foldI {α β : Type} (f : D → RhoS → Option Res) (g : β → D) (S : α → RhoS) (step : α → β → α) (I : α → Prop) : ∀ (xs : List β) (a : α), I a → (∀ a, I a → ∀ x ∈ xs, f (g x) (S a) = some (.nx (S (step a x))) ∧ I (step a x)) →
    forL f (xs.map g) (S a) = some (.nx (S (xs.foldl step a))) ∧ I (xs.foldl step a)
  | [], a, h0, h => ⟨rfl, h0⟩
  | x :: xs, a, h0, h => by
    obtain ⟨h1, h2⟩ := h a h0 x (List.mem_cons_self ..)
    simp only [List.map_cons, forL_cons, h1, Option.bind_some, turnR_nx, List.foldl_cons]
    exact forL_foldI f g S step I xs _ h2 fun a ha y hy => h a ha y (List.mem_cons_of_mem _ hy)
/-- a relation that each turn hands on: k tells how many turns are behind -/
theorem forL_inv (f : D → RhoS → Option Res) (P : Nat → RhoS → Prop) : ∀ (xs : List D) (k : Nat) (σ : RhoS), P k σ → (∀ i x σ, xs[i]? = some x → P (k + i) σ → ∃ σ', f x σ = some (.nx σ') ∧ P (k + i + 1) σ') → ∃ σ', forL f xs σ = some (.nx σ') ∧ P (k + xs.length) σ'
  | [], k, σ, h0, h => ⟨σ, rfl, h0⟩
  | x :: xs, k, σ, h0, h => by
    obtain ⟨σ1, h1, h2⟩ := h 0 x σ rfl h0
    obtain ⟨σ2, h3, h4⟩ := forL_inv f P xs (k + 1) σ1 h2 fun i y σ hy hp => by
      have := h (i + 1) y σ hy (by rw [show k + (i + 1) = k + 1 + i by omega]; exact hp)
      rwa [show k + (i + 1) + 1 = k + 1 + i + 1 by omega] at this
    refine ⟨σ2, ?_, by rw [List.length_cons, show k + (xs.length + 1) = k + 1 + xs.length by omega]; exact h4⟩
    rw [forL_cons, h1]
    exact h3
/-- .. that may end the def: R the value, F when -/
theorem forL_find {β : Type} (f : D → RhoS → Option Res) (g : β → D) (P : RhoS → Prop) (p : β → Bool) (r : β → D) : ∀ (xs : List β) (σ : RhoS), P σ → (∀ x ∈ xs, ∀ σ, P σ → if p x = true then f (g x) σ = some (.rt (r x)) else ∃ σ', f (g x) σ = some (.nx σ') ∧ P σ') →
    (match xs.find? p with
      | some x => forL f (xs.map g) σ = some (.rt (r x))
      | none => ∃ σ', forL f (xs.map g) σ = some (.nx σ') ∧ P σ')
  | [], σ, h0, h => ⟨σ, rfl, h0⟩
  | x :: xs, σ, h0, h => by
    have hx := h x (List.mem_cons_self ..) σ h0
    cases hp : p x with
    | true =>
      rw [hp] at hx
      simp only [if_true] at hx
      simp only [List.find?_cons, hp, List.map_cons, forL_cons, hx]
      rfl
    | false =>
      rw [hp] at hx
      obtain ⟨σ1, h1, h2⟩ := hx
      simp only [List.find?_cons, hp, List.map_cons, forL_cons, h1, Option.bind_some, turnR_nx]
      exact forL_find f g P p r xs σ1 h2 fun y hy => h y (List.mem_cons_of_mem _ hy)
/-! comprehensions -/
@[simp] theorem lcD_nil (step : D → Option (Option D)) : lcD step [] = some [] := .trans rfl rfl
theorem lcD_map {β : Type} (step : D → Option (Option D)) (g : β → D) (k : β → D) : ∀ xs : List β, (∀ x ∈ xs, step (g x) = some (some (k x))) → lcD step (xs.map g) = some (xs.map k)
  | [], _ => rfl
  | x :: xs, h => by
    simp [lcD, h x (List.mem_cons_self ..), lcD_map step g k xs fun y hy => h y (List.mem_cons_of_mem _ hy)]
theorem lcD_filter {β : Type} (step : D → Option (Option D)) (g : β → D) (p : β → Bool) (k : β → D) : ∀ xs : List β, (∀ x ∈ xs, step (g x) = some (if p x = true then some (k x) else none)) → lcD step (xs.map g) = some ((xs.filter p).map k)
  | [], _ => rfl
  | x :: xs, h => by
    have := lcD_filter step g p k xs fun y hy => h y (List.mem_cons_of_mem _ hy)
    cases hp : p x <;> simp [lcD, h x (List.mem_cons_self ..), this, hp]
theorem lcL_map {β : Type} (step : D → Option (List D)) (g : β → D) (k : β → List D) : ∀ xs : List β, (∀ x ∈ xs, step (g x) = some (k x)) → lcL step (xs.map g) = some (xs.flatMap k)
  | [], _ => rfl
  | x :: xs, h => by
    simp [lcL, h x (List.mem_cons_self ..), lcL_map step g k xs fun y hy => h y (List.mem_cons_of_mem _ hy)]
/-! numbers -/
@[simp] theorem atI_nat {α : Type} (l : List α) (i : Nat) : L2.atI l (i : Int) = l[i]? := by
  unfold L2.atI L2.ixN
  rw [if_pos (by omega)]
  by_cases h : i < l.length
  · rw [if_pos (by omega)]; simp
  · rw [if_neg (by omega)]; simp; omega
@[simp] theorem atI_of {α : Type} (l : List α) (z : Int) (h : 0 ≤ z) : L2.atI l z = l[z.toNat]? := by
  have := atI_nat l z.toNat
  rwa [Int.toNat_of_nonneg h] at this
@[simp] theorem atI_last {α : Type} (l : List α) : L2.atI l (-1) = l.getLast? := by
  unfold L2.atI L2.ixN
  rw [if_neg (by omega)]
  by_cases h : l = []
  · subst h; simp
  · have : 0 < l.length := List.length_pos_iff.mpr h
    rw [if_pos (by omega), Option.bind_some, List.getLast?_eq_getElem?, show ((-1 : Int) + (l.length : Int)).toNat = l.length - 1 by omega]
theorem cutL_from {α : Type} (l : List α) (k : Nat) : cutL l (some (k : Int)) none = l.drop k := by
  unfold cutL
  simp only [HT.sIx_none, HT.sIx_nat]
  by_cases h : k ≤ l.length
  · rw [Nat.min_eq_left h, List.take_of_length_le (by simp)]
  · rw [List.take_of_length_le (by simp), List.drop_eq_nil_of_le (by omega), List.drop_eq_nil_of_le (by omega)]
theorem cutL_to {α : Type} (l : List α) (k : Nat) : cutL l none (some (k : Int)) = l.take k := by
  unfold cutL
  simp only [HT.sIx_none, HT.sIx_nat, List.drop_zero, Nat.sub_zero]
  by_cases h : k ≤ l.length
  · rw [Nat.min_eq_left h]
  · rw [Nat.min_eq_right (by omega), List.take_of_length_le (by omega), List.take_of_length_le (by omega)]
theorem callN_at {fns : List Fd} {f : Nat} {F : Fd} (h : fns[f]? = some F) (n : Nat) (ds : List D) : callN fns (n + 1) f ds = runF (callN fns n) F ds := by
  show (fns[f]?).bind _ = _
  rw [h]
  rfl
theorem enumF_at (l : List D) : ∀ k, enumF k l = (List.range l.length).map fun i => .tup [.int ((k + i : Nat) : Int), l.getD i .non] := by
  induction l with
  | nil => intro k; rfl
  | cons x l ih =>
    intro k
    rw [enumF, ih, List.length_cons, List.range_succ_eq_map, List.map_cons, List.map_map]
    congr 1
    apply List.map_congr_left
    intro i _
    simp only [Function.comp, List.getD_cons_succ]
    rw [show k + 1 + i = k + i.succ by omega]
theorem enumF_ints (l : List Int) : enumF 0 (l.map .int) = (List.range l.length).map fun i => .tup [.int (i : Nat), .int (l.getD i 0)] := by
  rw [enumF_at, List.length_map]
  apply List.map_congr_left
  intro i hi
  have hi : i < l.length := by simpa using hi
  simp [List.getD_eq_getElem?_getD, hi]
@[simp] theorem cast_succ_ne (n : Nat) : ((n : Int) + 1 = 0) = False := by
  simp only [eq_iff_iff, iff_false]
  omega
@[simp] theorem cast_succ_pos (n : Nat) : ((0 : Int) < (n : Int) + 1) = True := by
  simp only [eq_iff_iff, iff_true]
  omega
@[simp] theorem cast_lt_zero (n : Nat) : ((n : Int) < 0) = False := by
  simp only [eq_iff_iff, iff_false]
  omega
@[simp] theorem le_size {n : Nat} (h : n ≤ 1000) : (n ≤ sizeLine) = True := by
  simp only [eq_iff_iff, iff_true]
  unfold sizeLine
  omega
@[simp] theorem lt_size {n : Nat} (h : n ≤ 1000) : (n < sizeLine) = True := by
  simp only [eq_iff_iff, iff_true]
  unfold sizeLine
  omega
@[simp] theorem rng_lo (n : Nat) : (-4611686018427387904 ≤ (n : Int)) = True := by
  simp only [eq_iff_iff, iff_true]
  omega
@[simp] theorem rng_hi {n : Nat} (h : n ≤ 1000) : ((n : Int) < 4611686018427387904) = True := by
  simp only [eq_iff_iff, iff_true]
  omega
theorem range_map_get {xs : List D} {n i : Nat} {x : D} {g : Nat → D} (e : xs = (List.range n).map g) (h : xs[i]? = some x) : i < n ∧ x = g i := by
  subst e
  rw [List.getElem?_map] at h
  obtain ⟨j, h1, rfl⟩ := Option.map_eq_some_iff.mp h
  have hi := (List.getElem?_eq_some_iff.mp h1).1
  rw [List.length_range] at hi
  rw [List.getElem?_range hi] at h1
  cases h1
  exact ⟨hi, rfl⟩
/-- a block in two parts -/
theorem exSs_split (cl : Nat → List D → Option D) (k : Nat) (cs : List CS) (σ : RhoS) : exSs cl cs σ = thenK cl (cs.drop k) (exSs cl (cs.take k) σ) := by
  induction k generalizing cs σ with
  | zero => simp
  | succ k ih =>
    cases cs with
    | nil => simp
    | cons c cs =>
      simp only [List.drop_succ_cons, List.take_succ_cons, exSs_cons]
      cases e : exS cl c σ with
      | none => rfl
      | some r =>
        cases r with
        | nx ρ => rw [thenK_nx, thenK_nx]; exact ih cs ρ
        | br ρ => rfl
        | ct ρ => rfl
        | rt d => rfl
end Dl
set_option Elab.async false
set_option linter.all false
set_option maxRecDepth 100000
set_option maxHeartbeats 4000000
/-! The defs that every law has. -/
namespace Dl
open PySem
def bCell : List CS := [(.ifs (.cmp .lt (.var 1) (.bi .len [(.var 0)])) [(.ret (.idx (.var 0) (.var 1)))] []), (.ret (.bin .add (.bin .mul (.int 5) (.var 1)) (.int 3)))]
def bDraws : List CS := [(.set .b 2 (.bi .abs [(.bi .int [(.var 0)])])), (.set .b 3 (.cmp .ge (.var 2) (.bin .pow (.int 10) (.int 18)))), (.set .b 4 (.var 2)), (.own 5 (.lst [])), (.loop .b (.nm 6) (.rng1 (.var 1)) [(.ifs (.and (.var 3) (.cmp .gt (.var 2) (.int 0))) [(.app .b 5 (.bin .mod (.bi .int [(.var 2)]) (.int 5040))), (.set .b 2 (.bin .fdiv (.var 2) (.int 5040)))] [(.set .b 7 (.bin .mod (.bi .int [(.bin .add (.bin .add (.bin .mul (.var 4) (.int 48271)) (.bin .mul (.bin .add (.var 6) (.int 1)) (.int 69621))) (.int 11))]) (.int 2147483647))), (.set .b 7 (.bin .mod (.bi .int [(.bin .add (.bin .mul (.var 7) (.var 7)) (.bin .mul (.int 40692) (.bin .add (.var 6) (.int 3))))]) (.int 2147483399))), (.app .b 5 (.bin .mod (.bi .int [(.bin .fdiv (.var 7) (.int 64))]) (.int 5040)))])]), (.ret (.var 5))]
def bIsInt : List CS := [(.ret (.and (.isi .int (.var 0)) (.not (.isi .bool (.var 0)))))]
/-- i: _law_is_integer, j: itself -/
def bIs (i j : Nat) : List CS := [(.ifs (.isN (.var 1)) [(.ret (.isN (.var 0)))] []), (.ifs (.isi .bool (.var 1)) [(.ret (.and (.isi .bool (.var 0)) (.cmp .eq (.var 0) (.var 1))))] []), (.ifs (.isi .int (.var 1)) [(.ret (.and (.call i [(.var 0)]) (.cmp .eq (.var 0) (.var 1))))] []), (.ifs (.isi .str (.var 1)) [(.ret (.and (.isi .str (.var 0)) (.cmp .eq (.var 0) (.var 1))))] []), (.ifs (.or (.not (.isi .tuple (.var 0))) (.cmp .ne (.bi .len [(.var 0)]) (.bi .len [(.var 1)]))) [(.ret (.bl false))] []), (.ret (.bi .all [(.lc [2] (.nm 2) (.rng1 (.bi .len [(.var 1)])) [] (.call j [(.idx (.var 0) (.var 2)), (.idx (.var 1) (.var 2))]))]))]
def fdCell : Fd := ⟨2, 2, bCell⟩
def fdDraws : Fd := ⟨2, 8, bDraws⟩
def fdIsInt : Fd := ⟨1, 1, bIsInt⟩
def fdIs (i j : Nat) : Fd := ⟨2, 3, bIs i j⟩
variable (cl : Nat → List D → Option D)
theorem cell_ok (ns : List Int) (k : Nat) : ∃ c : Int, runF cl fdCell [.scr ns, .int k] = some (.int c) := by
  by_cases h : k < ns.length
  · refine ⟨ns[k], ?_⟩
    simp [runF, fdCell, bCell, startS, h, atI_nat]
  · refine ⟨5 * k + 3, ?_⟩
    simp [runF, fdCell, bCell, startS, h]
theorem fmod_bd (a b : Int) (h : 0 < b) : 0 ≤ a.fmod b ∧ a.fmod b < b := ⟨Int.fmod_nonneg_of_pos a h, Int.fmod_lt_of_pos a h⟩
def drawOk (ds : List Int) : Prop := ∀ x ∈ ds, 0 ≤ x ∧ x < 5040
theorem drawOk.snoc {ds : List Int} (h : drawOk ds) (a : Int) : drawOk (ds ++ [a.fmod 5040]) := fun x hx => by
  rcases List.mem_append.mp hx with hx | hx
  · exact h x hx
  · rw [List.mem_singleton.mp hx]
    exact fmod_bd a 5040 (by omega)
theorem drawOk.at {ds : List Int} (h : drawOk ds) {i : Nat} (hi : i < ds.length) : 0 ≤ ds[i] ∧ ds[i] < 5040 := h _ (List.getElem_mem hi)
def drawLoop : List CS := [(.ifs (.and (.var 3) (.cmp .gt (.var 2) (.int 0))) [(.app .b 5 (.bin .mod (.bi .int [(.var 2)]) (.int 5040))), (.set .b 2 (.bin .fdiv (.var 2) (.int 5040)))] [(.set .b 7 (.bin .mod (.bi .int [(.bin .add (.bin .add (.bin .mul (.var 4) (.int 48271)) (.bin .mul (.bin .add (.var 6) (.int 1)) (.int 69621))) (.int 11))]) (.int 2147483647))), (.set .b 7 (.bin .mod (.bi .int [(.bin .add (.bin .mul (.var 7) (.var 7)) (.bin .mul (.int 40692) (.bin .add (.var 6) (.int 3))))]) (.int 2147483399))), (.app .b 5 (.bin .mod (.bi .int [(.bin .fdiv (.var 7) (.int 64))]) (.int 5040)))])]
theorem draw_turn (c n rest : Int) (dg : Bool) (seed k : Int) (ds : List Int) (j6 j7 : Option Sl) (hd : ds.length < 1000000) (ok : drawOk ds) : ∃ (rest' x : Int) (j6' j7' : Option Sl), drawOk (ds ++ [x]) ∧
    exSs cl drawLoop [some (.sh (.int c)), some (.sh (.int n)), some (.sh (.int rest)), some (.sh (.bl dg)), some (.sh (.int seed)), some (.own (ds.map .int)), some (.sh (.int k)), j7] =
      some (.nx [some (.sh (.int c)), some (.sh (.int n)), some (.sh (.int rest')), some (.sh (.bl dg)), some (.sh (.int seed)), some (.own ((ds ++ [x]).map .int)), j6', j7']) := by
  have hs : ds.length < sizeLine := by unfold sizeLine; omega
  have h2 : ∀ m : Int, (-18446744073709551616 < m.fmod 2147483647 ∧ m.fmod 2147483647 < 18446744073709551616) := fun m => by
    have := fmod_bd m 2147483647 (by omega)
    omega
  by_cases h : dg = true ∧ 0 < rest
  · refine ⟨rest.fdiv 5040, rest.fmod 5040, some (.sh (.int k)), j7, ok.snoc _, ?_⟩
    simp [drawLoop, h.1, h.2, hs]
  · have e : (if dg = true then some (D.bl (decide (0 < rest))) else some (.bl dg)) = some (.bl false) := by
      cases dg
      · simp
      · simp at h
        simp [show ¬ 0 < rest by omega]
    refine ⟨rest, _, some (.sh (.int k)), some (.sh (.int ((((seed * 48271 + (k + 1) * 69621 + 11).fmod 2147483647 * (seed * 48271 + (k + 1) * 69621 + 11).fmod 2147483647) + 40692 * (k + 3)).fmod 2147483399))), ok.snoc ((((((seed * 48271 + (k + 1) * 69621 + 11).fmod 2147483647 * (seed * 48271 + (k + 1) * 69621 + 11).fmod 2147483647) + 40692 * (k + 3))).fmod 2147483399).fdiv 64), ?_⟩
    simp [drawLoop, e, h2, hs]
theorem draws_ok (c : Int) (n : Nat) (hn : n ≤ 1000000) : ∃ ds : List Int, ds.length = n ∧ drawOk ds ∧ runF cl fdDraws [.int c, .int n] = some (.lst (ds.map .int)) := by
  let P : Nat → RhoS → Prop := fun k σ => ∃ (rest : Int) (dg : Bool) (seed : Int) (ds : List Int) (j6 j7 : Option Sl), ds.length = k ∧ drawOk ds ∧
    σ = [some (.sh (.int c)), some (.sh (.int n)), some (.sh (.int rest)), some (.sh (.bl dg)), some (.sh (.int seed)), some (.own (ds.map .int)), j6, j7]
  have key := forL_inv (turn cl (.nm 6) drawLoop) P ((List.range n).map fun i => .int (i : Nat)) 0
    [some (.sh (.int c)), some (.sh (.int n)), some (.sh (.int (if c < 0 then -c else c))), some (.sh (.bl (decide ((10 : Int) ^ 18 ≤ if c < 0 then -c else c)))), some (.sh (.int (if c < 0 then -c else c))), some (.own []), none, none]
    ⟨_, _, _, [], _, _, rfl, fun _ h => (nomatch h), rfl⟩ fun i x σ hx hp => by
      obtain ⟨rest, dg, seed, ds, j6, j7, hl, ok, rfl⟩ := hp
      rw [List.getElem?_map] at hx
      have hi : i < n := by
        have := (List.getElem?_eq_some_iff.mp (Option.map_eq_some_iff.mp hx).choose_spec.1).1
        simpa using this
      rw [List.getElem?_range hi] at hx
      cases hx
      obtain ⟨rest', y, j6', j7', ok', e⟩ := draw_turn cl c n rest dg seed i ds j6 j7 (by omega) ok
      refine ⟨_, ?_, rest', dg, seed, ds ++ [y], j6', j7', by simp; omega, ok', rfl⟩
      rw [turn_eq]
      simp only [binds_nm, turnK_some, putS_cons, putS_nil, set_succ, set_zero]
      exact e
  obtain ⟨σ', h1, rest, dg, seed, ds, j6, j7, hl, ok, rfl⟩ := key
  refine ⟨ds, by simpa using hl, ok, ?_⟩
  have hn2 : (-(2 ^ 62) ≤ (n : Int) ∧ (n : Int) < 2 ^ 62) := by omega
  have e2 : exSs cl bDraws [some (.sh (.int c)), some (.sh (.int n)), none, none, none, none, none, none] = some (.rt (.lst (ds.map .int))) := by
    have hn3 : (-4611686018427387904 ≤ (n : Int) ∧ (n : Int) < 4611686018427387904) := by omega
    show exSs cl [(.set .b 2 (.bi .abs [(.bi .int [(.var 0)])])), (.set .b 3 (.cmp .ge (.var 2) (.bin .pow (.int 10) (.int 18)))), (.set .b 4 (.var 2)), (.own 5 (.lst [])), .loop .b (.nm 6) (.rng1 (.var 1)) drawLoop, .ret (.var 5)] _ = _
    have : (10 : Int) ^ 18 = 1000000000000000000 := by decide
    rw [this] at h1
    simp [hn3, h1]
  unfold runF
  rw [if_pos (by rfl), show fdDraws.body = bDraws from rfl]
  show (exSs cl bDraws [some (.sh (.int c)), some (.sh (.int n)), none, none, none, none, none, none]).bind endR = _
  rw [e2]
  rfl
/-- what the law's own test may be asked about -/
def fits : Nat → D → Prop
  | 0, .tup _ => False
  | n + 1, .tup l => l.length ≤ 1000000 ∧ ∀ d ∈ l, fits n d
  | _, .lst _ => False
  | _, .scr _ => False
  | _, _ => True
@[simp] theorem fits_int (n : Nat) (i : Int) : fits n (.int i) := by cases n <;> trivial
@[simp] theorem fits_bl (n : Nat) (i : Bool) : fits n (.bl i) := by cases n <;> trivial
@[simp] theorem fits_str (n : Nat) (i : Str) : fits n (.str i) := by cases n <;> trivial
@[simp] theorem fits_non (n : Nat) : fits n .non := by cases n <;> trivial
theorem fits_tup {n : Nat} {l : List D} (h1 : l.length ≤ 1000000) (h2 : ∀ d ∈ l, fits n d) : fits (n + 1) (.tup l) := ⟨h1, h2⟩
theorem fits_ints {l : List Int} (h1 : l.length ≤ 1000000) : fits 1 (.tup (l.map .int)) := ⟨by simpa using h1, fun d hd => by
  obtain ⟨x, _, rfl⟩ := List.mem_map.mp hd
  exact fits_int _ _⟩
theorem isint_ok (v : D) : runF cl fdIsInt [v] = some (.bl (isiD .int v && !isiD .bool v)) := by
  simp [runF, fdIsInt, bIsInt, startS]
  cases isiD .int v <;> simp
@[simp] theorem isiD_ii (i : Int) : isiD .int (.int i) = true := .trans rfl rfl
@[simp] theorem isiD_bi (i : Int) : isiD .bool (.int i) = false := .trans rfl rfl
@[simp] theorem isiD_si (i : Int) : isiD .str (.int i) = false := .trans rfl rfl
@[simp] theorem isiD_ib (i : Bool) : isiD .int (.bl i) = true := .trans rfl rfl
@[simp] theorem isiD_bb (i : Bool) : isiD .bool (.bl i) = true := .trans rfl rfl
@[simp] theorem isiD_is (i : Str) : isiD .int (.str i) = false := .trans rfl rfl
@[simp] theorem isiD_bs (i : Str) : isiD .bool (.str i) = false := .trans rfl rfl
@[simp] theorem isiD_ss (i : Str) : isiD .str (.str i) = true := .trans rfl rfl
@[simp] theorem isiD_it (i : List D) : isiD .int (.tup i) = false := .trans rfl rfl
@[simp] theorem isiD_bt (i : List D) : isiD .bool (.tup i) = false := .trans rfl rfl
@[simp] theorem isiD_st (i : List D) : isiD .str (.tup i) = false := .trans rfl rfl
@[simp] theorem isiD_tt (i : List D) : isiD .tuple (.tup i) = true := .trans rfl rfl
@[simp] theorem isiD_ti (i : Int) : isiD .tuple (.int i) = false := .trans rfl rfl
@[simp] theorem isiD_tb (i : Bool) : isiD .tuple (.bl i) = false := .trans rfl rfl
@[simp] theorem isiD_tn : isiD .tuple .non = false := .trans rfl rfl
@[simp] theorem isiD_in : isiD .int .non = false := .trans rfl rfl
@[simp] theorem isiD_bn : isiD .bool .non = false := .trans rfl rfl
@[simp] theorem isiD_sn : isiD .str .non = false := .trans rfl rfl
theorem is_ok {fns : List Fd} {i j : Nat} (h1 : fns[i]? = some fdIsInt) (h2 : fns[j]? = some (fdIs i j)) : ∀ (k n : Nat) (d : D), fits k d → k + 2 ≤ n → callN fns n j [d, d] = some (.bl true)
  | k, 0, d, _, hn => by omega
  | k, 1, d, _, hn => by omega
  | k, n + 2, d, hf, hn => by
    rw [callN_at h2]
    simp only [runF, fdIs, List.length_cons, List.length_nil, if_true, startS]
    cases d with
    | non => simp [bIs]
    | bl b => simp [bIs]
    | int i => simp [bIs, callN_at h1, isint_ok]
    | str s => simp [bIs]
    | lst l => cases k <;> exact hf.elim
    | scr l => cases k <;> exact hf.elim
    | tup l =>
      cases k with
      | zero => exact hf.elim
      | succ k =>
        obtain ⟨hl, hd⟩ := hf
        have hl2 : -4611686018427387904 ≤ (l.length : Int) ∧ (l.length : Int) < 4611686018427387904 := by omega
        have hl3 : l.length ≤ sizeLine := by unfold sizeLine; omega
        have step : lcD (lcS (callN fns (n + 1)) [2] (.nm 2) [] (.call j [(.idx (.var 0) (.var 2)), (.idx (.var 1) (.var 2))]) [some (.tup l), some (.tup l), none]) ((List.range l.length).map fun i => .int (i : Nat)) = some ((List.range l.length).map fun _ => .bl true) := by
          refine lcD_map _ _ _ _ fun x hx => ?_
          have hx : x < l.length := by simpa using hx
          rw [lcS_eq]
          have := is_ok h1 h2 k (n + 1) l[x] (hd _ (List.getElem_mem hx)) (by omega)
          simp [atI_nat, List.getElem?_eq_getElem hx, this]
        have e : (List.range l.length).map (fun _ => D.bl true) = (List.replicate l.length true).map D.bl := by
          simp [List.map_const']
        simp [bIs, hl2, step, hl3]
        rw [e, show blsOf _ = some _ from blsOf_map _]
        simp
/-- the law's defs stand in a table -/
structure Has (fns : List Fd) (c d i j : Nat) : Prop where
  cell : fns[c]? = some fdCell
  draws : fns[d]? = some fdDraws
  isInt : fns[i]? = some fdIsInt
  is : fns[j]? = some (fdIs i j)
section
variable {fns : List Fd} {c d i j : Nat} (h : Has fns c d i j)
include h
theorem Has.cellN (n : Nat) (ns : List Int) (k : Nat) : ∃ z : Int, callN fns (n + 1) c [.scr ns, .int k] = some (.int z) := by
  rw [callN_at h.cell]
  exact cell_ok _ ns k
theorem Has.drawsN (n : Nat) (z : Int) (k : Nat) (hk : k ≤ 1000000) : ∃ ds : List Int, ds.length = k ∧ drawOk ds ∧ callN fns (n + 1) d [.int z, .int k] = some (.lst (ds.map .int)) := by
  rw [callN_at h.draws]
  exact draws_ok _ z k hk
theorem Has.isN {k n : Nat} {d : D} (hf : fits k d) (hn : k + 2 ≤ n) : callN fns n j [d, d] = some (.bl true) := is_ok h.isInt h.is k n d hf hn
/-- .. of two that are one -/
theorem Has.isN' {k n : Nat} {d e : D} (hf : fits k d) (hn : k + 2 ≤ n) (he : e = d) : callN fns n j [e, d] = some (.bl true) := by
  subst he
  exact h.isN hf hn
end
end Dl
set_option Elab.async false
set_option linter.all false
set_option maxRecDepth 100000
set_option maxHeartbeats 4000000
/-! More words: generator expressions, equality of typed data, loops that find. -/
namespace Dl
open PySem
section
variable (cl : Nat → List D → Option D) (ρ : Rho)
def genBK (x : Option D) : Option (Option Bool) := (x.bind blOf).map some
def genEK (elt : CE) (ρ : Rho) (k : Option Bool) : Option (Option Bool) := k.bind fun k => if k = true then genBK (evE cl elt ρ) else some none
def genRK (cs : List CE) (elt : CE) (ρ : Option Rho) : Option (Option Bool) := ρ.bind fun ρ1 => genEK cl elt ρ1 (evT cl cs ρ1)
def genK (al : Bool) (own : List Nat) (tg : Tg) (cs : List CE) (elt : CE) (x : Option D) : Option D := (x.bind iterD).bind fun xs => (genD al (genS cl own tg cs elt ρ) xs).map .bl
@[simp] theorem genBK_some (b : Bool) : genBK (some (.bl b)) = some (some b) := .trans rfl rfl
@[simp] theorem genEK_some (elt : CE) (k : Bool) : genEK cl elt ρ (some k) = if k = true then genBK (evE cl elt ρ) else some none := .trans rfl rfl
@[simp] theorem genRK_some (cs : List CE) (elt : CE) : genRK cl cs elt (some ρ) = genEK cl elt ρ (evT cl cs ρ) := .trans rfl rfl
theorem genS_eq (own : List Nat) (tg : Tg) (cs : List CE) (elt : CE) (x : D) : genS cl own tg cs elt ρ x = genRK cl cs elt (tg.put x (wipeD ρ own)) := .trans rfl rfl
@[simp] theorem evE_gen (al : Bool) (own : List Nat) (tg : Tg) (it : CE) (cs : List CE) (elt : CE) : evE cl (.gen al own tg it cs elt) ρ = genK cl ρ al own tg cs elt (evE cl it ρ) := .trans rfl rfl
@[simp] theorem genK_some (al : Bool) (own : List Nat) (tg : Tg) (cs : List CE) (elt : CE) (x : D) : genK cl ρ al own tg cs elt (some x) = (iterD x).bind fun xs => (genD al (genS cl own tg cs elt ρ) xs).map .bl := .trans rfl rfl
end
@[simp] theorem genD_nil (al : Bool) (step : D → Option (Option Bool)) : genD al step [] = some al := .trans rfl rfl
theorem genD_cons (al : Bool) (step : D → Option (Option Bool)) (x : D) (xs : List D) : genD al step (x :: xs) = (step x).bind fun r => match r with
    | none => genD al step xs
    | some b => if b = al then genD al step xs else some (!al) := .trans rfl rfl
/-- all of a generator expression with a test -/
theorem genD_allF {β : Type} (step : D → Option (Option Bool)) (g : β → D) (q p : β → Bool) : ∀ xs : List β, (∀ x ∈ xs, step (g x) = some (if q x = true then some (p x) else none)) → genD true step (xs.map g) = some (xs.all fun x => !q x || p x)
  | [], _ => rfl
  | x :: xs, h => by
    have ih := genD_allF step g q p xs fun y hy => h y (List.mem_cons_of_mem _ hy)
    rw [List.map_cons, genD_cons, h x (List.mem_cons_self ..), Option.bind_some, List.all_cons]
    cases hq : q x <;> cases hp : p x <;> simp [ih]
theorem genD_anyF {β : Type} (step : D → Option (Option Bool)) (g : β → D) (q p : β → Bool) : ∀ xs : List β, (∀ x ∈ xs, step (g x) = some (if q x = true then some (p x) else none)) → genD false step (xs.map g) = some (xs.any fun x => q x && p x)
  | [], _ => rfl
  | x :: xs, h => by
    have ih := genD_anyF step g q p xs fun y hy => h y (List.mem_cons_of_mem _ hy)
    rw [List.map_cons, genD_cons, h x (List.mem_cons_self ..), Option.bind_some, List.any_cons]
    cases hq : q x <;> cases hp : p x <;> simp [ih]
theorem genD_all {β : Type} (step : D → Option (Option Bool)) (g : β → D) (p : β → Bool) (xs : List β) (h : ∀ x ∈ xs, step (g x) = some (some (p x))) : genD true step (xs.map g) = some (xs.all p) := by
  have := genD_allF step g (fun _ => true) p xs fun x hx => by simp [h x hx]
  simpa using this
theorem genD_any {β : Type} (step : D → Option (Option Bool)) (g : β → D) (p : β → Bool) (xs : List β) (h : ∀ x ∈ xs, step (g x) = some (some (p x))) : genD false step (xs.map g) = some (xs.any p) := by
  have := genD_anyF step g (fun _ => true) p xs fun x hx => by simp [h x hx]
  simpa using this
/-- a loop that may end the def -/
theorem forL_findSome {β : Type} (f : D → RhoS → Option Res) (g : β → D) (P : RhoS → Prop) (h : β → Option D) : ∀ (xs : List β) (σ : RhoS), P σ → (∀ x ∈ xs, ∀ σ, P σ → (∀ d, h x = some d → f (g x) σ = some (.rt d)) ∧ (h x = none → ∃ σ', f (g x) σ = some (.nx σ') ∧ P σ')) →
    (∀ d, xs.findSome? h = some d → forL f (xs.map g) σ = some (.rt d)) ∧ (xs.findSome? h = none → ∃ σ', forL f (xs.map g) σ = some (.nx σ') ∧ P σ')
  | [], σ, h0, _ => ⟨fun d e => by simp at e, fun _ => ⟨σ, rfl, h0⟩⟩
  | x :: xs, σ, h0, H => by
    obtain ⟨h1, h2⟩ := H x (List.mem_cons_self ..) σ h0
    cases hx : h x with
    | some d =>
      refine ⟨fun d' e => ?_, fun e => ?_⟩
      · rw [List.findSome?_cons, hx] at e
        cases e
        rw [List.map_cons, forL_cons, h1 d hx]
        rfl
      · rw [List.findSome?_cons, hx] at e
        cases e
    | none =>
      obtain ⟨σ1, e1, p1⟩ := h2 hx
      have ih := forL_findSome f g P h xs σ1 p1 fun y hy => H y (List.mem_cons_of_mem _ hy)
      rw [List.findSome?_cons, hx, List.map_cons, forL_cons, e1]
      exact ih
/-- a loop that only hands a property on -/
theorem forL_keep {β : Type} (f : D → RhoS → Option Res) (g : β → D) (P : RhoS → Prop) (xs : List β) (σ : RhoS) (h0 : P σ) (h : ∀ x ∈ xs, ∀ σ, P σ → ∃ σ', f (g x) σ = some (.nx σ') ∧ P σ') : ∃ σ', forL f (xs.map g) σ = some (.nx σ') ∧ P σ' := by
  have := (forL_findSome f g P (fun _ => none) xs σ h0 fun x hx σ hp => ⟨fun d e => (nomatch e), fun _ => h x hx σ hp⟩).2
  exact this (by simp)
/-- a loop over k: Q tells what stands behind the first of xs -/
theorem forL_seq {β : Type} (f : D → RhoS → Option Res) (g : β → D) (Q : List β → RhoS → Prop) : ∀ (xs pre : List β) (σ : RhoS), Q pre σ → (∀ x ∈ xs, ∀ pre σ, Q pre σ → ∃ σ', f (g x) σ = some (.nx σ') ∧ Q (pre ++ [x]) σ') → ∃ σ', forL f (xs.map g) σ = some (.nx σ') ∧ Q (pre ++ xs) σ'
  | [], pre, σ, h0, _ => ⟨σ, rfl, by simpa using h0⟩
  | x :: xs, pre, σ, h0, h => by
    obtain ⟨σ1, h1, h2⟩ := h x (List.mem_cons_self ..) pre σ h0
    obtain ⟨σ2, h3, h4⟩ := forL_seq f g Q xs (pre ++ [x]) σ1 h2 fun y hy => h y (List.mem_cons_of_mem _ hy)
    refine ⟨σ2, ?_, by simpa using h4⟩
    rw [List.map_cons, forL_cons, h1]
    exact h3
/-- .. with what is behind and ahead -/
theorem forL_pre {β : Type} (f : D → RhoS → Option Res) (g : β → D) (Q : List β → RhoS → Prop) (xs : List β) (σ : RhoS) (h0 : Q [] σ) (h : ∀ pre x post σ, xs = pre ++ x :: post → Q pre σ → ∃ σ', f (g x) σ = some (.nx σ') ∧ Q (pre ++ [x]) σ') : ∃ σ', forL f (xs.map g) σ = some (.nx σ') ∧ Q xs σ' := by
  have key : ∀ (ys pre : List β) (σ : RhoS), xs = pre ++ ys → Q pre σ → ∃ σ', forL f (ys.map g) σ = some (.nx σ') ∧ Q xs σ' := by
    intro ys
    induction ys with
    | nil =>
      intro pre σ e q
      rw [List.append_nil] at e
      subst e
      exact ⟨σ, rfl, q⟩
    | cons y ys ih =>
      intro pre σ e q
      obtain ⟨σ1, h1, h2⟩ := h pre y ys σ e q
      obtain ⟨σ2, h3, h4⟩ := ih (pre ++ [y]) σ1 (by rw [e]; simp) h2
      refine ⟨σ2, ?_, h4⟩
      rw [List.map_cons, forL_cons, h1]
      exact h3
  exact key xs [] σ rfl h0
/-- a turn in two parts -/
theorem turn_two {cl : Nat → List D → Option D} {i : Nat} {b : List CS} {x : D} {σ σ1 σ2 : RhoS} (k : Nat) (e1 : exSs cl (b.take k) (σ.set i (some (.sh x))) = some (.nx σ1)) (e2 : exSs cl (b.drop k) σ1 = some (.nx σ2)) : turn cl (.nm i) b x σ = some (.nx σ2) := by
  rw [turn_eq]
  simp only [binds_nm, turnK_some, putS_cons, putS_nil]
  rw [exSs_split cl k, e1, thenK_nx, e2]
/-! ### typed data -/
/-- f puts values into data so that equality is kept; k: how deep -/
structure EqOk {α : Type} [DecidableEq α] (f : α → D) (k : Nat) : Prop where
  eq : ∀ a b, PyData.eqv (f a).py (f b).py = decide (a = b)
  dep : ∀ a, (f a).py.depth ≤ k
  nn : ∀ a, PyData.eqv (f a).py .none = false ∧ PyData.eqv .none (f a).py = false
theorem eqAll_map {α : Type} [DecidableEq α] {f : α → D} (h : ∀ a b, PyData.eqv (f a).py (f b).py = decide (a = b)) : ∀ a b : List α, PyData.eqvAll (pys (a.map f)) (pys (b.map f)) = decide (a = b)
  | [], [] => by simp [pys, PyData.eqvAll]
  | [], y :: b => by simp [pys, PyData.eqvAll]
  | x :: a, [] => by simp [pys, PyData.eqvAll]
  | x :: a, y :: b => by
    simp only [List.map_cons, pys, PyData.eqvAll, h, eqAll_map h a b, List.cons.injEq, Bool.decide_and]
theorem eq_int : EqOk D.int 0 := ⟨fun a b => by
  simp [D.py, PyData.eqv]
  by_cases h : a = b <;> simp [h], fun a => by simp, fun a => by simp [D.py, PyData.eqv]⟩
theorem eq_str : EqOk D.str 0 := ⟨fun a b => by
  simp [D.py, PyData.eqv]
  by_cases h : a = b <;> simp [h], fun a => by simp, fun a => by simp [D.py, PyData.eqv]⟩
section
variable {α β γ : Type} [DecidableEq α] [DecidableEq β] [DecidableEq γ] {f : α → D} {g : β → D} {h : γ → D} {k : Nat}
theorem EqOk.mono (hf : EqOk f k) {k' : Nat} (hk : k ≤ k') : EqOk f k' := ⟨hf.eq, fun a => Nat.le_trans (hf.dep a) hk, hf.nn⟩
theorem EqOk.comp {δ : Type} [DecidableEq δ] (hf : EqOk f k) (e : δ → α) (inj : ∀ a b, e a = e b → a = b) : EqOk (fun x => f (e x)) k := ⟨fun a b => by
  rw [hf.eq]
  by_cases q : a = b
  · simp [q]
  · simp [q]
    exact fun z => q (inj _ _ z), fun a => hf.dep _, fun a => hf.nn _⟩
theorem EqOk.tup (hf : EqOk f k) : EqOk (fun l : List α => D.tup (l.map f)) (k + 1) := ⟨fun a b => by
  simp only [D.py, PyData.eqv]
  exact eqAll_map hf.eq a b, fun a => dep_tup fun d hd => by
    obtain ⟨x, _, rfl⟩ := List.mem_map.mp hd
    exact hf.dep x, fun a => by simp [D.py, PyData.eqv]⟩
theorem EqOk.pair (hf : EqOk f k) (hg : EqOk g k) : EqOk (fun p : α × β => D.tup [f p.1, g p.2]) (k + 1) := ⟨fun a b => by
  simp only [D.py, pys, PyData.eqv, PyData.eqvAll, hf.eq, hg.eq, Bool.and_true]
  rw [← Bool.decide_and]
  congr 1
  exact propext Prod.ext_iff.symm, fun a => dep_tup fun d hd => by
    simp at hd
    rcases hd with rfl | rfl
    · exact hf.dep _
    · exact hg.dep _, fun a => by simp [D.py, PyData.eqv]⟩
theorem EqOk.triple (hf : EqOk f k) (hg : EqOk g k) (hh : EqOk h k) : EqOk (fun p : α × β × γ => D.tup [f p.1, g p.2.1, h p.2.2]) (k + 1) := ⟨fun a b => by
  simp only [D.py, pys, PyData.eqv, PyData.eqvAll, hf.eq, hg.eq, hh.eq, Bool.and_true]
  rw [← Bool.decide_and, ← Bool.decide_and]
  congr 1
  refine propext ?_
  rw [Prod.ext_iff, Prod.ext_iff], fun a => dep_tup fun d hd => by
    simp at hd
    rcases hd with rfl | rfl | rfl
    · exact hf.dep _
    · exact hg.dep _
    · exact hh.dep _, fun a => by simp [D.py, PyData.eqv]⟩
/-- None or a value -/
def optD (f : α → D) : Option α → D
  | none => .non
  | some a => f a
@[simp] theorem optD_none : optD f none = .non := .trans rfl rfl
@[simp] theorem optD_some (a : α) : optD f (some a) = f a := .trans rfl rfl
theorem EqOk.eqD (hf : EqOk f k) (hk : k ≤ 64) (a b : α) : eqD (f a) (f b) = some (decide (a = b)) := by
  have h1 := hf.dep a
  have h2 := hf.dep b
  rw [Dl.eqD, grd_true ⟨by omega, by omega⟩, hf.eq]
theorem EqOk.eqN (hf : EqOk f k) (hk : k ≤ 64) (a : α) : Dl.eqD (f a) .non = some false := by
  have h1 := hf.dep a
  rw [Dl.eqD, grd_true ⟨by omega, by simp⟩]
  exact congrArg some (hf.nn a).1
theorem any_eqv (hf : EqOk f k) (a : α) (l : List α) : ((l.map f).any fun z => PyData.eqv z.py (f a).py) = decide (a ∈ l) := by
  rw [List.any_map]
  simp only [Function.comp_def, hf.eq]
  induction l with
  | nil => simp
  | cons x l ih =>
    rw [List.any_cons, ih]
    by_cases q : x = a
    · simp [q]
    · simp [q, Ne.symm q, List.mem_cons]
theorem EqOk.inL (hf : EqOk f k) (hk : k < 64) (a : α) (l : List α) : inD (f a) (.lst (l.map f)) = some (decide (a ∈ l)) := by
  have h1 := hf.dep a
  have h2 : (D.lst (l.map f)).py.depth ≤ k + 1 := dep_lst fun d hd => by
    obtain ⟨x, _, rfl⟩ := List.mem_map.mp hd
    exact hf.dep x
  show (some (l.map f)).bind _ = _
  rw [Option.bind_some, grd_true ⟨by omega, by omega⟩, any_eqv hf]
theorem EqOk.inT (hf : EqOk f k) (hk : k < 64) (a : α) (l : List α) : inD (f a) (.tup (l.map f)) = some (decide (a ∈ l)) := by
  have h1 := hf.dep a
  have h2 : (D.tup (l.map f)).py.depth ≤ k + 1 := dep_tup fun d hd => by
    obtain ⟨x, _, rfl⟩ := List.mem_map.mp hd
    exact hf.dep x
  show (some (l.map f)).bind _ = _
  rw [Option.bind_some, grd_true ⟨by omega, by omega⟩, any_eqv hf]
theorem EqOk.inL_t (hf : EqOk f k) (hk : k < 64) {a : α} {l : List α} (h : a ∈ l) : inD (f a) (.lst (l.map f)) = some true := by
  rw [hf.inL hk]
  exact congrArg some (decide_eq_true h)
theorem EqOk.inL_f (hf : EqOk f k) (hk : k < 64) {a : α} {l : List α} (h : a ∉ l) : inD (f a) (.lst (l.map f)) = some false := by
  rw [hf.inL hk]
  exact congrArg some (decide_eq_false h)
theorem EqOk.inT_t (hf : EqOk f k) (hk : k < 64) {a : α} {l : List α} (h : a ∈ l) : inD (f a) (.tup (l.map f)) = some true := by
  rw [hf.inT hk]
  exact congrArg some (decide_eq_true h)
theorem EqOk.inT_f (hf : EqOk f k) (hk : k < 64) {a : α} {l : List α} (h : a ∉ l) : inD (f a) (.tup (l.map f)) = some false := by
  rw [hf.inT hk]
  exact congrArg some (decide_eq_false h)
end
@[simp] theorem flats_take {l : List D} (h : flats l = true) (n : Nat) : flats (l.take n) = true := flats_all.mpr fun d hd => flats_all.mp h d (List.mem_of_mem_take hd)
@[simp] theorem flats_drop {l : List D} (h : flats l = true) (n : Nat) : flats (l.drop n) = true := flats_all.mpr fun d hd => flats_all.mp h d (List.mem_of_mem_drop hd)
@[simp] theorem flats_replicate {d : D} (h : d.flat = true) (n : Nat) : flats (List.replicate n d) = true := flats_all.mpr fun x hx => by rw [List.eq_of_mem_replicate hx]; exact h
theorem minL_eq {l : List Int} {x : Int} (h : x ∈ l) (h2 : ∀ y ∈ l, x ≤ y) : minL l = x := by
  have a := minL_le h
  have b := h2 _ (minL_mem (by rintro rfl; cases h))
  omega
theorem maxL_eq {l : List Int} {x : Int} (h : x ∈ l) (h2 : ∀ y ∈ l, y ≤ x) : maxL l = x := by
  have a := maxL_le h
  have b := h2 _ (maxL_mem (by rintro rfl; cases h))
  omega
@[simp] theorem ixN_nat {n i : Nat} (h : i < n) : L2.ixN n (i : Int) = some i := by
  unfold L2.ixN
  rw [if_pos (by omega), if_pos (by omega)]
  simp
theorem getD_set_self {l : List Int} {i : Nat} (h : i < l.length) (x : Int) : (l.set i x).getD i 0 = x := by
  rw [List.getD_eq_getElem?_getD, List.getElem?_set_self h]
  rfl
theorem getD_set_ne {l : List Int} {i j : Nat} (h : i ≠ j) (x : Int) : (l.set i x).getD j 0 = l.getD j 0 := by
  rw [List.getD_eq_getElem?_getD, List.getElem?_set_ne h, ← List.getD_eq_getElem?_getD]
/-- the built-in abs, max, min of two -/
def ab (z : Int) : Int := if z < 0 then -z else z
def mx (x y : Int) : Int := if x < y then y else x
def mn (x y : Int) : Int := if y < x then y else x
theorem ab_nonneg (z : Int) : 0 ≤ ab z := by unfold ab; split <;> omega
theorem ab_le {z k : Int} : ab z ≤ k ↔ z ≤ k ∧ -k ≤ z := by unfold ab; split <;> omega
theorem ab_neg (z : Int) : ab (-z) = ab z := by unfold ab; split <;> split <;> omega
theorem ab_sub (x y : Int) : ab (x - y) = ab (y - x) := by rw [← ab_neg]; congr 1; omega
theorem ab_tri (x y z : Int) : ab (x - z) ≤ ab (x - y) + ab (y - z) := by unfold ab; split <;> split <;> split <;> omega
theorem mx_le {x y z : Int} : mx x y ≤ z ↔ x ≤ z ∧ y ≤ z := by unfold mx; split <;> omega
theorem le_mx {x y : Int} : x ≤ mx x y ∧ y ≤ mx x y := by unfold mx; split <;> omega
theorem le_mn {x y z : Int} : z ≤ mn x y ↔ z ≤ x ∧ z ≤ y := by unfold mn; split <;> omega
theorem mn_le {x y : Int} : mn x y ≤ x ∧ mn x y ≤ y := by unfold mn; split <;> omega
/-- what stands at a place -/
theorem get_getD {α : Type} {l : List α} {i : Nat} (h : i < l.length) (d : α) : l[i]? = some (l.getD i d) := by
  rw [List.getD_eq_getElem?_getD, List.getElem?_eq_getElem h]
  rfl
end Dl
set_option Elab.async false
set_option linter.all false
set_option maxRecDepth 100000
set_option maxHeartbeats 4000000
/-! Defs that many laws have. -/
namespace Dl
open PySem
abbrev tup_ (l : List Int) : D := .tup (l.map .int)
abbrev pair_ (p : Nat × Int) : D := .tup [.int p.1, .int p.2]
theorem eq_tup : EqOk tup_ 1 := eq_int.tup
@[simp] theorem zipD_tup (x y : List D) : zipD (.tup x) (.tup y) = some (List.zipWith (fun d e => .tup [d, e]) x y) := .trans rfl rfl
@[simp] theorem zipD_mix (x y : List D) : zipD (.tup x) (.lst y) = some (List.zipWith (fun d e => .tup [d, e]) x y) := .trans rfl rfl
theorem getD_at {h : List Int} {d : Nat} (hd : d < h.length) : h[d]? = some (h.getD d 0) := get_getD hd 0
def zs (l : List Nat) : List Int := l.map fun (j : Nat) => (j : Int)
@[simp] theorem zs_length (l : List Nat) : (zs l).length = l.length := by simp [zs]
theorem nat_ints (l : List Nat) : l.map (fun j => D.int (j : Nat)) = (zs l).map .int := by
  unfold zs
  rw [List.map_map]
  rfl
theorem pick (l : List Int) (z : Int) (h0 : 0 ≤ z) (h1 : z < l.length) : ∃ v, v ∈ l ∧ L2.atI (l.map D.int) z = some (.int v) := by
  have hz : z.toNat < l.length := by omega
  refine ⟨l[z.toNat], List.getElem_mem hz, ?_⟩
  rw [atI_of _ _ h0, List.getElem?_map, List.getElem?_eq_getElem hz]
  rfl
theorem pickG {α : Type} (f : α → D) (l : List α) (z : Int) (h0 : 0 ≤ z) (h1 : z < l.length) : ∃ v, v ∈ l ∧ L2.atI (l.map f) z = some (f v) := by
  have hz : z.toNat < l.length := by omega
  refine ⟨l[z.toNat], List.getElem_mem hz, ?_⟩
  rw [atI_of _ _ h0, List.getElem?_map, List.getElem?_eq_getElem hz]
  rfl
theorem fdiv_bd (a b c : Int) (hb : 0 < b) (h0 : 0 ≤ a) (h1 : a < b * c) : 0 ≤ a.fdiv b ∧ a.fdiv b < c := by
  rw [Int.fdiv_eq_ediv_of_nonneg _ (by omega)]
  refine ⟨Int.ediv_nonneg h0 (by omega), Int.ediv_lt_of_lt_mul hb ?_⟩
  rw [Int.mul_comm]; exact h1
/-- cut at natural numbers -/
theorem cutL_nat {α : Type} (l : List α) (i j : Nat) : cutL l (some (i : Int)) (some (j : Int)) = (l.drop i).take (j - i) := by
  unfold cutL
  simp only [HT.sIx_nat]
  by_cases h : i ≤ l.length
  · rw [Nat.min_eq_left h]
    by_cases h2 : j ≤ l.length
    · rw [Nat.min_eq_left h2]
    · rw [Nat.min_eq_right (by omega), List.take_of_length_le (by simp), List.take_of_length_le (by simp; omega)]
  · rw [Nat.min_eq_right (a := i) (by omega), List.drop_eq_nil_of_le (as := l) (i := i) (by omega), List.drop_eq_nil_of_le (Nat.le_refl _)]
    simp
/-! ### _law_bent -/
def bBent : List CS := [(.set .b 3 (.bin .mod (.bi .int [(.idx (.var 1) (.int 0))]) (.int 6))), (.set .b 4 (.bin .mod (.bi .int [(.idx (.var 1) (.int 1))]) (.bin .add (.bi .len [(.var 0)]) (.int 1)))), (.set .b 5 (.idx (.tup [(.bin .sub (.bin .mod (.bi .int [(.idx (.var 1) (.int 2))]) (.bin .add (.var 2) (.int 3))) (.int 1)), (.bin .pow (.int 10) (.int 20)), (.bin .sub (.int 0) (.int 1))]) (.bin .fdiv (.bin .mod (.bin .fdiv (.bi .int [(.idx (.var 1) (.int 2))]) (.int 60)) (.int 14)) (.int 6)))), (.ifs (.cmp .eq (.var 3) (.int 0)) [(.ret (.bin .add (.slc (.var 0) .non (.var 4)) (.slc (.var 0) (.bin .add (.var 4) (.int 1)) .non)))] []), (.ifs (.cmp .eq (.var 3) (.int 1)) [(.ret (.bin .add (.bin .add (.slc (.var 0) .non (.var 4)) (.tup [(.var 5)])) (.slc (.var 0) (.var 4) .non)))] []), (.ifs (.cmp .lt (.var 3) (.int 4)) [(.ret (.bin .add (.bin .add (.slc (.var 0) .non (.var 4)) (.tup [(.var 5)])) (.slc (.var 0) (.bin .add (.var 4) (.int 1)) .non)))] []), (.ret (.ite (.cmp .eq (.var 3) (.int 4)) (.rev (.var 0)) (.bin .add (.slc (.var 0) .non (.var 4)) (.slc (.var 0) (.bi .max2 [(.int 0), (.bin .sub (.var 4) (.int 1))]) .non))))]
def fdBent : Fd := ⟨3, 6, bBent⟩
theorem bent_ok (cl : Nat → List D → Option D) (s : List Int) (a b c : Int) (r : List D) (most : Int) (hs : s.length ≤ 900) (hm : 0 < most + 3) :
    ∃ s' : List Int, s'.length ≤ s.length + 1 ∧ (∀ x ∈ s', x ∈ s ∨ (-1 ≤ x ∧ x < most + 2) ∨ x = 10 ^ 20 ∨ x = -1) ∧ runF cl fdBent [tup_ s, .lst (.int a :: .int b :: .int c :: r), .int most] = some (tup_ s') := by
  have w := fmod_bd a 6 (by omega)
  have at_ := fmod_bd b ((s.length : Int) + 1) (by omega)
  have o1 := fmod_bd c (most + 3) hm
  have o2 := fmod_bd (c.fdiv 60) 14 (by omega)
  have o3 := fdiv_bd ((c.fdiv 60).fmod 14) 6 3 (by omega) o2.1 (by omega)
  obtain ⟨odd, h1, h2⟩ := pick [c.fmod (most + 3) - 1, 10 ^ 20, -1] (((c.fdiv 60).fmod 14).fdiv 6) o3.1 (by simpa using o3.2)
  have hodd : (-1 ≤ odd ∧ odd < most + 2) ∨ odd = 10 ^ 20 ∨ odd = -1 := by
    simp at h1
    rcases h1 with rfl | rfl | rfl
    · left; omega
    · right; left; rfl
    · right; right; rfl
  simp only [List.map_cons, List.map_nil] at h2
  have pw : (10 : Int) ^ 20 = 100000000000000000000 := by decide
  rw [pw] at h2
  generalize e3 : ((c.fdiv 60).fmod 14).fdiv 6 = z3 at *
  generalize e1 : c.fmod (most + 3) = z1 at *
  generalize e6 : a.fmod 6 = way at *
  generalize eb : b.fmod ((s.length : Int) + 1) = at0 at *
  obtain ⟨k, rfl⟩ : ∃ k : Nat, at0 = k := ⟨at0.toNat, by omega⟩
  have hk : k ≤ s.length := by omega
  have hs2 : s.length ≤ 1000 := by omega
  have mp : most + 3 ≠ 0 := by omega
  have lp : (s.length : Int) + 1 ≠ 0 := by omega
  have c1 : cutL (s.map D.int) (some ((k : Int) + 1)) none = (s.drop (k + 1)).map D.int := by rw [show (k : Int) + 1 = ((k + 1 : Nat) : Int) by omega, cutL_from, List.map_drop]
  have c2 : cutL (s.map D.int) (some (k : Int)) none = (s.drop k).map D.int := by rw [cutL_from, List.map_drop]
  have c3 : cutL (s.map D.int) none (some (k : Int)) = (s.take k).map D.int := by rw [cutL_to, List.map_take]
  have b1 : k ≤ 1000 := by omega
  have q0 : min k s.length = k := Nat.min_eq_left hk
  have q1 : k + (s.length - (k + 1)) ≤ 1000 := by omega
  have q2 : k + 1 ≤ 1000 := by omega
  have q3 : k + 1 + (s.length - k) ≤ 1000 := by omega
  have q4 : k + 1 + (s.length - (k + 1)) ≤ 1000 := by omega
  have q5 : k + (s.length - (k - 1)) ≤ 1000 := by omega
  have q6 : k + (s.length - k + 1) ≤ 1000 := by omega
  have q7 : k + (s.length - (k + 1) + 1) ≤ 1000 := by omega
  have q8 : k ≤ s.length := hk
  unfold runF
  rw [if_pos (by rfl)]
  by_cases w0 : way = 0
  · refine ⟨s.take k ++ s.drop (k + 1), by simp; omega, fun x hx => ?_, ?_⟩
    · left
      rcases List.mem_append.mp hx with hx | hx
      · exact List.mem_of_mem_take hx
      · exact List.mem_of_mem_drop hx
    · simp [fdBent, bBent, startS, e1, e3, e6, eb, h2, mp, c1, c3, q0, q1, q2, q3, q4, q5, q6, q7, q8, w0]
  by_cases w1 : way = 1
  · refine ⟨s.take k ++ odd :: s.drop k, by simp; omega, fun x hx => ?_, ?_⟩
    · rcases List.mem_append.mp hx with hx | hx
      · exact .inl (List.mem_of_mem_take hx)
      · rcases List.mem_cons.mp hx with rfl | hx
        · exact .inr hodd
        · exact .inl (List.mem_of_mem_drop hx)
    · simp [fdBent, bBent, startS, e1, e3, e6, eb, h2, mp, c2, c3, q0, q1, q2, q3, q4, q5, q6, q7, q8, w0, w1]
  by_cases w4 : way < 4
  · refine ⟨s.take k ++ odd :: s.drop (k + 1), by simp; omega, fun x hx => ?_, ?_⟩
    · rcases List.mem_append.mp hx with hx | hx
      · exact .inl (List.mem_of_mem_take hx)
      · rcases List.mem_cons.mp hx with rfl | hx
        · exact .inr hodd
        · exact .inl (List.mem_of_mem_drop hx)
    · simp [fdBent, bBent, startS, e1, e3, e6, eb, h2, mp, c1, c3, q0, q1, q2, q3, q4, q5, q6, q7, q8, w0, w1, w4]
  by_cases w5 : way = 4
  · refine ⟨s.reverse, by simp, fun x hx => .inl (by simpa using hx), ?_⟩
    simp [fdBent, bBent, startS, e1, e3, e6, eb, h2, mp, w5]
  · have c4 : cutL (s.map D.int) (some (if (k : Int) - 1 > 0 then (k : Int) - 1 else 0)) none = (s.drop (k - 1)).map D.int := by
      have e : (if (k : Int) - 1 > 0 then (k : Int) - 1 else 0) = ((k - 1 : Nat) : Int) := by split <;> omega
      rw [e, cutL_from, List.map_drop]
    refine ⟨s.take k ++ s.drop (k - 1), by simp; omega, fun x hx => ?_, ?_⟩
    · left
      rcases List.mem_append.mp hx with hx | hx
      · exact List.mem_of_mem_take hx
      · exact List.mem_of_mem_drop hx
    · simp at c4
      simp [fdBent, bBent, startS, e1, e3, e6, eb, h2, mp, c3, c4, q0, q1, q2, q3, q4, q5, q6, q7, q8, w0, w1, w4, w5]
/-! ### _law_bent_row -/
def bBentRow : List CS := [(.set .b 3 (.bin .mod (.bi .int [(.idx (.var 1) (.int 0))]) (.int 6))), (.set .b 4 (.bin .mod (.bi .int [(.idx (.var 1) (.int 1))]) (.bin .add (.bi .len [(.var 0)]) (.int 1)))), (.set .b 5 (.idx (.var 2) (.bin .mod (.bi .int [(.idx (.var 1) (.int 2))]) (.bi .len [(.var 2)])))), (.ifs (.cmp .eq (.var 3) (.int 0)) [(.ret (.bin .add (.slc (.var 0) .non (.var 4)) (.slc (.var 0) (.bin .add (.var 4) (.int 1)) .non)))] []), (.ifs (.cmp .eq (.var 3) (.int 1)) [(.ret (.bin .add (.bin .add (.slc (.var 0) .non (.var 4)) (.tup [(.var 5)])) (.slc (.var 0) (.var 4) .non)))] []), (.ifs (.cmp .lt (.var 3) (.int 4)) [(.ret (.bin .add (.bin .add (.slc (.var 0) .non (.var 4)) (.tup [(.var 5)])) (.slc (.var 0) (.bin .add (.var 4) (.int 1)) .non)))] []), (.ret (.ite (.cmp .eq (.var 3) (.int 4)) (.rev (.var 0)) (.bin .add (.slc (.var 0) .non (.var 4)) (.slc (.var 0) (.bi .max2 [(.int 0), (.bin .sub (.var 4) (.int 1))]) .non))))]
def fdBentRow : Fd := ⟨3, 6, bBentRow⟩
theorem bent_row_ok {α : Type} (f : α → D) (hf : ∀ x, (f x).flat = true) (cl : Nat → List D → Option D) (s its : List α) (a b c : Int) (r : List D) (J : D) (hJ : J = .lst (its.map f) ∨ J = .tup (its.map f)) (hi : its ≠ []) (hs : s.length ≤ 900) :
    ∃ s' : List α, s'.length ≤ s.length + 1 ∧ (∀ x ∈ s', x ∈ s ∨ x ∈ its) ∧ runF cl fdBentRow [.tup (s.map f), .lst (.int a :: .int b :: .int c :: r), J] = some (.tup (s'.map f)) := by
  have w := fmod_bd a 6 (by omega)
  have at_ := fmod_bd b ((s.length : Int) + 1) (by omega)
  have ip : 0 < its.length := List.length_pos_iff.mpr hi
  have o1 := fmod_bd c (its.length : Int) (by omega)
  obtain ⟨odd, h1, h2⟩ := pickG f its (c.fmod (its.length : Int)) o1.1 o1.2
  generalize e1 : c.fmod (its.length : Int) = z1 at *
  generalize e6 : a.fmod 6 = way at *
  generalize eb : b.fmod ((s.length : Int) + 1) = at0 at *
  obtain ⟨k, rfl⟩ : ∃ k : Nat, at0 = k := ⟨at0.toNat, by omega⟩
  have hk : k ≤ s.length := by omega
  have hs2 : s.length ≤ 1000 := by omega
  have lp : (s.length : Int) + 1 ≠ 0 := by omega
  have ln : (its.length : Int) ≠ 0 := by omega
  have c1 : cutL (s.map f) (some ((k : Int) + 1)) none = (s.drop (k + 1)).map f := by rw [show (k : Int) + 1 = ((k + 1 : Nat) : Int) by omega, cutL_from, List.map_drop]
  have c2 : cutL (s.map f) (some (k : Int)) none = (s.drop k).map f := by rw [cutL_from, List.map_drop]
  have c3 : cutL (s.map f) none (some (k : Int)) = (s.take k).map f := by rw [cutL_to, List.map_take]
  have b1 : k ≤ 1000 := by omega
  have q0 : min k s.length = k := Nat.min_eq_left hk
  have q1 : k + (s.length - (k + 1)) ≤ 1000 := by omega
  have q2 : k + 1 ≤ 1000 := by omega
  have q3 : k + 1 + (s.length - k) ≤ 1000 := by omega
  have q4 : k + 1 + (s.length - (k + 1)) ≤ 1000 := by omega
  have q5 : k + (s.length - (k - 1)) ≤ 1000 := by omega
  have q6 : k + (s.length - k + 1) ≤ 1000 := by omega
  have q7 : k + (s.length - (k + 1) + 1) ≤ 1000 := by omega
  have q8 : k ≤ s.length := hk
  unfold runF
  rw [if_pos (by rfl)]
  by_cases w0 : way = 0
  · refine ⟨s.take k ++ s.drop (k + 1), by simp; omega, fun x hx => ?_, ?_⟩
    · left
      rcases List.mem_append.mp hx with hx | hx
      · exact List.mem_of_mem_take hx
      · exact List.mem_of_mem_drop hx
    · rcases hJ with rfl | rfl <;> simp [fdBentRow, bBentRow, startS, e1, e6, eb, h2, hi, hf, ln, c1, c3, q0, q1, q2, q3, q4, q5, q6, q7, q8, w0]
  by_cases w1 : way = 1
  · refine ⟨s.take k ++ odd :: s.drop k, by simp; omega, fun x hx => ?_, ?_⟩
    · rcases List.mem_append.mp hx with hx | hx
      · exact .inl (List.mem_of_mem_take hx)
      · rcases List.mem_cons.mp hx with rfl | hx
        · exact .inr h1
        · exact .inl (List.mem_of_mem_drop hx)
    · rcases hJ with rfl | rfl <;> simp [fdBentRow, bBentRow, startS, e1, e6, eb, h2, hi, hf, ln, c2, c3, q0, q1, q2, q3, q4, q5, q6, q7, q8, w0, w1]
  by_cases w4 : way < 4
  · refine ⟨s.take k ++ odd :: s.drop (k + 1), by simp; omega, fun x hx => ?_, ?_⟩
    · rcases List.mem_append.mp hx with hx | hx
      · exact .inl (List.mem_of_mem_take hx)
      · rcases List.mem_cons.mp hx with rfl | hx
        · exact .inr h1
        · exact .inl (List.mem_of_mem_drop hx)
    · rcases hJ with rfl | rfl <;> simp [fdBentRow, bBentRow, startS, e1, e6, eb, h2, hi, hf, ln, c1, c3, q0, q1, q2, q3, q4, q5, q6, q7, q8, w0, w1, w4]
  by_cases w5 : way = 4
  · refine ⟨s.reverse, by simp, fun x hx => .inl (by simpa using hx), ?_⟩
    rcases hJ with rfl | rfl <;> simp [fdBentRow, bBentRow, startS, e1, e6, eb, h2, hi, hf, ln, w5]
  · have c4 : cutL (s.map f) (some (if (k : Int) - 1 > 0 then (k : Int) - 1 else 0)) none = (s.drop (k - 1)).map f := by
      have e : (if (k : Int) - 1 > 0 then (k : Int) - 1 else 0) = ((k - 1 : Nat) : Int) := by split <;> omega
      rw [e, cutL_from, List.map_drop]
    refine ⟨s.take k ++ s.drop (k - 1), by simp; omega, fun x hx => ?_, ?_⟩
    · left
      rcases List.mem_append.mp hx with hx | hx
      · exact List.mem_of_mem_take hx
      · exact List.mem_of_mem_drop hx
    · simp at c4
      rcases hJ with rfl | rfl <;> simp [fdBentRow, bBentRow, startS, e1, e6, eb, h2, hi, hf, ln, c3, c4, q0, q1, q2, q3, q4, q5, q6, q7, q8, w0, w1, w4, w5]
end Dl
set_option Elab.async false
set_option linter.all false
set_option maxRecDepth 100000
set_option maxHeartbeats 4000000
/-! Handy lemmas that many laws want. -/
namespace Dl
open PySem
@[simp high] theorem biD_absA (i : Int) : biD .abs [.int i] = some (.int (ab i)) := .trans rfl rfl
@[simp high] theorem biD_maxM (i j : Int) : biD .max2 [.int i, .int j] = some (.int (mx i j)) := .trans rfl rfl
@[simp high] theorem biD_minM (i j : Int) : biD .min2 [.int i, .int j] = some (.int (mn i j)) := .trans rfl rfl
abbrev p2_ (x : Int × Int) : D := .tup [.int x.1, .int x.2]
theorem p2_at {l : List (Int × Int)} {i : Nat} (h : i < l.length) : (l.map p2_)[i]? = some (p2_ (l.getD i (0, 0))) := by
  rw [List.getElem?_map, get_getD h (0, 0)]
  rfl
abbrev natT (l : List Nat) : D := .tup (l.map fun j => .int (j : Nat))
theorem fits_natT (l : List Nat) (h : l.length ≤ 1000) : fits 1 (natT l) := ⟨by simp; omega, fun d hd => by
  obtain ⟨x, _, rfl⟩ := List.mem_map.mp hd
  exact fits_int _ _⟩
theorem fits_p2 (x : Int × Int) : fits 1 (p2_ x) := ⟨by simp, fun d hd => by
  simp at hd
  rcases hd with rfl | rfl <;> exact fits_int _ _⟩
theorem fits_p2s (w : List (Int × Int)) (h : w.length ≤ 1000) : fits 2 (.tup (w.map p2_)) := ⟨by simp; omega, fun d hd => by
  obtain ⟨x, _, rfl⟩ := List.mem_map.mp hd
  exact fits_p2 x⟩
theorem fits_tup_ (l : List Int) (h : l.length ≤ 1000) : fits 1 (tup_ l) := fits_ints (by omega)
theorem whileL_succ (c : RhoS → Option Bool) (f : RhoS → Option Res) (n : Nat) (ρ : RhoS) : whileL c f (n + 1) ρ = (c ρ).bind fun k => if k = true then (f ρ).bind fun r => turnR r (whileL c f n) else some (.nx ρ) := .trans rfl rfl
theorem forL_range (f : D → RhoS → Option Res) (P : Nat → RhoS → Prop) (n : Nat) (σ : RhoS) (h0 : P 0 σ) (h : ∀ i, i < n → ∀ σ, P i σ → ∃ σ', f (.int i) σ = some (.nx σ') ∧ P (i + 1) σ') : ∃ σ', forL f ((List.range n).map fun i => .int (i : Nat)) σ = some (.nx σ') ∧ P n σ' := by
  have := forL_inv f P ((List.range n).map fun i => .int (i : Nat)) 0 σ h0 fun i x σ hx hp => by
    rw [List.getElem?_map] at hx
    obtain ⟨j, hj, rfl⟩ := Option.map_eq_some_iff.mp hx
    obtain ⟨hi, e⟩ := List.getElem?_eq_some_iff.mp hj
    simp at hi e
    subst e
    rw [Nat.zero_add] at hp ⊢
    exact h i hi σ hp
  simpa using this
theorem forL_rangeG (g : Nat → D) (f : D → RhoS → Option Res) (P : Nat → RhoS → Prop) (n : Nat) (σ : RhoS) (h0 : P 0 σ) (h : ∀ i, i < n → ∀ σ, P i σ → ∃ σ', f (g i) σ = some (.nx σ') ∧ P (i + 1) σ') : ∃ σ', forL f ((List.range n).map g) σ = some (.nx σ') ∧ P n σ' := by
  have := forL_inv f P ((List.range n).map g) 0 σ h0 fun i x σ hx hp => by
    rw [List.getElem?_map] at hx
    obtain ⟨j, hj, rfl⟩ := Option.map_eq_some_iff.mp hx
    obtain ⟨hi, e⟩ := List.getElem?_eq_some_iff.mp hj
    simp at hi e
    subst e
    rw [Nat.zero_add] at hp ⊢
    exact h i hi σ hp
  simpa using this
theorem enumF_getD {α : Type} (f : α → D) (d : α) : ∀ (l : List α) (k : Nat), enumF k (l.map f) = (List.range l.length).map fun i => .tup [.int ((k + i : Nat) : Int), f (l.getD i d)]
  | [], _ => rfl
  | x :: l, k => by
    rw [List.map_cons, enumF, enumF_getD f d l (k + 1), List.length_cons, List.range_succ_eq_map, List.map_cons, List.map_map]
    congr 1
    apply List.map_congr_left
    intro i _
    simp
    omega
theorem find_first (p : Nat → Bool) (k : Nat) (hk : p k = true) (hl : ∀ i, i < k → p i = false) (n : Nat) (h : k < n) : (List.range n).find? p = some k := by
  rw [List.find?_eq_some_iff_append]
  refine ⟨hk, List.range k, (List.range (n - (k + 1))).map fun i => k + 1 + i, ?_, fun x hx => by simp [hl x (List.mem_range.mp hx)]⟩
  have : n = k + 1 + (n - (k + 1)) := by omega
  conv => lhs; rw [this, List.range_add, List.range_succ]
  simp
theorem bind_rt {f g : RhoS → Option Res} {σ : RhoS} {d : D} (h : f σ = some (.rt d)) : ((f σ).bind fun r => thenR r g) = some (.rt d) := by rw [h]; rfl
@[simp] theorem ltD_pair (a b c d : Int) : ltD (.tup [.int a, .int b]) (.tup [.int c, .int d]) = some (decide (a < c ∨ (a = c ∧ b < d))) := by
  show some (HT.lexLt [a, b] [c, d]) = _
  congr 1
  simp only [HT.lexLt]
  by_cases h1 : a = c
  · by_cases h2 : b = d <;> simp [h1, h2]
  · simp [h1]
/-- sums of the first -/
def pw (w : Nat → Int) : Nat → Int
  | 0 => 0
  | i + 1 => pw w i + w i
theorem pw_range (w : Nat → Int) (i : Nat) : ∀ k, ((List.range k).map fun t => w (i + t)).sum = pw w (i + k) - pw w i
  | 0 => by simp
  | k + 1 => by
    rw [List.range_succ, List.map_append, List.sum_append, pw_range w i k]
    show _ + (w (i + k) + 0) = pw w (i + k) + w (i + k) - pw w i
    omega
theorem pw_mono {w : Nat → Int} (h : ∀ i, 0 ≤ w i) {i : Nat} : ∀ {j : Nat}, i ≤ j → pw w i ≤ pw w j
  | 0, q => by
    have : i = 0 := by omega
    subst this
    omega
  | j + 1, q => by
    by_cases z : i = j + 1
    · subst z; omega
    · have := pw_mono h (i := i) (j := j) (by omega)
      have := h j
      show _ ≤ pw w j + w j
      omega
end Dl
set_option Elab.async false
set_option linter.all false
set_option maxRecDepth 100000
set_option maxHeartbeats 4000000
/-! Data with an order: least, greatest, sorted. -/
namespace Dl
open PySem
structure OrdD {α : Type} [DecidableEq α] (f : α → D) (l : α → α → Bool) (k : Nat) : Prop where
  e : EqOk f k
  al : ∀ a b, PySem.W.alike (f a).py (f b).py = true
  lt : ∀ a b, PySem.W.dataLt (f a).py (f b).py = l a b
  nn : ∀ a, notNon (f a) = true
  fl : ∀ a, (f a).flat = true
  tri : ∀ a b, l a b = false → l b a = false → a = b
def ltI (a b : Int) : Bool := decide (a < b)
def ltN (a b : Nat) : Bool := decide (a < b)
def ltP {α β : Type} [DecidableEq α] (l : α → α → Bool) (m : β → β → Bool) (p q : α × β) : Bool := if p.1 = q.1 then m p.2 q.2 else l p.1 q.1
def ltL {α : Type} [DecidableEq α] (l : α → α → Bool) : List α → List α → Bool
  | [], [] => false
  | [], _ :: _ => true
  | _ :: _, [] => false
  | x :: xs, y :: ys => if x = y then ltL l xs ys else l x y
theorem ltL_cons {α : Type} [DecidableEq α] (l : α → α → Bool) (x y : α) (xs ys : List α) : ltL l (x :: xs) (y :: ys) = if x = y then ltL l xs ys else l x y := .trans rfl rfl
section
variable {α β : Type} [DecidableEq α] [DecidableEq β] {f : α → D} {g : β → D} {l : α → α → Bool} {m : β → β → Bool} {k : Nat}
theorem OrdD.irr (o : OrdD f l k) (a : α) : l a a = false := by
  rw [← o.lt]
  exact PyProof.Rows.lex_irrefl _
theorem OrdD.tr (o : OrdD f l k) {a b c : α} (h1 : l a b = true) (h2 : l b c = true) : l a c = true := by
  rw [← o.lt] at h1 h2 ⊢
  exact PyProof.Rows.lex_trans _ _ _ h1 h2
theorem OrdD.asy (o : OrdD f l k) {a b : α} (h1 : l a b = true) : l b a = false := by
  cases h : l b a with
  | false => rfl
  | true =>
    have := o.tr h1 h
    rw [o.irr] at this
    cases this
/-- not greater, handed on -/
theorem OrdD.le_tr (o : OrdD f l k) {a b c : α} (h1 : l b a = false) (h2 : l c b = false) : l c a = false := by
  cases h : l c a with
  | false => rfl
  | true =>
    cases h3 : l a b with
    | true =>
      have := o.tr h h3
      rw [h2] at this
      cases this
    | false =>
      have := o.tri _ _ h3 h1
      subst this
      rw [h2] at h
      cases h
theorem ordI : OrdD D.int ltI 0 := ⟨eq_int, fun a b => by simp [D.py, PySem.W.alike], fun a b => PySem.W.dataLt_int a b, fun _ => rfl, fun _ => rfl, fun a b h1 h2 => by
  have := of_decide_eq_false h1
  have := of_decide_eq_false h2
  omega⟩
theorem OrdD.comp {γ : Type} [DecidableEq γ] (o : OrdD f l k) (c : γ → α) (inj : ∀ a b, c a = c b → a = b) : OrdD (fun x => f (c x)) (fun a b => l (c a) (c b)) k := ⟨o.e.comp c inj, fun a b => o.al _ _, fun a b => o.lt _ _, fun a => o.nn _, fun a => o.fl _, fun a b h1 h2 => inj _ _ (o.tri _ _ h1 h2)⟩
theorem ordN : OrdD (fun j : Nat => D.int (j : Nat)) ltN 0 := by
  have := ordI.comp (fun j : Nat => (j : Int)) fun a b h => by omega
  have e : (fun a b : Nat => ltI (a : Int) (b : Int)) = ltN := by
    funext a b
    unfold ltI ltN
    congr 1
    exact propext (by omega)
  rw [e] at this
  exact this
theorem OrdD.pair (o : OrdD f l k) (p : OrdD g m k) : OrdD (fun x : α × β => D.tup [f x.1, g x.2]) (ltP l m) (k + 1) := ⟨o.e.pair p.e, fun a b => by
  simp only [D.py, pys, PySem.W.alike, PySem.W.alikeAll, o.al, p.al, Bool.and_self, Bool.true_and], fun a b => by
  show PySem.W.dataLt (.tuple [(f a.1).py, (g a.2).py]) (.tuple [(f b.1).py, (g b.2).py]) = _
  rw [PySem.W.dataLt_pair (o.al _ _) (p.al _ _), o.e.eq, p.e.eq, o.lt, p.lt]
  unfold ltP
  by_cases h : a.1 = b.1
  · rw [if_pos (decide_eq_true h), if_pos h]
    by_cases h2 : a.2 = b.2
    · rw [if_pos (decide_eq_true h2), h2, p.irr]
    · rw [if_neg (by simp [h2])]
  · rw [if_neg (by simp [h]), if_neg h], fun _ => rfl, fun a => by simp [o.fl, p.fl], fun a b h1 h2 => by
  unfold ltP at h1 h2
  by_cases h : a.1 = b.1
  · rw [if_pos h] at h1
    rw [if_pos h.symm] at h2
    exact Prod.ext h (p.tri _ _ h1 h2)
  · rw [if_neg h] at h1
    rw [if_neg (Ne.symm h)] at h2
    exact absurd (o.tri _ _ h1 h2) h⟩
theorem OrdD.alA (o : OrdD f l k) : ∀ a b : List α, PySem.W.alikeAll (pys (a.map f)) (pys (b.map f)) = true
  | [], _ => by simp [pys, PySem.W.alikeAll]
  | _ :: _, [] => by simp [pys, PySem.W.alikeAll]
  | x :: a, y :: b => by
    simp only [List.map_cons, pys, PySem.W.alikeAll, o.al, o.alA a b, Bool.and_self]
theorem OrdD.ltA (o : OrdD f l k) : ∀ a b : List α, PySem.W.rowLt (pys (a.map f)) (pys (b.map f)) = ltL l a b
  | [], [] => PyProof.Rows.lex_irrefl _
  | [], y :: ys => by
    unfold PySem.W.rowLt
    rw [List.map_nil, List.map_cons, pys, pys, PySem.W.toks_all_cons]
    simp only [PySem.W.keyToksAll]
    rw [PyProof.Rows.lex_diff (O := PyProof.Rows.itemOrd) (by simp)]
    rfl
  | x :: xs, [] => by
    unfold PySem.W.rowLt
    rw [List.map_nil, List.map_cons, pys, pys, PySem.W.toks_all_cons]
    simp only [PySem.W.keyToksAll]
    rw [PyProof.Rows.lex_diff (O := PyProof.Rows.itemOrd) (by simp)]
    rfl
  | x :: xs, y :: ys => by
    unfold PySem.W.rowLt
    rw [List.map_cons, List.map_cons, pys, pys, PySem.W.dataLt_cons (o.al x y), o.e.eq, o.lt]
    have := o.ltA xs ys
    unfold PySem.W.rowLt at this
    rw [this, ltL_cons]
    by_cases h : x = y
    · rw [if_pos (decide_eq_true h), if_pos h]
    · rw [if_neg (by simp [h]), if_neg h]
theorem ltL_tri (h : ∀ a b, l a b = false → l b a = false → a = b) : ∀ a b : List α, ltL l a b = false → ltL l b a = false → a = b
  | [], [], _, _ => rfl
  | [], y :: b, h1, _ => by simp [ltL] at h1
  | x :: a, [], _, h2 => by simp [ltL] at h2
  | x :: a, y :: b, h1, h2 => by
    rw [ltL_cons] at h1 h2
    by_cases q : x = y
    · subst q
      rw [if_pos rfl] at h1 h2
      rw [ltL_tri h a b h1 h2]
    · rw [if_neg q] at h1
      rw [if_neg (Ne.symm q)] at h2
      exact absurd (h _ _ h1 h2) q
theorem OrdD.tup (o : OrdD f l k) : OrdD (fun x : List α => D.tup (x.map f)) (ltL l) (k + 1) := ⟨o.e.tup, fun a b => by
  simp only [D.py, PySem.W.alike]
  exact o.alA a b, fun a b => by
  show PySem.W.dataLt (.tuple _) (.tuple _) = _
  rw [PySem.W.dataLt_tuple]
  exact o.ltA a b, fun _ => rfl, fun a => by
  rw [flat_tup]
  exact flats_map _ _ fun x _ => o.fl x, ltL_tri o.tri⟩
theorem OrdD.mono (o : OrdD f l k) {k' : Nat} (h : k ≤ k') : OrdD f l k' := ⟨o.e.mono h, o.al, o.lt, o.nn, o.fl, o.tri⟩
/-! ### the least, the greatest -/
def leastF (l : α → α → Bool) (x : α) (xs : List α) : α := xs.foldl (fun a y => if l y a = true then y else a) x
def greatF (l : α → α → Bool) (x : α) (xs : List α) : α := xs.foldl (fun a y => if l a y = true then y else a) x
theorem OrdD.minDD (o : OrdD f l k) (x : α) (xs : List α) : Dl.minDD (f x) (xs.map f) = f (leastF l x xs) := by
  unfold Dl.minDD leastF
  induction xs generalizing x with
  | nil => rfl
  | cons y xs ih =>
    simp only [List.map_cons, List.foldl_cons, o.lt]
    rw [← ih]
    split <;> rfl
theorem OrdD.maxDD (o : OrdD f l k) (x : α) (xs : List α) : Dl.maxDD (f x) (xs.map f) = f (greatF l x xs) := by
  unfold Dl.maxDD greatF
  induction xs generalizing x with
  | nil => rfl
  | cons y xs ih =>
    simp only [List.map_cons, List.foldl_cons, o.lt]
    rw [← ih]
    split <;> rfl
theorem OrdD.guard (o : OrdD f l k) (hk : k ≤ 64) (xs : List α) : alikeL (xs.map f) = true ∧ (xs.map f).all notNon = true ∧ flats (xs.map f) = true ∧ PyData.depthAll (pys (xs.map f)) ≤ 64 := by
  refine ⟨?_, ?_, flats_map _ _ fun x _ => o.fl x, ?_⟩
  · simp only [alikeL, List.all_eq_true, List.mem_map, forall_exists_index, and_imp]
    rintro _ a _ rfl _ b _ rfl
    exact o.al a b
  · simp only [List.all_eq_true, List.mem_map, forall_exists_index, and_imp]
    rintro _ a _ rfl
    exact o.nn a
  · have := depAll_le (k := k) (l := xs.map f) fun d hd => by
      obtain ⟨a, _, rfl⟩ := List.mem_map.mp hd
      exact o.e.dep a
    omega
theorem OrdD.least (o : OrdD f l k) : ∀ (xs : List α) (x : α), leastF l x xs ∈ x :: xs ∧ ∀ y ∈ x :: xs, l y (leastF l x xs) = false
  | [], x => ⟨by simp [leastF], fun y hy => by
    rw [List.mem_singleton.mp hy]
    exact o.irr x⟩
  | z :: xs, x => by
    have e : leastF l x (z :: xs) = leastF l (if l z x = true then z else x) xs := rfl
    obtain ⟨h1, h2⟩ := OrdD.least o xs (if l z x = true then z else x)
    rw [e]
    constructor
    · simp only [List.mem_cons] at h1 ⊢
      rcases h1 with h1 | h1
      · rw [h1]; split <;> simp
      · exact .inr (.inr h1)
    · have h3 := h2 _ (List.mem_cons_self ..)
      intro y hy
      simp only [List.mem_cons] at hy
      rcases hy with rfl | rfl | hy
      · by_cases q : l z y = true
        · rw [if_pos q] at h3 ⊢
          exact o.le_tr h3 (o.asy q)
        · rw [if_neg q] at h3 ⊢
          exact h3
      · by_cases q : l y x = true
        · rw [if_pos q] at h3 ⊢
          exact h3
        · rw [if_neg q] at h3 ⊢
          exact o.le_tr h3 (by simpa using q)
      · exact h2 y (List.mem_cons_of_mem _ hy)
theorem OrdD.great (o : OrdD f l k) : ∀ (xs : List α) (x : α), greatF l x xs ∈ x :: xs ∧ ∀ y ∈ x :: xs, l (greatF l x xs) y = false
  | [], x => ⟨by simp [greatF], fun y hy => by
    rw [List.mem_singleton.mp hy]
    exact o.irr x⟩
  | z :: xs, x => by
    have e : greatF l x (z :: xs) = greatF l (if l x z = true then z else x) xs := rfl
    obtain ⟨h1, h2⟩ := OrdD.great o xs (if l x z = true then z else x)
    rw [e]
    constructor
    · simp only [List.mem_cons] at h1 ⊢
      rcases h1 with h1 | h1
      · rw [h1]; split <;> simp
      · exact .inr (.inr h1)
    · have h3 := h2 _ (List.mem_cons_self ..)
      intro y hy
      simp only [List.mem_cons] at hy
      rcases hy with rfl | rfl | hy
      · by_cases q : l y z = true
        · rw [if_pos q] at h3 ⊢
          exact o.le_tr (o.asy q) h3
        · rw [if_neg q] at h3 ⊢
          exact h3
      · by_cases q : l x y = true
        · rw [if_pos q] at h3 ⊢
          exact h3
        · rw [if_neg q] at h3 ⊢
          exact o.le_tr (by simpa using q) h3
      · exact h2 y (List.mem_cons_of_mem _ hy)
/-- the least, where one is known that none is below -/
theorem OrdD.best_min (o : OrdD f l k) (hk : k ≤ 64) {xs : List α} {x : α} (hx : x ∈ xs) (h : ∀ y ∈ xs, l y x = false) : bestD Dl.minDD (xs.map f) = some (f x) := by
  cases xs with
  | nil => cases hx
  | cons z xs =>
    have hg := o.guard hk (z :: xs)
    rw [List.map_cons] at hg ⊢
    show grd _ _ = _
    rw [grd_true hg, o.minDD]
    obtain ⟨h1, h2⟩ := o.least xs z
    rw [o.tri _ _ (h _ h1) (h2 _ hx)]
theorem OrdD.best_max (o : OrdD f l k) (hk : k ≤ 64) {xs : List α} {x : α} (hx : x ∈ xs) (h : ∀ y ∈ xs, l x y = false) : bestD Dl.maxDD (xs.map f) = some (f x) := by
  cases xs with
  | nil => cases hx
  | cons z xs =>
    have hg := o.guard hk (z :: xs)
    rw [List.map_cons] at hg ⊢
    show grd _ _ = _
    rw [grd_true hg, o.maxDD]
    obtain ⟨h1, h2⟩ := o.great xs z
    rw [o.tri _ _ (h2 _ hx) (h _ h1)]
theorem OrdD.has_min (o : OrdD f l k) {xs : List α} (h : xs ≠ []) : ∃ x ∈ xs, ∀ y ∈ xs, l y x = false := by
  cases xs with
  | nil => exact absurd rfl h
  | cons z xs => exact ⟨_, (o.least xs z).1, (o.least xs z).2⟩
theorem OrdD.has_max (o : OrdD f l k) {xs : List α} (h : xs ≠ []) : ∃ x ∈ xs, ∀ y ∈ xs, l x y = false := by
  cases xs with
  | nil => exact absurd rfl h
  | cons z xs => exact ⟨_, (o.great xs z).1, (o.great xs z).2⟩
/-! ### sorted -/
def srt (l : α → α → Bool) (xs : List α) : List α := xs.mergeSort fun a b => !l b a
theorem OrdD.sorted (o : OrdD f l k) (hk : k ≤ 64) {xs : List α} (hs : sortable (xs.map f) = true) (hl : xs.length ≤ sizeLine) : sortD (xs.map f) = some ((srt l xs).map f) := by
  have hg := o.guard hk xs
  unfold sortD
  rw [grd_true ⟨hg.1, hs, by rw [List.length_map]; exact hl, by
    simp only [List.all_eq_true, List.mem_map, forall_exists_index, and_imp]
    rintro _ a _ rfl
    have := o.e.dep a
    exact decide_eq_true (by omega)⟩]
  unfold srt
  rw [List.map_mergeSort (s := leDD)]
  intro a _ b _
  show (!l b a) = !(PySem.W.dataLt (f b).py (f a).py)
  rw [o.lt]
theorem srt_perm (l : α → α → Bool) (xs : List α) : (srt l xs).Perm xs := List.mergeSort_perm _ _
theorem srt_mem (l : α → α → Bool) {xs : List α} {x : α} : x ∈ srt l xs ↔ x ∈ xs := (srt_perm l xs).mem_iff
theorem srt_length (l : α → α → Bool) (xs : List α) : (srt l xs).length = xs.length := (srt_perm l xs).length_eq
theorem OrdD.srt_pw (o : OrdD f l k) (xs : List α) : (srt l xs).Pairwise fun a b => l b a = false := by
  have := List.pairwise_mergeSort (le := fun a b => !l b a) (fun a b c h1 h2 => by
    simp only [Bool.not_eq_true'] at h1 h2 ⊢
    exact o.le_tr h1 h2) (fun a b => by
    cases h : l b a with
    | false => simp
    | true => rw [o.asy h]; simp) xs
  exact this.imp fun h => by simpa using h
end
end Dl
set_option Elab.async false
set_option linter.all false
set_option maxRecDepth 100000
set_option maxHeartbeats 4000000
/-! Every course within bounds, in order. -/
namespace Dl
open PySem
/-! ### every course -/
def rgI (p : Int × Int) : List Int := (List.range (p.2 + 1 - p.1).toNat).map fun i => p.1 + (i : Nat)
def stepP (F : List (List Int)) (p : Int × Int) : List (List Int) := F.flatMap fun c => (rgI p).map fun v => c ++ [v]
def pr (B : List (Int × Int)) : List (List Int) := B.foldl stepP [[]]
def btw : List (Int × Int) → List Int → Prop
  | [], [] => True
  | p :: B, v :: t => p.1 ≤ v ∧ v ≤ p.2 ∧ btw B t
  | _, _ => False
def okB (B : List (Int × Int)) : Prop := ∀ p ∈ B, 0 ≤ p.1 ∧ p.1 ≤ p.2 ∧ p.2 ≤ p.1 + 2
theorem fold_mm : ∀ (B : List (Int × Int)) (F : List (List Int)) (c : List Int), c ∈ B.foldl stepP F → ∃ c0 t, c0 ∈ F ∧ c = c0 ++ t ∧ btw B t
  | [], F, c, h => ⟨c, [], h, by simp, trivial⟩
  | p :: B, F, c, h => by
    obtain ⟨c1, t, h1, rfl, h3⟩ := fold_mm B _ c h
    unfold stepP at h1
    obtain ⟨c0, h4, h5⟩ := List.mem_flatMap.mp h1
    obtain ⟨v, hv, rfl⟩ := List.mem_map.mp h5
    unfold rgI at hv
    obtain ⟨i, hi, rfl⟩ := List.mem_map.mp hv
    have := List.mem_range.mp hi
    exact ⟨c0, (p.1 + (i : Nat)) :: t, h4, by simp, by omega, by omega, h3⟩
theorem pr_mem {B : List (Int × Int)} {c : List Int} (h : c ∈ pr B) : btw B c := by
  obtain ⟨c0, t, h1, rfl, h3⟩ := fold_mm B _ c h
  rw [List.mem_singleton.mp h1]
  exact h3
theorem rgI_cons {p : Int × Int} (h : p.1 ≤ p.2) : (∃ r, rgI p = p.1 :: r) ∧ ∃ r, rgI p = r ++ [p.2] := by
  unfold rgI
  obtain ⟨k, hk⟩ : ∃ k, (p.2 + 1 - p.1).toNat = k + 1 := ⟨(p.2 - p.1).toNat, by omega⟩
  rw [hk]
  constructor
  · rw [List.range_succ_eq_map, List.map_cons]
    exact ⟨_, by simp only [Int.natCast_zero, Int.add_zero]; rfl⟩
  · rw [List.range_succ, List.map_append]
    refine ⟨(List.range k).map fun i => p.1 + (i : Nat), ?_⟩
    congr 1
    simp
    omega
theorem fold_hd : ∀ (B : List (Int × Int)) (F : List (List Int)), okB B → (B.foldl stepP F).head? = F.head?.map (· ++ B.map (·.1))
  | [], F, _ => by cases F <;> simp
  | p :: B, F, h => by
    have hp := h p (by simp)
    obtain ⟨⟨r, hr⟩, _⟩ := rgI_cons hp.2.1
    rw [List.foldl_cons, fold_hd B _ fun q hq => h q (by simp [hq])]
    cases F with
    | nil => rfl
    | cons c F =>
      unfold stepP
      rw [List.flatMap_cons, hr]
      simp
theorem fold_lt : ∀ (B : List (Int × Int)) (F : List (List Int)), okB B → (B.foldl stepP F).getLast? = F.getLast?.map (· ++ B.map (·.2))
  | [], F, _ => by cases h : F.getLast? <;> simp [h]
  | p :: B, F, h => by
    have hp := h p (by simp)
    obtain ⟨_, ⟨r, hr⟩⟩ := rgI_cons hp.2.1
    rw [List.foldl_cons, fold_lt B _ fun q hq => h q (by simp [hq])]
    rcases List.eq_nil_or_concat F with rfl | ⟨F', c, rfl⟩
    · rfl
    · unfold stepP
      rw [List.concat_eq_append, List.flatMap_append, List.flatMap_cons, List.flatMap_nil, hr]
      simp
theorem stepP_len {p : Int × Int} (h : 0 ≤ p.1 ∧ p.1 ≤ p.2 ∧ p.2 ≤ p.1 + 2) : ∀ F : List (List Int), (stepP F p).length ≤ 3 * F.length
  | [] => by simp [stepP]
  | c :: F => by
    have := stepP_len h F
    unfold stepP at this ⊢
    rw [List.flatMap_cons, List.length_append, List.length_map, List.length_cons]
    have : (rgI p).length ≤ 3 := by unfold rgI; simp; omega
    omega
theorem fold_ln : ∀ (B : List (Int × Int)) (F : List (List Int)), okB B → (B.foldl stepP F).length ≤ 3 ^ B.length * F.length
  | [], F, _ => by simp
  | p :: B, F, h => by
    have h1 := fold_ln B (stepP F p) fun q hq => h q (by simp [hq])
    have h2 := stepP_len (h p (by simp)) F
    rw [List.foldl_cons, List.length_cons, Nat.pow_succ]
    calc _ ≤ _ := h1
      _ ≤ 3 ^ B.length * (3 * F.length) := Nat.mul_le_mul_left _ h2
      _ = _ := by rw [Nat.mul_assoc]
theorem pr_len {B : List (Int × Int)} (h : okB B) (hl : B.length ≤ 4) : (pr B).length ≤ 81 := by
  have h1 := fold_ln B [[]] h
  have : 3 ^ B.length ≤ 3 ^ 4 := Nat.pow_le_pow_right (by omega) hl
  simp only [List.length_singleton, Nat.mul_one] at h1
  unfold pr
  omega
theorem btw_get : ∀ {B : List (Int × Int)} {c : List Int}, btw B c → c.length = B.length ∧ ∀ i, (B.map (·.1)).getD i 0 ≤ c.getD i 0 ∧ c.getD i 0 ≤ (B.map (·.2)).getD i 0
  | [], [], _ => ⟨rfl, fun i => by simp⟩
  | p :: B, v :: t, h => by
    obtain ⟨h1, h2, h3⟩ := h
    obtain ⟨l, g⟩ := btw_get h3
    refine ⟨by simp [l], fun i => ?_⟩
    cases i with
    | zero => exact ⟨h1, h2⟩
    | succ i => simpa using g i
  | [], v :: t, h => h.elim
  | p :: B, [], h => h.elim
theorem mem_rgI {p : Int × Int} {v : Int} : v ∈ rgI p ↔ p.1 ≤ v ∧ v ≤ p.2 := by
  unfold rgI
  rw [List.mem_map]
  constructor
  · rintro ⟨i, hi, rfl⟩
    have := List.mem_range.mp hi
    omega
  · rintro ⟨h1, h2⟩
    exact ⟨(v - p.1).toNat, List.mem_range.mpr (by omega), by omega⟩
theorem mem_fold : ∀ (B : List (Int × Int)) (F : List (List Int)) (c0 t : List Int), c0 ∈ F → btw B t → c0 ++ t ∈ B.foldl stepP F
  | [], F, c0, [], h, _ => by simpa using h
  | [], F, c0, v :: t, h, b => b.elim
  | p :: B, F, c0, [], h, b => b.elim
  | p :: B, F, c0, v :: t, h, b => by
    have := mem_fold B (stepP F p) (c0 ++ [v]) t (by
      unfold stepP
      exact List.mem_flatMap.mpr ⟨c0, h, List.mem_map.mpr ⟨v, mem_rgI.mpr ⟨b.1, b.2.1⟩, rfl⟩⟩) b.2.2
    simpa using this
theorem pr_iff {B : List (Int × Int)} {c : List Int} : c ∈ pr B ↔ btw B c :=
  ⟨pr_mem, fun h => mem_fold B [[]] [] c (by simp) h⟩
theorem btw_take : ∀ {B : List (Int × Int)} {c : List Int} (k : Nat), btw B c → btw (B.take k) (c.take k)
  | _, _, 0, _ => by simp [btw]
  | [], [], k + 1, _ => trivial
  | p :: B, v :: t, k + 1, h => ⟨h.1, h.2.1, btw_take k h.2.2⟩
  | [], v :: t, k + 1, h => h.elim
  | p :: B, [], k + 1, h => h.elim
theorem btw_app : ∀ {B B' : List (Int × Int)} {c c' : List Int}, btw B c → btw B' c' → btw (B ++ B') (c ++ c')
  | [], B', [], c', _, h => h
  | p :: B, B', v :: t, c', h, h' => ⟨h.1, h.2.1, btw_app h.2.2 h'⟩
  | [], B', v :: t, c', h, _ => h.elim
  | p :: B, B', [], c', h, _ => h.elim
theorem btw_fst : ∀ {B : List (Int × Int)}, (∀ p ∈ B, p.1 ≤ p.2) → btw B (B.map (·.1))
  | [], _ => trivial
  | p :: B, h => ⟨Int.le_refl _, h p (by simp), btw_fst fun q hq => h q (by simp [hq])⟩
theorem btw_snd : ∀ {B : List (Int × Int)}, (∀ p ∈ B, p.1 ≤ p.2) → btw B (B.map (·.2))
  | [], _ => trivial
  | p :: B, h => ⟨h p (by simp), Int.le_refl _, btw_snd fun q hq => h q (by simp [hq])⟩
theorem ltL_app {α : Type} [DecidableEq α] {l : α → α → Bool} : ∀ {a b : List α} (x y : List α), a.length = b.length → ltL l a b = true → ltL l (a ++ x) (b ++ y) = true
  | [], [], _, _, _, h => by simp [ltL] at h
  | u :: a, v :: b, x, y, hl, h => by
    rw [List.cons_append, List.cons_append, ltL_cons]
    rw [ltL_cons] at h
    by_cases q : u = v
    · rw [if_pos q] at h ⊢
      exact ltL_app x y (by simpa using hl) h
    · rw [if_neg q] at h ⊢
      exact h
  | [], v :: b, _, _, hl, _ => by simp at hl
  | u :: a, [], _, _, hl, _ => by simp at hl
theorem ltL_self {α : Type} [DecidableEq α] {l : α → α → Bool} : ∀ (a x y : List α), ltL l (a ++ x) (a ++ y) = ltL l x y
  | [], _, _ => rfl
  | u :: a, x, y => by
    rw [List.cons_append, List.cons_append, ltL_cons, if_pos rfl]
    exact ltL_self a x y
theorem fold_pw : ∀ (B : List (Int × Int)) (F : List (List Int)) (n : Nat), (∀ c ∈ F, c.length = n) → F.Pairwise (fun a b => ltL ltI a b = true) → (B.foldl stepP F).Pairwise fun a b => ltL ltI a b = true
  | [], F, n, _, h => h
  | p :: B, F, n, hn, h => by
    rw [List.foldl_cons]
    refine fold_pw B (stepP F p) (n + 1) (fun c hc => ?_) ?_
    · unfold stepP at hc
      obtain ⟨c0, h1, h2⟩ := List.mem_flatMap.mp hc
      obtain ⟨v, _, rfl⟩ := List.mem_map.mp h2
      simp [hn c0 h1]
    · unfold stepP
      rw [List.pairwise_flatMap]
      refine ⟨fun c hc => ?_, ?_⟩
      · rw [List.pairwise_map]
        unfold rgI
        rw [List.pairwise_map]
        refine List.pairwise_lt_range.imp fun {i j} hij => ?_
        rw [ltL_self]
        have e : p.1 + (i : Int) ≠ p.1 + (j : Int) := by omega
        rw [ltL_cons, if_neg e]
        exact decide_eq_true (by omega)
      · refine h.imp_of_mem fun {a b} ha hb hab => ?_
        intro x hx y hy
        obtain ⟨v, _, rfl⟩ := List.mem_map.mp hx
        obtain ⟨v', _, rfl⟩ := List.mem_map.mp hy
        exact ltL_app _ _ (by rw [hn a ha, hn b hb]) hab
theorem pr_pw (B : List (Int × Int)) : (pr B).Pairwise fun a b => ltL ltI a b = true := fold_pw B [[]] 0 (by simp) (by simp)
/-- the first that fits is the least that fits -/
theorem find_least {α : Type} {l : α → α → Bool} (asy : ∀ a b, l a b = true → l b a = false) (irr : ∀ a, l a a = false) (p : α → Bool) : ∀ {xs : List α}, xs.Pairwise (fun a b => l a b = true) → ∀ {x}, xs.find? p = some x → ∀ y ∈ xs, p y = true → l y x = false
  | [], _, x, h, y, hy, _ => by cases hy
  | z :: xs, hp, x, h, y, hy, q => by
    obtain ⟨h1, h2⟩ := List.pairwise_cons.mp hp
    rw [List.find?_cons] at h
    cases hz : p z with
    | true =>
      rw [hz] at h
      cases h
      rcases List.mem_cons.mp hy with rfl | hy
      · exact irr _
      · exact asy _ _ (h1 y hy)
    | false =>
      rw [hz] at h
      rcases List.mem_cons.mp hy with rfl | hy
      · rw [hz] at q; cases q
      · exact find_least asy irr p h2 h y hy q
theorem filt_idx {α : Type} (p : α → Bool) (d : α) (l : List α) : ((List.range l.length).filter fun i => p (l.getD i d)).map (fun i => l.getD i d) = l.filter p := by
  have e : l = (List.range l.length).map fun i => l.getD i d := by
    apply List.ext_getElem?
    intro i
    by_cases h : i < l.length
    · rw [List.getElem?_map, List.getElem?_range h, get_getD h d]; rfl
    · rw [List.getElem?_eq_none (by omega), List.getElem?_eq_none (by simp; omega)]
  conv => rhs; rw [e, List.filter_map]
  rfl
theorem map_getD {α β : Type} (f : α → β) (d : α) (l : List α) : l.map f = (List.range l.length).map fun i => f (l.getD i d) := by
  apply List.ext_getElem?
  intro i
  by_cases h : i < l.length
  · rw [List.getElem?_map, List.getElem?_map, List.getElem?_range h, get_getD h d]; rfl
  · rw [List.getElem?_eq_none (by simp; omega), List.getElem?_eq_none (by simp; omega)]
end Dl
set_option Elab.async false
set_option linter.all false
set_option maxRecDepth 100000
set_option maxHeartbeats 4000000
/-! All sets of the first n numbers, in order. -/
namespace Dl
open PySem
def incr (S : List Nat) : Prop := S.Pairwise (· < ·)
def setsU : Nat → List (List Nat)
  | 0 => [[]]
  | n + 1 => setsU n ++ (setsU n).map fun S => S ++ [n]
theorem mem_setsU : ∀ {n : Nat} {S : List Nat}, S ∈ setsU n ↔ incr S ∧ ∀ s ∈ S, s < n
  | 0, S => by
    simp only [setsU, List.mem_singleton]
    constructor
    · rintro rfl
      exact ⟨List.Pairwise.nil, fun s h => by cases h⟩
    · rintro ⟨_, h⟩
      cases S with
      | nil => rfl
      | cons s S => exact absurd (h s (by simp)) (by omega)
  | n + 1, S => by
    simp only [setsU, List.mem_append, List.mem_map, mem_setsU (n := n)]
    constructor
    · rintro (⟨h1, h2⟩ | ⟨T, ⟨h1, h2⟩, rfl⟩)
      · exact ⟨h1, fun s hs => by have := h2 s hs; omega⟩
      · refine ⟨List.pairwise_append.mpr ⟨h1, List.pairwise_singleton _ _, fun a ha b hb => ?_⟩, fun s hs => ?_⟩
        · rw [List.mem_singleton.mp hb]
          exact h2 a ha
        · rcases List.mem_append.mp hs with hs | hs
          · have := h2 s hs; omega
          · rw [List.mem_singleton.mp hs]; omega
    · rintro ⟨h1, h2⟩
      rcases List.eq_nil_or_concat S with rfl | ⟨T, t, rfl⟩
      · exact .inl ⟨List.Pairwise.nil, fun s h => by cases h⟩
      · rw [List.concat_eq_append] at h1 h2 ⊢
        obtain ⟨p1, p2, p3⟩ := List.pairwise_append.mp h1
        have ht := h2 t (by simp)
        have hT : ∀ s ∈ T, s < t := fun s hs => p3 s hs t (by simp)
        by_cases q : t = n
        · subst q
          exact .inr ⟨T, ⟨p1, hT⟩, rfl⟩
        · refine .inl ⟨h1, fun s hs => ?_⟩
          rcases List.mem_append.mp hs with hs | hs
          · have := hT s hs; omega
          · rw [List.mem_singleton.mp hs]; omega
theorem setsU_head : ∀ n, ∃ r, setsU n = [] :: r
  | 0 => ⟨[], rfl⟩
  | n + 1 => by
    obtain ⟨r, h⟩ := setsU_head n
    exact ⟨r ++ (setsU n).map fun S => S ++ [n], by simp only [setsU]; rw [h]; rfl⟩
theorem setsU_length : ∀ n, (setsU n).length = 2 ^ n
  | 0 => rfl
  | n + 1 => by
    simp only [setsU, List.length_append, List.length_map, setsU_length n, Nat.pow_succ]
    omega
theorem rev_ind {α : Type} {P : List α → Prop} (h0 : P []) (h1 : ∀ T t, P T → P (T ++ [t])) (l : List α) : P l := by
  rw [← List.reverse_reverse l]
  induction l.reverse with
  | nil => exact h0
  | cons a l ih =>
    rw [List.reverse_cons]
    exact h1 _ _ ih
theorem incr_len {S : List Nat} {n : Nat} (h : incr S) (hn : ∀ s ∈ S, s < n) : S.length ≤ n := by
  have : ∀ (S : List Nat) (n : Nat), incr S → (∀ s ∈ S, s < n) → S.length ≤ n := by
    intro S
    refine rev_ind (P := fun S => ∀ (n : Nat), incr S → (∀ s ∈ S, s < n) → S.length ≤ n) (fun n _ _ => by simp) (fun T t ih n h hn => ?_) S
    obtain ⟨p1, _, p3⟩ := List.pairwise_append.mp h
    have := ih t p1 fun s hs => p3 s hs t (by simp)
    have := hn t (by simp)
    rw [List.length_append, List.length_singleton]
    omega
  exact this S n h hn
theorem ordT : OrdD (fun l : List Nat => natT l) (ltL ltN) 1 := ordN.tup
def ss (n : Nat) : List (List Nat) := srt (ltL ltN) (setsU n)
theorem mem_ss {n : Nat} {S : List Nat} : S ∈ ss n ↔ incr S ∧ ∀ s ∈ S, s < n := by
  unfold ss
  rw [srt_mem, mem_setsU]
theorem ss_length (n : Nat) : (ss n).length = 2 ^ n := by
  unfold ss
  rw [srt_length, setsU_length]
theorem ss_pw (n : Nat) : (ss n).Pairwise fun a b => ltL ltN b a = false := ordT.srt_pw _
theorem sets_sorted (n : Nat) (hn : n ≤ 12) : sortD ((setsU n).map natT) = some ((ss n).map natT) := by
  refine ordT.sorted (by omega) ?_ ?_
  · obtain ⟨r, h⟩ := setsU_head n
    rw [h]
    show ((emptyFirst (.tup [] :: r.map natT) || _) || _) = true
    have : emptyFirst (.tup [] :: r.map natT) = true := by
      show (r.map natT).all isTupD = true
      rw [List.all_map, List.all_eq_true]
      intro x _
      rfl
    rw [this]
    rfl
  · rw [setsU_length]
    have : 2 ^ n ≤ 2 ^ 12 := Nat.pow_le_pow_right (by omega) hn
    unfold sizeLine
    omega
/-- the first of the sorted that fits is the least that fits -/
theorem ss_least {n : Nat} {p : List Nat → Bool} {x : List Nat} (h : (ss n).find? p = some x) : ∀ y ∈ ss n, p y = true → ltL ltN y x = false := by
  have : ∀ xs : List (List Nat), xs.Pairwise (fun a b => ltL ltN b a = false) → xs.find? p = some x → ∀ y ∈ xs, p y = true → ltL ltN y x = false := by
    intro xs
    induction xs with
    | nil => intro _ h; cases h
    | cons z xs ih =>
      intro hp h y hy q
      obtain ⟨h1, h2⟩ := List.pairwise_cons.mp hp
      rw [List.find?_cons] at h
      cases hz : p z with
      | true =>
        rw [hz] at h
        cases h
        rcases List.mem_cons.mp hy with rfl | hy
        · exact ordT.irr _
        · exact h1 y hy
      | false =>
        rw [hz] at h
        rcases List.mem_cons.mp hy with rfl | hy
        · rw [hz] at q; cases q
        · exact ih h2 h y hy q
  exact this _ (ss_pw n) h
end Dl
set_option Elab.async false
set_option linter.all false
set_option maxRecDepth 100000
set_option maxHeartbeats 4000000
/-! Sets of numbers as rising tuples; by their sizes; choices; orders. -/
namespace Dl
open PySem
theorem natT_zs (S : List Nat) : natT S = tup_ (zs S) := by rw [natT, nat_ints]
def rsn (l : List Int) : Bool := (List.range (l.length - 1)).all fun i => decide (l.getD i 0 < l.getD (i + 1) 0)
def isb (n : Nat) (S : List Int) : Bool := rsn S && S.all fun x => decide (0 ≤ x) && decide (x < (n : Int))
theorem zs_toNat (S : List Nat) : (zs S).map Int.toNat = S := by
  unfold zs
  rw [List.map_map]
  conv => rhs; rw [← List.map_id S]
  exact List.map_congr_left fun x _ => by simp
theorem rsn_incr {S : List Int} (h : rsn S = true) (h0 : ∀ x ∈ S, 0 ≤ x) : ∃ S' : List Nat, S = zs S' ∧ incr S' := by
  refine ⟨S.map Int.toNat, ?_, ?_⟩
  · unfold zs
    rw [List.map_map]
    conv => lhs; rw [← List.map_id S]
    refine List.map_congr_left fun x hx => ?_
    have := h0 x hx
    simp only [Function.comp, id]
    omega
  · have step : ∀ i, i + 1 < S.length → S.getD i 0 < S.getD (i + 1) 0 := fun i hi => of_decide_eq_true (List.all_eq_true.mp h i (List.mem_range.mpr (by omega)))
    have far : ∀ k i, i + 1 + k < S.length → S.getD i 0 < S.getD (i + 1 + k) 0 := by
      intro k
      induction k with
      | zero => intro i hi; exact step i hi
      | succ k ih =>
        intro i hi
        have := ih i (by omega)
        have := step (i + 1 + k) (by omega)
        rw [show i + 1 + (k + 1) = i + 1 + k + 1 by omega]
        omega
    unfold incr
    rw [List.pairwise_iff_getElem]
    intro i j hi hj hij
    simp only [List.length_map] at hi hj
    have := far (j - i - 1) i (by omega)
    rw [show i + 1 + (j - i - 1) = j by omega, List.getD_eq_getElem?_getD, List.getD_eq_getElem?_getD, List.getElem?_eq_getElem hi, List.getElem?_eq_getElem hj] at this
    simp only [Option.getD_some] at this
    have := h0 _ (List.getElem_mem hi)
    simp only [List.getElem_map]
    omega
theorem incr_rsn {S : List Nat} (h : incr S) : rsn (zs S) = true := by
  unfold rsn
  rw [List.all_eq_true]
  intro i hi
  have hi := List.mem_range.mp hi
  rw [zs_length] at hi
  rw [decide_eq_true_eq]
  have e1 : (zs S).getD i 0 = (S[i]'(by omega) : Int) := by
    unfold zs
    rw [List.getD_eq_getElem?_getD, List.getElem?_map, List.getElem?_eq_getElem (by omega)]
    rfl
  have e2 : (zs S).getD (i + 1) 0 = (S[i + 1]'(by omega) : Int) := by
    unfold zs
    rw [List.getD_eq_getElem?_getD, List.getElem?_map, List.getElem?_eq_getElem (by omega)]
    rfl
  have := List.pairwise_iff_getElem.mp h i (i + 1) (by omega) (by omega) (by omega)
  omega
theorem isb_iff {n : Nat} {S : List Int} : isb n S = true ↔ ∃ S' : List Nat, S = zs S' ∧ incr S' ∧ ∀ s ∈ S', s < n := by
  unfold isb
  rw [Bool.and_eq_true, List.all_eq_true]
  constructor
  · rintro ⟨h1, h2⟩
    have h3 : ∀ x ∈ S, 0 ≤ x ∧ x < (n : Int) := fun x hx => by simpa using h2 x hx
    obtain ⟨S', rfl, h4⟩ := rsn_incr h1 fun x hx => (h3 x hx).1
    refine ⟨S', rfl, h4, fun s hs => ?_⟩
    have := (h3 (s : Int) (by unfold zs; exact List.mem_map.mpr ⟨s, hs, rfl⟩)).2
    omega
  · rintro ⟨S', rfl, h1, h2⟩
    refine ⟨incr_rsn h1, fun x hx => ?_⟩
    unfold zs at hx
    obtain ⟨s, hs, rfl⟩ := List.mem_map.mp hx
    have := h2 s hs
    simp only [Bool.and_eq_true, decide_eq_true_eq]
    omega
theorem isb_ss {n : Nat} {S : List Nat} (h : S ∈ ss n) : isb n (zs S) = true := isb_iff.mpr ⟨S, rfl, (mem_ss.mp h).1, (mem_ss.mp h).2⟩
theorem incr_ext : ∀ (A B : List Nat), incr A → incr B → (∀ x, x ∈ A ↔ x ∈ B) → A = B := by
  intro A
  induction A with
  | nil =>
    intro B _ _ e
    cases B with
    | nil => rfl
    | cons b B => exact absurd ((e b).mpr (by simp)) (by simp)
  | cons a A ih =>
    intro B ha hb e
    cases B with
    | nil => exact absurd ((e a).mp (by simp)) (by simp)
    | cons b B =>
      obtain ⟨a1, a2⟩ := List.pairwise_cons.mp ha
      obtain ⟨b1, b2⟩ := List.pairwise_cons.mp hb
      have hab : a = b := by
        have u := (e a).mp (by simp)
        have v := (e b).mpr (by simp)
        rcases List.mem_cons.mp u with u | u
        · exact u
        · rcases List.mem_cons.mp v with v | v
          · exact v.symm
          · have := a1 b v
            have := b1 a u
            omega
      subst hab
      rw [ih B a2 b2 fun x => ?_]
      constructor
      · intro hx
        have := a1 x hx
        rcases List.mem_cons.mp ((e x).mp (by simp [hx])) with q | q
        · omega
        · exact q
      · intro hx
        have := b1 x hx
        rcases List.mem_cons.mp ((e x).mpr (by simp [hx])) with q | q
        · omega
        · exact q
theorem range_incr (m : Nat) (F : Nat → Bool) : incr ((List.range m).filter F) := List.Pairwise.sublist List.filter_sublist List.pairwise_lt_range
theorem incr_filter {m : Nat} {S : List Nat} (h : incr S) (hs : ∀ s ∈ S, s < m) : S = (List.range m).filter fun p => S.contains p := by
  refine incr_ext _ _ h (range_incr _ _) fun x => ?_
  rw [List.mem_filter, List.mem_range, List.contains_iff_mem]
  exact ⟨fun hx => ⟨hs x hx, hx⟩, fun hx => hx.2⟩
/-! the sets by their sizes -/
abbrev encL (x : Nat × List Nat) : D := .tup [.int (x.1 : Nat), natT x.2]
abbrev ltB : Nat × List Nat → Nat × List Nat → Bool := ltP ltN (ltL ltN)
theorem ordB : OrdD encL ltB 2 := (ordN.mono (by omega)).pair ordT
def bys (m : Nat) : List (Nat × List Nat) := srt ltB ((setsU m).map fun S => (S.length, S))
theorem bys_perm (m : Nat) : List.Perm ((bys m).map (·.2)) (setsU m) := by
  have h : List.Perm (bys m) ((setsU m).map fun S => (S.length, S)) := List.mergeSort_perm _ _
  have := h.map (·.2)
  rw [List.map_map] at this
  have e : (setsU m).map ((fun x : Nat × List Nat => x.2) ∘ fun S => (S.length, S)) = setsU m := by
    conv => rhs; rw [← List.map_id (setsU m)]
    rfl
  rw [e] at this
  exact this
theorem bys_head (m : Nat) : ∃ r, (bys m).map (·.2) = [] :: r := by
  have pw : (bys m).Pairwise fun a b => ltB b a = false := ordB.srt_pw _
  have hm : ((0, []) : Nat × List Nat) ∈ bys m := by
    have h : List.Perm (bys m) ((setsU m).map fun S => (S.length, S)) := List.mergeSort_perm _ _
    rw [h.mem_iff]
    obtain ⟨r, hr⟩ := setsU_head m
    rw [hr]
    simp
  have hall : ∀ x ∈ bys m, x.1 = x.2.length := fun x hx => by
    have h : List.Perm (bys m) ((setsU m).map fun S => (S.length, S)) := List.mergeSort_perm _ _
    rw [h.mem_iff] at hx
    obtain ⟨S, _, rfl⟩ := List.mem_map.mp hx
    rfl
  cases hb : bys m with
  | nil => rw [hb] at hm; cases hm
  | cons x l =>
    rw [hb] at pw hm hall
    refine ⟨l.map (·.2), ?_⟩
    rw [List.map_cons]
    congr 1
    have hx := hall x (by simp)
    rcases List.mem_cons.mp hm with e | e
    · rw [← e]
    · have h2 := (List.pairwise_cons.mp pw).1 _ e
      unfold ltB ltP at h2
      simp only at h2
      have hz : x.1 = 0 := by
        split at h2
        · omega
        · have := of_decide_eq_false h2
          omega
      exact List.eq_nil_of_length_eq_zero (by omega)
theorem bys_sort (m : Nat) : srt (ltL ltN) ((bys m).map (·.2)) = ss m := by
  have p1 : List.Perm (srt (ltL ltN) ((bys m).map (·.2))) (ss m) := ((List.mergeSort_perm _ _).trans (bys_perm m)).trans (List.mergeSort_perm _ _).symm
  refine List.Perm.eq_of_pairwise (le := fun a b => ltL ltN b a = false) ?_ (ordT.srt_pw _) (ss_pw m) p1
  intro a b _ _ h1 h2
  exact ordT.tri _ _ h2 h1
theorem bys_sorted (m : Nat) (hm : m ≤ 12) : sortD (((bys m).map (·.2)).map natT) = some ((ss m).map natT) := by
  rw [← bys_sort m]
  refine ordT.sorted (by omega) ?_ ?_
  · obtain ⟨r, h⟩ := bys_head m
    rw [h]
    show ((emptyFirst (.tup [] :: r.map natT) || _) || _) = true
    have : emptyFirst (.tup [] :: r.map natT) = true := by
      show (r.map natT).all isTupD = true
      rw [List.all_map, List.all_eq_true]
      intro x _
      rfl
    rw [this]
    rfl
  · rw [(bys_perm m).length_eq, setsU_length]
    have : 2 ^ m ≤ 2 ^ 12 := Nat.pow_le_pow_right (by omega) hm
    unfold sizeLine
    omega
theorem mem_cmbs {α : Type} : ∀ (r : Nat) (xs L : List α), L ∈ cmbs r xs ↔ L.Sublist xs ∧ L.length = r
  | 0, xs, L => by
    have e : cmbs 0 xs = [[]] := by cases xs <;> rfl
    rw [e, List.mem_singleton]
    constructor
    · rintro rfl
      exact ⟨List.nil_sublist _, rfl⟩
    · rintro ⟨_, h⟩
      exact List.eq_nil_of_length_eq_zero h
  | r + 1, [], L => by
    simp [cmbs]
    rintro rfl
    simp
  | r + 1, x :: xs, L => by
    show L ∈ (cmbs r xs).map (x :: ·) ++ cmbs (r + 1) xs ↔ _
    rw [List.mem_append, List.mem_map, mem_cmbs (r + 1) xs L, List.sublist_cons_iff]
    constructor
    · rintro (⟨L', h, rfl⟩ | ⟨h1, h2⟩)
      · obtain ⟨h1, h2⟩ := (mem_cmbs r xs L').mp h
        exact ⟨.inr ⟨L', rfl, h1⟩, by simp [h2]⟩
      · exact ⟨.inl h1, h2⟩
    · rintro ⟨h1 | ⟨L', rfl, h1⟩, h2⟩
      · exact .inr ⟨h1, h2⟩
      · exact .inl ⟨L', (mem_cmbs r xs L').mpr ⟨h1, by simpa using h2⟩, rfl⟩
theorem sub_range {n : Nat} {S : List Nat} : S.Sublist (List.range n) ↔ incr S ∧ ∀ s ∈ S, s < n := by
  constructor
  · intro h
    exact ⟨List.Pairwise.sublist h List.pairwise_lt_range, fun s hs => List.mem_range.mp (h.subset hs)⟩
  · rintro ⟨h1, h2⟩
    rw [incr_filter h1 h2]
    exact List.filter_sublist
theorem mem_cmbR {n r : Nat} {S : List Nat} : S ∈ cmbs r (List.range n) ↔ incr S ∧ (∀ s ∈ S, s < n) ∧ S.length = r := by
  rw [mem_cmbs, sub_range, and_assoc]
theorem mem_bys {m : Nat} {S : List Nat} : S ∈ (bys m).map (·.2) ↔ incr S ∧ ∀ s ∈ S, s < m := by
  rw [(bys_perm m).mem_iff, mem_setsU]
theorem bys_len (m : Nat) : ((bys m).map (·.2)).length = 2 ^ m := by rw [(bys_perm m).length_eq, setsU_length]
theorem numT_natT (l : List Nat) : numT l = natT l := rfl
theorem cmbs_len {α : Type} : ∀ (r : Nat) (xs : List α), (cmbs r xs).length ≤ 2 ^ xs.length
  | 0, xs => by
    have : 0 < 2 ^ xs.length := Nat.pow_pos (by omega)
    cases xs <;> simp [cmbs] at this ⊢ <;> omega
  | r + 1, [] => by simp [cmbs]
  | r + 1, x :: xs => by
    have h1 := cmbs_len r xs
    have h2 := cmbs_len (r + 1) xs
    show ((cmbs r xs).map (x :: ·) ++ cmbs (r + 1) xs).length ≤ _
    rw [List.length_append, List.length_map, List.length_cons, Nat.pow_succ]
    omega
theorem EqOk.lst {α : Type} [DecidableEq α] {f : α → D} {k : Nat} (hf : EqOk f k) : EqOk (fun l : List α => D.lst (l.map f)) (k + 1) := ⟨fun a b => by
  simp only [D.py, PyData.eqv]
  exact eqAll_map hf.eq a b, fun a => dep_lst fun d hd => by
    obtain ⟨x, _, rfl⟩ := List.mem_map.mp hd
    exact hf.dep x, fun a => by simp [D.py, PyData.eqv]⟩
theorem eq_lstE {α : Type} [DecidableEq α] {f : α → D} {k : Nat} (h : EqOk f k) (hk : k < 64) (a b : List α) : eqD (.lst (a.map f)) (.lst (b.map f)) = some (decide (a = b)) := h.lst.eqD (by omega) a b
theorem exs_cut {cl : Nat → List D → Option D} (k : Nat) {cs a b : List CS} {σ σ1 : RhoS} {r : Option Res} (ha : cs.take k = a) (hb : cs.drop k = b) (e1 : exSs cl a σ = some (.nx σ1)) (e2 : exSs cl b σ1 = r) : exSs cl cs σ = r := by
  rw [exSs_split cl k, ha, e1, thenK_nx, hb, e2]
theorem runF_of {cl : Nat → List D → Option D} {F : Fd} {ds : List D} {d : D} (hl : ds.length = F.np) (h : exSs cl F.body (startS F ds) = some (.rt d)) : runF cl F ds = some d := by
  unfold runF
  rw [if_pos hl, h]
  rfl
end Dl
set_option Elab.async false
set_option linter.all false
set_option maxRecDepth 100000
set_option maxHeartbeats 1000000
/-! Borders: mathematics of spots. -/
namespace Dl
open PySem
abbrev Pz := Int × Int
def ltPz : Pz → Pz → Bool := ltP ltI ltI
theorem ordPz : OrdD (fun p : Pz => p2_ p) ltPz 1 := ordI.pair ordI
def risG {α : Type} (lt : α → α → Bool) (d : α) (l : List α) : Bool := (List.range (l.length - 1)).all fun i => lt (l.getD i d) (l.getD (i + 1) d)
theorem risG_cons {α : Type} (lt : α → α → Bool) (d a b : α) (r : List α) : risG lt d (a :: b :: r) = (lt a b && risG lt d (b :: r)) := by
  unfold risG
  show (List.range (r.length + 1)).all _ = _
  rw [List.range_succ_eq_map, List.all_cons, List.all_map]
  rfl
theorem risG_iff {α : Type} {lt : α → α → Bool} {d : α} (tr : ∀ a b c, lt a b = true → lt b c = true → lt a c = true) : ∀ l : List α, risG lt d l = true ↔ l.Pairwise fun a b => lt a b = true
  | [] => by simp [risG]
  | [a] => by simp [risG]
  | a :: b :: r => by
    rw [risG_cons, Bool.and_eq_true, risG_iff tr (b :: r)]
    constructor
    · rintro ⟨h1, h2⟩
      refine List.pairwise_cons.mpr ⟨fun x hx => ?_, h2⟩
      rcases List.mem_cons.mp hx with rfl | hx
      · exact h1
      · exact tr _ _ _ h1 ((List.pairwise_cons.mp h2).1 x hx)
    · intro h
      obtain ⟨h1, h2⟩ := List.pairwise_cons.mp h
      exact ⟨h1 b (by simp), h2⟩
def rs2 (l : List Pz) : Bool := risG ltPz (0, 0) l
abbrev up2 (l : List Pz) : Prop := l.Pairwise fun a b => ltPz a b = true
theorem rs2_iff (l : List Pz) : rs2 l = true ↔ up2 l := risG_iff (lt := ltPz) (fun a b c h1 h2 => ordPz.tr h1 h2) l
/-- rows that rise and have the same spots are one -/
theorem up2_ext : ∀ (A B : List Pz), up2 A → up2 B → (∀ x, x ∈ A ↔ x ∈ B) → A = B
  | [], [], _, _, _ => rfl
  | [], b :: B, _, _, h => absurd ((h b).mpr (by simp)) (by simp)
  | a :: A, [], _, _, h => absurd ((h a).mp (by simp)) (by simp)
  | a :: A, b :: B, ha, hb, h => by
    obtain ⟨a1, a2⟩ := List.pairwise_cons.mp ha
    obtain ⟨b1, b2⟩ := List.pairwise_cons.mp hb
    have e : a = b := by
      rcases List.mem_cons.mp ((h a).mp (by simp)) with q | q
      · exact q
      · rcases List.mem_cons.mp ((h b).mpr (by simp)) with r | r
        · exact r.symm
        · have := ordPz.asy (b1 a q)
          rw [a1 b r] at this
          cases this
    subst e
    congr 1
    refine up2_ext A B a2 b2 fun x => ?_
    constructor
    · intro hx
      rcases List.mem_cons.mp ((h x).mp (by simp [hx])) with q | q
      · subst q
        have := a1 x hx
        rw [ordPz.irr] at this
        cases this
      · exact q
    · intro hx
      rcases List.mem_cons.mp ((h x).mpr (by simp [hx])) with q | q
      · subst q
        have := b1 x hx
        rw [ordPz.irr] at this
        cases this
      · exact q
/-! sorted, each once -/
abbrev e2 (p : Pz) : List Int := [p.1, p.2]
def d2 (l : List Int) : Pz := (l.getD 0 0, l.getD 1 0)
def each (S : List Pz) : List Pz := (ssetT (S.map e2)).map d2
theorem map_id_of {α : Type} (f : α → α) : ∀ l : List α, (∀ x ∈ l, f x = x) → l.map f = l
  | [], _ => rfl
  | x :: l, h => by rw [List.map_cons, h x (by simp), map_id_of f l fun y hy => h y (by simp [hy])]
theorem each_e2 (S : List Pz) : ssetT (S.map e2) = (each S).map e2 := by
  unfold each
  rw [List.map_map]
  refine (map_id_of _ _ fun l hl => ?_).symm
  obtain ⟨p, _, rfl⟩ := List.mem_map.mp (mem_ssetT.mp hl)
  rfl
theorem mem_each {S : List Pz} {p : Pz} : p ∈ each S ↔ p ∈ S := by
  unfold each
  rw [List.mem_map]
  constructor
  · rintro ⟨l, hl, rfl⟩
    obtain ⟨q, hq, rfl⟩ := List.mem_map.mp (mem_ssetT.mp hl)
    exact hq
  · intro h
    exact ⟨e2 p, mem_ssetT.mpr (List.mem_map.mpr ⟨p, h, rfl⟩), rfl⟩
theorem lt_e2 (a b : Pz) : HT.lexLt (e2 a) (e2 b) = ltPz a b := by
  unfold ltPz ltP ltI
  simp only [HT.lexLt]
  by_cases h1 : a.1 = b.1
  · by_cases h2 : a.2 = b.2 <;> simp [h1, h2]
  · simp [h1]
theorem each_up (S : List Pz) : up2 (each S) := by
  have h := pw_ssetT (S.map e2)
  rw [each_e2] at h
  have h : List.Pairwise (fun a b => HT.lexLt a b = true) ((each S).map e2) := h
  rw [List.pairwise_map] at h
  exact h.imp fun {a b} h => by rw [← lt_e2]; exact h
theorem sub_lenG {α : Type} [DecidableEq α] {A B : List α} (h : A.Nodup) (hs : ∀ x ∈ A, x ∈ B) : A.length ≤ B.length := by
  induction A generalizing B with
  | nil => simp
  | cons a A ih =>
    obtain ⟨h1, h2⟩ := List.nodup_cons.mp h
    have ha := hs a (by simp)
    have := ih h2 (B := B.erase a) fun x hx => (List.mem_erase_of_ne (show x ≠ a from fun e => h1 (e ▸ hx))).mpr (hs x (by simp [hx]))
    rw [List.length_erase_of_mem ha] at this
    have := List.length_pos_of_mem ha
    rw [List.length_cons]
    omega
theorem each_len (S : List Pz) : (each S).length ≤ S.length := by
  have nd : (each S).Nodup := (each_up S).imp fun {a b} h e => by
    rw [e, ordPz.irr] at h
    cases h
  exact sub_lenG nd fun x hx => mem_each.mp hx
/-! under, lowest, beyond -/
def und (p q : Pz) : Bool := decide (p.1 ≤ q.1) && decide (p.2 ≤ q.2)
theorem und_iff {p q : Pz} : und p q = true ↔ p.1 ≤ q.1 ∧ p.2 ≤ q.2 := by
  unfold und
  rw [Bool.and_eq_true, decide_eq_true_eq, decide_eq_true_eq]
theorem und_refl (p : Pz) : und p p = true := und_iff.mpr ⟨Int.le_refl _, Int.le_refl _⟩
theorem und_tr {p q r : Pz} (h1 : und p q = true) (h2 : und q r = true) : und p r = true := by
  rw [und_iff] at *
  omega
theorem und_asy {p q : Pz} (h1 : und p q = true) (h2 : und q p = true) : p = q := by
  rw [und_iff] at *
  exact Prod.ext (by omega) (by omega)
def low (S : List Pz) : List Pz := (each S).filter fun p => !((each S).any fun q => und q p && !decide (q = p))
theorem mem_low {S : List Pz} {p : Pz} : p ∈ low S ↔ p ∈ S ∧ ∀ q ∈ S, und q p = true → q = p := by
  unfold low
  rw [List.mem_filter, mem_each, Bool.not_eq_true', ← Bool.not_eq_true, List.any_eq_true]
  refine and_congr Iff.rfl ?_
  constructor
  · intro h q hq hu
    apply Classical.byContradiction
    intro ne
    exact h ⟨q, mem_each.mpr hq, by rw [hu, decide_eq_false ne]; rfl⟩
  · rintro h ⟨q, hq, e⟩
    rw [Bool.and_eq_true, Bool.not_eq_true', decide_eq_false_iff_not] at e
    exact e.2 (h q (mem_each.mp hq) e.1)
theorem low_up (S : List Pz) : up2 (low S) := (each_up S).filter _
theorem low_ext {S S' : List Pz} (h : ∀ p, p ∈ low S ↔ p ∈ low S') : low S = low S' := up2_ext _ _ (low_up S) (low_up S') h
theorem low_len (S : List Pz) : (low S).length ≤ S.length := by
  have := List.length_filter_le (fun p => !((each S).any fun q => und q p && !decide (q = p))) (each S)
  have := each_len S
  unfold low
  omega
def bey (B : List Pz) (p : Pz) : Bool := B.any fun q => und q p
theorem bey_iff {B : List Pz} {p : Pz} : bey B p = true ↔ ∃ q ∈ B, und q p = true := by
  unfold bey
  rw [List.any_eq_true]
theorem least_sum : ∀ F : List Pz, F ≠ [] → ∃ r ∈ F, ∀ q ∈ F, r.1 + r.2 ≤ q.1 + q.2
  | [], h => absurd rfl h
  | [a], _ => ⟨a, by simp, fun q hq => by rw [List.mem_singleton.mp hq]; omega⟩
  | a :: b :: F, _ => by
    obtain ⟨r, hr, h⟩ := least_sum (b :: F) (by simp)
    by_cases c : a.1 + a.2 ≤ r.1 + r.2
    · refine ⟨a, by simp, fun q hq => ?_⟩
      rcases List.mem_cons.mp hq with rfl | hq
      · omega
      · have := h q hq
        omega
    · refine ⟨r, by simp at hr ⊢; exact .inr hr, fun q hq => ?_⟩
      rcases List.mem_cons.mp hq with rfl | hq
      · omega
      · exact h q hq
theorem bey_low {S : List Pz} {p : Pz} : bey (low S) p = bey S p := by
  rw [Bool.eq_iff_iff, bey_iff, bey_iff]
  constructor
  · rintro ⟨q, hq, h⟩
    exact ⟨q, (mem_low.mp hq).1, h⟩
  · rintro ⟨q, hq, h⟩
    obtain ⟨r, hr, hm⟩ := least_sum (S.filter fun x => und x p) fun z => by
      have : q ∈ S.filter fun x => und x p := List.mem_filter.mpr ⟨hq, h⟩
      rw [z] at this
      cases this
    obtain ⟨r1, r2⟩ := List.mem_filter.mp hr
    refine ⟨r, mem_low.mpr ⟨r1, fun x hx hu => ?_⟩, r2⟩
    have := hm x (List.mem_filter.mpr ⟨hx, und_tr hu r2⟩)
    rw [und_iff] at hu
    exact Prod.ext (by omega) (by omega)
theorem low_low (S : List Pz) : low (low S) = low S := low_ext fun p => by
  rw [mem_low]
  constructor
  · exact fun h => h.1
  · intro h
    exact ⟨h, fun q hq hu => (mem_low.mp h).2 q (mem_low.mp hq).1 hu⟩
/-- the law's count -/
theorem low_cnt (S : List Pz) : low S = (each S).filter fun p => decide (((each S).filter fun q => und q p).length = 1) := by
  unfold low
  refine List.filter_congr fun p hp => ?_
  have nd : (each S).Nodup := (each_up S).imp fun {a b} h e => by
    rw [e, ordPz.irr] at h
    cases h
  have hin : p ∈ (each S).filter fun q => und q p := List.mem_filter.mpr ⟨hp, und_refl p⟩
  rw [Bool.eq_iff_iff, Bool.not_eq_true', ← Bool.not_eq_true, List.any_eq_true, decide_eq_true_eq]
  constructor
  · intro h
    have sub : ∀ x ∈ (each S).filter (fun q => und q p), x = p := fun x hx => by
      obtain ⟨x1, x2⟩ := List.mem_filter.mp hx
      apply Classical.byContradiction
      intro ne
      exact h ⟨x, x1, by rw [x2, decide_eq_false ne]; rfl⟩
    have nd2 : ((each S).filter fun q => und q p).Nodup := nd.filter _
    match hF : (each S).filter (fun q => und q p), hin, sub, nd2 with
    | [], hin, _, _ => cases hin
    | [_], _, _, _ => rfl
    | a :: b :: r, _, sub, nd2 => exact absurd ((sub a (by simp)).trans (sub b (by simp)).symm) (List.nodup_cons.mp nd2 |>.1 |> fun z e => z (by rw [e]; simp))
  · rintro h ⟨q, hq, e⟩
    rw [Bool.and_eq_true, Bool.not_eq_true', decide_eq_false_iff_not] at e
    have hq2 : q ∈ (each S).filter fun q => und q p := List.mem_filter.mpr ⟨hq, e.1⟩
    match hF : (each S).filter (fun q => und q p), h, hin, hq2 with
    | [a], _, hin, hq2 => exact e.2 ((List.mem_singleton.mp hq2).trans (List.mem_singleton.mp hin).symm)
/-! spots and stairs -/
def spr (m a : Nat) : List Pz := (List.range (m + 1)).map fun b => ((a : Int), ((b : Nat) : Int))
def spots (m : Nat) : List Pz := (List.range (m + 1)).flatMap (spr m)
theorem mem_spots {m : Nat} {p : Pz} : p ∈ spots m ↔ 0 ≤ p.1 ∧ p.1 ≤ (m : Int) ∧ 0 ≤ p.2 ∧ p.2 ≤ (m : Int) := by
  unfold spots spr
  simp only [List.mem_flatMap, List.mem_range, List.mem_map]
  constructor
  · rintro ⟨a, ha, b, hb, rfl⟩
    simp only
    omega
  · rintro ⟨h1, h2, h3, h4⟩
    exact ⟨p.1.toNat, by omega, p.2.toNat, by omega, Prod.ext (by simp only; omega) (by simp only; omega)⟩
def lastO (m : Nat) (c : List Nat) : Nat := c.getLast?.getD (m + 1)
def St (m : Nat) : Nat → List (List Nat)
  | 0 => [[]]
  | j + 1 => (St m j).flatMap fun c => (List.range (lastO m c + 1)).map fun a => c ++ [a]
/-- going down, from m + 1 at most -/
structure Dn (m : Nat) (c : List Nat) : Prop where
  t : ∀ x, x < c.length → c.getD x 0 ≤ m + 1
  d : ∀ x y, x ≤ y → y < c.length → c.getD y 0 ≤ c.getD x 0
theorem getD_last {c : List Nat} (h : 0 < c.length) (m : Nat) : lastO m c = c.getD (c.length - 1) 0 := by
  unfold lastO
  rw [List.getLast?_eq_getElem?, List.getD_eq_getElem?_getD]
  rw [List.getElem?_eq_getElem (by omega)]
  rfl
theorem getD_app {c : List Nat} {a x : Nat} : (c ++ [a]).getD x 0 = if x < c.length then c.getD x 0 else if x = c.length then a else 0 := by
  rw [List.getD_eq_getElem?_getD, List.getD_eq_getElem?_getD, List.getElem?_append]
  by_cases h : x < c.length
  · rw [if_pos h, if_pos h]
  · rw [if_neg h, if_neg h]
    by_cases e : x = c.length
    · rw [if_pos e, e]; simp
    · rw [if_neg e, List.getElem?_eq_none (by simp; omega)]; rfl
theorem mem_St {m : Nat} : ∀ {j : Nat} {c : List Nat}, c ∈ St m j ↔ c.length = j ∧ Dn m c
  | 0, c => by
    rw [St, List.mem_singleton]
    constructor
    · rintro rfl; exact ⟨rfl, ⟨fun x h => by simp at h, fun x y _ h => by simp at h⟩⟩
    · rintro ⟨h, _⟩; exact List.eq_nil_of_length_eq_zero h
  | j + 1, c => by
    rw [St, List.mem_flatMap]
    constructor
    · rintro ⟨o, ho, h⟩
      obtain ⟨a, ha, rfl⟩ := List.mem_map.mp h
      have ha := List.mem_range.mp ha
      obtain ⟨ol, od⟩ := mem_St.mp ho
      refine ⟨by rw [List.length_append, ol]; rfl, ?_, ?_⟩
      · intro x hx
        rw [List.length_append] at hx
        rw [getD_app]
        by_cases c1 : x < o.length
        · rw [if_pos c1]; exact od.t x c1
        · rw [if_neg c1, if_pos (by simp at hx; omega)]
          by_cases z : 0 < o.length
          · rw [getD_last z] at ha
            have := od.t (o.length - 1) (by omega)
            omega
          · have : o = [] := List.eq_nil_of_length_eq_zero (by omega)
            subst this
            have : lastO m [] = m + 1 := rfl
            omega
      · intro x y hxy hy
        rw [List.length_append] at hy
        rw [getD_app, getD_app]
        by_cases c1 : y < o.length
        · rw [if_pos c1, if_pos (by omega)]; exact od.d x y hxy c1
        · have ey : y = o.length := by simp at hy; omega
          rw [if_neg c1, if_pos ey]
          by_cases c2 : x < o.length
          · rw [if_pos c2]
            rw [getD_last (by omega)] at ha
            have := od.d x (o.length - 1) (by omega) (by omega)
            omega
          · rw [if_neg c2, if_pos (by omega)]
            omega
    · rintro ⟨hl, hd⟩
      obtain ⟨o, a, rfl⟩ : ∃ o a, c = o ++ [a] := by
        rcases List.eq_nil_or_concat c with e | ⟨o, a, e⟩
        · rw [e] at hl; simp at hl
        · exact ⟨o, a, by rw [e, List.concat_eq_append]⟩
      have ol : o.length = j := by rw [List.length_append] at hl; simpa using hl
      have g : ∀ x, x < o.length → (o ++ [a]).getD x 0 = o.getD x 0 := fun x hx => by rw [getD_app, if_pos hx]
      refine ⟨o, mem_St.mpr ⟨ol, ⟨fun x hx => by rw [← g x hx]; exact hd.t x (by simp; omega), fun x y hxy hy => by rw [← g x (by omega), ← g y hy]; exact hd.d x y hxy (by simp; omega)⟩⟩, List.mem_map.mpr ⟨a, ?_, rfl⟩⟩
      rw [List.mem_range]
      have ga : (o ++ [a]).getD o.length 0 = a := by rw [getD_app, if_neg (by omega), if_pos rfl]
      by_cases z : 0 < o.length
      · rw [getD_last z]
        have := hd.d (o.length - 1) o.length (by omega) (by simp)
        rw [ga, g _ (by omega)] at this
        omega
      · have e : o = [] := List.eq_nil_of_length_eq_zero (by omega)
        subst e
        have := hd.t 0 (by simp)
        simp at this
        have : lastO m [] = m + 1 := rfl
        omega
end Dl
set_option Elab.async false
set_option linter.all false
set_option maxRecDepth 100000
set_option maxHeartbeats 1000000
/-! Borders: stairs and borders. -/
namespace Dl
open PySem
def atS (c : List Nat) (p : Pz) : Int := (c.getD p.1.toNat 0 : Nat)
def U (m : Nat) (c : List Nat) : List Pz := (spots m).filter fun p => decide (atS c p ≤ p.2)
theorem mem_U {m : Nat} {c : List Nat} {p : Pz} : p ∈ U m c ↔ p ∈ spots m ∧ atS c p ≤ p.2 := by
  unfold U
  rw [List.mem_filter, decide_eq_true_eq]
theorem U_up {m : Nat} {c : List Nat} (hc : c ∈ St m (m + 1)) {p q : Pz} (hp : p ∈ U m c) (hq : q ∈ spots m) (h : und p q = true) : q ∈ U m c := by
  obtain ⟨p1, p2⟩ := mem_U.mp hp
  obtain ⟨cl, cd⟩ := mem_St.mp hc
  rw [mem_U]
  refine ⟨hq, ?_⟩
  rw [mem_spots] at p1 hq
  rw [und_iff] at h
  unfold atS at *
  have := cd.d p.1.toNat q.1.toNat (by omega) (by omega)
  omega
/-- the stair of what lies over S -/
def cOf (m : Nat) (S : List Pz) : List Nat := (List.range (m + 1)).map fun x : Nat => ((List.range (m + 1)).find? fun y : Nat => bey S ((x : Int), ((y : Nat) : Int))).getD (m + 1)
theorem bey_mono {S : List Pz} {p q : Pz} (h : bey S p = true) (hu : und p q = true) : bey S q = true := by
  rw [bey_iff] at *
  obtain ⟨r, hr, h⟩ := h
  exact ⟨r, hr, und_tr h hu⟩
theorem find_le {f : Nat → Bool} {n y : Nat} (h : f y = true) (hy : y < n) : ((List.range n).find? f).getD n ≤ y := by
  cases e : (List.range n).find? f with
  | none =>
    have := List.find?_eq_none.mp e y (List.mem_range.mpr hy)
    exact absurd h this
  | some z =>
    show z ≤ y
    rw [List.find?_eq_some_iff_append] at e
    obtain ⟨e1, as, bs, e2, e3⟩ := e
    apply Classical.byContradiction
    intro hz
    have hr : y ∈ as := by
      have pw : (List.range n).Pairwise (· < ·) := List.pairwise_lt_range
      have : y ∈ List.range n := List.mem_range.mpr hy
      rw [e2] at this pw
      rcases List.mem_append.mp this with q | q
      · exact q
      · rcases List.mem_cons.mp q with q | q
        · omega
        · have := List.pairwise_append.mp pw
          have := (List.pairwise_cons.mp this.2.1).1 y q
          omega
    have := e3 y hr
    rw [h] at this
    simp at this
theorem cOf_at {m : Nat} {S : List Pz} {p : Pz} (hp : p ∈ spots m) : atS (cOf m S) p ≤ p.2 ↔ bey S p = true := by
  rw [mem_spots] at hp
  unfold atS cOf
  rw [List.getD_eq_getElem?_getD, List.getElem?_map, List.getElem?_range (by omega)]
  show ((((List.range (m + 1)).find? fun y => bey S (((p.1.toNat : Nat) : Int), ((y : Nat) : Int))).getD (m + 1) : Nat) : Int) ≤ p.2 ↔ _
  rw [show ((p.1.toNat : Nat) : Int) = p.1 by omega]
  constructor
  · intro h
    cases e : (List.range (m + 1)).find? fun y => bey S (p.1, ((y : Nat) : Int)) with
    | none => rw [e] at h; simp at h; omega
    | some y =>
      rw [e] at h
      have h : ((y : Nat) : Int) ≤ p.2 := h
      have := List.find?_some e
      exact bey_mono this (und_iff.mpr ⟨Int.le_refl _, h⟩)
  · intro h
    have := find_le (f := fun y => bey S (p.1, ((y : Nat) : Int))) (n := m + 1) (y := p.2.toNat) (by
      show bey S (p.1, ((p.2.toNat : Nat) : Int)) = true
      rw [show ((p.2.toNat : Nat) : Int) = p.2 by omega]
      exact h) (by omega)
    omega
theorem cOf_St (m : Nat) (S : List Pz) : cOf m S ∈ St m (m + 1) := by
  rw [mem_St]
  have cl : (cOf m S).length = m + 1 := by simp [cOf]
  have ge : ∀ x, x < m + 1 → (cOf m S).getD x 0 = ((List.range (m + 1)).find? fun y => bey S ((x : Int), ((y : Nat) : Int))).getD (m + 1) := fun x hx => by
    unfold cOf
    rw [List.getD_eq_getElem?_getD, List.getElem?_map, List.getElem?_range hx]
    rfl
  refine ⟨cl, ⟨fun x hx => ?_, fun x y hxy hy => ?_⟩⟩
  · rw [cl] at hx
    rw [ge x hx]
    cases e : (List.range (m + 1)).find? fun y => bey S ((x : Int), ((y : Nat) : Int)) with
    | none => exact Nat.le_refl _
    | some z =>
      have := List.mem_range.mp (List.mem_of_find?_eq_some e)
      show z ≤ m + 1
      omega
  · rw [cl] at hy
    rw [ge x (by omega), ge y hy]
    cases e : (List.range (m + 1)).find? fun z => bey S ((x : Int), ((z : Nat) : Int)) with
    | none =>
      cases e2 : (List.range (m + 1)).find? fun z => bey S ((y : Int), ((z : Nat) : Int)) with
      | none => exact Nat.le_refl _
      | some w =>
        have := List.mem_range.mp (List.mem_of_find?_eq_some e2)
        show w ≤ m + 1
        omega
    | some z =>
      have hz := List.mem_range.mp (List.mem_of_find?_eq_some e)
      have := List.find?_some e
      exact find_le (f := fun z => bey S ((y : Int), ((z : Nat) : Int))) (bey_mono this (und_iff.mpr ⟨by simp only; omega, Int.le_refl _⟩)) hz
theorem U_cOf (m : Nat) (S : List Pz) : U m (cOf m S) = (spots m).filter (bey S) := by
  unfold U
  refine List.filter_congr fun p hp => ?_
  rw [Bool.eq_iff_iff, decide_eq_true_eq]
  exact cOf_at hp
/-! borders -/
def inR (m : Nat) (p : Pz) : Bool := (decide (0 ≤ p.1) && decide (p.1 ≤ (m : Int))) && (decide (0 ≤ p.2) && decide (p.2 ≤ (m : Int)))
theorem inR_iff {m : Nat} {p : Pz} : inR m p = true ↔ p ∈ spots m := by
  unfold inR
  rw [mem_spots]
  simp only [Bool.and_eq_true, decide_eq_true_eq, and_assoc]
def isB (m : Nat) (B : List Pz) : Bool := (rs2 B && B.all (inR m)) && decide (low B = B)
theorem isB_low {m : Nat} {S : List Pz} (h : ∀ p ∈ S, p ∈ spots m) : isB m (low S) = true := by
  unfold isB
  rw [(rs2_iff _).mpr (low_up S), decide_eq_true (low_low S), Bool.true_and, Bool.and_true, List.all_eq_true]
  exact fun p hp => inR_iff.mpr (h p (mem_low.mp hp).1)
theorem isB_back {m : Nat} {B : List Pz} (h : isB m B = true) : low (U m (cOf m B)) = B := by
  unfold isB at h
  rw [Bool.and_eq_true, Bool.and_eq_true, decide_eq_true_eq, List.all_eq_true] at h
  obtain ⟨⟨h1, h2⟩, h3⟩ := h
  refine up2_ext _ _ (low_up _) ((rs2_iff B).mp h1) fun p => ?_
  rw [mem_low, U_cOf]
  have anti : ∀ p ∈ B, ∀ q ∈ B, und q p = true → q = p := fun p hp q hq hu => (mem_low.mp (h3.symm ▸ hp : p ∈ low B)).2 q hq hu
  constructor
  · rintro ⟨a, b⟩
    obtain ⟨_, a2⟩ := List.mem_filter.mp a
    obtain ⟨q, hq, hu⟩ := bey_iff.mp a2
    have := b q (List.mem_filter.mpr ⟨inR_iff.mp (h2 q hq), bey_iff.mpr ⟨q, hq, und_refl q⟩⟩) hu
    exact this ▸ hq
  · intro hp
    refine ⟨List.mem_filter.mpr ⟨inR_iff.mp (h2 p hp), bey_iff.mpr ⟨p, hp, und_refl p⟩⟩, fun q hq hu => ?_⟩
    obtain ⟨_, q2⟩ := List.mem_filter.mp hq
    obtain ⟨r, hr, hv⟩ := bey_iff.mp q2
    have := anti p hp r hr (und_tr hv hu)
    subst this
    exact und_asy hu hv
/-- what keeps the slid ones beyond and the held ones not -/
def con (F H : List Pz) (c : List Nat) : Bool := (F.all fun p => decide (atS c p ≤ p.2)) && H.all fun p => decide (p.2 < atS c p)
theorem con_iff {F H : List Pz} {c : List Nat} : con F H c = true ↔ (∀ p ∈ F, atS c p ≤ p.2) ∧ ∀ p ∈ H, p.2 < atS c p := by
  unfold con
  rw [Bool.and_eq_true, List.all_eq_true, List.all_eq_true]
  simp only [decide_eq_true_eq]
def cons_ (m : Nat) (F H : List Pz) : List (List Nat) := (St m (m + 1)).filter (con F H)
def bords (m : Nat) (F H : List Pz) : List (List Pz) := (cons_ m F H).map fun c => low (U m c)
def fits_ (m : Nat) (F H B : List Pz) : Bool := (isB m B && F.all (bey B)) && !(H.any (bey B))
def free (H : List Pz) (p : Pz) : Bool := !(H.any fun h => und p h)
theorem free_iff {H : List Pz} {p : Pz} : free H p = true ↔ ∀ h ∈ H, und p h = false := by
  unfold free
  rw [Bool.not_eq_true', ← Bool.not_eq_true, List.any_eq_true]
  constructor
  · intro h x hx
    cases e : und p x with
    | false => rfl
    | true => exact absurd ⟨x, hx, e⟩ h
  · rintro h ⟨x, hx, e⟩
    rw [h x hx] at e
    cases e
def noT (F H : List Pz) : Prop := ∀ p ∈ F, ∀ h ∈ H, und p h = false
section
variable {m : Nat} {F H : List Pz} (hF : ∀ p ∈ F, p ∈ spots m) (hH : ∀ p ∈ H, p ∈ spots m)
include hF hH
theorem fits_mem (B : List Pz) : fits_ m F H B = decide (B ∈ bords m F H) := by
  rw [Bool.eq_iff_iff, decide_eq_true_eq]
  unfold fits_ bords cons_
  rw [Bool.and_eq_true, Bool.and_eq_true, List.all_eq_true, Bool.not_eq_true', ← Bool.not_eq_true, List.any_eq_true, List.mem_map]
  constructor
  · rintro ⟨⟨h1, h2⟩, h3⟩
    refine ⟨cOf m B, List.mem_filter.mpr ⟨cOf_St m B, con_iff.mpr ⟨fun p hp => (cOf_at (hF p hp)).mpr (h2 p hp), fun p hp => ?_⟩⟩, isB_back h1⟩
    apply Classical.byContradiction
    intro z
    exact h3 ⟨p, hp, (cOf_at (hH p hp)).mp (by omega)⟩
  · rintro ⟨c, hc, rfl⟩
    obtain ⟨c1, c2⟩ := List.mem_filter.mp hc
    obtain ⟨k1, k2⟩ := con_iff.mp c2
    refine ⟨⟨isB_low fun p hp => (mem_U.mp hp).1, fun p hp => ?_⟩, ?_⟩
    · rw [bey_low]
      exact bey_iff.mpr ⟨p, mem_U.mpr ⟨hF p hp, k1 p hp⟩, und_refl p⟩
    · rintro ⟨p, hp, hb⟩
      rw [bey_low] at hb
      obtain ⟨q, hq, hu⟩ := bey_iff.mp hb
      have := (mem_U.mp (U_up c1 hq (hH p hp) hu)).2
      have := k2 p hp
      omega
theorem con_late (hn : noT F H) : cOf m F ∈ cons_ m F H := by
  unfold cons_
  rw [List.mem_filter, con_iff]
  refine ⟨cOf_St m F, fun p hp => (cOf_at (hF p hp)).mpr (bey_iff.mpr ⟨p, hp, und_refl p⟩), fun p hp => ?_⟩
  apply Classical.byContradiction
  intro z
  obtain ⟨q, hq, hu⟩ := bey_iff.mp ((cOf_at (hH p hp)).mp (by omega : atS (cOf m F) p ≤ p.2))
  rw [hn q hq p hp] at hu
  cases hu
theorem bey_free {p : Pz} (hp : p ∈ spots m) : bey ((spots m).filter (free H)) p = free H p := by
  rw [Bool.eq_iff_iff, bey_iff]
  constructor
  · rintro ⟨q, hq, hu⟩
    obtain ⟨_, q2⟩ := List.mem_filter.mp hq
    rw [free_iff] at q2 ⊢
    intro h hh
    have := q2 h hh
    cases e : und p h with
    | false => rfl
    | true => rw [und_tr hu e] at this; cases this
  · intro h
    exact ⟨p, List.mem_filter.mpr ⟨hp, h⟩, und_refl p⟩
theorem con_early (hn : noT F H) : cOf m ((spots m).filter (free H)) ∈ cons_ m F H := by
  unfold cons_
  rw [List.mem_filter, con_iff]
  refine ⟨cOf_St m _, fun p hp => (cOf_at (hF p hp)).mpr ?_, fun p hp => ?_⟩
  · rw [bey_free hF hH (hF p hp), free_iff]
    exact fun h hh => hn p hp h hh
  · apply Classical.byContradiction
    intro z
    have := (cOf_at (hH p hp)).mp (by omega : atS (cOf m ((spots m).filter (free H))) p ≤ p.2)
    rw [bey_free hF hH (hH p hp), free_iff] at this
    have := this p hp
    rw [und_refl] at this
    cases this
theorem cons_ne : cons_ m F H ≠ [] ↔ noT F H := by
  constructor
  · intro h p hp q hq
    obtain ⟨c, hc⟩ := List.exists_mem_of_ne_nil _ h
    obtain ⟨c1, c2⟩ := List.mem_filter.mp hc
    obtain ⟨k1, k2⟩ := con_iff.mp c2
    cases e : und p q with
    | false => rfl
    | true =>
      have := (mem_U.mp (U_up c1 (mem_U.mpr ⟨hF p hp, k1 p hp⟩) (hH q hq) e)).2
      have := k2 q hq
      omega
  · intro h z
    have := con_late hF hH h
    rw [z] at this
    cases this
/-- in every one of them: what lies over the slid ones -/
theorem all_over (hn : noT F H) : ((spots m).filter fun p => (cons_ m F H).all fun c => decide (p ∈ U m c)) = (spots m).filter (bey F) := by
  refine List.filter_congr fun p hp => ?_
  rw [Bool.eq_iff_iff, List.all_eq_true]
  simp only [decide_eq_true_eq]
  constructor
  · intro h
    have := h _ (con_late hF hH hn)
    rw [U_cOf] at this
    exact (List.mem_filter.mp this).2
  · intro h c hc
    obtain ⟨c1, c2⟩ := List.mem_filter.mp hc
    obtain ⟨k1, k2⟩ := con_iff.mp c2
    obtain ⟨q, hq, hu⟩ := bey_iff.mp h
    exact U_up c1 (mem_U.mpr ⟨hF q hq, k1 q hq⟩) hp hu
theorem any_over (hn : noT F H) : ((spots m).filter fun p => (cons_ m F H).any fun c => decide (p ∈ U m c)) = (spots m).filter (free H) := by
  refine List.filter_congr fun p hp => ?_
  rw [Bool.eq_iff_iff, List.any_eq_true]
  simp only [decide_eq_true_eq]
  constructor
  · rintro ⟨c, hc, hu⟩
    obtain ⟨c1, c2⟩ := List.mem_filter.mp hc
    obtain ⟨k1, k2⟩ := con_iff.mp c2
    rw [free_iff]
    intro h hh
    cases e : und p h with
    | false => rfl
    | true =>
      have := (mem_U.mp (U_up c1 hu (hH h hh) e)).2
      have := k2 h hh
      omega
  · intro h
    refine ⟨_, con_early hF hH hn, ?_⟩
    rw [U_cOf, List.mem_filter, bey_free hF hH hp]
    exact ⟨hp, h⟩
theorem low_bey : low ((spots m).filter (bey F)) = low F := low_ext fun p => by
  rw [mem_low, mem_low]
  constructor
  · rintro ⟨a, b⟩
    obtain ⟨a1, a2⟩ := List.mem_filter.mp a
    obtain ⟨q, hq, hu⟩ := bey_iff.mp a2
    have e := b q (List.mem_filter.mpr ⟨hF q hq, bey_iff.mpr ⟨q, hq, und_refl q⟩⟩) hu
    subst e
    exact ⟨hq, fun r hr hv => b r (List.mem_filter.mpr ⟨hF r hr, bey_iff.mpr ⟨r, hr, und_refl r⟩⟩) hv⟩
  · rintro ⟨a, b⟩
    refine ⟨List.mem_filter.mpr ⟨hF p a, bey_iff.mpr ⟨p, a, und_refl p⟩⟩, fun q hq hu => ?_⟩
    obtain ⟨_, q2⟩ := List.mem_filter.mp hq
    obtain ⟨r, hr, hv⟩ := bey_iff.mp q2
    have e := b r hr (und_tr hv hu)
    subst e
    exact und_asy hu hv
/-- the open spots -/
theorem open_eq : ((spots m).filter fun p => bey (low ((spots m).filter (free H))) p && !bey (low F) p) = ((spots m).filter (free H)).filter fun p => !decide (p ∈ (spots m).filter (bey F)) := by
  rw [List.filter_filter]
  refine List.filter_congr fun p hp => ?_
  rw [bey_low, bey_low, bey_free hF hH hp, Bool.and_comm]
  congr 2
  rw [Bool.eq_iff_iff, decide_eq_true_eq, List.mem_filter]
  exact ⟨fun h => ⟨hp, h⟩, fun h => h.2⟩
end
end Dl
set_option Elab.async false
set_option linter.all false
set_option maxRecDepth 100000
set_option maxHeartbeats 1000000
/-! Borders: counting stairs. -/
namespace Dl
open PySem
theorem cnt_add {α : Type} (p q : α → Bool) : ∀ X : List α, (∀ x ∈ X, ¬ (p x = true ∧ q x = true)) → (X.filter fun x => p x || q x).length = (X.filter p).length + (X.filter q).length
  | [], _ => by simp
  | x :: X, h => by
    have ih := cnt_add p q X fun y hy => h y (by simp [hy])
    have := h x (by simp)
    rw [List.filter_cons, List.filter_cons, List.filter_cons]
    cases c1 : p x <;> cases c2 : q x <;> simp [c1, c2] at this ⊢ <;> omega
theorem cnt_sum {α : Type} (X : List α) (f : α → Nat) (v : Nat) : ∀ n, ((List.range n).map fun i => (X.filter fun x => decide (f x = v + i)).length).sum = (X.filter fun x => decide (v ≤ f x) && decide (f x < v + n)).length
  | 0 => by
    have : (X.filter fun x => decide (v ≤ f x) && decide (f x < v + 0)) = [] := by
      rw [List.filter_eq_nil_iff]
      intro x _
      simp
    rw [this]
    rfl
  | n + 1 => by
    rw [List.range_succ, List.map_append, List.sum_append, cnt_sum X f v n]
    have e : (X.filter fun x => decide (v ≤ f x) && decide (f x < v + (n + 1))) = X.filter fun x => (decide (v ≤ f x) && decide (f x < v + n)) || decide (f x = v + n) := by
      refine List.filter_congr fun x _ => ?_
      rw [Bool.eq_iff_iff]
      simp only [Bool.and_eq_true, Bool.or_eq_true, decide_eq_true_eq]
      omega
    rw [e, cnt_add _ _ X fun x _ h => by
      simp only [Bool.and_eq_true, decide_eq_true_eq] at h
      omega]
    simp
theorem sum_ite {α : Type} (p : α → Bool) : ∀ X : List α, (X.map fun x => if p x = true then 1 else 0).sum = (X.filter p).length
  | [] => rfl
  | x :: X => by
    rw [List.map_cons, List.sum_cons, sum_ite p X, List.filter_cons]
    cases p x <;> simp <;> omega
theorem one_at (P : Nat → Bool) (v : Nat) : ∀ n, ((List.range n).filter fun a => P a && decide (a = v)).length = if (P v && decide (v < n)) = true then 1 else 0
  | 0 => by simp
  | n + 1 => by
    rw [List.range_succ, List.filter_append, List.length_append, one_at P v n, List.filter_cons, List.filter_nil]
    by_cases e : n = v
    · subst e
      cases P n <;> simp
    · have : (P n && decide (n = v)) = false := by simp [e]
      rw [this]
      by_cases c : v < n
      · have c2 : v < n + 1 := by omega
        simp [c, c2]
      · have c2 : ¬ v < n + 1 := by omega
        simp [c, c2]
def okc (L H : Nat → Int) (c : List Nat) : Bool := (List.range c.length).all fun x => decide (L x ≤ (c.getD x 0 : Nat)) && decide (((c.getD x 0 : Nat) : Int) ≤ H x)
theorem okc_snoc (L H : Nat → Int) (c : List Nat) (a : Nat) : okc L H (c ++ [a]) = (okc L H c && (decide (L c.length ≤ (a : Nat)) && decide (((a : Nat) : Int) ≤ H c.length))) := by
  unfold okc
  rw [List.length_append, List.length_singleton, List.range_succ, List.all_append, List.all_cons, List.all_nil, Bool.and_true]
  congr 1
  · rw [Bool.eq_iff_iff, List.all_eq_true, List.all_eq_true]
    refine forall_congr' fun x => forall_congr' fun hx => ?_
    rw [getD_app, if_pos (List.mem_range.mp hx)]
  · rw [getD_app, if_neg (by omega), if_pos rfl]
theorem last_snoc (m : Nat) (c : List Nat) (a : Nat) : lastO m (c ++ [a]) = a := by
  unfold lastO
  rw [List.getLast?_append]
  simp
theorem last_le {m j : Nat} {c : List Nat} (h : c ∈ St m j) : lastO m c ≤ m + 1 := by
  obtain ⟨h1, h2⟩ := mem_St.mp h
  by_cases z : 0 < c.length
  · rw [getD_last z]
    exact h2.t _ (by omega)
  · have : c = [] := List.eq_nil_of_length_eq_zero (by omega)
    subst this
    exact Nat.le_refl _
def W (m : Nat) (L H : Nat → Int) (j v : Nat) : Nat := ((St m j).filter fun c => okc L H c && decide (lastO m c = v)).length
theorem W_zero (m : Nat) (L H : Nat → Int) (v : Nat) : W m L H 0 v = if v = m + 1 then 1 else 0 := by
  unfold W St okc lastO
  by_cases c : v = m + 1
  · subst c; simp
  · have c' : ¬ m + 1 = v := fun z => c z.symm
    simp [c, c']
theorem W_sum (m : Nat) (L H : Nat → Int) (j v : Nat) (hv : v ≤ m + 1) : ((List.range (m + 2 - v)).map fun i => W m L H j (v + i)).sum = ((St m j).filter fun c => okc L H c && decide (v ≤ lastO m c)).length := by
  have h := cnt_sum ((St m j).filter (okc L H)) (lastO m) v (m + 2 - v)
  simp only [List.filter_filter] at h
  unfold W
  have e1 : ((List.range (m + 2 - v)).map fun i => ((St m j).filter fun c => okc L H c && decide (lastO m c = v + i)).length) = (List.range (m + 2 - v)).map fun i => ((St m j).filter fun c => decide (lastO m c = v + i) && okc L H c).length := List.map_congr_left fun i _ => by
    congr 1
    exact List.filter_congr fun c _ => Bool.and_comm _ _
  rw [e1, h]
  congr 1
  refine List.filter_congr fun c hc => ?_
  have := last_le hc
  rw [Bool.eq_iff_iff]
  simp only [Bool.and_eq_true, decide_eq_true_eq]
  constructor
  · rintro ⟨⟨a, _⟩, b⟩; exact ⟨b, a⟩
  · rintro ⟨a, b⟩; exact ⟨⟨b, by omega⟩, a⟩
theorem W_succ (m : Nat) (L H : Nat → Int) (j v : Nat) (hv : v ≤ m + 1) : W m L H (j + 1) v = if L j ≤ (v : Nat) ∧ ((v : Nat) : Int) ≤ H j then ((List.range (m + 2 - v)).map fun i => W m L H j (v + i)).sum else 0 := by
  rw [W_sum m L H j v hv]
  unfold W
  rw [St, List.filter_flatMap, List.length_flatMap]
  have e : ((St m j).map fun c => (((List.range (lastO m c + 1)).map fun a => c ++ [a]).filter fun c => okc L H c && decide (lastO m c = v)).length) = (St m j).map fun c => if (okc L H c && (decide (L j ≤ (v : Nat)) && decide (((v : Nat) : Int) ≤ H j)) && decide (v ≤ lastO m c)) = true then 1 else 0 := List.map_congr_left fun c hc => by
    have cl := (mem_St.mp hc).1
    rw [List.filter_map, List.length_map]
    have e1 : ((List.range (lastO m c + 1)).filter ((fun c => okc L H c && decide (lastO m c = v)) ∘ fun a => c ++ [a])) = (List.range (lastO m c + 1)).filter fun a => (okc L H c && (decide (L j ≤ (a : Nat)) && decide (((a : Nat) : Int) ≤ H j))) && decide (a = v) := List.filter_congr fun a _ => by
      simp only [Function.comp, okc_snoc, last_snoc, cl]
    rw [e1, one_at (fun a => okc L H c && (decide (L j ≤ (a : Nat)) && decide (((a : Nat) : Int) ≤ H j)))]
    rw [show decide (v < lastO m c + 1) = decide (v ≤ lastO m c) from decide_eq_decide.mpr (by omega)]
  rw [e, sum_ite]
  by_cases c : L j ≤ (v : Nat) ∧ ((v : Nat) : Int) ≤ H j
  · rw [if_pos c]
    congr 1
    refine List.filter_congr fun x _ => ?_
    rw [decide_eq_true c.1, decide_eq_true c.2, Bool.and_true, Bool.and_true]
  · rw [if_neg c]
    have : ((St m j).filter fun x => okc L H x && (decide (L j ≤ (v : Nat)) && decide (((v : Nat) : Int) ≤ H j)) && decide (v ≤ lastO m x)) = [] := by
      rw [List.filter_eq_nil_iff]
      intro x _
      simp only [Bool.and_eq_true, decide_eq_true_eq]
      exact fun h => c ⟨h.1.2.1, h.1.2.2⟩
    rw [this]
    rfl
theorem W_all (m : Nat) (L H : Nat → Int) (j : Nat) : ((List.range (m + 2)).map fun i => W m L H j i).sum = ((St m j).filter (okc L H)).length := by
  have h := W_sum m L H j 0 (by omega)
  simp only [Nat.zero_add, Nat.sub_zero] at h
  rw [h]
  congr 1
  refine List.filter_congr fun c _ => ?_
  simp
def Lo (H : List Pz) (x : Nat) : Int := maxL ((0 : Int) :: (H.filter fun p => decide ((x : Int) ≤ p.1)).map fun p => p.2 + 1)
def Hi (m : Nat) (F : List Pz) (x : Nat) : Int := minL (((m : Int) + 1) :: (F.filter fun p => decide (p.1 ≤ (x : Int))).map fun p => p.2)
theorem okc_con {m : Nat} {F H : List Pz} (hF : ∀ p ∈ F, p ∈ spots m) (hH : ∀ p ∈ H, p ∈ spots m) {c : List Nat} (hc : c ∈ St m (m + 1)) : okc (Lo H) (Hi m F) c = con F H c := by
  obtain ⟨cl, cd⟩ := mem_St.mp hc
  rw [Bool.eq_iff_iff, con_iff]
  unfold okc
  rw [List.all_eq_true]
  simp only [List.mem_range, Bool.and_eq_true, decide_eq_true_eq, cl]
  constructor
  · intro h
    refine ⟨fun p hp => ?_, fun p hp => ?_⟩
    · have sp := mem_spots.mp (hF p hp)
      have := (h p.1.toNat (by omega)).2
      have k := minL_le (l := ((m : Int) + 1) :: (F.filter fun q => decide (q.1 ≤ ((p.1.toNat : Nat) : Int))).map fun q => q.2) (y := p.2) (List.mem_cons_of_mem _ (List.mem_map.mpr ⟨p, List.mem_filter.mpr ⟨hp, by rw [decide_eq_true_eq]; omega⟩, rfl⟩))
      unfold atS
      unfold Hi at this
      omega
    · have sp := mem_spots.mp (hH p hp)
      have := (h p.1.toNat (by omega)).1
      have k := maxL_le (l := (0 : Int) :: (H.filter fun q => decide (((p.1.toNat : Nat) : Int) ≤ q.1)).map fun q => q.2 + 1) (y := p.2 + 1) (List.mem_cons_of_mem _ (List.mem_map.mpr ⟨p, List.mem_filter.mpr ⟨hp, by rw [decide_eq_true_eq]; omega⟩, rfl⟩))
      unfold atS
      unfold Lo at this
      omega
  · rintro ⟨h1, h2⟩ x hx
    constructor
    · have k := maxL_mem (l := (0 : Int) :: (H.filter fun q => decide ((x : Int) ≤ q.1)).map fun q => q.2 + 1) (by simp)
      unfold Lo
      rcases List.mem_cons.mp k with q | q
      · omega
      · obtain ⟨p, hp, e⟩ := List.mem_map.mp q
        obtain ⟨p1, p2⟩ := List.mem_filter.mp hp
        rw [decide_eq_true_eq] at p2
        have sp := mem_spots.mp (hH p p1)
        have := h2 p p1
        have d := cd.d x p.1.toNat (by omega) (by omega)
        unfold atS at this
        omega
    · have k := minL_mem (l := ((m : Int) + 1) :: (F.filter fun q => decide (q.1 ≤ (x : Int))).map fun q => q.2) (by simp)
      unfold Hi
      have t := cd.t x (by omega)
      rcases List.mem_cons.mp k with q | q
      · omega
      · obtain ⟨p, hp, e⟩ := List.mem_map.mp q
        obtain ⟨p1, p2⟩ := List.mem_filter.mp hp
        rw [decide_eq_true_eq] at p2
        have sp := mem_spots.mp (hF p p1)
        have := h1 p p1
        have d := cd.d p.1.toNat x (by omega) (by omega)
        unfold atS at this
        omega
theorem ways_all {m : Nat} {F H : List Pz} (hF : ∀ p ∈ F, p ∈ spots m) (hH : ∀ p ∈ H, p ∈ spots m) : ((List.range (m + 2)).map fun i => W m (Lo H) (Hi m F) (m + 1) i).sum = (bords m F H).length := by
  rw [W_all]
  unfold bords cons_
  rw [List.length_map]
  congr 1
  exact List.filter_congr fun c hc => okc_con hF hH hc
end Dl
set_option Elab.async false
set_option linter.all false
set_option maxRecDepth 100000
set_option maxHeartbeats 4000000
namespace Dl
open PySem PySem.Spec PyProof.Rows L2
abbrev top (i : Nat) : Stmt := PySem.Challenge.pw_slopeward_k52_whole_borders_or_tangles.main.body.getD i (.Pass ⟨0, 0, 0, 0⟩)
abbrev fuel : Nat := 1000000
def d_is_ascending_E1 : CE := (.cmp .lt (.idx (.var 0) (.var 1)) (.idx (.var 0) (.bin .add (.var 1) (.int 1))))
def d_is_ascending : Def := ⟨"is_ascending", ["items"], ["items", "at"],
  [(.ret (.gen true [1] (.nm 1) (.rng1 (.bin .sub (.bi .len [(.var 0)]) (.int 1))) [] d_is_ascending_E1))]⟩
def d_lies_under : Def := ⟨"lies_under", ["one", "other"], ["one", "other"],
  [(.ret (.and (.cmp .le (.idx (.var 0) (.int 0)) (.idx (.var 1) (.int 0))) (.cmp .le (.idx (.var 0) (.int 1)) (.idx (.var 1) (.int 1)))))]⟩
def d_lowest_spots_E1 : CE := (.and (.call 1 [(.var 3), (.var 2)]) (.cmp .ne (.var 3) (.var 2)))
def d_lowest_spots_T1 : List CE := [(.not (.gen false [3] (.nm 3) (.var 1) [] d_lowest_spots_E1))]
def d_lowest_spots : Def := ⟨"lowest_spots", ["spots"], ["spots", "found", "spot", "one"],
  [(.set (.a [0]) 1 (.ssor (.var 0))), (.ret (.bi .tuple [(.lc [2] (.nm 2) (.var 1) d_lowest_spots_T1 (.var 2))]))]⟩
def d_all_spots_E1 : CE := (.rng1 (.bin .add (.var 0) (.int 1)))
def d_all_spots_E2 : CE := (.tup [(.var 1), (.var 2)])
def d_all_spots : Def := ⟨"all_spots", ["m"], ["m", "new", "wind"],
  [(.ret (.lc2 [1, 2] [2] (.nm 1) (.rng1 (.bin .add (.var 0) (.int 1))) [] (.nm 2) d_all_spots_E1 [] d_all_spots_E2))]⟩
def d_is_beyond_E1 : CE := (.call 1 [(.var 2), (.var 1)])
def d_is_beyond : Def := ⟨"is_beyond", ["border", "spot"], ["border", "spot", "one"],
  [(.ret (.gen false [2] (.nm 2) (.var 0) [] d_is_beyond_E1))]⟩
def d_is_border_E1 : CE := (.and (.chain .le .le (.int 0) (.var 2) (.var 0)) (.chain .le .le (.int 0) (.var 3) (.var 0)))
def d_is_border : Def := ⟨"is_border", ["m", "border"], ["m", "border", "new", "wind"],
  [(.ifs (.or (.not (.call 0 [(.var 1)])) (.not (.gen true [2, 3] (.tp [(.nm 2), (.nm 3)]) (.var 1) [] d_is_border_E1))) [(.ret (.bl false))] []), (.ret (.cmp .eq (.call 2 [(.var 1)]) (.var 1)))]⟩
def d_border_fits_E1 : CE := (.call 4 [(.var 3), (.var 4)])
def d_border_fits_E2 : CE := (.call 4 [(.var 3), (.var 4)])
def d_border_fits : Def := ⟨"border_fits", ["m", "slid", "held", "border"], ["m", "slid", "held", "border", "spot"],
  [(.ifs (.or (.not (.call 5 [(.var 0), (.var 3)])) (.not (.gen true [4] (.nm 4) (.var 1) [] d_border_fits_E1))) [(.ret (.bl false))] []), (.ret (.not (.gen false [4] (.nm 4) (.var 2) [] d_border_fits_E2)))]⟩
def d_told_tangle_T1 : List CE := [(.call 1 [(.var 3), (.var 4)])]
def d_told_tangle_E1 : CE := (.tup [(.var 3), (.var 4)])
def d_told_tangle : Def := ⟨"told_tangle", ["slid", "held"], ["slid", "held", "tangles", "one", "other"],
  [(.own 2 (.lc2 [3, 4] [4] (.nm 3) (.var 0) [] (.nm 4) (.var 1) d_told_tangle_T1 d_told_tangle_E1)), (.ret (.ite (.var 2) (.bi .min [(.var 2)]) .non))]⟩
def d_late_border : Def := ⟨"late_border", ["slid"], ["slid"],
  [(.ret (.call 2 [(.var 0)]))]⟩
def d_early_border_E1 : CE := (.call 1 [(.var 2), (.var 3)])
def d_early_border_T1 : List CE := [(.not (.gen false [3] (.nm 3) (.var 1) [] d_early_border_E1))]
def d_early_border : Def := ⟨"early_border", ["m", "held"], ["m", "held", "spot", "one"],
  [(.ret (.call 2 [(.lc [2] (.nm 2) (.call 3 [(.var 0)]) d_early_border_T1 (.var 2))]))]⟩
def d_open_spots_T1 : List CE := [(.and (.call 4 [(.var 3), (.var 5)]) (.not (.call 4 [(.var 4), (.var 5)])))]
def d_open_spots : Def := ⟨"open_spots", ["m", "slid", "held"], ["m", "slid", "held", "early", "late", "spot"],
  [(.set .b 3 (.call 9 [(.var 0), (.var 2)])), (.set .b 4 (.call 8 [(.var 1)])), (.ret (.bi .tuple [(.lc [5] (.nm 5) (.call 3 [(.var 0)]) d_open_spots_T1 (.var 5))]))]⟩
def d_borders_left_T1 : List CE := [(.cmp .ge (.var 8) (.var 4))]
def d_borders_left_E1 : CE := (.bin .add (.var 9) (.int 1))
def d_borders_left_T2 : List CE := [(.cmp .le (.var 8) (.var 4))]
def d_borders_left_E2 : CE := (.ite (.chain .le .le (.var 5) (.var 7) (.var 6)) (.bi .sum [(.slc (.var 3) (.var 7) .non)]) (.int 0))
def d_borders_left_L1 : List CS := [(.set .b 5 (.bi .max [(.bin .add (.lst [(.int 0)]) (.lc [8, 9] (.tp [(.nm 8), (.nm 9)]) (.var 2) d_borders_left_T1 d_borders_left_E1))])), (.set .b 6 (.bi .min [(.bin .add (.lst [(.bin .add (.var 0) (.int 1))]) (.lc [8, 9] (.tp [(.nm 8), (.nm 9)]) (.var 1) d_borders_left_T2 (.var 9)))])), (.own 3 (.lc [7] (.nm 7) (.rng1 (.bin .add (.var 0) (.int 2))) [] d_borders_left_E2))]
def d_borders_left : Def := ⟨"borders_left", ["m", "slid", "held"], ["m", "slid", "held", "ways", "new", "low", "high", "least", "other", "wind"],
  [(.own 3 (.bin .add (.bin .mul (.lst [(.int 0)]) (.bin .add (.var 0) (.int 1))) (.lst [(.int 1)]))), (.loop .b (.nm 4) (.rng1 (.bin .add (.var 0) (.int 1))) d_borders_left_L1), (.ret (.bi .sum [(.var 3)]))]⟩
def d_law_cell : Def := ⟨"_law_cell", ["script", "k"], ["script", "k"],
  bCell⟩
def d_law_draws : Def := ⟨"_law_draws", ["cell", "count"], ["cell", "count", "rest", "digits", "seed", "draws", "k", "mixed"],
  bDraws⟩
def d_law_is_integer : Def := ⟨"_law_is_integer", ["value"], ["value"],
  bIsInt⟩
def d_law_is : Def := ⟨"_law_is", ["value", "due"], ["value", "due", "at"],
  (bIs 14 15)⟩
def d_law_rising_E1 : CE := (.cmp .lt (.idx (.var 0) (.var 1)) (.idx (.var 0) (.bin .add (.var 1) (.int 1))))
def d_law_rising : Def := ⟨"_law_rising", ["items"], ["items", "at"],
  [(.ret (.bi .all [(.lc [1] (.nm 1) (.rng1 (.bin .sub (.bi .len [(.var 0)]) (.int 1))) [] d_law_rising_E1)]))]⟩
def d_law_bent_row : Def := ⟨"_law_bent_row", ["row", "draws", "items"], ["row", "draws", "items", "way", "at", "odd"],
  bBentRow⟩
def d_law_under : Def := ⟨"_law_under", ["one", "other"], ["one", "other"],
  [(.ret (.and (.cmp .le (.idx (.var 0) (.int 0)) (.idx (.var 1) (.int 0))) (.cmp .le (.idx (.var 0) (.int 1)) (.idx (.var 1) (.int 1)))))]⟩
def d_law_spots_E1 : CE := (.tup [(.var 2), (.var 3)])
def d_law_spots_L1 : List CS := [(.own 1 (.bin .add (.var 1) (.lc [3] (.nm 3) (.rng1 (.bin .add (.var 0) (.int 1))) [] d_law_spots_E1)))]
def d_law_spots : Def := ⟨"_law_spots", ["m"], ["m", "found", "new", "wind"],
  [(.own 1 (.lst [])), (.loop .b (.nm 2) (.rng1 (.bin .add (.var 0) (.int 1))) d_law_spots_L1), (.ret (.var 1))]⟩
def d_law_lowest_T1 : List CE := [(.call 18 [(.var 3), (.var 2)])]
def d_law_lowest_T2 : List CE := [(.cmp .eq (.bi .len [(.lc [3] (.nm 3) (.var 1) d_law_lowest_T1 (.var 3))]) (.int 1))]
def d_law_lowest : Def := ⟨"_law_lowest", ["spots"], ["spots", "each", "one", "other"],
  [(.set (.a [0]) 1 (.ssor (.var 0))), (.ret (.bi .tuple [(.lc [2] (.nm 2) (.var 1) d_law_lowest_T2 (.var 2))]))]⟩
def d_law_stairs_E1 : CE := (.bin .add (.var 4) (.tup [(.var 5)]))
def d_law_stairs_L1 : List CS := [(.own 3 (.bin .add (.var 3) (.lc [5] (.nm 5) (.rng1 (.bin .add (.ite (.cmp .gt (.bi .len [(.var 4)]) (.int 0)) (.idx (.var 4) (.neg (.int 1))) (.bin .add (.var 0) (.int 1))) (.int 1))) [] d_law_stairs_E1)))]
def d_law_stairs_L2 : List CS := [(.own 3 (.lst [])), (.loop (.a [1]) (.nm 4) (.var 1) d_law_stairs_L1), (.set (.a [3]) 1 (.var 3))]
def d_law_stairs : Def := ⟨"_law_stairs", ["m"], ["m", "found", "new", "longer", "one", "at"],
  [(.own 1 (.lst [(.tup [])])), (.loop .b (.nm 2) (.rng1 (.bin .add (.var 0) (.int 1))) d_law_stairs_L2), (.ret (.var 1))]⟩
def d_law_is_border_E1 : CE := (.and (.chain .le .le (.int 0) (.idx (.var 2) (.int 0)) (.var 0)) (.chain .le .le (.int 0) (.idx (.var 2) (.int 1)) (.var 0)))
def d_law_is_border : Def := ⟨"_law_is_border", ["m", "border"], ["m", "border", "one"],
  [(.ifs (.or (.not (.call 16 [(.var 1)])) (.not (.bi .all [(.lc [2] (.nm 2) (.var 1) [] d_law_is_border_E1)]))) [(.ret (.bl false))] []), (.ret (.cmp .eq (.call 20 [(.var 1)]) (.var 1)))]⟩
def d_law_bent_asked_L1 : List CS := [(.set .b 7 (.tup [(.bin .mod (.bi .int [(.idx (.var 5) (.int 3))]) (.bin .add (.var 0) (.int 1))), (.bin .mod (.bi .int [(.idx (.var 5) (.int 4))]) (.bin .add (.var 0) (.int 1)))])), (.set .b 8 (.tup [(.tup [(.int 0), (.int 0)]), (.tup [(.var 0), (.var 0)]), (.tup [(.bin .sub (.int 0) (.int 1)), (.int 2)]), (.tup [(.int 1), (.bin .add (.var 0) (.int 1))]), (.tup [(.bin .pow (.int 10) (.int 20)), (.int 0)]), (.var 7)])), (.set .b 9 (.call 17 [(.idx (.var 3) (.bin .mod (.var 6) (.bi .len [(.var 3)]))), (.tup [(.idx (.var 5) (.var 6)), (.idx (.var 5) (.bin .add (.var 6) (.int 3))), (.idx (.var 5) (.bin .add (.var 6) (.int 6)))]), (.var 8)])), (.ifs (.not (.call 15 [(.call 5 [(.var 0), (.var 9)]), (.call 22 [(.var 0), (.var 9)])])) [(.ret (.bl false))] []), (.ifs (.not (.call 15 [(.call 6 [(.var 0), (.var 1), (.var 2), (.var 9)]), (.cmp .inn (.var 9) (.var 4))])) [(.ret (.bl false))] [])]
def d_law_bent_asked : Def := ⟨"_law_bent_asked", ["m", "fell", "held", "base", "borders", "draws"], ["m", "fell", "held", "base", "borders", "draws", "turn", "drawn", "items", "asked"],
  [(.loop .b (.nm 6) (.rng1 (.int 6)) d_law_bent_asked_L1), (.ret (.bl true))]⟩
def d_law_L1 : List CS := [(.set .b 16 (.idx (.var 6) (.bin .mod (.bi .int [(.idx (.var 1) (.bin .add (.bin .add (.int 9) (.var 9)) (.bin .mul (.int 4) (.var 2))))]) (.bi .len [(.var 6)])))), (.ifs (.cmp .ge (.idx (.var 16) (.int 1)) (.idx (.var 5) (.idx (.var 16) (.int 0)))) [(.set .b 7 (.bin .add (.var 7) (.tup [(.var 16)])))] [(.set .b 8 (.bin .add (.var 8) (.tup [(.var 16)])))])]
def d_law_T1 : List CE := [(.call 18 [(.var 11), (.var 22)])]
def d_law_E1 : CE := (.tup [(.var 11), (.var 22)])
def d_law_L2 : List CS := [(.own 10 (.bin .add (.var 10) (.lc [22] (.nm 22) (.var 8) d_law_T1 d_law_E1)))]
def d_law_E2 : CE := (.cmp .ge (.idx (.var 16) (.int 1)) (.idx (.var 11) (.idx (.var 16) (.int 0))))
def d_law_E3 : CE := (.cmp .lt (.idx (.var 16) (.int 1)) (.idx (.var 11) (.idx (.var 16) (.int 0))))
def d_law_T2 : List CE := [(.cmp .ge (.idx (.var 16) (.int 1)) (.idx (.var 11) (.idx (.var 16) (.int 0))))]
def d_law_L3 : List CS := [(.ifs (.and (.bi .all [(.lc [16] (.nm 16) (.var 7) [] d_law_E2)]) (.bi .all [(.lc [16] (.nm 16) (.var 8) [] d_law_E3)])) [(.appF 13 (.lc [16] (.nm 16) (.var 6) d_law_T2 (.var 16))), (.app .b 12 (.call 20 [(.idx (.var 13) (.neg (.int 1)))]))] [])]
def d_law_T3 : List CE := [(.call 18 [(.var 16), (.var 11)])]
def d_law_T4 : List CE := [(.cmp .eq (.bi .len [(.lc [11] (.nm 11) (.var 8) d_law_T3 (.var 11))]) (.int 0))]
def d_law_T5 : List CE := [(.cmp .inn (.var 16) (.var 11))]
def d_law_T6 : List CE := [(.cmp .gt (.bi .len [(.lc [11] (.nm 11) (.var 13) d_law_T5 (.var 11))]) (.int 0))]
def d_law_T7 : List CE := [(.cmp .inn (.var 16) (.var 11))]
def d_law_T8 : List CE := [(.cmp .eq (.bi .len [(.lc [11] (.nm 11) (.var 13) d_law_T7 (.var 11))]) (.bi .len [(.var 13)]))]
def d_law_T9 : List CE := [(.cmp .nin (.var 16) (.var 18))]
def d_law_T10 : List CE := [(.cmp .ge (.idx (.var 16) (.int 1)) (.idx (.var 11) (.idx (.var 16) (.int 0))))]
def d_law_L4 : List CS := [(.set .b 20 (.call 20 [(.lc [16] (.nm 16) (.var 6) d_law_T10 (.var 16))])), (.set .b 21 (.cmp .inn (.var 20) (.var 12))), (.ifs (.or (.not (.call 15 [(.call 5 [(.var 3), (.var 20)]), (.bl true)])) (.not (.call 15 [(.call 6 [(.var 3), (.var 7), (.var 8), (.var 20)]), (.var 21)]))) [(.ret (.bl false))] [])]
def d_law_L5 : List CS := [(.set .b 22 (.idx (.var 6) (.bin .mod (.bi .int [(.idx (.var 1) (.bin .add (.int 55) (.var 2)))]) (.bi .len [(.var 6)])))), (.ifs (.not (.call 15 [(.call 1 [(.var 11), (.var 22)]), (.and (.cmp .le (.idx (.var 11) (.int 0)) (.idx (.var 22) (.int 0))) (.cmp .le (.idx (.var 11) (.int 1)) (.idx (.var 22) (.int 1))))])) [(.ret (.bl false))] [])]
def d_law_L6 : List CS := [(.set .b 3 (.idx (.tup [(.int 2), (.int 3), (.int 1), (.int 4)]) (.bin .mod (.bi .int [(.idx (.var 1) (.var 2))]) (.int 4)))), (.set (.a []) 4 (.call 21 [(.var 3)])), (.set .b 5 (.idx (.var 4) (.bin .mod (.bi .int [(.idx (.var 1) (.bin .add (.int 3) (.var 2)))]) (.bi .len [(.var 4)])))), (.set (.a []) 6 (.call 19 [(.var 3)])), (.set .b 7 (.tup [])), (.set .b 8 (.tup [])), (.loop .b (.nm 9) (.rng1 (.bin .mod (.bi .int [(.idx (.var 1) (.bin .add (.int 6) (.var 2)))]) (.int 8))) d_law_L1), (.ifs (.cmp .eq (.var 2) (.int 1)) [(.set .b 16 (.idx (.var 6) (.bin .mod (.bi .int [(.idx (.var 1) (.int 26))]) (.bi .len [(.var 6)])))), (.set .b 7 (.bin .add (.var 7) (.tup [(.var 16)]))), (.set .b 8 (.bin .add (.tup [(.tup [(.var 3), (.idx (.var 16) (.int 1))])]) (.var 8)))] []), (.own 10 (.lst [])), (.loop .b (.nm 11) (.var 7) d_law_L2), (.ifs (.not (.call 15 [(.call 7 [(.var 7), (.var 8)]), (.ite (.cmp .gt (.bi .len [(.var 10)]) (.int 0)) (.bi .min [(.var 10)]) .non)])) [(.ret (.bl false))] []), (.own 12 (.lst [])), (.own 13 (.lst [])), (.loop (.a [4]) (.nm 11) (.var 4) d_law_L3), (.ifs (.or (.cmp .ne (.cmp .gt (.bi .len [(.var 12)]) (.int 0)) (.cmp .eq (.bi .len [(.var 10)]) (.int 0))) (.not (.call 15 [(.call 11 [(.var 3), (.var 7), (.var 8)]), (.bi .len [(.var 12)])]))) [(.ret (.bl false))] []), (.set .b 14 (.call 20 [(.var 7)])), (.set .b 15 (.call 20 [(.lc [16] (.nm 16) (.var 6) d_law_T4 (.var 16))])), (.ifs (.or (.not (.call 15 [(.call 8 [(.var 7)]), (.var 14)])) (.not (.call 15 [(.call 9 [(.var 3), (.var 8)]), (.var 15)]))) [(.ret (.bl false))] []), (.ifs (.cmp .eq (.bi .len [(.var 10)]) (.int 0)) [(.own 17 (.lc [16] (.nm 16) (.var 6) d_law_T6 (.var 16))), (.own 18 (.lc [16] (.nm 16) (.var 6) d_law_T8 (.var 16))), (.ifs (.or (.cmp .ne (.var 14) (.call 20 [(.var 18)])) (.cmp .ne (.var 15) (.call 20 [(.var 17)]))) [(.ret (.bl false))] []), (.set .b 19 (.bi .tuple [(.lc [16] (.nm 16) (.var 17) d_law_T9 (.var 16))])), (.ifs (.not (.call 15 [(.call 10 [(.var 3), (.var 7), (.var 8)]), (.var 19)])) [(.ret (.bl false))] [])] []), (.loop .b (.nm 11) (.bin .add (.slc (.var 4) .non (.int 12)) (.lst [(.var 5)])) d_law_L4), (.ifs (.not (.call 23 [(.var 3), (.var 7), (.var 8), (.tup [(.var 14), (.var 15)]), (.var 12), (.slc (.var 1) (.bin .add (.int 27) (.bin .mul (.int 8) (.var 2))) (.bin .add (.int 39) (.bin .mul (.int 8) (.var 2))))])) [(.ret (.bl false))] []), (.loop (.a [6]) (.nm 11) (.var 6) d_law_L5)]
def d_law : Def := ⟨"law", ["script"], ["script", "draws", "k", "m", "stairs", "hidden", "spots", "fell", "held", "at", "tangles", "one", "borders", "over", "late", "early", "spot", "any_over", "all_over", "due", "border", "fits", "other"],
  [(.set (.a []) 1 (.call 13 [(.call 12 [(.var 0), (.int 0)]), (.int 58)])), (.loop .b (.nm 2) (.rng1 (.int 3)) d_law_L6), (.ret (.bl true))]⟩
abbrev im : List (Str × Value) := []
def tb : Tb := [(d_is_ascending, top 1), (d_lies_under, top 3), (d_lowest_spots, top 4), (d_all_spots, top 5), (d_is_beyond, top 6), (d_is_border, top 7), (d_border_fits, top 8), (d_told_tangle, top 9), (d_late_border, top 10), (d_early_border, top 11), (d_open_spots, top 12), (d_borders_left, top 13), (d_law_cell, top 15), (d_law_draws, top 16), (d_law_is_integer, top 17), (d_law_is, top 18), (d_law_rising, top 19), (d_law_bent_row, top 20), (d_law_under, top 21), (d_law_spots, top 22), (d_law_lowest, top 23), (d_law_stairs, top 24), (d_law_is_border, top 25), (d_law_bent_asked, top 26), (d_law, top 27)]
theorem ok_is_ascending : DefOk (tb.T im) d_is_ascending (top 1) := ⟨by decide +kernel, fun _ _ _ _ _ _ us hl => match us, hl with | [_], _ => rfl⟩
theorem ok_lies_under : DefOk (tb.T im) d_lies_under (top 3) := ⟨by decide +kernel, fun _ _ _ _ _ _ us hl => match us, hl with | [_, _], _ => rfl⟩
theorem ok_lowest_spots : DefOk (tb.T im) d_lowest_spots (top 4) := ⟨by decide +kernel, fun _ _ _ _ _ _ us hl => match us, hl with | [_], _ => rfl⟩
theorem ok_all_spots : DefOk (tb.T im) d_all_spots (top 5) := ⟨by decide +kernel, fun _ _ _ _ _ _ us hl => match us, hl with | [_], _ => rfl⟩
theorem ok_is_beyond : DefOk (tb.T im) d_is_beyond (top 6) := ⟨by decide +kernel, fun _ _ _ _ _ _ us hl => match us, hl with | [_, _], _ => rfl⟩
theorem ok_is_border : DefOk (tb.T im) d_is_border (top 7) := ⟨by decide +kernel, fun _ _ _ _ _ _ us hl => match us, hl with | [_, _], _ => rfl⟩
theorem ok_border_fits : DefOk (tb.T im) d_border_fits (top 8) := ⟨by decide +kernel, fun _ _ _ _ _ _ us hl => match us, hl with | [_, _, _, _], _ => rfl⟩
theorem ok_told_tangle : DefOk (tb.T im) d_told_tangle (top 9) := ⟨by decide +kernel, fun _ _ _ _ _ _ us hl => match us, hl with | [_, _], _ => rfl⟩
theorem ok_late_border : DefOk (tb.T im) d_late_border (top 10) := ⟨by decide +kernel, fun _ _ _ _ _ _ us hl => match us, hl with | [_], _ => rfl⟩
theorem ok_early_border : DefOk (tb.T im) d_early_border (top 11) := ⟨by decide +kernel, fun _ _ _ _ _ _ us hl => match us, hl with | [_, _], _ => rfl⟩
theorem ok_open_spots : DefOk (tb.T im) d_open_spots (top 12) := ⟨by decide +kernel, fun _ _ _ _ _ _ us hl => match us, hl with | [_, _, _], _ => rfl⟩
theorem ok_borders_left : DefOk (tb.T im) d_borders_left (top 13) := ⟨by decide +kernel, fun _ _ _ _ _ _ us hl => match us, hl with | [_, _, _], _ => rfl⟩
theorem ok_law_cell : DefOk (tb.T im) d_law_cell (top 15) := ⟨by decide +kernel, fun _ _ _ _ _ _ us hl => match us, hl with | [_, _], _ => rfl⟩
theorem ok_law_draws : DefOk (tb.T im) d_law_draws (top 16) := ⟨by decide +kernel, fun _ _ _ _ _ _ us hl => match us, hl with | [_, _], _ => rfl⟩
theorem ok_law_is_integer : DefOk (tb.T im) d_law_is_integer (top 17) := ⟨by decide +kernel, fun _ _ _ _ _ _ us hl => match us, hl with | [_], _ => rfl⟩
theorem ok_law_is : DefOk (tb.T im) d_law_is (top 18) := ⟨by decide +kernel, fun _ _ _ _ _ _ us hl => match us, hl with | [_, _], _ => rfl⟩
theorem ok_law_rising : DefOk (tb.T im) d_law_rising (top 19) := ⟨by decide +kernel, fun _ _ _ _ _ _ us hl => match us, hl with | [_], _ => rfl⟩
theorem ok_law_bent_row : DefOk (tb.T im) d_law_bent_row (top 20) := ⟨by decide +kernel, fun _ _ _ _ _ _ us hl => match us, hl with | [_, _, _], _ => rfl⟩
theorem ok_law_under : DefOk (tb.T im) d_law_under (top 21) := ⟨by decide +kernel, fun _ _ _ _ _ _ us hl => match us, hl with | [_, _], _ => rfl⟩
theorem ok_law_spots : DefOk (tb.T im) d_law_spots (top 22) := ⟨by decide +kernel, fun _ _ _ _ _ _ us hl => match us, hl with | [_], _ => rfl⟩
theorem ok_law_lowest : DefOk (tb.T im) d_law_lowest (top 23) := ⟨by decide +kernel, fun _ _ _ _ _ _ us hl => match us, hl with | [_], _ => rfl⟩
theorem ok_law_stairs : DefOk (tb.T im) d_law_stairs (top 24) := ⟨by decide +kernel, fun _ _ _ _ _ _ us hl => match us, hl with | [_], _ => rfl⟩
theorem ok_law_is_border : DefOk (tb.T im) d_law_is_border (top 25) := ⟨by decide +kernel, fun _ _ _ _ _ _ us hl => match us, hl with | [_, _], _ => rfl⟩
theorem ok_law_bent_asked : DefOk (tb.T im) d_law_bent_asked (top 26) := ⟨by decide +kernel, fun _ _ _ _ _ _ us hl => match us, hl with | [_, _, _, _, _, _], _ => rfl⟩
theorem ok_law : DefOk (tb.T im) d_law (top 27) := ⟨by decide +kernel, fun _ _ _ _ _ _ us hl => match us, hl with | [_], _ => rfl⟩
end Dl
set_option Elab.async false
set_option linter.all false
set_option maxRecDepth 100000
set_option maxHeartbeats 2000000
/-! Borders: the program's small defs. -/
namespace Dl
open PySem
section
variable {α : Type} (f : α → D) (lt : α → α → Bool) (d : α) (hf : ∀ a b, ltD (f a) (f b) = some (lt a b))
include hf
theorem asc_ok (n : Nat) (l : List α) (hs : l.length ≤ 900) : callN tb.fns (n + 1) 0 [.tup (l.map f)] = some (.bl (risG lt d l)) := by
  rw [callN_at (show tb.fns[0]? = some d_is_ascending.fd from rfl)]
  have g1 : genD true (genS (callN tb.fns n) [1] (.nm 1) [] d_is_ascending_E1 [some (.tup (l.map f)), none]) ((List.range (l.length - 1)).map fun i => .int (i : Nat)) = some (risG lt d l) := by
    refine genD_all _ (fun i : Nat => .int i) _ _ fun i hi => ?_
    have hi : i < l.length - 1 := List.mem_range.mp hi
    have e1 : (l.map f)[i]? = some (f (l.getD i d)) := by rw [List.getElem?_map, get_getD (by omega) d]; rfl
    have e2 : (l.map f)[i + 1]? = some (f (l.getD (i + 1) d)) := by rw [List.getElem?_map, get_getD (by omega) d]; rfl
    have e3 : ((i : Int) + 1).toNat = i + 1 := by omega
    have e4 : (0 : Int) ≤ (i : Int) + 1 := by omega
    have h := hf (l.getD i d) (l.getD (i + 1) d)
    rw [genS_eq]
    generalize l.getD i d = x at *
    generalize l.getD (i + 1) d = y at *
    generalize l.map f = L at *
    simp [d_is_ascending_E1, e1, e2, e3, e4, h]
  have hb : -4611686018427387904 ≤ (l.length : Int) - 1 ∧ (l.length : Int) - 1 < 4611686018427387904 := by omega
  have hb2 : ((l.length : Int) - 1).toNat = l.length - 1 := by omega
  have zl : (l.map f).length = l.length := List.length_map _
  generalize risG lt d l = r at *
  generalize l.map f = L at *
  simp [runF, d_is_ascending, Def.fd, startS, g1, hb, hb2, zl]
theorem lris_ok (n : Nat) (l : List α) (hs : l.length ≤ 900) (J : D) (hJ : J = .tup (l.map f) ∨ J = .lst (l.map f)) : callN tb.fns (n + 1) 16 [J] = some (.bl (risG lt d l)) := by
  rw [callN_at (show tb.fns[16]? = some d_law_rising.fd from rfl)]
  have g1 : lcD (lcS (callN tb.fns n) [1] (.nm 1) [] d_law_rising_E1 [some J, none]) ((List.range (l.length - 1)).map fun i => .int (i : Nat)) = some (((List.range (l.length - 1)).map fun i => lt (l.getD i d) (l.getD (i + 1) d)).map .bl) := by
    rw [List.map_map]
    refine lcD_map _ (fun i : Nat => .int i) _ _ fun i hi => ?_
    have hi : i < l.length - 1 := List.mem_range.mp hi
    have e1 : (l.map f)[i]? = some (f (l.getD i d)) := by rw [List.getElem?_map, get_getD (by omega) d]; rfl
    have e2 : (l.map f)[i + 1]? = some (f (l.getD (i + 1) d)) := by rw [List.getElem?_map, get_getD (by omega) d]; rfl
    have e3 : ((i : Int) + 1).toNat = i + 1 := by omega
    have e4 : (0 : Int) ≤ (i : Int) + 1 := by omega
    have h := hf (l.getD i d) (l.getD (i + 1) d)
    rw [lcS_eq]
    simp only [Function.comp]
    generalize l.getD i d = x at *
    generalize l.getD (i + 1) d = y at *
    generalize l.map f = L at *
    rcases hJ with rfl | rfl <;> simp [d_law_rising_E1, e1, e2, e3, e4, h]
  have hb : -4611686018427387904 ≤ (l.length : Int) - 1 ∧ (l.length : Int) - 1 < 4611686018427387904 := by omega
  have hb2 : ((l.length : Int) - 1).toNat = l.length - 1 := by omega
  have zl : (l.map f).length = l.length := List.length_map _
  have z1 : (((List.range (l.length - 1)).map fun i => lt (l.getD i d) (l.getD (i + 1) d)).map D.bl).length ≤ 1000 := by simp; omega
  have e5 : ((List.range (l.length - 1)).map fun i => lt (l.getD i d) (l.getD (i + 1) d)).all id = risG lt d l := by
    unfold risG
    rw [List.all_map]
    rfl
  have b1 := blsOf_map ((List.range (l.length - 1)).map fun i => lt (l.getD i d) (l.getD (i + 1) d))
  generalize ((List.range (l.length - 1)).map fun i => lt (l.getD i d) (l.getD (i + 1) d)) = B at *
  generalize B.map D.bl = BD at *
  generalize risG lt d l = r at *
  generalize l.map f = L at *
  rcases hJ with rfl | rfl <;> simp [runF, d_law_rising, Def.fd, startS, g1, hb, hb2, zl, z1, b1, e5]
end
abbrev nD (p : Nat) : D := .int (p : Nat)
abbrev prD (l : List Pz) : D := .tup (l.map p2_)
theorem fl_p2 (l : List Pz) : flats (l.map p2_) = true := flats_map _ _ fun x _ => by simp
theorem ltD_p2 (a b : Pz) : ltD (p2_ a) (p2_ b) = some (ltPz a b) := by
  show some (HT.lexLt [a.1, a.2] [b.1, b.2]) = _
  rw [← lt_e2]
theorem ascP (n : Nat) (l : List Pz) (hs : l.length ≤ 900) : callN tb.fns (n + 1) 0 [prD l] = some (.bl (rs2 l)) := asc_ok p2_ ltPz (0, 0) ltD_p2 n l hs
theorem risP (n : Nat) (l : List Pz) (hs : l.length ≤ 900) : callN tb.fns (n + 1) 16 [prD l] = some (.bl (rs2 l)) := lris_ok p2_ ltPz (0, 0) ltD_p2 n l hs _ (.inl rfl)
theorem inP (x : Pz) (l : List Pz) : inD (p2_ x) (prD l) = some (decide (x ∈ l)) := (ordPz.e.inT (by omega) x l).trans (congrArg some (decide_eq_decide.mpr Iff.rfl))
theorem inPL (x : Pz) (l : List Pz) : inD (p2_ x) (.lst (l.map p2_)) = some (decide (x ∈ l)) := (ordPz.e.inL (by omega) x l).trans (congrArg some (decide_eq_decide.mpr Iff.rfl))
theorem eqP (x y : Pz) : eqD (p2_ x) (p2_ y) = some (decide (x = y)) := (ordPz.e.eqD (by omega) x y).trans (congrArg some (decide_eq_decide.mpr Iff.rfl))
theorem ordPT : OrdD (fun l : List Pz => prD l) (ltL ltPz) 2 := ordPz.tup
theorem eqPr (x y : List Pz) : eqD (prD x) (prD y) = some (decide (x = y)) := (ordPT.e.eqD (by omega) x y).trans (congrArg some (decide_eq_decide.mpr Iff.rfl))
theorem und_ok (n : Nat) (a b : Pz) : callN tb.fns (n + 1) 1 [p2_ a, p2_ b] = some (.bl (und a b)) := by
  rw [callN_at (show tb.fns[1]? = some d_lies_under.fd from rfl)]
  unfold und
  by_cases h : a.1 ≤ b.1 <;> simp [runF, d_lies_under, Def.fd, startS, h]
theorem lund_ok (n : Nat) (a b : Pz) : callN tb.fns (n + 1) 18 [p2_ a, p2_ b] = some (.bl (und a b)) := by
  rw [callN_at (show tb.fns[18]? = some d_law_under.fd from rfl)]
  unfold und
  by_cases h : a.1 ≤ b.1 <;> simp [runF, d_law_under, Def.fd, startS, h]
theorem ssetE (S : List Pz) (h : S.length < 64) : ssetD (.lst (S.map p2_)) = some ((each S).map p2_) := by
  have e1 : (S.map e2).map intT = S.map p2_ := by rw [List.map_map]; rfl
  have e2' : (ssetT (S.map e2)).map intT = (each S).map p2_ := by rw [each_e2, List.map_map]; rfl
  have := ssetD_tups (ks := S.map e2) (by rw [List.length_map]; exact h)
  rw [e1, e2'] at this
  exact this
theorem low_ok (n : Nat) (S : List Pz) (hS : S.length < 64) (J : D) (hJ : J = .tup (S.map p2_) ∨ J = .lst (S.map p2_)) : callN tb.fns (n + 2) 2 [J] = some (prD (low S)) := by
  rw [callN_at (show tb.fns[2]? = some d_lowest_spots.fd from rfl)]
  have s1 := ssetE S hS
  have l1 : ∀ a0 a2 a3, lcD (lcS (callN tb.fns (n + 1)) [2] (.nm 2) d_lowest_spots_T1 (.var 2) [a0, some (.lst ((each S).map p2_)), a2, a3]) ((each S).map p2_) = some ((low S).map p2_) := fun a0 a2 a3 => by
    unfold low
    refine lcD_filter _ p2_ _ _ _ fun p _ => ?_
    have g : ∀ b0 b1 b3, genD false (genS (callN tb.fns (n + 1)) [3] (.nm 3) [] d_lowest_spots_E1 [b0, b1, some (p2_ p), b3]) ((each S).map p2_) = some ((each S).any fun q => und q p && !decide (q = p)) := fun b0 b1 b3 => by
      refine genD_any _ p2_ _ _ fun q _ => ?_
      have f := und_ok n q p
      have e := eqP q p
      rw [genS_eq]
      generalize und q p = u at *
      generalize decide (q = p) = c at *
      generalize p2_ q = Q at *
      generalize p2_ p = P at *
      cases u <;> simp [d_lowest_spots_E1, f, e]
    rw [lcS_eq]
    generalize ((each S).any fun q => und q p && !decide (q = p)) = c at *
    generalize (each S).map p2_ = E at *
    generalize p2_ p = P at *
    cases c <;> simp [d_lowest_spots_T1, g]
  have z : ((low S).map p2_).length ≤ 1000 := by
    have := low_len S
    rw [List.length_map]
    omega
  have fe := fl_p2 (each S)
  simp only [prD]
  generalize (low S).map p2_ = L at *
  generalize (each S).map p2_ = E at *
  generalize S.map p2_ = SD at *
  rcases hJ with rfl | rfl <;> simp [runF, d_lowest_spots, Def.fd, startS, s1, l1, z, fe, ssetD_tup]
theorem llow_ok (n : Nat) (S : List Pz) (hS : S.length < 64) (J : D) (hJ : J = .tup (S.map p2_) ∨ J = .lst (S.map p2_)) : callN tb.fns (n + 2) 20 [J] = some (prD (low S)) := by
  rw [callN_at (show tb.fns[20]? = some d_law_lowest.fd from rfl)]
  have s1 := ssetE S hS
  have el := each_len S
  have l1 : ∀ a0 a2 a3, lcD (lcS (callN tb.fns (n + 1)) [2] (.nm 2) d_law_lowest_T2 (.var 2) [a0, some (.lst ((each S).map p2_)), a2, a3]) ((each S).map p2_) = some ((low S).map p2_) := fun a0 a2 a3 => by
    rw [low_cnt]
    refine lcD_filter _ p2_ _ _ _ fun p _ => ?_
    have g : ∀ b0 b1 b3, lcD (lcS (callN tb.fns (n + 1)) [3] (.nm 3) d_law_lowest_T1 (.var 3) [b0, b1, some (p2_ p), b3]) ((each S).map p2_) = some (((each S).filter fun q => und q p).map p2_) := fun b0 b1 b3 => by
      refine lcD_filter _ p2_ _ _ _ fun q _ => ?_
      have f := lund_ok n q p
      rw [lcS_eq]
      generalize und q p = u at *
      generalize p2_ q = Q at *
      generalize p2_ p = P at *
      cases u <;> simp [d_law_lowest_T1, f]
    have zl : (((each S).filter fun q => und q p).map p2_).length = ((each S).filter fun q => und q p).length := List.length_map _
    have zf := List.length_filter_le (fun q => und q p) (each S)
    rw [lcS_eq]
    generalize ((each S).filter fun q => und q p).length = k at *
    generalize ((each S).filter fun q => und q p).map p2_ = F at *
    generalize (each S).map p2_ = E at *
    generalize p2_ p = P at *
    have zk : k ≤ 1000 := by omega
    by_cases c : k = 1
    · subst c
      simp [d_law_lowest_T2, g, zl]
    · have c' : ¬ (k : Int) = 1 := by omega
      simp [d_law_lowest_T2, g, zl, zk, c, c']
  have z : ((low S).map p2_).length ≤ 1000 := by
    have := low_len S
    rw [List.length_map]
    omega
  have fe := fl_p2 (each S)
  simp only [prD]
  generalize (low S).map p2_ = L at *
  generalize (each S).map p2_ = E at *
  generalize S.map p2_ = SD at *
  rcases hJ with rfl | rfl <;> simp [runF, d_law_lowest, Def.fd, startS, s1, l1, z, fe, ssetD_tup]
theorem bey_ok (n : Nat) (B : List Pz) (p : Pz) : callN tb.fns (n + 2) 4 [prD B, p2_ p] = some (.bl (bey B p)) := by
  rw [callN_at (show tb.fns[4]? = some d_is_beyond.fd from rfl)]
  have g : genD false (genS (callN tb.fns (n + 1)) [2] (.nm 2) [] d_is_beyond_E1 [some (prD B), some (p2_ p), none]) (B.map p2_) = some (bey B p) := by
    unfold bey
    refine genD_any _ p2_ _ _ fun q _ => ?_
    have f := und_ok n q p
    rw [genS_eq]
    generalize und q p = u at *
    generalize p2_ q = Q at *
    generalize p2_ p = P at *
    generalize prD B = BD at *
    simp [d_is_beyond_E1, f]
  generalize bey B p = r at *
  generalize p2_ p = P at *
  simp only [prD] at *
  generalize B.map p2_ = BD at *
  simp [runF, d_is_beyond, Def.fd, startS, g]
theorem isb_ok (n m : Nat) (B : List Pz) (hB : B.length < 64) : callN tb.fns (n + 3) 5 [nD m, prD B] = some (.bl (isB m B)) := by
  rw [callN_at (show tb.fns[5]? = some d_is_border.fd from rfl)]
  have f0 := ascP (n + 1) B (by omega)
  have f2 : callN tb.fns (n + 2) 2 [prD B] = some (prD (low B)) := low_ok n B hB _ (.inl rfl)
  have e := eqPr (low B) B
  have g : genD true (genS (callN tb.fns (n + 2)) [2, 3] (.tp [(.nm 2), (.nm 3)]) [] d_is_border_E1 [some (nD m), some (prD B), none, none]) (B.map p2_) = some (B.all (inR m)) := by
    refine genD_all _ p2_ _ _ fun p _ => ?_
    rw [genS_eq]
    obtain ⟨a, b⟩ := p
    unfold inR
    by_cases q1 : 0 ≤ a
    · by_cases q2 : a ≤ (m : Int)
      · by_cases q3 : 0 ≤ b <;> simp [d_is_border_E1, q1, q2, q3]
      · simp [d_is_border_E1, q1, q2]
    · simp [d_is_border_E1, q1]
  unfold isB
  generalize decide (low B = B) = c at *
  generalize prD (low B) = LD at *
  generalize B.all (inR m) = b2 at *
  generalize rs2 B = b1 at *
  simp only [prD] at *
  generalize B.map p2_ = BD at *
  cases b1 <;> cases b2 <;> simp [runF, d_is_border, Def.fd, startS, f0, f2, e, g]
theorem lisb_ok (n m : Nat) (B : List Pz) (hB : B.length < 64) : callN tb.fns (n + 3) 22 [nD m, prD B] = some (.bl (isB m B)) := by
  rw [callN_at (show tb.fns[22]? = some d_law_is_border.fd from rfl)]
  have f0 := risP (n + 1) B (by omega)
  have f2 : callN tb.fns (n + 2) 20 [prD B] = some (prD (low B)) := llow_ok n B hB _ (.inl rfl)
  have e := eqPr (low B) B
  have g : lcD (lcS (callN tb.fns (n + 2)) [2] (.nm 2) [] d_law_is_border_E1 [some (nD m), some (prD B), none]) (B.map p2_) = some ((B.map (inR m)).map .bl) := by
    rw [List.map_map]
    refine lcD_map _ p2_ _ _ fun p _ => ?_
    rw [lcS_eq]
    obtain ⟨a, b⟩ := p
    simp only [Function.comp]
    unfold inR
    by_cases q1 : 0 ≤ a
    · by_cases q2 : a ≤ (m : Int)
      · by_cases q3 : 0 ≤ b <;> simp [d_law_is_border_E1, q1, q2, q3]
      · simp [d_law_is_border_E1, q1, q2]
    · simp [d_law_is_border_E1, q1]
  have b1 := blsOf_map (B.map (inR m))
  have e1 : (B.map (inR m)).all id = B.all (inR m) := by rw [List.all_map]; rfl
  have z1 : ((B.map (inR m)).map D.bl).length ≤ 1000 := by simp; omega
  unfold isB
  generalize decide (low B = B) = c at *
  generalize prD (low B) = LD at *
  generalize B.all (inR m) = b2 at *
  generalize rs2 B = b3 at *
  generalize B.map (inR m) = R at *
  generalize R.map D.bl = RD at *
  simp only [prD] at *
  generalize B.map p2_ = BD at *
  cases b3 <;> cases b2 <;> simp [runF, d_law_is_border, Def.fd, startS, f0, f2, e, g, b1, e1, z1]
theorem fits_ok (n m : Nat) (F H B : List Pz) (hB : B.length < 64) : callN tb.fns (n + 4) 6 [nD m, prD F, prD H, prD B] = some (.bl (fits_ m F H B)) := by
  rw [callN_at (show tb.fns[6]? = some d_border_fits.fd from rfl)]
  have f5 := isb_ok n m B hB
  have g1 : genD true (genS (callN tb.fns (n + 3)) [4] (.nm 4) [] d_border_fits_E1 [some (nD m), some (prD F), some (prD H), some (prD B), none]) (F.map p2_) = some (F.all (bey B)) := by
    refine genD_all _ p2_ _ _ fun p _ => ?_
    have f := bey_ok (n + 1) B p
    rw [genS_eq]
    generalize bey B p = u at *
    generalize p2_ p = P at *
    generalize prD B = BD at *
    simp [d_border_fits_E1, f]
  have g2 : genD false (genS (callN tb.fns (n + 3)) [4] (.nm 4) [] d_border_fits_E2 [some (nD m), some (prD F), some (prD H), some (prD B), none]) (H.map p2_) = some (H.any (bey B)) := by
    refine genD_any _ p2_ _ _ fun p _ => ?_
    have f := bey_ok (n + 1) B p
    rw [genS_eq]
    generalize bey B p = u at *
    generalize p2_ p = P at *
    generalize prD B = BD at *
    simp [d_border_fits_E2, f]
  unfold fits_
  generalize isB m B = b1 at *
  generalize F.all (bey B) = b2 at *
  generalize H.any (bey B) = b3 at *
  generalize prD B = BD at *
  simp only [prD] at *
  generalize F.map p2_ = FD at *
  generalize H.map p2_ = HD at *
  cases b1 <;> cases b2 <;> cases b3 <;> simp [runF, d_border_fits, Def.fd, startS, f5, g1, g2]
end Dl
set_option Elab.async false
set_option linter.all false
set_option maxRecDepth 100000
set_option maxHeartbeats 2000000
/-! Borders: spots, early and late borders, tangles. -/
namespace Dl
open PySem
theorem spots_len {m : Nat} (hm : m ≤ 4) : (spots m).length ≤ 25 := by
  have : ∀ m ≤ 4, (spots m).length ≤ 25 := by decide +kernel
  exact this m hm
theorem allsp_ok (n m : Nat) (hm : m ≤ 4) : callN tb.fns (n + 1) 3 [nD m] = some (.lst ((spots m).map p2_)) := by
  rw [callN_at (show tb.fns[3]? = some d_all_spots.fd from rfl)]
  have b1 : -4611686018427387904 ≤ (m : Int) + 1 ∧ (m : Int) + 1 < 4611686018427387904 := by omega
  have b2 : ((m : Int) + 1).toNat = m + 1 := by omega
  have l1 : lcL (lc2S (callN tb.fns n) [1, 2] [2] (.nm 1) [] (.nm 2) d_all_spots_E1 [] d_all_spots_E2 [some (nD m), none, none]) ((List.range (m + 1)).map fun i => .int (i : Nat)) = some ((spots m).map p2_) := by
    unfold spots
    rw [List.map_flatMap]
    refine lcL_map _ (fun i : Nat => .int (i : Nat)) _ _ fun a _ => ?_
    have l2 : lcD (lcS (callN tb.fns n) [2] (.nm 2) [] d_all_spots_E2 [some (nD m), some (nD a), none]) ((List.range (m + 1)).map fun i => .int (i : Nat)) = some ((spr m a).map p2_) := by
      unfold spr
      rw [List.map_map]
      refine lcD_map _ (fun i : Nat => .int (i : Nat)) _ _ fun b _ => ?_
      rw [lcS_eq]
      simp [d_all_spots_E2]
    rw [lc2S_eq]
    generalize (spr m a).map p2_ = R at *
    simp [d_all_spots_E1, b1, b2, l2]
  have z : ((spots m).map p2_).length ≤ 1000 := by
    have := spots_len hm
    rw [List.length_map]
    omega
  generalize (spots m).map p2_ = S at *
  simp [runF, d_all_spots, Def.fd, startS, b1, b2, l1, z]
theorem spr_len (m : Nat) : ∀ a, ((List.range a).flatMap (spr m)).length = a * (m + 1)
  | 0 => by simp
  | a + 1 => by
    rw [List.range_succ, List.flatMap_append, List.length_append, spr_len m a, Nat.add_mul]
    simp [spr]
theorem lsp_ok (n m : Nat) (hm : m ≤ 4) : callN tb.fns (n + 1) 19 [nD m] = some (.lst ((spots m).map p2_)) := by
  rw [callN_at (show tb.fns[19]? = some d_law_spots.fd from rfl)]
  have b1 : -4611686018427387904 ≤ (m : Int) + 1 ∧ (m : Int) + 1 < 4611686018427387904 := by omega
  have b2 : ((m : Int) + 1).toNat = m + 1 := by omega
  obtain ⟨σ', key, k2, rfl⟩ := forL_range (turn (callN tb.fns n) (.nm 2) d_law_spots_L1) (fun a σ => ∃ k2, σ = [some (.sh (nD m)), some (.own (((List.range a).flatMap (spr m)).map p2_)), k2, none]) (m + 1)
    [some (.sh (nD m)), some (.own []), none, none] ⟨_, rfl⟩ fun a ha σ hσ => by
      obtain ⟨k2, rfl⟩ := hσ
      have l1 : ∀ a1, lcD (lcS (callN tb.fns n) [3] (.nm 3) [] d_law_spots_E1 [some (nD m), a1, some (nD a), none]) ((List.range (m + 1)).map fun i => .int (i : Nat)) = some ((spr m a).map p2_) := fun a1 => by
        unfold spr
        rw [List.map_map]
        refine lcD_map _ (fun i : Nat => .int (i : Nat)) _ _ fun b _ => ?_
        rw [lcS_eq]
        simp [d_law_spots_E1]
      have e : ((List.range (a + 1)).flatMap (spr m)).map p2_ = ((List.range a).flatMap (spr m)).map p2_ ++ (spr m a).map p2_ := by
        rw [List.range_succ, List.flatMap_append, List.map_append]
        simp
      have z1 : ((spr m a).map p2_).length = m + 1 := by unfold spr; simp
      have z2 : (((List.range a).flatMap (spr m)).map p2_).length = a * (m + 1) := by
        rw [List.length_map]
        exact spr_len m a
      have z3 : a * (m + 1) ≤ 4 * 5 := Nat.mul_le_mul (by omega) (by omega)
      have f1 := fl_p2 (spr m a)
      have f2 := fl_p2 ((List.range a).flatMap (spr m))
      refine ⟨[some (.sh (nD m)), some (.own (((List.range (a + 1)).flatMap (spr m)).map p2_)), some (.sh (nD a)), none], ?_, _, rfl⟩
      rw [e]
      generalize (spr m a).map p2_ = R at *
      generalize ((List.range a).flatMap (spr m)).map p2_ = Q at *
      have z4 : a * (m + 1) + (m + 1) ≤ 1000 := by omega
      have z5 : m + 1 ≤ 1000 := by omega
      simp [turn_eq, d_law_spots_L1, b1, b2, l1, z1, z2, z4, z5, f1, f2]
  have key : forL (turn (callN tb.fns n) (.nm 2) d_law_spots_L1) ((List.range (m + 1)).map fun i => .int (i : Nat)) [some (.sh (nD m)), some (.own []), none, none] = some (.nx [some (.sh (nD m)), some (.own ((spots m).map p2_)), k2, none]) := key
  generalize (spots m).map p2_ = S at *
  simp [-forL_cons, runF, d_law_spots, Def.fd, startS, b1, b2, key]
theorem late_ok (n : Nat) (F : List Pz) (hF : F.length < 64) : callN tb.fns (n + 3) 8 [prD F] = some (prD (low F)) := by
  rw [callN_at (show tb.fns[8]? = some d_late_border.fd from rfl)]
  have f : callN tb.fns (n + 2) 2 [prD F] = some (prD (low F)) := low_ok n F hF _ (.inl rfl)
  generalize prD (low F) = R at *
  generalize prD F = FD at *
  simp [runF, d_late_border, Def.fd, startS, f]
theorem early_ok (n m : Nat) (hm : m ≤ 4) (H : List Pz) : callN tb.fns (n + 3) 9 [nD m, prD H] = some (prD (low ((spots m).filter (free H)))) := by
  rw [callN_at (show tb.fns[9]? = some d_early_border.fd from rfl)]
  have f3 : callN tb.fns (n + 2) 3 [nD m] = some (.lst ((spots m).map p2_)) := allsp_ok (n + 1) m hm
  have sl := spots_len hm
  have fl := List.length_filter_le (free H) (spots m)
  have f2 : callN tb.fns (n + 2) 2 [.lst (((spots m).filter (free H)).map p2_)] = some (prD (low ((spots m).filter (free H)))) := low_ok n _ (by omega) _ (.inr rfl)
  have l1 : ∀ a2 a3, lcD (lcS (callN tb.fns (n + 2)) [2] (.nm 2) d_early_border_T1 (.var 2) [some (nD m), some (prD H), a2, a3]) ((spots m).map p2_) = some (((spots m).filter (free H)).map p2_) := fun a2 a3 => by
    refine lcD_filter _ p2_ _ _ _ fun p _ => ?_
    have g : ∀ b3, genD false (genS (callN tb.fns (n + 2)) [3] (.nm 3) [] d_early_border_E1 [some (nD m), some (prD H), some (p2_ p), b3]) (H.map p2_) = some (H.any fun h => und p h) := fun b3 => by
      refine genD_any _ p2_ _ _ fun q _ => ?_
      have f : callN tb.fns (n + 2) 1 [p2_ p, p2_ q] = some (.bl (und p q)) := und_ok (n + 1) p q
      rw [genS_eq]
      generalize und p q = u at *
      generalize p2_ q = Q at *
      generalize p2_ p = P at *
      generalize prD H = HD at *
      simp [d_early_border_E1, f]
    rw [lcS_eq]
    unfold free
    generalize (H.any fun h => und p h) = c at *
    generalize p2_ p = P at *
    simp only [prD] at *
    generalize H.map p2_ = HD at *
    cases c <;> simp [d_early_border_T1, g]
  have z : (((spots m).filter (free H)).map p2_).length ≤ 1000 := by rw [List.length_map]; omega
  generalize prD (low ((spots m).filter (free H))) = R at *
  generalize ((spots m).filter (free H)).map p2_ = L at *
  generalize (spots m).map p2_ = S at *
  generalize prD H = HD at *
  simp [runF, d_early_border, Def.fd, startS, f3, l1, z, f2]
theorem open_ok (n m : Nat) (hm : m ≤ 4) (F H : List Pz) (hF : F.length < 64) : callN tb.fns (n + 4) 10 [nD m, prD F, prD H] = some (prD ((spots m).filter fun p => bey (low ((spots m).filter (free H))) p && !bey (low F) p)) := by
  rw [callN_at (show tb.fns[10]? = some d_open_spots.fd from rfl)]
  have f9 := early_ok n m hm H
  have f8 := late_ok n F hF
  have f3 : callN tb.fns (n + 3) 3 [nD m] = some (.lst ((spots m).map p2_)) := allsp_ok (n + 2) m hm
  generalize low ((spots m).filter (free H)) = E at *
  generalize low F = L at *
  have l1 : ∀ a5, lcD (lcS (callN tb.fns (n + 3)) [5] (.nm 5) d_open_spots_T1 (.var 5) [some (nD m), some (prD F), some (prD H), some (prD E), some (prD L), a5]) ((spots m).map p2_) = some (((spots m).filter fun p => bey E p && !bey L p).map p2_) := fun a5 => by
    refine lcD_filter _ p2_ _ _ _ fun p _ => ?_
    have g1 := bey_ok (n + 1) E p
    have g2 := bey_ok (n + 1) L p
    rw [lcS_eq]
    generalize bey E p = c1 at *
    generalize bey L p = c2 at *
    generalize p2_ p = P at *
    generalize prD E = ED at *
    generalize prD L = LD at *
    generalize prD F = FD at *
    generalize prD H = HD at *
    cases c1 <;> cases c2 <;> simp [d_open_spots_T1, g1, g2]
  have z : (((spots m).filter fun p => bey E p && !bey L p).map p2_).length ≤ 1000 := by
    have := spots_len hm
    have := List.length_filter_le (fun p => bey E p && !bey L p) (spots m)
    rw [List.length_map]
    omega
  have fE : (prD E).flat = true := by simp
  have fL : (prD L).flat = true := by simp
  show _ = some (D.tup (((spots m).filter fun p => bey E p && !bey L p).map p2_))
  generalize ((spots m).filter fun p => bey E p && !bey L p).map p2_ = R at *
  generalize (spots m).map p2_ = S at *
  generalize prD E = ED at *
  generalize prD L = LD at *
  generalize prD F = FD at *
  generalize prD H = HD at *
  simp [runF, d_open_spots, Def.fd, startS, f9, f8, f3, l1, z, fE, fL]
/-! tangles -/
abbrev tgD (x : Pz × Pz) : D := .tup [p2_ x.1, p2_ x.2]
theorem ordTg : OrdD (fun x : Pz × Pz => tgD x) (ltP ltPz ltPz) 2 := ordPz.pair ordPz
def tg (F H : List Pz) : List (Pz × Pz) := F.flatMap fun a => (H.filter fun b => und a b).map fun b => (a, b)
theorem tg_nil {F H : List Pz} : tg F H = [] ↔ noT F H := by
  unfold tg noT
  rw [List.flatMap_eq_nil_iff]
  refine forall_congr' fun a => forall_congr' fun _ => ?_
  rw [List.map_eq_nil_iff, List.filter_eq_nil_iff]
  refine forall_congr' fun b => forall_congr' fun _ => ?_
  rw [Bool.not_eq_true]
theorem tg_len (F H : List Pz) : (tg F H).length ≤ F.length * H.length := by
  unfold tg
  induction F with
  | nil => simp
  | cons a F ih =>
    rw [List.flatMap_cons, List.length_append, List.length_map, List.length_cons, Nat.add_mul]
    have := List.length_filter_le (fun b => und a b) H
    omega
def tgV (F H : List Pz) : D := match tg F H with
  | [] => .non
  | x :: r => tgD (leastF (ltP ltPz ltPz) x r)
theorem tg_best {F H : List Pz} (h : tg F H ≠ []) : bestD Dl.minDD ((tg F H).map fun x => tgD x) = some (tgV F H) := by
  unfold tgV
  cases e : tg F H with
  | nil => exact absurd e h
  | cons x r =>
    have := ordTg.least r x
    exact ordTg.best_min (by omega) this.1 this.2
theorem tangle_ok (n : Nat) (F H : List Pz) (hF : F.length ≤ 20) (hH : H.length ≤ 20) : callN tb.fns (n + 2) 7 [prD F, prD H] = some (tgV F H) := by
  rw [callN_at (show tb.fns[7]? = some d_told_tangle.fd from rfl)]
  have l1 : ∀ a2 a3 a4, lcL (lc2S (callN tb.fns (n + 1)) [3, 4] [4] (.nm 3) [] (.nm 4) (.var 1) d_told_tangle_T1 d_told_tangle_E1 [some (prD F), some (prD H), a2, a3, a4]) (F.map p2_) = some ((tg F H).map fun x => tgD x) := fun a2 a3 a4 => by
    unfold tg
    rw [List.map_flatMap]
    refine lcL_map _ p2_ _ _ fun a _ => ?_
    have l2 : lcD (lcS (callN tb.fns (n + 1)) [4] (.nm 4) d_told_tangle_T1 d_told_tangle_E1 [some (prD F), some (prD H), a2, some (p2_ a), none]) (H.map p2_) = some (((H.filter fun b => und a b).map fun b => (a, b)).map fun x => tgD x) := by
      rw [List.map_map]
      refine lcD_filter _ p2_ (fun b => und a b) _ _ fun b _ => ?_
      have f := und_ok n a b
      rw [lcS_eq]
      simp only [Function.comp, tgD]
      generalize und a b = u at *
      generalize p2_ a = A at *
      generalize p2_ b = B at *
      generalize prD F = FD at *
      generalize prD H = HD at *
      cases u <;> simp [d_told_tangle_T1, d_told_tangle_E1, f]
    rw [lc2S_eq]
    generalize ((H.filter fun b => und a b).map fun b => (a, b)).map (fun x => tgD x) = R at *
    generalize p2_ a = A at *
    simp only [prD] at *
    generalize H.map p2_ = HD at *
    generalize F.map p2_ = FD at *
    simp [l2]
  have z : ((tg F H).map fun x => tgD x).length ≤ 1000 := by
    have := tg_len F H
    have := Nat.mul_le_mul hF hH
    rw [List.length_map]
    omega
  have fl : flats ((tg F H).map fun x => tgD x) = true := flats_map _ _ fun x _ => by simp
  by_cases q : tg F H = []
  · have e : tgV F H = .non := by unfold tgV; rw [q]
    rw [e]
    rw [q] at l1
    simp only [List.map_nil] at l1
    simp only [prD] at *
    generalize F.map p2_ = FD at *
    generalize H.map p2_ = HD at *
    simp [runF, d_told_tangle, Def.fd, startS, l1]
  · have bm := tg_best q
    have ne : ¬ (tg F H).map (fun x => tgD x) = [] := fun y => q (List.map_eq_nil_iff.mp y)
    generalize tgV F H = V at *
    generalize (tg F H).map (fun x => tgD x) = T at *
    simp only [prD] at *
    generalize F.map p2_ = FD at *
    generalize H.map p2_ = HD at *
    cases T with
    | nil => exact absurd rfl ne
    | cons t r =>
      have z2 : r.length + 1 ≤ 1000 := by simpa using z
      have f2 : t.flat = true ∧ flats r = true := by simpa using fl
      simp [runF, d_told_tangle, Def.fd, startS, l1, z2, f2.1, f2.2, bm]
end Dl
set_option Elab.async false
set_option linter.all false
set_option maxRecDepth 100000
set_option maxHeartbeats 2000000
/-! Borders: counted, and stairs. -/
namespace Dl
open PySem
abbrev nL (s : List Nat) : List D := s.map fun j => D.int (j : Nat)
theorem fl_nats (l : List Nat) : flats (l.map fun j => D.int (j : Nat)) = true := flats_map _ _ fun x _ => by simp
theorem fl_natT (l : List (List Nat)) : flats (l.map natT) = true := flats_map _ _ fun x _ => by simp
abbrev wysL (m : Nat) (F H : List Pz) (j : Nat) : List Int := (List.range (m + 2)).map fun v => ((W m (Lo H) (Hi m F) j v : Nat) : Int)
theorem sum_cast (l : List Nat) : (l.map fun j => ((j : Nat) : Int)).sum = ((l.sum : Nat) : Int) := by
  induction l with
  | nil => rfl
  | cons a l ih => rw [List.map_cons, List.sum_cons, ih, List.sum_cons]; omega
theorem wys0 (m : Nat) (F H : List Pz) : wysL m F H 0 = List.replicate (m + 1) 0 ++ [1] := by
  unfold wysL
  rw [show m + 2 = (m + 1) + 1 by omega, List.range_succ, List.map_append]
  congr 1
  · refine List.eq_replicate_iff.mpr ⟨by simp, fun x hx => ?_⟩
    obtain ⟨v, hv, rfl⟩ := List.mem_map.mp hx
    have := List.mem_range.mp hv
    rw [W_zero, if_neg (by omega)]
    rfl
  · simp [W_zero]
theorem wys_drop (m : Nat) (F H : List Pz) (j v : Nat) : ((wysL m F H j).drop v).sum = (((List.range (m + 2 - v)).map fun i => W m (Lo H) (Hi m F) j (v + i)).sum : Nat) := by
  have e : (wysL m F H j).drop v = ((List.range (m + 2 - v)).map fun i => W m (Lo H) (Hi m F) j (v + i)).map fun k => ((k : Nat) : Int) := by
    unfold wysL
    rw [List.map_map, ← List.map_drop]
    refine List.ext_getElem? fun i => ?_
    rw [List.getElem?_map, List.getElem?_map, List.getElem?_drop]
    by_cases h : i < m + 2 - v
    · rw [List.getElem?_range (by omega), List.getElem?_range h]
      rfl
    · rw [List.getElem?_eq_none (by simp; omega), List.getElem?_eq_none (by simp; omega)]
      rfl
  rw [e, sum_cast]
theorem left_turn (cl : Nat → List D → Option D) (m : Nat) (hm : m ≤ 4) (F H : List Pz) (hF : F.length ≤ 900) (hH : H.length ≤ 900) (x : Nat) (k4 k5 k6 : Option Sl) : turn cl (.nm 4) d_borders_left_L1 (nD x) [some (.sh (nD m)), some (.sh (prD F)), some (.sh (prD H)), some (.own ((wysL m F H x).map .int)), k4, k5, k6, none, none, none] =
    some (.nx [some (.sh (nD m)), some (.sh (prD F)), some (.sh (prD H)), some (.own ((wysL m F H (x + 1)).map .int)), some (.sh (nD x)), some (.sh (.int (Lo H x))), some (.sh (.int (Hi m F x))), none, none, none]) := by
  have l1 : ∀ a0 a1 a3 a5 a6 a7 a8 a9, lcD (lcS cl [8, 9] (.tp [(.nm 8), (.nm 9)]) d_borders_left_T1 d_borders_left_E1 [a0, a1, some (prD H), a3, some (nD x), a5, a6, a7, a8, a9]) (H.map p2_) = some (((H.filter fun p => decide ((x : Int) ≤ p.1)).map fun p => p.2 + 1).map .int) := fun a0 a1 a3 a5 a6 a7 a8 a9 => by
    rw [List.map_map]
    refine lcD_filter _ p2_ _ _ _ fun p _ => ?_
    rw [lcS_eq]
    by_cases c : (x : Int) ≤ p.1 <;> simp [d_borders_left_T1, d_borders_left_E1, c]
  have l2 : ∀ a0 a2 a3 a5 a6 a7 a8 a9, lcD (lcS cl [8, 9] (.tp [(.nm 8), (.nm 9)]) d_borders_left_T2 (.var 9) [a0, some (prD F), a2, a3, some (nD x), a5, a6, a7, a8, a9]) (F.map p2_) = some (((F.filter fun p => decide (p.1 ≤ (x : Int))).map fun p => p.2).map .int) := fun a0 a2 a3 a5 a6 a7 a8 a9 => by
    rw [List.map_map]
    refine lcD_filter _ p2_ _ _ _ fun p _ => ?_
    rw [lcS_eq]
    by_cases c : p.1 ≤ (x : Int) <;> simp [d_borders_left_T2, c]
  have m1 : bestD Dl.maxDD (D.int 0 :: ((H.filter fun p => decide ((x : Int) ≤ p.1)).map fun p => p.2 + 1).map .int) = some (.int (Lo H x)) := by
    show bestD Dl.maxDD (((0 : Int) :: (H.filter fun p => decide ((x : Int) ≤ p.1)).map fun p => p.2 + 1).map D.int) = _
    exact best_maxL (by simp)
  have m2 : bestD Dl.minDD (D.int ((m : Int) + 1) :: ((F.filter fun p => decide (p.1 ≤ (x : Int))).map fun p => p.2).map .int) = some (.int (Hi m F x)) := by
    show bestD Dl.minDD ((((m : Int) + 1) :: (F.filter fun p => decide (p.1 ≤ (x : Int))).map fun p => p.2).map D.int) = _
    exact best_minL (by simp)
  have z1 : (((H.filter fun p => decide ((x : Int) ≤ p.1)).map fun p => p.2 + 1).map D.int).length ≤ 900 := by
    have := List.length_filter_le (fun p : Pz => decide ((x : Int) ≤ p.1)) H
    rw [List.length_map, List.length_map]
    omega
  have z2 : (((F.filter fun p => decide (p.1 ≤ (x : Int))).map fun p => p.2).map D.int).length ≤ 900 := by
    have := List.length_filter_le (fun p : Pz => decide (p.1 ≤ (x : Int))) F
    rw [List.length_map, List.length_map]
    omega
  have l3 : ∀ a0 a1 a2 a4 a7 a8 a9, lcD (lcS cl [7] (.nm 7) [] d_borders_left_E2 [a0, a1, a2, some (.lst ((wysL m F H x).map .int)), a4, some (.int (Lo H x)), some (.int (Hi m F x)), a7, a8, a9]) ((List.range (m + 2)).map fun i => .int (i : Nat)) = some ((wysL m F H (x + 1)).map .int) := fun a0 a1 a2 a4 a7 a8 a9 => by
    have e : (wysL m F H (x + 1)).map D.int = (List.range (m + 2)).map fun v => D.int ((W m (Lo H) (Hi m F) (x + 1) v : Nat) : Int) := by
      rw [List.map_map]
      rfl
    rw [e]
    refine lcD_map _ (fun i : Nat => .int (i : Nat)) _ _ fun v hv => ?_
    have hv := List.mem_range.mp hv
    rw [W_succ m _ _ x v (by omega)]
    have d1 := cutL_from ((wysL m F H x).map D.int) v
    rw [← List.map_drop] at d1
    have d2 := intsOf_map ((wysL m F H x).drop v)
    have d3 := wys_drop m F H x v
    generalize ((List.range (m + 2 - v)).map fun i => W m (Lo H) (Hi m F) x (v + i)).sum = r at *
    rw [lcS_eq]
    generalize (wysL m F H x).drop v = Q at *
    generalize Q.map D.int = QD at *
    generalize (wysL m F H x).map D.int = S at *
    generalize Lo H x = lo at *
    generalize Hi m F x = hi at *
    by_cases c1 : lo ≤ (v : Int)
    · by_cases c2 : (v : Int) ≤ hi
      · simp [d_borders_left_E2, c1, c2, d1, d2, d3]
      · simp [d_borders_left_E2, c1, c2]
    · simp [d_borders_left_E2, c1]
  have z3 : ((wysL m F H (x + 1)).map D.int).length ≤ 1000 := by simp; omega
  have b1 : -4611686018427387904 ≤ (m : Int) + 2 ∧ (m : Int) + 2 < 4611686018427387904 := by omega
  have b2 : ((m : Int) + 2).toNat = m + 2 := by omega
  have g1 : flats ((wysL m F H (x + 1)).map D.int) = true := flats_map _ _ fun x _ => by simp
  have g2 : flats (((H.filter fun p => decide ((x : Int) ≤ p.1)).map fun p => p.2 + 1).map D.int) = true := flats_map _ _ fun x _ => by simp
  have g3 : flats (((F.filter fun p => decide (p.1 ≤ (x : Int))).map fun p => p.2).map D.int) = true := flats_map _ _ fun x _ => by simp
  generalize (wysL m F H (x + 1)).map D.int = S1 at *
  generalize (wysL m F H x).map D.int = S at *
  generalize ((H.filter fun p => decide ((x : Int) ≤ p.1)).map fun p => p.2 + 1).map D.int = HL at *
  generalize ((F.filter fun p => decide (p.1 ≤ (x : Int))).map fun p => p.2).map D.int = FL at *
  generalize Lo H x = lo at *
  generalize Hi m F x = hi at *
  simp only [prD] at *
  generalize F.map p2_ = FD at *
  generalize H.map p2_ = HD at *
  have z4 : HL.length + 1 ≤ 1000 := by omega
  have z5 : FL.length + 1 ≤ 1000 := by omega
  have z6 : 1 + HL.length ≤ 1000 := by omega
  have z7 : 1 + FL.length ≤ 1000 := by omega
  have z8 : HL.length ≤ 1000 := by omega
  have z9 : FL.length ≤ 1000 := by omega
  simp [turn_eq, d_borders_left_L1, l1, l2, m1, m2, l3, z3, z4, z5, z6, z7, z8, z9, b1, b2, g1, g2, g3]
theorem rep_flat : ∀ k, (List.replicate k [D.int 0]).flatten = List.replicate k (D.int 0)
  | 0 => rfl
  | k + 1 => by rw [List.replicate_succ, List.replicate_succ, List.flatten_cons, rep_flat k]; rfl
theorem rep_fl : ∀ k, flats (List.replicate k (D.int 0)) = true
  | 0 => rfl
  | k + 1 => by rw [List.replicate_succ]; simpa using rep_fl k
theorem left_ok (n m : Nat) (hm : m ≤ 4) {F H : List Pz} (hF : F.length ≤ 900) (hH : H.length ≤ 900) (sF : ∀ p ∈ F, p ∈ spots m) (sH : ∀ p ∈ H, p ∈ spots m) : callN tb.fns (n + 1) 11 [nD m, prD F, prD H] = some (.int ((bords m F H).length : Nat)) := by
  rw [callN_at (show tb.fns[11]? = some d_borders_left.fd from rfl)]
  obtain ⟨σ', key, k4, k5, k6, rfl⟩ := forL_range (turn (callN tb.fns n) (.nm 4) d_borders_left_L1) (fun x σ => ∃ k4 k5 k6, σ = [some (.sh (nD m)), some (.sh (prD F)), some (.sh (prD H)), some (.own ((wysL m F H x).map .int)), k4, k5, k6, none, none, none]) (m + 1)
    [some (.sh (nD m)), some (.sh (prD F)), some (.sh (prD H)), some (.own ((wysL m F H 0).map .int)), none, none, none, none, none, none] ⟨_, _, _, rfl⟩ fun x hx σ hσ => by
      obtain ⟨k4, k5, k6, rfl⟩ := hσ
      exact ⟨_, left_turn (callN tb.fns n) m hm F H hF hH x k4 k5 k6, _, _, _, rfl⟩
  have e0 : (wysL m F H 0).map D.int = List.replicate (m + 1) (D.int 0) ++ [D.int 1] := by
    rw [wys0, List.map_append, List.map_replicate]
    rfl
  have i1 := intsOf_map (wysL m F H (m + 1))
  have s1 : (wysL m F H (m + 1)).sum = ((bords m F H).length : Nat) := by
    have := wys_drop m F H (m + 1) 0
    rw [List.drop_zero] at this
    simp only [Nat.zero_add, Nat.sub_zero] at this
    rw [this, ways_all sF sH]
  rw [e0] at key
  have b1 : -4611686018427387904 ≤ (m : Int) + 1 ∧ (m : Int) + 1 < 4611686018427387904 := by omega
  have b2 : ((m : Int) + 1).toNat = m + 1 := by omega
  have b3 : (m : Int) + 1 ≤ 16777216 := by omega
  have b4 : -16777216 ≤ (m : Int) + 1 := by omega
  have fr : flats (List.replicate (m + 1) (D.int 0)) = true := rep_fl (m + 1)
  generalize (bords m F H).length = bl at *
  generalize wysL m F H (m + 1) = S0 at *
  generalize S0.map D.int = S1 at *
  generalize prD F = FD at *
  generalize prD H = HD at *
  have z1 : m + 1 ≤ 1000 := by omega
  have z2 : m + 1 + 1 ≤ 1000 := by omega
  simp [-forL_cons, runF, d_borders_left, Def.fd, startS, b1, b2, b3, b4, fr, key, i1, s1, z1, z2]
/-! stairs -/
theorem st_turn (cl : Nat → List D → Option D) (m : Nat) (hm : m ≤ 4) (A1 A2 k4 : Option Sl) (P : List (List Nat)) (hP : P.length ≤ 900) (c : List Nat) (hc : c.length ≤ 20) (hl : lastO m c ≤ m + 1) : turn cl (.nm 4) d_law_stairs_L1 (natT c) [some (.sh (nD m)), A1, A2, some (.own (P.map natT)), k4, none] =
    some (.nx [some (.sh (nD m)), A1, A2, some (.own ((P ++ (List.range (lastO m c + 1)).map fun a => c ++ [a]).map natT)), some (.sh (natT c)), none]) := by
  have zc : (nL c).length = c.length := List.length_map _
  have l1 : ∀ a0 a1 a2 a3, lcD (lcS cl [5] (.nm 5) [] d_law_stairs_E1 [a0, a1, a2, a3, some (.tup (nL c)), none]) ((List.range (lastO m c + 1)).map fun i => .int (i : Nat)) = some (((List.range (lastO m c + 1)).map fun a => c ++ [a]).map natT) := fun a0 a1 a2 a3 => by
    rw [List.map_map]
    refine lcD_map _ (fun i : Nat => .int (i : Nat)) _ _ fun a _ => ?_
    have e : natT (c ++ [a]) = .tup (nL c ++ [nD a]) := by simp
    rw [lcS_eq]
    simp only [Function.comp]
    rw [e]
    have z2 : c.length + 1 ≤ 1000 := by omega
    generalize nL c = C at *
    simp [d_law_stairs_E1, zc, z2]
  have e : (P ++ (List.range (lastO m c + 1)).map fun a => c ++ [a]).map natT = P.map natT ++ ((List.range (lastO m c + 1)).map fun a => c ++ [a]).map natT := List.map_append
  have z1 : (((List.range (lastO m c + 1)).map fun a => c ++ [a]).map natT).length = lastO m c + 1 := by simp
  have z2 : (P.map natT).length = P.length := List.length_map _
  have f1 := fl_natT P
  have f2 := fl_natT ((List.range (lastO m c + 1)).map fun a => c ++ [a])
  rw [e]
  rw [show natT c = .tup (nL c) from rfl]
  have fc : flats (nL c) = true := fl_nats c
  generalize ((List.range (lastO m c + 1)).map fun a => c ++ [a]).map natT = R at *
  generalize P.map natT = PD at *
  have z3 : P.length + (lastO m c + 1) ≤ 1000 := by omega
  have z4 : lastO m c + 1 ≤ 1000 := by omega
  have b1 : -4611686018427387904 ≤ (lastO m c : Int) + 1 ∧ (lastO m c : Int) + 1 < 4611686018427387904 := by omega
  have b2 : ((lastO m c : Int) + 1).toNat = lastO m c + 1 := by omega
  by_cases q : c = []
  · subst q
    have hL : lastO m [] = m + 1 := rfl
    generalize lastO m [] = la at *
    subst hL
    have b1' : -4611686018427387904 ≤ (m : Int) + 1 + 1 ∧ (m : Int) + 1 + 1 < 4611686018427387904 := by omega
    have b2' : ((m : Int) + 1 + 1).toNat = m + 1 + 1 := by omega
    simp only [nL, List.map_nil] at *
    simp [turn_eq, d_law_stairs_L1, b1', b2', l1, z1, z2, z3, z4, f1, f2]
  · have lp := List.length_pos_iff.mpr q
    have lp2 : (0 : Int) < (c.length : Int) := by omega
    have gl : (nL c).getLast? = some (nD (lastO m c)) := by
      rw [List.getLast?_map]
      unfold lastO
      cases h : c.getLast? with
      | none => exact absurd (List.getLast?_eq_none_iff.mp h) q
      | some a => rfl
    have ne : ¬ nL c = [] := fun y => q (List.map_eq_nil_iff.mp y)
    generalize lastO m c = la at *
    generalize nL c = C at *
    simp [turn_eq, d_law_stairs_L1, lp, lp2, zc, gl, ne, b1, b2, l1, z1, z2, z3, z4, f1, f2, fc]
end Dl
set_option Elab.async false
set_option linter.all false
set_option maxRecDepth 100000
set_option maxHeartbeats 2000000
/-! Borders: all stairs, bent borders. -/
namespace Dl
open PySem
theorem St_le {m j : Nat} (hm : m ≤ 4) (hj : j ≤ 5) : (St m j).length ≤ 252 := by
  have : ∀ m ≤ 4, ∀ j ≤ 5, (St m j).length ≤ 252 := by decide +kernel
  exact this m hm j hj
abbrev ext (m : Nat) (c : List Nat) : List (List Nat) := (List.range (lastO m c + 1)).map fun a => c ++ [a]
theorem pre_le (m : Nat) (pre post : List (List Nat)) : (pre.flatMap (ext m)).length ≤ ((pre ++ post).flatMap (ext m)).length := by
  rw [List.flatMap_append, List.length_append]
  omega
theorem st_row (cl : Nat → List D → Option D) (m : Nat) (hm : m ≤ 4) (x : Nat) (hx : x ≤ 4) (s1 k2 k3 k4 : Option Sl) (h1 : s1 = some (.own ((St m x).map natT)) ∨ s1 = some (.sh (.lst ((St m x).map natT)))) : ∃ k3' k4', turn cl (.nm 2) d_law_stairs_L2 (nD x) [some (.sh (nD m)), s1, k2, k3, k4, none] =
    some (.nx [some (.sh (nD m)), some (.sh (.lst ((St m (x + 1)).map natT))), some (.sh (nD x)), k3', k4', none]) := by
  obtain ⟨σ', key, k4', rfl⟩ := forL_pre (turn cl (.nm 4) d_law_stairs_L1) natT (fun pre σ => ∃ k4, σ = [some (.sh (nD m)), some (.sh (.lst ((St m x).map natT))), some (.sh (nD x)), some (.own ((pre.flatMap (ext m)).map natT)), k4, none]) (St m x)
    [some (.sh (nD m)), some (.sh (.lst ((St m x).map natT))), some (.sh (nD x)), some (.own []), k4, none] ⟨_, rfl⟩ fun pre c post σ e hσ => by
      obtain ⟨k4, rfl⟩ := hσ
      have hc : c ∈ St m x := by rw [e]; simp
      have cl' := (mem_St.mp hc).1
      have pl : (pre.flatMap (ext m)).length ≤ 252 := by
        have h := pre_le m pre (c :: post)
        rw [← e] at h
        have := St_le hm (show x + 1 ≤ 5 by omega)
        have e2 : (St m (x + 1)).length = ((St m x).flatMap (ext m)).length := rfl
        omega
      have t := st_turn cl m hm (some (.sh (.lst ((St m x).map natT)))) (some (.sh (nD x))) k4 (pre.flatMap (ext m)) (by omega) c (by omega) (last_le hc)
      have ef : (pre ++ [c]).flatMap (ext m) = pre.flatMap (ext m) ++ ext m c := by rw [List.flatMap_append]; simp
      exact ⟨_, t, some (.sh (natT c)), by rw [ef]⟩
  have key : forL (turn cl (.nm 4) d_law_stairs_L1) ((St m x).map natT) [some (.sh (nD m)), some (.sh (.lst ((St m x).map natT))), some (.sh (nD x)), some (.own []), k4, none] = some (.nx [some (.sh (nD m)), some (.sh (.lst ((St m x).map natT))), some (.sh (nD x)), some (.own ((St m (x + 1)).map natT)), k4', none]) := key
  have f1 := fl_natT (St m x)
  have f2 := fl_natT (St m (x + 1))
  refine ⟨some (.sh (.lst ((St m (x + 1)).map natT))), k4', ?_⟩
  generalize (St m (x + 1)).map natT = S1 at *
  generalize (St m x).map natT = S0 at *
  rcases h1 with rfl | rfl <;> simp [-forL_cons, turn_eq, d_law_stairs_L2, key, f1, f2]
theorem stairs_ok (n m : Nat) (hm : m ≤ 4) : callN tb.fns (n + 1) 21 [nD m] = some (.lst ((St m (m + 1)).map natT)) := by
  rw [callN_at (show tb.fns[21]? = some d_law_stairs.fd from rfl)]
  have b1 : -4611686018427387904 ≤ (m : Int) + 1 ∧ (m : Int) + 1 < 4611686018427387904 := by omega
  have b2 : ((m : Int) + 1).toNat = m + 1 := by omega
  obtain ⟨σ', key, s1, k2, k3, k4, h1, rfl⟩ := forL_range (turn (callN tb.fns n) (.nm 2) d_law_stairs_L2) (fun x σ => ∃ s1 k2 k3 k4, (s1 = some (.own ((St m x).map natT)) ∨ s1 = some (.sh (.lst ((St m x).map natT)))) ∧ σ = [some (.sh (nD m)), s1, k2, k3, k4, none]) (m + 1)
    [some (.sh (nD m)), some (.own [.tup []]), none, none, none, none] ⟨_, _, _, _, .inl rfl, rfl⟩ fun x hx σ hσ => by
      obtain ⟨s1, k2, k3, k4, h1, rfl⟩ := hσ
      obtain ⟨k3', k4', t⟩ := st_row (callN tb.fns n) m hm x (by omega) s1 k2 k3 k4 h1
      exact ⟨_, t, _, some (.sh (nD x)), k3', k4', .inr rfl, rfl⟩
  generalize (St m (m + 1)).map natT = S at *
  rcases h1 with rfl | rfl <;> simp [-forL_cons, runF, d_law_stairs, Def.fd, startS, b1, b2, key]
theorem bent_rowT_ok {α : Type} (f : α → D) (hf : ∀ x, (f x).flat = true) (cl : Nat → List D → Option D) (s its : List α) (a b c : Int) (J : D) (hJ : J = .lst (its.map f) ∨ J = .tup (its.map f)) (hi : its ≠ []) (hs : s.length ≤ 900) :
    ∃ s' : List α, s'.length ≤ s.length + 1 ∧ (∀ x ∈ s', x ∈ s ∨ x ∈ its) ∧ runF cl fdBentRow [.tup (s.map f), .tup [.int a, .int b, .int c], J] = some (.tup (s'.map f)) := by
  have w := fmod_bd a 6 (by omega)
  have at_ := fmod_bd b ((s.length : Int) + 1) (by omega)
  have ip : 0 < its.length := List.length_pos_iff.mpr hi
  have o1 := fmod_bd c (its.length : Int) (by omega)
  obtain ⟨odd, h1, h2⟩ := pickG f its (c.fmod (its.length : Int)) o1.1 o1.2
  generalize e1 : c.fmod (its.length : Int) = z1 at *
  generalize e6 : a.fmod 6 = way at *
  generalize eb : b.fmod ((s.length : Int) + 1) = at0 at *
  obtain ⟨k, rfl⟩ : ∃ k : Nat, at0 = k := ⟨at0.toNat, by omega⟩
  have hk : k ≤ s.length := by omega
  have hs2 : s.length ≤ 1000 := by omega
  have lp : (s.length : Int) + 1 ≠ 0 := by omega
  have ln : (its.length : Int) ≠ 0 := by omega
  have c1 : cutL (s.map f) (some ((k : Int) + 1)) none = (s.drop (k + 1)).map f := by rw [show (k : Int) + 1 = ((k + 1 : Nat) : Int) by omega, cutL_from, List.map_drop]
  have c2 : cutL (s.map f) (some (k : Int)) none = (s.drop k).map f := by rw [cutL_from, List.map_drop]
  have c3 : cutL (s.map f) none (some (k : Int)) = (s.take k).map f := by rw [cutL_to, List.map_take]
  have b1 : k ≤ 1000 := by omega
  have q0 : min k s.length = k := Nat.min_eq_left hk
  have q1 : k + (s.length - (k + 1)) ≤ 1000 := by omega
  have q2 : k + 1 ≤ 1000 := by omega
  have q3 : k + 1 + (s.length - k) ≤ 1000 := by omega
  have q4 : k + 1 + (s.length - (k + 1)) ≤ 1000 := by omega
  have q5 : k + (s.length - (k - 1)) ≤ 1000 := by omega
  have q6 : k + (s.length - k + 1) ≤ 1000 := by omega
  have q7 : k + (s.length - (k + 1) + 1) ≤ 1000 := by omega
  have q8 : k ≤ s.length := hk
  unfold runF
  rw [if_pos (by rfl)]
  by_cases w0 : way = 0
  · refine ⟨s.take k ++ s.drop (k + 1), by simp; omega, fun x hx => ?_, ?_⟩
    · left
      rcases List.mem_append.mp hx with hx | hx
      · exact List.mem_of_mem_take hx
      · exact List.mem_of_mem_drop hx
    · rcases hJ with rfl | rfl <;> simp [fdBentRow, bBentRow, startS, e1, e6, eb, h2, hi, hf, ln, c1, c3, q0, q1, q2, q3, q4, q5, q6, q7, q8, w0]
  by_cases w1 : way = 1
  · refine ⟨s.take k ++ odd :: s.drop k, by simp; omega, fun x hx => ?_, ?_⟩
    · rcases List.mem_append.mp hx with hx | hx
      · exact .inl (List.mem_of_mem_take hx)
      · rcases List.mem_cons.mp hx with rfl | hx
        · exact .inr h1
        · exact .inl (List.mem_of_mem_drop hx)
    · rcases hJ with rfl | rfl <;> simp [fdBentRow, bBentRow, startS, e1, e6, eb, h2, hi, hf, ln, c2, c3, q0, q1, q2, q3, q4, q5, q6, q7, q8, w0, w1]
  by_cases w4 : way < 4
  · refine ⟨s.take k ++ odd :: s.drop (k + 1), by simp; omega, fun x hx => ?_, ?_⟩
    · rcases List.mem_append.mp hx with hx | hx
      · exact .inl (List.mem_of_mem_take hx)
      · rcases List.mem_cons.mp hx with rfl | hx
        · exact .inr h1
        · exact .inl (List.mem_of_mem_drop hx)
    · rcases hJ with rfl | rfl <;> simp [fdBentRow, bBentRow, startS, e1, e6, eb, h2, hi, hf, ln, c1, c3, q0, q1, q2, q3, q4, q5, q6, q7, q8, w0, w1, w4]
  by_cases w5 : way = 4
  · refine ⟨s.reverse, by simp, fun x hx => .inl (by simpa using hx), ?_⟩
    rcases hJ with rfl | rfl <;> simp [fdBentRow, bBentRow, startS, e1, e6, eb, h2, hi, hf, ln, w5]
  · have c4 : cutL (s.map f) (some (mx 0 ((k : Int) - 1))) none = (s.drop (k - 1)).map f := by
      have e : mx 0 ((k : Int) - 1) = ((k - 1 : Nat) : Int) := by
        unfold mx
        split <;> omega
      rw [e, cutL_from, List.map_drop]
    refine ⟨s.take k ++ s.drop (k - 1), by simp; omega, fun x hx => ?_, ?_⟩
    · left
      rcases List.mem_append.mp hx with hx | hx
      · exact List.mem_of_mem_take hx
      · exact List.mem_of_mem_drop hx
    · simp at c4
      rcases hJ with rfl | rfl <;> simp [fdBentRow, bBentRow, startS, e1, e6, eb, h2, hi, hf, ln, c3, c4, q0, q1, q2, q3, q4, q5, q6, q7, q8, w0, w1, w4, w5]
end Dl
set_option Elab.async false
set_option linter.all false
set_option maxRecDepth 100000
set_option maxHeartbeats 2000000
/-! Borders: bent borders asked. -/
namespace Dl
open PySem
theorem hasN : Has tb.fns 12 13 14 15 := ⟨rfl, rfl, rfl, rfl⟩
theorem isBt (n : Nat) (b : Bool) : callN tb.fns (n + 5) 15 [.bl b, .bl b] = some (.bl true) := hasN.isN (fits_bl 0 b) (by omega)
def itemsB (m : Nat) (a b : Int) : List Pz := [(0, 0), ((m : Int), (m : Int)), (-1, 2), (1, (m : Int) + 1), (100000000000000000000, 0), (a, b)]
theorem inPr (x : List Pz) (L : List (List Pz)) : inD (prD x) (.lst (L.map fun l => prD l)) = some (decide (x ∈ L)) := (ordPT.e.inL (by omega) x L).trans (congrArg some (decide_eq_decide.mpr Iff.rfl))
section
variable {m : Nat} (hm : m ≤ 4) {F H : List Pz} (hF : ∀ p ∈ F, p ∈ spots m) (hH : ∀ p ∈ H, p ∈ spots m) {B1 B2 : List Pz} (h1 : B1.length ≤ 30) (h2 : B2.length ≤ 30) {ds : List Int} (hds : ds.length = 12) (n : Nat)
include hm hF hH h1 h2 hds
theorem ask_turn (t : Nat) (ht : t < 6) (j6 j7 j8 j9 : Option Sl) : ∃ q7 q8 q9, turn (callN tb.fns (n + 5)) (.nm 6) d_law_bent_asked_L1 (nD t) [some (.sh (nD m)), some (.sh (prD F)), some (.sh (prD H)), some (.sh (.tup [prD B1, prD B2])), some (.sh (.lst ((bords m F H).map fun l => prD l))), some (.sh (.lst (ds.map .int))), j6, j7, j8, j9] =
    some (.nx [some (.sh (nD m)), some (.sh (prD F)), some (.sh (prD H)), some (.sh (.tup [prD B1, prD B2])), some (.sh (.lst ((bords m F H).map fun l => prD l))), some (.sh (.lst (ds.map .int))), some (.sh (nD t)), q7, q8, q9]) := by
  have gd : ∀ i, i < 12 → (ds.map D.int)[i]? = some (.int (ds.getD i 0)) := fun i hi => by rw [List.getElem?_map, getD_at (h := ds) (d := i) (by omega)]; rfl
  have g3 := gd 3 (by omega)
  have g4 := gd 4 (by omega)
  have ga := gd t (by omega)
  have gb := gd (t + 3) (by omega)
  have gc := gd (t + 6) (by omega)
  generalize ds.getD 3 0 = x3 at *
  generalize ds.getD 4 0 = x4 at *
  generalize ds.getD t 0 = xa at *
  generalize ds.getD (t + 3) 0 = xb at *
  generalize ds.getD (t + 6) 0 = xc at *
  have e3 : ((t : Int) + 3).toNat = t + 3 := by omega
  have e6 : ((t : Int) + 6).toNat = t + 6 := by omega
  have p3 : (0 : Int) ≤ (t : Int) + 3 := by omega
  have p6 : (0 : Int) ≤ (t : Int) + 6 := by omega
  obtain ⟨B, hB, eB⟩ : ∃ B : List Pz, B.length ≤ 30 ∧ ([prD B1, prD B2] : List D)[(Int.fmod (t : Int) 2).toNat]? = some (prD B) := by
    have bd := fmod_bd (t : Int) 2 (by omega)
    rcases (show Int.fmod (t : Int) 2 = 0 ∨ Int.fmod (t : Int) 2 = 1 by omega) with e | e
    · exact ⟨B1, h1, by rw [e]; rfl⟩
    · exact ⟨B2, h2, by rw [e]; rfl⟩
  have bd := (fmod_bd (t : Int) 2 (by omega)).1
  obtain ⟨V, v1, _, v2⟩ := bent_rowT_ok p2_ (fun x => by simp) (callN tb.fns (n + 4)) B (itemsB m (x3.fmod ((m : Int) + 1)) (x4.fmod ((m : Int) + 1))) xa xb xc (.tup ((itemsB m (x3.fmod ((m : Int) + 1)) (x4.fmod ((m : Int) + 1))).map p2_)) (.inr rfl) (by simp [itemsB]) (by omega)
  have f17 : callN tb.fns (n + 5) 17 [prD B, .tup [.int xa, .int xb, .int xc], .tup ((itemsB m (x3.fmod ((m : Int) + 1)) (x4.fmod ((m : Int) + 1))).map p2_)] = some (prD V) := (callN_at (show tb.fns[17]? = some fdBentRow from rfl) (n + 4) _).trans v2
  have eI : (itemsB m (x3.fmod ((m : Int) + 1)) (x4.fmod ((m : Int) + 1))).map p2_ = [.tup [.int 0, .int 0], .tup [nD m, nD m], .tup [.int (-1), .int 2], .tup [.int 1, .int ((m : Int) + 1)], .tup [.int 100000000000000000000, .int 0], .tup [.int (x3.fmod ((m : Int) + 1)), .int (x4.fmod ((m : Int) + 1))]] := rfl
  rw [eI] at f17
  have f5 : callN tb.fns (n + 5) 5 [nD m, prD V] = some (.bl (isB m V)) := isb_ok (n + 2) m V (by omega)
  have f22 : callN tb.fns (n + 5) 22 [nD m, prD V] = some (.bl (isB m V)) := lisb_ok (n + 2) m V (by omega)
  have f6 : callN tb.fns (n + 5) 6 [nD m, prD F, prD H, prD V] = some (.bl (decide (V ∈ bords m F H))) := by
    rw [← fits_mem hF hH]
    exact fits_ok (n + 1) m F H V (by omega)
  have i1 := inPr V (bords m F H)
  have i2 := isBt n (isB m V)
  have i3 := isBt n (decide (V ∈ bords m F H))
  have n0 : ¬ (m : Int) + 1 = 0 := by omega
  have fV : (prD V).flat = true := by simp
  refine ⟨some (.sh (.tup [.int (x3.fmod ((m : Int) + 1)), .int (x4.fmod ((m : Int) + 1))])), some (.sh (.tup [.tup [.int 0, .int 0], .tup [nD m, nD m], .tup [.int (-1), .int 2], .tup [.int 1, .int ((m : Int) + 1)], .tup [.int 100000000000000000000, .int 0], .tup [.int (x3.fmod ((m : Int) + 1)), .int (x4.fmod ((m : Int) + 1))]])), some (.sh (prD V)), ?_⟩
  generalize isB m V = r1 at *
  generalize decide (V ∈ bords m F H) = r2 at *
  generalize (bords m F H).map (fun l => prD l) = BL at *
  generalize prD V = VD at *
  generalize prD B = BD at *
  generalize prD B1 = B1D at *
  generalize prD B2 = B2D at *
  generalize prD F = FD at *
  generalize prD H = HD at *
  generalize ds.map D.int = DS at *
  simp [turn_eq, d_law_bent_asked_L1, g3, g4, ga, gb, gc, e3, e6, p3, p6, eB, bd, f17, f5, f22, f6, i1, i2, i3, n0, fV]
theorem asked_ok : callN tb.fns (n + 6) 23 [nD m, prD F, prD H, .tup [prD B1, prD B2], .lst ((bords m F H).map fun l => prD l), .lst (ds.map .int)] = some (.bl true) := by
  rw [callN_at (show tb.fns[23]? = some d_law_bent_asked.fd from rfl)]
  obtain ⟨σ', key, k6, k7, k8, k9, rfl⟩ := forL_range (turn (callN tb.fns (n + 5)) (.nm 6) d_law_bent_asked_L1) (fun _ σ => ∃ k6 k7 k8 k9, σ = [some (.sh (nD m)), some (.sh (prD F)), some (.sh (prD H)), some (.sh (.tup [prD B1, prD B2])), some (.sh (.lst ((bords m F H).map fun l => prD l))), some (.sh (.lst (ds.map .int))), k6, k7, k8, k9]) 6
    [some (.sh (nD m)), some (.sh (prD F)), some (.sh (prD H)), some (.sh (.tup [prD B1, prD B2])), some (.sh (.lst ((bords m F H).map fun l => prD l))), some (.sh (.lst (ds.map .int))), none, none, none, none] ⟨_, _, _, _, rfl⟩ fun t ht σ hσ => by
      obtain ⟨k6, k7, k8, k9, rfl⟩ := hσ
      obtain ⟨q7, q8, q9, e⟩ := ask_turn hm hF hH h1 h2 hds n t ht k6 k7 k8 k9
      exact ⟨_, e, _, _, _, _, rfl⟩
  have r6 : (List.range 6).map (fun i : Nat => D.int (i : Nat)) = [.int 0, .int 1, .int 2, .int 3, .int 4, .int 5] := rfl
  rw [r6] at key
  simp [-forL_cons, runF, d_law_bent_asked, Def.fd, startS, r6, key]
end
end Dl
set_option Elab.async false
set_option linter.all false
set_option maxRecDepth 100000
set_option maxHeartbeats 2000000
/-! Borders: what the law draws. -/
namespace Dl
open PySem
abbrev cl4 := callN tb.fns 24
abbrev stD (m : Nat) : D := .lst ((St m (m + 1)).map natT)
abbrev sptD (m : Nat) : D := .lst ((spots m).map p2_)
theorem atS_D {m : Nat} {c : List Nat} (hc : c ∈ St m (m + 1)) {p : Pz} (hp : p ∈ spots m) : (nL c)[p.1.toNat]? = some (.int (atS c p)) := by
  have := (mem_St.mp hc).1
  rw [mem_spots] at hp
  rw [List.getElem?_map, get_getD (l := c) (by omega) 0]
  rfl
theorem spots_ne (m : Nat) : spots m ≠ [] := fun z => by
  have : ((0, 0) : Pz) ∈ spots m := mem_spots.mpr (by simp only; omega)
  rw [z] at this
  cases this
theorem St_ne (m : Nat) : St m (m + 1) ≠ [] := fun z => by
  have := cOf_St m []
  rw [z] at this
  cases this
theorem sp_pick (m : Nat) (x : Int) : ∃ p ∈ spots m, L2.atI ((spots m).map p2_) (x.fmod ((spots m).length : Int)) = some (p2_ p) ∧ 0 ≤ x.fmod ((spots m).length : Int) := by
  have lp := List.length_pos_iff.mpr (spots_ne m)
  have bd := fmod_bd x ((spots m).length : Int) (by omega)
  obtain ⟨p, h1, h2⟩ := pickG p2_ (spots m) _ bd.1 bd.2
  exact ⟨p, h1, h2, bd.1⟩
theorem preA (ds : List Int) (hds : ds.length = 58) (k : Nat) (hk : k < 3) (A0 j3 j4 j5 j6 j7 j8 j9 A10 A11 A12 A13 A14 A15 A16 A17 A18 A19 A20 A21 A22 : Option Sl) : ∃ (m : Nat) (c : List Nat), m ≤ 4 ∧ c ∈ St m (m + 1) ∧
    exSs cl4 (d_law_L6.take 6) [A0, some (.sh (.lst (ds.map .int))), some (.sh (nD k)), j3, j4, j5, j6, j7, j8, j9, A10, A11, A12, A13, A14, A15, A16, A17, A18, A19, A20, A21, A22] =
      some (.nx [A0, some (.sh (.lst (ds.map .int))), some (.sh (nD k)), some (.sh (nD m)), some (.sh (stD m)), some (.sh (natT c)), some (.sh (sptD m)), some (.sh (.tup [])), some (.sh (.tup [])), j9, A10, A11, A12, A13, A14, A15, A16, A17, A18, A19, A20, A21, A22]) := by
  have gd : ∀ i, i < 58 → (ds.map D.int)[i]? = some (.int (ds.getD i 0)) := fun i hi => by rw [List.getElem?_map, getD_at (h := ds) (d := i) (by omega)]; rfl
  have g1 := gd k (by omega)
  have g2 := gd (3 + k) (by omega)
  generalize ds.getD k 0 = x1 at *
  generalize ds.getD (3 + k) 0 = x2 at *
  have e3 : (3 + (k : Int)).toNat = 3 + k := by omega
  have p3 : (0 : Int) ≤ 3 + (k : Int) := by omega
  have b1 := fmod_bd x1 4 (by omega)
  obtain ⟨md, m1, m2⟩ := pick [2, 3, 1, 4] (x1.fmod 4) b1.1 (by simp; omega)
  rw [atI_of _ _ b1.1] at m2
  simp only [List.map_cons, List.map_nil] at m2
  obtain ⟨m, hm, rfl⟩ : ∃ m : Nat, m ≤ 4 ∧ md = m := by
    simp only [List.mem_cons, List.not_mem_nil, or_false] at m1
    exact ⟨md.toNat, by omega, by omega⟩
  have lp := List.length_pos_iff.mpr (St_ne m)
  have bd := fmod_bd x2 ((St m (m + 1)).length : Int) (by omega)
  obtain ⟨c, h1, h2⟩ := pickG natT (St m (m + 1)) _ bd.1 bd.2
  rw [atI_of _ _ bd.1] at h2
  have f21 : cl4 21 [nD m] = some (stD m) := stairs_ok 23 m hm
  have f19 : cl4 19 [nD m] = some (sptD m) := lsp_ok 23 m hm
  have zl : ((St m (m + 1)).map natT).length = (St m (m + 1)).length := List.length_map _
  have nz : ¬ (St m (m + 1)).length = 0 := by omega
  have bp := bd.1
  have fc : (natT c).flat = true := by simp
  have fs : flats ((St m (m + 1)).map natT) = true := fl_natT _
  have fp : flats ((spots m).map p2_) = true := fl_p2 _
  refine ⟨m, c, hm, h1, ?_⟩
  simp only [stD, sptD] at *
  generalize (St m (m + 1)).length = sl at *
  generalize (St m (m + 1)).map natT = SD at *
  generalize (spots m).map p2_ = PD at *
  generalize natT c = C at *
  generalize ds.map D.int = DS at *
  have b1' := b1.1
  simp [d_law_L6, g1, g2, e3, p3, m2, b1', f21, f19, zl, nz, h2, bp, fc, fs, fp]
section
variable {m : Nat} (hm : m ≤ 4) {c : List Nat} (hc : c ∈ St m (m + 1)) {ds : List Int} (hds : ds.length = 58) (k : Nat) (hk : k < 3)
include hm hc hds hk
theorem l1_turn (t : Nat) (ht : t < 7) (F H : List Pz) (hF : F.length ≤ 10) (hH : H.length ≤ 10) (sF : ∀ p ∈ F, p ∈ spots m) (sH : ∀ p ∈ H, p ∈ spots m) (A0 A4 j9 A10 A11 A12 A13 A14 A15 j16 A17 A18 A19 A20 A21 A22 : Option Sl) : ∃ (F' H' : List Pz) (q16 : Option Sl), F'.length ≤ F.length + 1 ∧ H'.length ≤ H.length + 1 ∧ (∀ p ∈ F', p ∈ spots m) ∧ (∀ p ∈ H', p ∈ spots m) ∧
    turn cl4 (.nm 9) d_law_L1 (nD t) [A0, some (.sh (.lst (ds.map .int))), some (.sh (nD k)), some (.sh (nD m)), A4, some (.sh (natT c)), some (.sh (sptD m)), some (.sh (prD F)), some (.sh (prD H)), j9, A10, A11, A12, A13, A14, A15, j16, A17, A18, A19, A20, A21, A22] =
      some (.nx [A0, some (.sh (.lst (ds.map .int))), some (.sh (nD k)), some (.sh (nD m)), A4, some (.sh (natT c)), some (.sh (sptD m)), some (.sh (prD F')), some (.sh (prD H')), some (.sh (nD t)), A10, A11, A12, A13, A14, A15, q16, A17, A18, A19, A20, A21, A22]) := by
  have g1 := getD_at (h := ds) (d := 9 + t + 4 * k) (by omega)
  generalize ds.getD (9 + t + 4 * k) 0 = x at *
  have g1' : (ds.map D.int)[9 + t + 4 * k]? = some (.int x) := by rw [List.getElem?_map, g1]; rfl
  have e1 : (9 + (t : Int) + 4 * (k : Int)).toNat = 9 + t + 4 * k := by omega
  have p1 : (0 : Int) ≤ 9 + (t : Int) + 4 * (k : Int) := by omega
  obtain ⟨p, hp, e2, p2⟩ := sp_pick m x
  rw [atI_of _ _ p2] at e2
  have ga := atS_D hc hp
  have sp := mem_spots.mp hp
  have s1 := sp.1
  have zl : ((spots m).map p2_).length = (spots m).length := List.length_map _
  have nz : ¬ (spots m).length = 0 := fun z => spots_ne m (List.eq_nil_of_length_eq_zero z)
  have zF : (F.map p2_).length + 1 ≤ 1000 := by rw [List.length_map]; omega
  have zH : (H.map p2_).length + 1 ≤ 1000 := by rw [List.length_map]; omega
  have fF := fl_p2 F
  have fH := fl_p2 H
  have eF : prD (F ++ [p]) = .tup (F.map p2_ ++ [p2_ p]) := by simp
  have eH : prD (H ++ [p]) = .tup (H.map p2_ ++ [p2_ p]) := by simp
  rw [show natT c = .tup (nL c) from rfl]
  by_cases q : atS c p ≤ p.2
  · refine ⟨F ++ [p], H, some (.sh (p2_ p)), by simp, by omega, fun r hr => ?_, sH, ?_⟩
    · rcases List.mem_append.mp hr with h | h
      · exact sF r h
      · rw [List.mem_singleton.mp h]; exact hp
    · rw [eF]
      simp only [prD, sptD] at *
      generalize atS c p = v at *
      generalize nL c = C at *
      generalize (spots m).length = sl at *
      generalize (spots m).map p2_ = PD at *
      generalize F.map p2_ = FD at *
      generalize H.map p2_ = HD at *
      generalize ds.map D.int = DS at *
      simp [turn_eq, d_law_L1, g1', e1, p1, e2, p2, zl, nz, ga, s1, zF, fF, q]
  · refine ⟨F, H ++ [p], some (.sh (p2_ p)), by omega, by simp, sF, fun r hr => ?_, ?_⟩
    · rcases List.mem_append.mp hr with h | h
      · exact sH r h
      · rw [List.mem_singleton.mp h]; exact hp
    · rw [eH]
      simp only [prD, sptD] at *
      generalize atS c p = v at *
      generalize nL c = C at *
      generalize (spots m).length = sl at *
      generalize (spots m).map p2_ = PD at *
      generalize F.map p2_ = FD at *
      generalize H.map p2_ = HD at *
      generalize ds.map D.int = DS at *
      simp [turn_eq, d_law_L1, g1', e1, p1, e2, p2, zl, nz, ga, s1, zH, fH, q]
theorem preB (A0 A4 j9 A10 A11 A12 A13 A14 A15 j16 A17 A18 A19 A20 A21 A22 : Option Sl) : ∃ (F H : List Pz) (q9 q16 : Option Sl), F.length ≤ 8 ∧ H.length ≤ 8 ∧ (∀ p ∈ F, p ∈ spots m) ∧ (∀ p ∈ H, p ∈ spots m) ∧
    exSs cl4 ((d_law_L6.drop 6).take 2) [A0, some (.sh (.lst (ds.map .int))), some (.sh (nD k)), some (.sh (nD m)), A4, some (.sh (natT c)), some (.sh (sptD m)), some (.sh (.tup [])), some (.sh (.tup [])), j9, A10, A11, A12, A13, A14, A15, j16, A17, A18, A19, A20, A21, A22] =
      some (.nx [A0, some (.sh (.lst (ds.map .int))), some (.sh (nD k)), some (.sh (nD m)), A4, some (.sh (natT c)), some (.sh (sptD m)), some (.sh (prD F)), some (.sh (prD H)), q9, A10, A11, A12, A13, A14, A15, q16, A17, A18, A19, A20, A21, A22]) := by
  have g1 := getD_at (h := ds) (d := 6 + k) (by omega)
  have g2 := getD_at (h := ds) (d := 26) (by omega)
  generalize ds.getD (6 + k) 0 = x at *
  generalize ds.getD 26 0 = y at *
  have g1' : (ds.map D.int)[6 + k]? = some (.int x) := by rw [List.getElem?_map, g1]; rfl
  have g2' : (ds.map D.int)[26]? = some (.int y) := by rw [List.getElem?_map, g2]; rfl
  have e1 : (6 + (k : Int)).toNat = 6 + k := by omega
  have p1 : (0 : Int) ≤ 6 + (k : Int) := by omega
  have bx := fmod_bd x 8 (by omega)
  obtain ⟨n, hn⟩ : ∃ n : Nat, x.fmod 8 = n := ⟨(x.fmod 8).toNat, by omega⟩
  obtain ⟨σ', key, F, H, q9, q16, hF, hH, sF, sH, rfl⟩ := forL_range (turn cl4 (.nm 9) d_law_L1) (fun i σ => ∃ (F H : List Pz) (q9 q16 : Option Sl), F.length ≤ i ∧ H.length ≤ i ∧ (∀ p ∈ F, p ∈ spots m) ∧ (∀ p ∈ H, p ∈ spots m) ∧ σ = [A0, some (.sh (.lst (ds.map .int))), some (.sh (nD k)), some (.sh (nD m)), A4, some (.sh (natT c)), some (.sh (sptD m)), some (.sh (prD F)), some (.sh (prD H)), q9, A10, A11, A12, A13, A14, A15, q16, A17, A18, A19, A20, A21, A22]) n
    [A0, some (.sh (.lst (ds.map .int))), some (.sh (nD k)), some (.sh (nD m)), A4, some (.sh (natT c)), some (.sh (sptD m)), some (.sh (.tup [])), some (.sh (.tup [])), j9, A10, A11, A12, A13, A14, A15, j16, A17, A18, A19, A20, A21, A22] ⟨[], [], _, _, by simp, by simp, by simp, by simp, rfl⟩ fun t ht σ hσ => by
      obtain ⟨F, H, q9, q16, hF, hH, sF, sH, rfl⟩ := hσ
      obtain ⟨F', H', r16, w1, w2, w3, w4, e⟩ := l1_turn hm hc hds k hk t (by omega) F H (by omega) (by omega) sF sH A0 A4 q9 A10 A11 A12 A13 A14 A15 q16 A17 A18 A19 A20 A21 A22
      exact ⟨_, e, F', H', _, r16, by omega, by omega, w3, w4, rfl⟩
  have b3 : (n : Int) < 4611686018427387904 := by omega
  by_cases c1 : k = 1
  · obtain ⟨p, hp, e2, p2⟩ := sp_pick m y
    rw [atI_of _ _ p2] at e2
    have sp := mem_spots.mp hp
    have zl : ((spots m).map p2_).length = (spots m).length := List.length_map _
    have nz : ¬ (spots m).length = 0 := fun z => spots_ne m (List.eq_nil_of_length_eq_zero z)
    have zF : (F.map p2_).length + 1 ≤ 1000 := by rw [List.length_map]; omega
    have zH : (H.map p2_).length + 1 ≤ 1000 := by rw [List.length_map]; omega
    have zH2 : 1 + (H.map p2_).length ≤ 1000 := by rw [List.length_map]; omega
    have fF := fl_p2 F
    have fH := fl_p2 H
    have eF : prD (F ++ [p]) = .tup (F.map p2_ ++ [p2_ p]) := by simp
    have eH : prD (((m : Int), p.2) :: H) = .tup (.tup [nD m, .int p.2] :: H.map p2_) := by simp
    refine ⟨F ++ [p], ((m : Int), p.2) :: H, q9, some (.sh (p2_ p)), by simp; omega, by simp; omega, fun r hr => ?_, fun r hr => ?_, ?_⟩
    · rcases List.mem_append.mp hr with h | h
      · exact sF r h
      · rw [List.mem_singleton.mp h]; exact hp
    · rcases List.mem_cons.mp hr with rfl | h
      · exact mem_spots.mpr ⟨by simp only; omega, by simp only; omega, sp.2.2.1, sp.2.2.2⟩
      · exact sH r h
    · rw [eF, eH]
      have c1' : (k : Int) = 1 := by omega
      simp only [prD, sptD] at *
      generalize (spots m).length = sl at *
      generalize (spots m).map p2_ = PD at *
      generalize F.map p2_ = FD at *
      generalize H.map p2_ = HD at *
      generalize natT c = C at *
      generalize ds.map D.int = DS at *
      have t1 : (k = 1) = True := eq_true c1
      have t2 : ((k : Int) = 1) = True := eq_true c1'
      have p2' : 0 ≤ y.fmod (sl : Int) := p2
      simp [-forL_cons, d_law_L6, g1', g2', e1, p1, hn, b3, key, t1, t2, zl, nz, e2, p2', zF, zH, zH2, fF, fH]
  · refine ⟨F, H, q9, q16, by omega, by omega, sF, sH, ?_⟩
    have c1' : ¬ (k : Int) = 1 := by omega
    simp only [prD, sptD] at *
    generalize (spots m).map p2_ = PD at *
    generalize F.map p2_ = FD at *
    generalize H.map p2_ = HD at *
    generalize natT c = C at *
    generalize ds.map D.int = DS at *
    simp [-forL_cons, d_law_L6, g1', e1, p1, hn, b3, key, c1, c1']
end
end Dl
set_option Elab.async false
set_option linter.all false
set_option maxRecDepth 100000
set_option maxHeartbeats 2000000
/-! Borders: tangles and borders of the law. -/
namespace Dl
open PySem
theorem fits_tg (x : Pz × Pz) : fits 2 (tgD x) := ⟨by simp, fun d hd => by
  simp at hd
  rcases hd with rfl | rfl <;> exact fits_p2 _⟩
theorem fits_tgV (F H : List Pz) : fits 2 (tgV F H) := by
  unfold tgV
  split
  · exact fits_non 2
  · exact fits_tg _
theorem iB (b : Bool) : cl4 15 [.bl b, .bl b] = some (.bl true) := hasN.isN (fits_bl 0 b) (by omega)
theorem fl_tg (l : List (Pz × Pz)) : flats (l.map fun x => tgD x) = true := flats_map _ _ fun x _ => by simp
section
variable {m : Nat} (hm : m ≤ 4) {F H : List Pz} (hF : F.length ≤ 8) (hH : H.length ≤ 8) (sF : ∀ p ∈ F, p ∈ spots m) (sH : ∀ p ∈ H, p ∈ spots m)
include hm hF hH sF sH
theorem l2_turn (P : List (Pz × Pz)) (hP : P.length ≤ 64) (p : Pz) (A0 A1 A2 A3 A4 A5 A6 A7 A9 j11 A12 A13 A14 A15 A16 A17 A18 A19 A20 A21 A22 : Option Sl) : turn cl4 (.nm 11) d_law_L2 (p2_ p) [A0, A1, A2, A3, A4, A5, A6, A7, some (.sh (prD H)), A9, some (.own (P.map fun x => tgD x)), j11, A12, A13, A14, A15, A16, A17, A18, A19, A20, A21, A22] =
    some (.nx [A0, A1, A2, A3, A4, A5, A6, A7, some (.sh (prD H)), A9, some (.own ((P ++ (H.filter fun b => und p b).map fun b => (p, b)).map fun x => tgD x)), some (.sh (p2_ p)), A12, A13, A14, A15, A16, A17, A18, A19, A20, A21, A22]) := by
  have l1 : ∀ a0 a1 a2 a3 a4 a5 a6 a7 a8 a9 a10 a12 a13 a14 a15 a16 a17 a18 a19 a20 a21 a22, lcD (lcS cl4 [22] (.nm 22) d_law_T1 d_law_E1 [a0, a1, a2, a3, a4, a5, a6, a7, a8, a9, a10, some (p2_ p), a12, a13, a14, a15, a16, a17, a18, a19, a20, a21, a22]) (H.map p2_) = some (((H.filter fun b => und p b).map fun b => (p, b)).map fun x => tgD x) := fun a0 a1 a2 a3 a4 a5 a6 a7 a8 a9 a10 a12 a13 a14 a15 a16 a17 a18 a19 a20 a21 a22 => by
    rw [List.map_map]
    refine lcD_filter _ p2_ (fun b => und p b) _ _ fun b _ => ?_
    have f : cl4 18 [p2_ p, p2_ b] = some (.bl (und p b)) := lund_ok 23 p b
    rw [lcS_eq]
    simp only [Function.comp, tgD]
    generalize und p b = u at *
    generalize p2_ p = A at *
    generalize p2_ b = B at *
    cases u <;> simp [d_law_T1, d_law_E1, f]
  have e : (P ++ (H.filter fun b => und p b).map fun b => (p, b)).map (fun x => tgD x) = P.map (fun x => tgD x) ++ ((H.filter fun b => und p b).map fun b => (p, b)).map fun x => tgD x := List.map_append
  have z1 : (((H.filter fun b => und p b).map fun b => (p, b)).map fun x => tgD x).length ≤ 8 := by
    have := List.length_filter_le (fun b => und p b) H
    rw [List.length_map, List.length_map]
    omega
  have z2 : (P.map fun x => tgD x).length = P.length := List.length_map _
  have f1 := fl_tg P
  have f2 := fl_tg ((H.filter fun b => und p b).map fun b => (p, b))
  rw [e]
  generalize ((H.filter fun b => und p b).map fun b => (p, b)).map (fun x => tgD x) = R at *
  generalize P.map (fun x => tgD x) = PD at *
  generalize p2_ p = Q at *
  simp only [prD] at *
  generalize H.map p2_ = HD at *
  have z3 : PD.length + R.length ≤ 1000 := by omega
  have z4 : P.length + R.length ≤ 1000 := by omega
  have z5 : R.length ≤ 1000 := by omega
  simp [turn_eq, d_law_L2, l1, z2, z3, z4, z5, f1, f2]
theorem preC (A0 A1 A2 A3 A4 A5 A6 A9 j10 j11 A12 A13 A14 A15 A16 A17 A18 A19 A20 A21 A22 : Option Sl) : ∃ q11, exSs cl4 ((d_law_L6.drop 8).take 3) [A0, A1, A2, A3, A4, A5, A6, some (.sh (prD F)), some (.sh (prD H)), A9, j10, j11, A12, A13, A14, A15, A16, A17, A18, A19, A20, A21, A22] =
    some (.nx [A0, A1, A2, A3, A4, A5, A6, some (.sh (prD F)), some (.sh (prD H)), A9, some (.own ((tg F H).map fun x => tgD x)), q11, A12, A13, A14, A15, A16, A17, A18, A19, A20, A21, A22]) := by
  obtain ⟨σ', key, q11, rfl⟩ := forL_pre (turn cl4 (.nm 11) d_law_L2) p2_ (fun pre σ => ∃ q11, σ = [A0, A1, A2, A3, A4, A5, A6, some (.sh (prD F)), some (.sh (prD H)), A9, some (.own ((tg pre H).map fun x => tgD x)), q11, A12, A13, A14, A15, A16, A17, A18, A19, A20, A21, A22]) F
    [A0, A1, A2, A3, A4, A5, A6, some (.sh (prD F)), some (.sh (prD H)), A9, some (.own []), j11, A12, A13, A14, A15, A16, A17, A18, A19, A20, A21, A22] ⟨_, rfl⟩ fun pre p post σ e hσ => by
      obtain ⟨q11, rfl⟩ := hσ
      have pl : pre.length ≤ 8 := by
        have := congrArg List.length e
        rw [List.length_append] at this
        omega
      have tl := tg_len pre H
      have := Nat.mul_le_mul pl hH
      have t := l2_turn hm hF hH sF sH (tg pre H) (by omega) p A0 A1 A2 A3 A4 A5 A6 (some (.sh (prD F))) A9 q11 A12 A13 A14 A15 A16 A17 A18 A19 A20 A21 A22
      have ef : tg (pre ++ [p]) H = tg pre H ++ (H.filter fun b => und p b).map fun b => (p, b) := by
        unfold tg
        rw [List.flatMap_append]
        simp
      exact ⟨_, t, some (.sh (p2_ p)), by rw [ef]⟩
  have f7 : cl4 7 [prD F, prD H] = some (tgV F H) := tangle_ok 22 F H (by omega) (by omega)
  have i1 : cl4 15 [tgV F H, tgV F H] = some (.bl true) := hasN.isN (fits_tgV F H) (by omega)
  have z : ((tg F H).map fun x => tgD x).length ≤ 1000 := by
    have := tg_len F H
    have := Nat.mul_le_mul hF hH
    rw [List.length_map]
    omega
  have fF := fl_p2 F
  refine ⟨q11, ?_⟩
  by_cases q : tg F H = []
  · have e : tgV F H = .non := by unfold tgV; rw [q]
    rw [e] at f7 i1
    rw [q] at key ⊢
    simp only [List.map_nil] at key ⊢
    simp only [prD] at *
    generalize F.map p2_ = FD at *
    generalize H.map p2_ = HD at *
    simp [-forL_cons, d_law_L6, key, f7, i1, fF]
  · have bm := tg_best q
    have ne : ¬ (tg F H).map (fun x => tgD x) = [] := fun y => q (List.map_eq_nil_iff.mp y)
    have lp : 0 < ((tg F H).map fun x => tgD x).length := List.length_pos_iff.mpr ne
    generalize tgV F H = V at *
    generalize (tg F H).map (fun x => tgD x) = T at *
    simp only [prD] at *
    generalize F.map p2_ = FD at *
    generalize H.map p2_ = HD at *
    have lp2 : (0 : Int) < (T.length : Int) := by omega
    simp [-forL_cons, d_law_L6, key, f7, i1, bm, lp, lp2, z, ne, fF]
abbrev ovD (m : Nat) (c : List Nat) : D := .lst ((U m c).map p2_)
theorem l3_turn {Q : List (List Nat)} (hQ : Q.length ≤ 252) {c : List Nat} (hc : c ∈ St m (m + 1)) (A0 A1 A2 A3 A4 A5 A9 A10 j11 A14 A15 A16 A17 A18 A19 A20 A21 A22 : Option Sl) : turn cl4 (.nm 11) d_law_L3 (natT c) [A0, A1, A2, A3, A4, A5, some (.sh (sptD m)), some (.sh (prD F)), some (.sh (prD H)), A9, A10, j11, some (.own ((Q.filter (con F H)).map fun c => prD (low (U m c)))), some (.own ((Q.filter (con F H)).map fun c => ovD m c)), A14, A15, A16, A17, A18, A19, A20, A21, A22] =
    some (.nx [A0, A1, A2, A3, A4, A5, some (.sh (sptD m)), some (.sh (prD F)), some (.sh (prD H)), A9, A10, some (.sh (natT c)), some (.own (((Q ++ [c]).filter (con F H)).map fun c => prD (low (U m c)))), some (.own (((Q ++ [c]).filter (con F H)).map fun c => ovD m c)), A14, A15, A16, A17, A18, A19, A20, A21, A22]) := by
  have ci : ∀ p ∈ spots m, (nL c)[p.1.toNat]? = some (.int (atS c p)) := fun p hp => atS_D hc hp
  have l1 : ∀ a0 a1 a2 a3 a4 a5 a6 a7 a8 a9 a10 a12 a13 a14 a15 a16 a17 a18 a19 a20 a21 a22, lcD (lcS cl4 [16] (.nm 16) [] d_law_E2 [a0, a1, a2, a3, a4, a5, a6, a7, a8, a9, a10, some (.tup (nL c)), a12, a13, a14, a15, a16, a17, a18, a19, a20, a21, a22]) (F.map p2_) = some ((F.map fun p => decide (atS c p ≤ p.2)).map .bl) := fun a0 a1 a2 a3 a4 a5 a6 a7 a8 a9 a10 a12 a13 a14 a15 a16 a17 a18 a19 a20 a21 a22 => by
    rw [List.map_map]
    refine lcD_map _ p2_ _ _ fun p hp => ?_
    have g := ci p (sF p hp)
    have g0 := (mem_spots.mp (sF p hp)).1
    rw [lcS_eq]
    simp only [Function.comp]
    generalize atS c p = v at *
    generalize nL c = C at *
    simp [d_law_E2, g, g0]
  have l2 : ∀ a0 a1 a2 a3 a4 a5 a6 a7 a8 a9 a10 a12 a13 a14 a15 a16 a17 a18 a19 a20 a21 a22, lcD (lcS cl4 [16] (.nm 16) [] d_law_E3 [a0, a1, a2, a3, a4, a5, a6, a7, a8, a9, a10, some (.tup (nL c)), a12, a13, a14, a15, a16, a17, a18, a19, a20, a21, a22]) (H.map p2_) = some ((H.map fun p => decide (p.2 < atS c p)).map .bl) := fun a0 a1 a2 a3 a4 a5 a6 a7 a8 a9 a10 a12 a13 a14 a15 a16 a17 a18 a19 a20 a21 a22 => by
    rw [List.map_map]
    refine lcD_map _ p2_ _ _ fun p hp => ?_
    have g := ci p (sH p hp)
    have g0 := (mem_spots.mp (sH p hp)).1
    rw [lcS_eq]
    simp only [Function.comp]
    generalize atS c p = v at *
    generalize nL c = C at *
    simp [d_law_E3, g, g0]
  have l3 : ∀ a0 a1 a2 a3 a4 a5 a6 a7 a8 a9 a10 a12 a13 a14 a15 a16 a17 a18 a19 a20 a21 a22, lcD (lcS cl4 [16] (.nm 16) d_law_T2 (.var 16) [a0, a1, a2, a3, a4, a5, a6, a7, a8, a9, a10, some (.tup (nL c)), a12, a13, a14, a15, a16, a17, a18, a19, a20, a21, a22]) ((spots m).map p2_) = some ((U m c).map p2_) := fun a0 a1 a2 a3 a4 a5 a6 a7 a8 a9 a10 a12 a13 a14 a15 a16 a17 a18 a19 a20 a21 a22 => by
    unfold U
    refine lcD_filter _ p2_ _ _ _ fun p hp => ?_
    have g := ci p hp
    have g0 := (mem_spots.mp hp).1
    rw [lcS_eq]
    generalize atS c p = v at *
    generalize nL c = C at *
    by_cases q : v ≤ p.2 <;> simp [d_law_T2, g, g0, q]
  have ul : (U m c).length ≤ 25 := by
    have := List.length_filter_le (fun p => decide (atS c p ≤ p.2)) (spots m)
    have := spots_len hm
    unfold U
    omega
  have f20 : cl4 20 [.lst ((U m c).map p2_)] = some (prD (low (U m c))) := llow_ok 22 (U m c) (by omega) _ (.inr rfl)
  have b1 := blsOf_map (F.map fun p => decide (atS c p ≤ p.2))
  have b2 := blsOf_map (H.map fun p => decide (p.2 < atS c p))
  have e1 : (F.map fun p => decide (atS c p ≤ p.2)).all id = F.all fun p => decide (atS c p ≤ p.2) := by rw [List.all_map]; rfl
  have e2 : (H.map fun p => decide (p.2 < atS c p)).all id = H.all fun p => decide (p.2 < atS c p) := by rw [List.all_map]; rfl
  have z1 : ((F.map fun p => decide (atS c p ≤ p.2)).map D.bl).length ≤ 1000 := by simp; omega
  have z2 : ((H.map fun p => decide (p.2 < atS c p)).map D.bl).length ≤ 1000 := by simp; omega
  have z3 : ((U m c).map p2_).length ≤ 1000 := by rw [List.length_map]; omega
  have fl := List.length_filter_le (con F H) Q
  have z4 : ((Q.filter (con F H)).map fun c => prD (low (U m c))).length ≤ 1000 := by rw [List.length_map]; omega
  have z5 : ((Q.filter (con F H)).map fun c => ovD m c).length ≤ 1000 := by rw [List.length_map]; omega
  have fU := fl_p2 (U m c)
  have fL : (prD (low (U m c))).flat = true := by simp
  have ec : con F H c = ((F.all fun p => decide (atS c p ≤ p.2)) && H.all fun p => decide (p.2 < atS c p)) := rfl
  rw [List.filter_append, List.map_append, List.map_append, List.filter_cons, List.filter_nil]
  rw [show natT c = .tup (nL c) from rfl, ec]
  generalize (F.all fun p => decide (atS c p ≤ p.2)) = r1 at *
  generalize (H.all fun p => decide (p.2 < atS c p)) = r2 at *
  generalize (F.map fun p => decide (atS c p ≤ p.2)) = R1 at *
  generalize (H.map fun p => decide (p.2 < atS c p)) = R2 at *
  generalize R1.map D.bl = RD1 at *
  generalize R2.map D.bl = RD2 at *
  generalize (Q.filter (con F H)).map (fun c => prD (low (U m c))) = X at *
  generalize (Q.filter (con F H)).map (fun c => ovD m c) = Y at *
  clear ci ec fl
  cases r1
  · simp only [prD, sptD] at *
    generalize F.map p2_ = FD at *
    generalize H.map p2_ = HD at *
    simp [turn_eq, d_law_L3, l1, b1, e1, z1]
  · cases r2
    · simp only [prD, sptD] at *
      generalize F.map p2_ = FD at *
      generalize H.map p2_ = HD at *
      simp [turn_eq, d_law_L3, l1, b1, e1, z1, l2, b2, e2, z2]
    · simp only [Bool.and_self, if_true, List.map_cons, List.map_nil]
      generalize prD (low (U m c)) = LD at *
      simp only [prD, sptD, ovD] at *
      generalize (U m c).map p2_ = UD at *
      generalize (spots m).map p2_ = SD at *
      generalize F.map p2_ = FD at *
      generalize H.map p2_ = HD at *
      simp [turn_eq, d_law_L3, l1, b1, e1, z1, l2, b2, e2, z2, l3, z3, f20, z4, z5, fU, fL]
end
end Dl
set_option Elab.async false
set_option linter.all false
set_option maxRecDepth 100000
set_option maxHeartbeats 2000000
/-! Borders: the law's stretches D to F. -/
namespace Dl
open PySem
abbrev boD (m : Nat) (F H : List Pz) : List D := (bords m F H).map fun l => prD l
abbrev ovs (m : Nat) (F H : List Pz) : List D := (cons_ m F H).map fun c => ovD m c
theorem cons_len {m : Nat} (hm : m ≤ 4) (F H : List Pz) : (cons_ m F H).length ≤ 252 := by
  have := List.length_filter_le (con F H) (St m (m + 1))
  have := St_le hm (show m + 1 ≤ 5 by omega)
  unfold cons_
  omega
theorem bords_len {m : Nat} (hm : m ≤ 4) (F H : List Pz) : (bords m F H).length ≤ 252 := by
  unfold bords
  rw [List.length_map]
  exact cons_len hm F H
theorem cnt_any {α : Type} (p : α → Bool) (l : List α) : decide (0 < (l.filter p).length) = l.any p := by
  rw [Bool.eq_iff_iff, decide_eq_true_eq, List.length_pos_iff, List.any_eq_true]
  constructor
  · intro h
    obtain ⟨x, hx⟩ := List.exists_mem_of_ne_nil _ h
    exact ⟨x, (List.mem_filter.mp hx).1, (List.mem_filter.mp hx).2⟩
  · rintro ⟨x, h1, h2⟩ z
    have : x ∈ l.filter p := List.mem_filter.mpr ⟨h1, h2⟩
    rw [z] at this
    cases this
theorem cnt_all {α : Type} (p : α → Bool) (l : List α) : decide ((l.filter p).length = l.length) = l.all p := by
  rw [Bool.eq_iff_iff, decide_eq_true_eq, List.length_filter_eq_length_iff, List.all_eq_true]
section
variable {m : Nat} (hm : m ≤ 4) {F H : List Pz} (hF : F.length ≤ 8) (hH : H.length ≤ 8) (sF : ∀ p ∈ F, p ∈ spots m) (sH : ∀ p ∈ H, p ∈ spots m)
include hm hF hH sF sH
theorem preD (A0 A1 A2 A5 A9 j11 j12 j13 A14 A15 A16 A17 A18 A19 A20 A21 A22 : Option Sl) : ∃ q11, exSs cl4 ((d_law_L6.drop 11).take 4) [A0, A1, A2, some (.sh (nD m)), some (.sh (stD m)), A5, some (.sh (sptD m)), some (.sh (prD F)), some (.sh (prD H)), A9, some (.own ((tg F H).map fun x => tgD x)), j11, j12, j13, A14, A15, A16, A17, A18, A19, A20, A21, A22] =
    some (.nx [A0, A1, A2, some (.sh (nD m)), some (.sh (stD m)), A5, some (.sh (sptD m)), some (.sh (prD F)), some (.sh (prD H)), A9, some (.own ((tg F H).map fun x => tgD x)), q11, some (.own (boD m F H)), some (.own (ovs m F H)), A14, A15, A16, A17, A18, A19, A20, A21, A22]) := by
  obtain ⟨σ', key, q11, rfl⟩ := forL_pre (turn cl4 (.nm 11) d_law_L3) natT (fun pre σ => ∃ q11, σ = [A0, A1, A2, some (.sh (nD m)), some (.sh (stD m)), A5, some (.sh (sptD m)), some (.sh (prD F)), some (.sh (prD H)), A9, some (.own ((tg F H).map fun x => tgD x)), q11, some (.own ((pre.filter (con F H)).map fun c => prD (low (U m c)))), some (.own ((pre.filter (con F H)).map fun c => ovD m c)), A14, A15, A16, A17, A18, A19, A20, A21, A22]) (St m (m + 1))
    [A0, A1, A2, some (.sh (nD m)), some (.sh (stD m)), A5, some (.sh (sptD m)), some (.sh (prD F)), some (.sh (prD H)), A9, some (.own ((tg F H).map fun x => tgD x)), j11, some (.own []), some (.own []), A14, A15, A16, A17, A18, A19, A20, A21, A22] ⟨_, rfl⟩ fun pre c post σ e hσ => by
      obtain ⟨q11, rfl⟩ := hσ
      have hc : c ∈ St m (m + 1) := by rw [e]; simp
      have pl : pre.length ≤ 252 := by
        have := St_le hm (show m + 1 ≤ 5 by omega)
        rw [e, List.length_append] at this
        omega
      exact ⟨_, l3_turn hm hF hH sF sH pl hc A0 A1 A2 (some (.sh (nD m))) (some (.sh (stD m))) A5 A9 (some (.own ((tg F H).map fun x => tgD x))) q11 A14 A15 A16 A17 A18 A19 A20 A21 A22, _, rfl⟩
  have eb : ((St m (m + 1)).filter (con F H)).map (fun c => prD (low (U m c))) = boD m F H := by
    unfold boD bords cons_
    rw [List.map_map]
    rfl
  have eo : ((St m (m + 1)).filter (con F H)).map (fun c => ovD m c) = ovs m F H := rfl
  rw [eb, eo] at key
  have f11 : cl4 11 [nD m, prD F, prD H] = some (.int ((bords m F H).length : Nat)) := left_ok 23 m hm (by omega) (by omega) sF sH
  have i1 : ∀ b : Int, cl4 15 [.int b, .int b] = some (.bl true) := fun b => hasN.isN (fits_int 0 b) (by omega)
  have i1 := i1 ((bords m F H).length : Nat)
  have bl := bords_len hm F H
  have zb : (boD m F H).length = (bords m F H).length := List.length_map _
  have zt : ((tg F H).map fun x => tgD x).length = (tg F H).length := List.length_map _
  have iff1 : (bords m F H).length ≠ 0 ↔ (tg F H).length = 0 := by
    have h1 := cons_ne sF sH
    have h2 := tg_nil (F := F) (H := H)
    have e1 : (bords m F H).length = (cons_ m F H).length := by unfold bords; rw [List.length_map]
    rw [e1, List.length_eq_zero_iff, h2, ← h1]
    exact not_congr List.length_eq_zero_iff
  have tl : (tg F H).length ≤ 64 := by
    have := tg_len F H
    have := Nat.mul_le_mul hF hH
    omega
  have fs := fl_natT (St m (m + 1))
  refine ⟨q11, ?_⟩
  generalize (bords m F H).length = b at *
  generalize (tg F H).length = t at *
  generalize boD m F H = BO at *
  generalize ovs m F H = OV at *
  generalize (tg F H).map (fun x => tgD x) = TG at *
  simp only [stD] at *
  generalize (St m (m + 1)).map natT = SD at *
  generalize prD F = FD at *
  generalize prD H = HD at *
  generalize sptD m = SP at *
  by_cases q : t = 0
  · have b0 : 0 < b := by have := iff1.mpr q; omega
    have b1 : (0 : Int) < (b : Int) := by omega
    simp [-forL_cons, d_law_L6, key, f11, i1, zb, zt, q, b0, b1, fs]
  · have b0 : b = 0 := Classical.byContradiction fun z => q (iff1.mp z)
    have q2 : ¬ (t : Int) = 0 := by omega
    subst b0
    have z0 : BO = [] := List.eq_nil_of_length_eq_zero zb
    subst z0
    simp at i1 f11
    simp [-forL_cons, d_law_L6, key, f11, i1, zt, q, q2, fs]
theorem early_len : ((spots m).filter (free H)).length ≤ 25 := by
  have := List.length_filter_le (free H) (spots m)
  have := spots_len hm
  omega
theorem preE (A0 A1 A2 A4 A5 A9 A10 A11 A12 A13 j14 j15 A16 A17 A18 A19 A20 A21 A22 : Option Sl) : exSs cl4 ((d_law_L6.drop 15).take 3) [A0, A1, A2, some (.sh (nD m)), A4, A5, some (.sh (sptD m)), some (.sh (prD F)), some (.sh (prD H)), A9, A10, A11, A12, A13, j14, j15, A16, A17, A18, A19, A20, A21, A22] =
    some (.nx [A0, A1, A2, some (.sh (nD m)), A4, A5, some (.sh (sptD m)), some (.sh (prD F)), some (.sh (prD H)), A9, A10, A11, A12, A13, some (.sh (prD (low F))), some (.sh (prD (low ((spots m).filter (free H))))), A16, A17, A18, A19, A20, A21, A22]) := by
  have el := early_len (H := H) hm hF hH sF sH
  have f20 : cl4 20 [prD F] = some (prD (low F)) := llow_ok 22 F (by omega) _ (.inl rfl)
  have f20b : cl4 20 [.lst (((spots m).filter (free H)).map p2_)] = some (prD (low ((spots m).filter (free H)))) := llow_ok 22 _ (by omega) _ (.inr rfl)
  have f8 : cl4 8 [prD F] = some (prD (low F)) := late_ok 21 F (by omega)
  have f9 : cl4 9 [nD m, prD H] = some (prD (low ((spots m).filter (free H)))) := early_ok 21 m hm H
  have l1 : ∀ a0 a1 a2 a3 a4 a5 a6 a7 a9 a10 a11 a12 a13 a14 a15 a16 a17 a18 a19 a20 a21 a22, lcD (lcS cl4 [16] (.nm 16) d_law_T4 (.var 16) [a0, a1, a2, a3, a4, a5, a6, a7, some (prD H), a9, a10, a11, a12, a13, a14, a15, a16, a17, a18, a19, a20, a21, a22]) ((spots m).map p2_) = some (((spots m).filter (free H)).map p2_) := fun a0 a1 a2 a3 a4 a5 a6 a7 a9 a10 a11 a12 a13 a14 a15 a16 a17 a18 a19 a20 a21 a22 => by
    refine lcD_filter _ p2_ _ _ _ fun p _ => ?_
    have l2 : ∀ a11, lcD (lcS cl4 [11] (.nm 11) d_law_T3 (.var 11) [a0, a1, a2, a3, a4, a5, a6, a7, some (prD H), a9, a10, a11, a12, a13, a14, a15, some (p2_ p), a17, a18, a19, a20, a21, a22]) (H.map p2_) = some ((H.filter fun h => und p h).map p2_) := fun a11 => by
      refine lcD_filter _ p2_ _ _ _ fun h _ => ?_
      have f : cl4 18 [p2_ p, p2_ h] = some (.bl (und p h)) := lund_ok 23 p h
      rw [lcS_eq]
      generalize und p h = u at *
      generalize p2_ p = P at *
      generalize p2_ h = Q at *
      generalize prD H = HD at *
      cases u <;> simp [d_law_T3, f]
    have zl : ((H.filter fun h => und p h).map p2_).length = (H.filter fun h => und p h).length := List.length_map _
    have zf := List.length_filter_le (fun h => und p h) H
    have e : free H p = decide ((H.filter fun h => und p h).length = 0) := by
      unfold free
      rw [← cnt_any]
      generalize (H.filter fun h => und p h).length = k
      cases k <;> simp
    rw [lcS_eq, e]
    generalize (H.filter fun h => und p h).length = k at *
    generalize (H.filter fun h => und p h).map p2_ = R at *
    generalize p2_ p = P at *
    simp only [prD] at *
    generalize H.map p2_ = HD at *
    have zk : k ≤ 1000 := by omega
    by_cases q : k = 0
    · subst q
      simp [d_law_T4, l2, zl]
    · have q' : ¬ (k : Int) = 0 := by omega
      simp [d_law_T4, l2, zl, zk, q, q']
  have z1 : (((spots m).filter (free H)).map p2_).length ≤ 1000 := by rw [List.length_map]; omega
  have i1 : cl4 15 [prD (low F), prD (low F)] = some (.bl true) := hasN.isN (fits_p2s _ (by have := low_len F; omega)) (by omega)
  have i2 : cl4 15 [prD (low ((spots m).filter (free H))), prD (low ((spots m).filter (free H)))] = some (.bl true) := hasN.isN (fits_p2s _ (by have := low_len ((spots m).filter (free H)); omega)) (by omega)
  have f1 : (prD (low F)).flat = true := by simp
  have f2 : (prD (low ((spots m).filter (free H)))).flat = true := by simp
  generalize prD (low ((spots m).filter (free H))) = ED at *
  generalize prD (low F) = LD at *
  generalize ((spots m).filter (free H)).map p2_ = R at *
  simp only [sptD] at *
  generalize (spots m).map p2_ = SP at *
  generalize prD F = FD at *
  generalize prD H = HD at *
  simp [d_law_L6, f20, f20b, f8, f9, l1, z1, i1, i2, f1, f2]
theorem preF (A0 A1 A2 A4 A5 A9 A11 A12 A16 j17 j18 j19 A20 A21 A22 : Option Sl) : ∃ q17 q18 q19, exSs cl4 ((d_law_L6.drop 18).take 1) [A0, A1, A2, some (.sh (nD m)), A4, A5, some (.sh (sptD m)), some (.sh (prD F)), some (.sh (prD H)), A9, some (.own ((tg F H).map fun x => tgD x)), A11, A12, some (.own (ovs m F H)), some (.sh (prD (low F))), some (.sh (prD (low ((spots m).filter (free H))))), A16, j17, j18, j19, A20, A21, A22] =
    some (.nx [A0, A1, A2, some (.sh (nD m)), A4, A5, some (.sh (sptD m)), some (.sh (prD F)), some (.sh (prD H)), A9, some (.own ((tg F H).map fun x => tgD x)), A11, A12, some (.own (ovs m F H)), some (.sh (prD (low F))), some (.sh (prD (low ((spots m).filter (free H))))), A16, q17, q18, q19, A20, A21, A22]) := by
  have zt : ((tg F H).map fun x => tgD x).length = (tg F H).length := List.length_map _
  have tl : (tg F H).length ≤ 64 := by
    have := tg_len F H
    have := Nat.mul_le_mul hF hH
    omega
  by_cases q : tg F H = []
  · have hn := tg_nil.mp q
    have cl := cons_len hm F H
    have l0 : ∀ (p : Pz) a0 a1 a2 a3 a4 a5 a6 a7 a8 a9 a10 a11 a12 a14 a15 a17 a18 a19 a20 a21 a22 (T : List CE), (T = d_law_T5 ∨ T = d_law_T7) → lcD (lcS cl4 [11] (.nm 11) T (.var 11) [a0, a1, a2, a3, a4, a5, a6, a7, a8, a9, a10, a11, a12, some (.lst (ovs m F H)), a14, a15, some (p2_ p), a17, a18, a19, a20, a21, a22]) (ovs m F H) = some (((cons_ m F H).filter fun c => decide (p ∈ U m c)).map fun c => ovD m c) := fun p a0 a1 a2 a3 a4 a5 a6 a7 a8 a9 a10 a11 a12 a14 a15 a17 a18 a19 a20 a21 a22 T hT => by
      refine lcD_filter _ (fun c => ovD m c) _ _ _ fun c _ => ?_
      have i := inPL p (U m c)
      rw [lcS_eq]
      generalize decide (p ∈ U m c) = b at *
      simp only [ovD]
      generalize (U m c).map p2_ = UD at *
      generalize p2_ p = P at *
      rcases hT with rfl | rfl <;> cases b <;> simp [d_law_T5, d_law_T7, i]
    have fol : (ovs m F H).length = (cons_ m F H).length := List.length_map _
    have l6 : ∀ a0 a1 a2 a3 a4 a5 a6 a7 a8 a9 a10 a11 a12 a14 a15 a16 a17 a18 a19 a20 a21 a22, lcD (lcS cl4 [16] (.nm 16) d_law_T6 (.var 16) [a0, a1, a2, a3, a4, a5, a6, a7, a8, a9, a10, a11, a12, some (.lst (ovs m F H)), a14, a15, a16, a17, a18, a19, a20, a21, a22]) ((spots m).map p2_) = some (((spots m).filter (free H)).map p2_) := fun a0 a1 a2 a3 a4 a5 a6 a7 a8 a9 a10 a11 a12 a14 a15 a16 a17 a18 a19 a20 a21 a22 => by
      rw [← any_over sF sH hn]
      refine lcD_filter _ p2_ _ _ _ fun p _ => ?_
      have l := fun a11 => l0 p a0 a1 a2 a3 a4 a5 a6 a7 a8 a9 a10 a11 a12 a14 a15 a17 a18 a19 a20 a21 a22 d_law_T5 (.inl rfl)
      have zl : (((cons_ m F H).filter fun c => decide (p ∈ U m c)).map fun c => ovD m c).length = ((cons_ m F H).filter fun c => decide (p ∈ U m c)).length := List.length_map _
      have zf := List.length_filter_le (fun c => decide (p ∈ U m c)) (cons_ m F H)
      rw [lcS_eq, ← cnt_any]
      generalize ((cons_ m F H).filter fun c => decide (p ∈ U m c)).length = k at *
      generalize ((cons_ m F H).filter fun c => decide (p ∈ U m c)).map (fun c => ovD m c) = R at *
      generalize ovs m F H = OV at *
      generalize p2_ p = P at *
      have zk : k ≤ 1000 := by omega
      by_cases c0 : 0 < k
      · have c1 : (0 : Int) < (k : Int) := by omega
        simp [d_law_T6, l, zl, zk, c0, c1]
      · have c1 : ¬ (0 : Int) < (k : Int) := by omega
        simp [d_law_T6, l, zl, zk, c0, c1]
    have l8 : ∀ a0 a1 a2 a3 a4 a5 a6 a7 a8 a9 a10 a11 a12 a14 a15 a16 a17 a18 a19 a20 a21 a22, lcD (lcS cl4 [16] (.nm 16) d_law_T8 (.var 16) [a0, a1, a2, a3, a4, a5, a6, a7, a8, a9, a10, a11, a12, some (.lst (ovs m F H)), a14, a15, a16, a17, a18, a19, a20, a21, a22]) ((spots m).map p2_) = some (((spots m).filter (bey F)).map p2_) := fun a0 a1 a2 a3 a4 a5 a6 a7 a8 a9 a10 a11 a12 a14 a15 a16 a17 a18 a19 a20 a21 a22 => by
      rw [← all_over sF sH hn]
      refine lcD_filter _ p2_ _ _ _ fun p _ => ?_
      have l := fun a11 => l0 p a0 a1 a2 a3 a4 a5 a6 a7 a8 a9 a10 a11 a12 a14 a15 a17 a18 a19 a20 a21 a22 d_law_T7 (.inr rfl)
      have zl : (((cons_ m F H).filter fun c => decide (p ∈ U m c)).map fun c => ovD m c).length = ((cons_ m F H).filter fun c => decide (p ∈ U m c)).length := List.length_map _
      have zf := List.length_filter_le (fun c => decide (p ∈ U m c)) (cons_ m F H)
      rw [lcS_eq, ← cnt_all]
      generalize ((cons_ m F H).filter fun c => decide (p ∈ U m c)).length = k at *
      generalize ((cons_ m F H).filter fun c => decide (p ∈ U m c)).map (fun c => ovD m c) = R at *
      generalize (cons_ m F H).length = kk at *
      generalize ovs m F H = OV at *
      generalize p2_ p = P at *
      have zk : k ≤ 1000 := by omega
      by_cases c0 : k = kk
      · subst c0
        simp [d_law_T8, l, zl, fol, zk]
      · have c1 : ¬ (k : Int) = (kk : Int) := by omega
        simp [d_law_T8, l, zl, fol, zk, c0, c1]
    have el := early_len (H := H) hm hF hH sF sH
    have al : ((spots m).filter (bey F)).length ≤ 25 := by
      have := List.length_filter_le (bey F) (spots m)
      have := spots_len hm
      omega
    have f20a : cl4 20 [.lst (((spots m).filter (bey F)).map p2_)] = some (prD (low F)) := by
      rw [← low_bey sF sH]
      exact llow_ok 22 _ (by omega) _ (.inr rfl)
    have f20b : cl4 20 [.lst (((spots m).filter (free H)).map p2_)] = some (prD (low ((spots m).filter (free H)))) := llow_ok 22 _ (by omega) _ (.inr rfl)
    have l9 : ∀ a0 a1 a2 a3 a4 a5 a6 a7 a8 a9 a10 a11 a12 a13 a14 a15 a16 a17 a19 a20 a21 a22, lcD (lcS cl4 [16] (.nm 16) d_law_T9 (.var 16) [a0, a1, a2, a3, a4, a5, a6, a7, a8, a9, a10, a11, a12, a13, a14, a15, a16, a17, some (.lst (((spots m).filter (bey F)).map p2_)), a19, a20, a21, a22]) (((spots m).filter (free H)).map p2_) = some ((((spots m).filter (free H)).filter fun p => !decide (p ∈ (spots m).filter (bey F))).map p2_) := fun a0 a1 a2 a3 a4 a5 a6 a7 a8 a9 a10 a11 a12 a13 a14 a15 a16 a17 a19 a20 a21 a22 => by
      refine lcD_filter _ p2_ _ _ _ fun p _ => ?_
      have i := inPL p ((spots m).filter (bey F))
      rw [lcS_eq]
      generalize decide (p ∈ (spots m).filter (bey F)) = b at *
      generalize ((spots m).filter (bey F)).map p2_ = BF at *
      generalize p2_ p = P at *
      cases b <;> simp [d_law_T9, i]
    have f10 : cl4 10 [nD m, prD F, prD H] = some (prD (((spots m).filter (free H)).filter fun p => !decide (p ∈ (spots m).filter (bey F)))) := by
      rw [← open_eq sF sH]
      exact open_ok 20 m hm F H (by omega)
    have dl := List.length_filter_le (fun p => !decide (p ∈ (spots m).filter (bey F))) ((spots m).filter (free H))
    have i1 : cl4 15 [prD (((spots m).filter (free H)).filter fun p => !decide (p ∈ (spots m).filter (bey F))), prD (((spots m).filter (free H)).filter fun p => !decide (p ∈ (spots m).filter (bey F)))] = some (.bl true) := hasN.isN (fits_p2s _ (by omega)) (by omega)
    have q1 := eqPr (low F) (low F)
    have q2 := eqPr (low ((spots m).filter (free H))) (low ((spots m).filter (free H)))
    rw [decide_eq_true rfl] at q1 q2
    have z1 : (((spots m).filter (free H)).map p2_).length ≤ 1000 := by rw [List.length_map]; omega
    have z2 : (((spots m).filter (bey F)).map p2_).length ≤ 1000 := by rw [List.length_map]; omega
    have z3 : ((((spots m).filter (free H)).filter fun p => !decide (p ∈ (spots m).filter (bey F))).map p2_).length ≤ 1000 := by rw [List.length_map]; omega
    have g1 := fl_p2 ((spots m).filter (free H))
    have g2 := fl_p2 ((spots m).filter (bey F))
    have g3 := fl_p2 (((spots m).filter (free H)).filter fun p => !decide (p ∈ (spots m).filter (bey F)))
    refine ⟨some (.own (((spots m).filter (free H)).map p2_)), some (.own (((spots m).filter (bey F)).map p2_)), some (.sh (.tup ((((spots m).filter (free H)).filter fun p => !decide (p ∈ (spots m).filter (bey F))).map p2_))), ?_⟩
    rw [q]
    generalize prD (low ((spots m).filter (free H))) = ED at *
    generalize prD (low F) = LD at *
    simp only [prD] at f10 i1
    generalize (((spots m).filter (free H)).filter fun p => !decide (p ∈ (spots m).filter (bey F))).map p2_ = DU at *
    generalize ((spots m).filter (free H)).map p2_ = FR at *
    generalize ((spots m).filter (bey F)).map p2_ = BF at *
    generalize ovs m F H = OV at *
    simp only [sptD, prD] at *
    generalize (spots m).map p2_ = SP at *
    generalize F.map p2_ = FD at *
    generalize H.map p2_ = HD at *
    simp [d_law_L6, l6, l8, l9, f20a, f20b, f10, i1, q1, q2, z1, z2, z3, g1, g2, g3]
  · have q2 : ¬ (tg F H).length = 0 := fun z => q (List.eq_nil_of_length_eq_zero z)
    have q3 : ¬ ((tg F H).length : Int) = 0 := by omega
    refine ⟨j17, j18, j19, ?_⟩
    generalize (tg F H).length = t at *
    generalize (tg F H).map (fun x => tgD x) = TG at *
    generalize prD (low ((spots m).filter (free H))) = ED at *
    generalize prD (low F) = LD at *
    generalize ovs m F H = OV at *
    have tz : t ≤ 1000 := by omega
    simp [d_law_L6, zt, q2, q3, tz]
end
end Dl
set_option Elab.async false
set_option linter.all false
set_option maxRecDepth 100000
set_option maxHeartbeats 2000000
/-! Borders: the law. -/
namespace Dl
open PySem
theorem cutN (ds : List Int) (p q : Nat) (hq : q ≤ ds.length) : ∃ d : List Int, d.length = q - p ∧ cutL (ds.map D.int) (some (p : Int)) (some (q : Int)) = d.map .int := by
  refine ⟨(ds.drop p).take (q - p), ?_, ?_⟩
  · simp; omega
  · rw [cutL_nat, ← List.map_drop, ← List.map_take]
section
variable {m : Nat} (hm : m ≤ 4) {F H : List Pz} (hF : F.length ≤ 8) (hH : H.length ≤ 8) (sF : ∀ p ∈ F, p ∈ spots m) (sH : ∀ p ∈ H, p ∈ spots m)
include hm hF hH sF sH
theorem l4_turn {c : List Nat} (hc : c ∈ St m (m + 1)) (A0 A1 A2 A4 A5 A9 A10 j11 A13 A14 A15 A16 A17 A18 A19 j20 j21 A22 : Option Sl) : ∃ q20 q21, turn cl4 (.nm 11) d_law_L4 (natT c) [A0, A1, A2, some (.sh (nD m)), A4, A5, some (.sh (sptD m)), some (.sh (prD F)), some (.sh (prD H)), A9, A10, j11, some (.own (boD m F H)), A13, A14, A15, A16, A17, A18, A19, j20, j21, A22] =
    some (.nx [A0, A1, A2, some (.sh (nD m)), A4, A5, some (.sh (sptD m)), some (.sh (prD F)), some (.sh (prD H)), A9, A10, some (.sh (natT c)), some (.own (boD m F H)), A13, A14, A15, A16, A17, A18, A19, q20, q21, A22]) := by
  have ci : ∀ p ∈ spots m, (nL c)[p.1.toNat]? = some (.int (atS c p)) := fun p hp => atS_D hc hp
  have l1 : ∀ a0 a1 a2 a3 a4 a5 a6 a7 a8 a9 a10 a12 a13 a14 a15 a16 a17 a18 a19 a20 a21 a22, lcD (lcS cl4 [16] (.nm 16) d_law_T10 (.var 16) [a0, a1, a2, a3, a4, a5, a6, a7, a8, a9, a10, some (.tup (nL c)), a12, a13, a14, a15, a16, a17, a18, a19, a20, a21, a22]) ((spots m).map p2_) = some ((U m c).map p2_) := fun a0 a1 a2 a3 a4 a5 a6 a7 a8 a9 a10 a12 a13 a14 a15 a16 a17 a18 a19 a20 a21 a22 => by
    unfold U
    refine lcD_filter _ p2_ _ _ _ fun p hp => ?_
    have g := ci p hp
    have g0 := (mem_spots.mp hp).1
    rw [lcS_eq]
    generalize atS c p = v at *
    generalize nL c = C at *
    by_cases q : v ≤ p.2 <;> simp [d_law_T10, g, g0, q]
  have ul : (U m c).length ≤ 25 := by
    have := List.length_filter_le (fun p => decide (atS c p ≤ p.2)) (spots m)
    have := spots_len hm
    unfold U
    omega
  have lw := low_len (U m c)
  have f20 : cl4 20 [.lst ((U m c).map p2_)] = some (prD (low (U m c))) := llow_ok 22 (U m c) (by omega) _ (.inr rfl)
  have f5 : cl4 5 [nD m, prD (low (U m c))] = some (.bl true) := by
    rw [← isB_low (m := m) (S := U m c) fun p hp => (mem_U.mp hp).1]
    exact isb_ok 21 m _ (by omega)
  have f6 : cl4 6 [nD m, prD F, prD H, prD (low (U m c))] = some (.bl (decide (low (U m c) ∈ bords m F H))) := by
    rw [← fits_mem sF sH]
    exact fits_ok 20 m F H _ (by omega)
  have i1 := inPr (low (U m c)) (bords m F H)
  have i2 := iB (decide (low (U m c) ∈ bords m F H))
  have i3 := iB true
  have z3 : ((U m c).map p2_).length ≤ 1000 := by rw [List.length_map]; omega
  have fL : (prD (low (U m c))).flat = true := by simp
  refine ⟨some (.sh (prD (low (U m c)))), some (.sh (.bl (decide (low (U m c) ∈ bords m F H)))), ?_⟩
  rw [show natT c = .tup (nL c) from rfl]
  clear ci
  generalize decide (low (U m c) ∈ bords m F H) = r at *
  generalize prD (low (U m c)) = LD at *
  simp only [boD] at *
  generalize (bords m F H).map (fun l => prD l) = BO at *
  simp only [sptD] at *
  generalize (U m c).map p2_ = UD at *
  generalize (spots m).map p2_ = SD at *
  generalize prD F = FD at *
  generalize prD H = HD at *
  simp [turn_eq, d_law_L4, l1, f20, f5, f6, i1, i2, i3, z3, fL]
theorem preG {c : List Nat} (hc : c ∈ St m (m + 1)) (A0 A1 A2 A9 A10 j11 A13 A14 A15 A16 A17 A18 A19 j20 j21 A22 : Option Sl) : ∃ q11 q20 q21, exSs cl4 ((d_law_L6.drop 19).take 1) [A0, A1, A2, some (.sh (nD m)), some (.sh (stD m)), some (.sh (natT c)), some (.sh (sptD m)), some (.sh (prD F)), some (.sh (prD H)), A9, A10, j11, some (.own (boD m F H)), A13, A14, A15, A16, A17, A18, A19, j20, j21, A22] =
    some (.nx [A0, A1, A2, some (.sh (nD m)), some (.sh (stD m)), some (.sh (natT c)), some (.sh (sptD m)), some (.sh (prD F)), some (.sh (prD H)), A9, A10, q11, some (.own (boD m F H)), A13, A14, A15, A16, A17, A18, A19, q20, q21, A22]) := by
  obtain ⟨σ', key, q11, q20, q21, rfl⟩ := forL_keep (turn cl4 (.nm 11) d_law_L4) natT (fun σ => ∃ q11 q20 q21, σ = [A0, A1, A2, some (.sh (nD m)), some (.sh (stD m)), some (.sh (natT c)), some (.sh (sptD m)), some (.sh (prD F)), some (.sh (prD H)), A9, A10, q11, some (.own (boD m F H)), A13, A14, A15, A16, A17, A18, A19, q20, q21, A22]) ((St m (m + 1)).take 12 ++ [c])
    [A0, A1, A2, some (.sh (nD m)), some (.sh (stD m)), some (.sh (natT c)), some (.sh (sptD m)), some (.sh (prD F)), some (.sh (prD H)), A9, A10, j11, some (.own (boD m F H)), A13, A14, A15, A16, A17, A18, A19, j20, j21, A22] ⟨_, _, _, rfl⟩ fun c' hc' σ hσ => by
      obtain ⟨q11, q20, q21, rfl⟩ := hσ
      have h : c' ∈ St m (m + 1) := by
        rcases List.mem_append.mp hc' with h | h
        · exact List.mem_of_mem_take h
        · rw [List.mem_singleton.mp h]; exact hc
      obtain ⟨r20, r21, e⟩ := l4_turn hm hF hH sF sH h A0 A1 A2 (some (.sh (stD m))) (some (.sh (natT c))) A9 A10 q11 A13 A14 A15 A16 A17 A18 A19 q20 q21 A22
      exact ⟨_, e, _, _, _, rfl⟩
  have sl : cutL ((St m (m + 1)).map natT) none (some 12) = ((St m (m + 1)).take 12).map natT := by
    have := cutL_to ((St m (m + 1)).map natT) 12
    rw [← List.map_take] at this
    exact this
  rw [List.map_append, List.map_cons, List.map_nil] at key
  have z1 : (((St m (m + 1)).take 12).map natT).length + 1 ≤ 1000 := by simp; omega
  have f1 := fl_natT ((St m (m + 1)).take 12)
  have f2 : (natT c).flat = true := by simp
  refine ⟨q11, q20, q21, ?_⟩
  simp only [stD] at *
  generalize ((St m (m + 1)).take 12).map natT = T12 at *
  generalize (St m (m + 1)).map natT = SD at *
  generalize natT c = C at *
  generalize boD m F H = BO at *
  generalize sptD m = SP at *
  generalize prD F = FD at *
  generalize prD H = HD at *
  simp [-forL_cons, d_law_L6, sl, key, z1, f1, f2]
theorem preH {ds : List Int} (hds : ds.length = 58) (k : Nat) (hk : k < 3) (A0 A4 A5 A6 A9 A10 A11 A13 A16 A17 A18 A19 A20 A21 A22 : Option Sl) : exSs cl4 ((d_law_L6.drop 20).take 1) [A0, some (.sh (.lst (ds.map .int))), some (.sh (nD k)), some (.sh (nD m)), A4, A5, A6, some (.sh (prD F)), some (.sh (prD H)), A9, A10, A11, some (.own (boD m F H)), A13, some (.sh (prD (low F))), some (.sh (prD (low ((spots m).filter (free H))))), A16, A17, A18, A19, A20, A21, A22] =
    some (.nx [A0, some (.sh (.lst (ds.map .int))), some (.sh (nD k)), some (.sh (nD m)), A4, A5, A6, some (.sh (prD F)), some (.sh (prD H)), A9, A10, A11, some (.own (boD m F H)), A13, some (.sh (prD (low F))), some (.sh (prD (low ((spots m).filter (free H))))), A16, A17, A18, A19, A20, A21, A22]) := by
  obtain ⟨d, dl, sl⟩ := cutN ds (27 + 8 * k) (39 + 8 * k) (by omega)
  rw [show ((27 + 8 * k : Nat) : Int) = 27 + 8 * (k : Int) by omega, show ((39 + 8 * k : Nat) : Int) = 39 + 8 * (k : Int) by omega] at sl
  have l1 := low_len F
  have l2 := low_len ((spots m).filter (free H))
  have l3 := early_len (H := H) hm hF hH sF sH
  have f : cl4 23 [nD m, prD F, prD H, .tup [prD (low F), prD (low ((spots m).filter (free H)))], .lst (boD m F H), .lst (d.map .int)] = some (.bl true) := asked_ok hm sF sH (B1 := low F) (B2 := low ((spots m).filter (free H))) (by omega) (by omega) (ds := d) (by omega) 18
  generalize prD (low ((spots m).filter (free H))) = ED at *
  generalize prD (low F) = LD at *
  generalize boD m F H = BO at *
  generalize prD F = FD at *
  generalize prD H = HD at *
  generalize d.map D.int = DD at *
  generalize ds.map D.int = DS at *
  simp [d_law_L6, sl, f]
theorem preI {ds : List Int} (hds : ds.length = 58) (k : Nat) (hk : k < 3) (A0 A3 A4 A5 A7 A8 A9 A10 j11 A12 A13 A14 A15 A16 A17 A18 A19 A20 A21 j22 : Option Sl) : ∃ q11 q22, exSs cl4 (d_law_L6.drop 21) [A0, some (.sh (.lst (ds.map .int))), some (.sh (nD k)), A3, A4, A5, some (.sh (sptD m)), A7, A8, A9, A10, j11, A12, A13, A14, A15, A16, A17, A18, A19, A20, A21, j22] =
    some (.nx [A0, some (.sh (.lst (ds.map .int))), some (.sh (nD k)), A3, A4, A5, some (.sh (sptD m)), A7, A8, A9, A10, q11, A12, A13, A14, A15, A16, A17, A18, A19, A20, A21, q22]) := by
  have g1 := getD_at (h := ds) (d := 55 + k) (by omega)
  generalize ds.getD (55 + k) 0 = x at *
  have g1' : (ds.map D.int)[55 + k]? = some (.int x) := by rw [List.getElem?_map, g1]; rfl
  have e1 : (55 + (k : Int)).toNat = 55 + k := by omega
  have p1 : (0 : Int) ≤ 55 + (k : Int) := by omega
  obtain ⟨p, hp, e2, p2⟩ := sp_pick m x
  rw [atI_of _ _ p2] at e2
  have zl : ((spots m).map p2_).length = (spots m).length := List.length_map _
  have nz : ¬ (spots m).length = 0 := fun z => spots_ne m (List.eq_nil_of_length_eq_zero z)
  obtain ⟨σ', key, q11, q22, rfl⟩ := forL_keep (turn cl4 (.nm 11) d_law_L5) p2_ (fun σ => ∃ q11 q22, σ = [A0, some (.sh (.lst (ds.map .int))), some (.sh (nD k)), A3, A4, A5, some (.sh (sptD m)), A7, A8, A9, A10, q11, A12, A13, A14, A15, A16, A17, A18, A19, A20, A21, q22]) (spots m)
    [A0, some (.sh (.lst (ds.map .int))), some (.sh (nD k)), A3, A4, A5, some (.sh (sptD m)), A7, A8, A9, A10, j11, A12, A13, A14, A15, A16, A17, A18, A19, A20, A21, j22] ⟨_, _, rfl⟩ fun r hr σ hσ => by
      obtain ⟨q11, q22, rfl⟩ := hσ
      have f : cl4 1 [p2_ r, p2_ p] = some (.bl (und r p)) := und_ok 23 r p
      have i := iB (und r p)
      refine ⟨_, ?_, some (.sh (p2_ r)), some (.sh (p2_ p)), rfl⟩
      unfold und at f i
      simp only [sptD] at *
      generalize (spots m).length = sl at *
      generalize (spots m).map p2_ = SD at *
      generalize ds.map D.int = DS at *
      by_cases c1 : r.1 ≤ p.1
      · by_cases c2 : r.2 ≤ p.2
        · simp [c1, c2] at f i
          simp [turn_eq, d_law_L5, g1', e1, p1, e2, p2, zl, nz, f, i, c1, c2]
        · simp [c1, c2] at f i
          simp [turn_eq, d_law_L5, g1', e1, p1, e2, p2, zl, nz, f, i, c1, c2]
      · simp [c1] at f i
        simp [turn_eq, d_law_L5, g1', e1, p1, e2, p2, zl, nz, f, i, c1]
  have fs := fl_p2 (spots m)
  refine ⟨q11, q22, ?_⟩
  simp only [sptD] at *
  generalize (spots m).map p2_ = SD at *
  generalize ds.map D.int = DS at *
  simp [-forL_cons, d_law_L6, key, fs]
end
theorem k_turn (ds : List Int) (hds : ds.length = 58) (k : Nat) (hk : k < 3) (A0 j2 j3 j4 j5 j6 j7 j8 j9 j10 j11 j12 j13 j14 j15 j16 j17 j18 j19 j20 j21 j22 : Option Sl) :
    ∃ r3 r4 r5 r6 r7 r8 r9 r10 r11 r12 r13 r14 r15 r16 r17 r18 r19 r20 r21 r22, turn cl4 (.nm 2) d_law_L6 (nD k) [A0, some (.sh (.lst (ds.map .int))), j2, j3, j4, j5, j6, j7, j8, j9, j10, j11, j12, j13, j14, j15, j16, j17, j18, j19, j20, j21, j22] =
      some (.nx [A0, some (.sh (.lst (ds.map .int))), some (.sh (nD k)), r3, r4, r5, r6, r7, r8, r9, r10, r11, r12, r13, r14, r15, r16, r17, r18, r19, r20, r21, r22]) := by
  obtain ⟨m, c, hm, hc, e1⟩ := preA ds hds k hk A0 j3 j4 j5 j6 j7 j8 j9 j10 j11 j12 j13 j14 j15 j16 j17 j18 j19 j20 j21 j22
  obtain ⟨F, H, q9, q16, hF, hH, sF, sH, e2⟩ := preB hm hc hds k hk A0 (some (.sh (stD m))) j9 j10 j11 j12 j13 j14 j15 j16 j17 j18 j19 j20 j21 j22
  obtain ⟨a11, e3⟩ := preC hm hF hH sF sH A0 (some (.sh (.lst (ds.map .int)))) (some (.sh (nD k))) (some (.sh (nD m))) (some (.sh (stD m))) (some (.sh (natT c))) (some (.sh (sptD m))) q9 j10 j11 j12 j13 j14 j15 q16 j17 j18 j19 j20 j21 j22
  obtain ⟨b11, e4⟩ := preD hm hF hH sF sH A0 (some (.sh (.lst (ds.map .int)))) (some (.sh (nD k))) (some (.sh (natT c))) q9 a11 j12 j13 j14 j15 q16 j17 j18 j19 j20 j21 j22
  have e5 := preE hm hF hH sF sH A0 (some (.sh (.lst (ds.map .int)))) (some (.sh (nD k))) (some (.sh (stD m))) (some (.sh (natT c))) q9 (some (.own ((tg F H).map fun x => tgD x))) b11 (some (.own (boD m F H))) (some (.own (ovs m F H))) j14 j15 q16 j17 j18 j19 j20 j21 j22
  obtain ⟨q17, q18, q19, e6⟩ := preF hm hF hH sF sH A0 (some (.sh (.lst (ds.map .int)))) (some (.sh (nD k))) (some (.sh (stD m))) (some (.sh (natT c))) q9 b11 (some (.own (boD m F H))) q16 j17 j18 j19 j20 j21 j22
  obtain ⟨c11, q20, q21, e7⟩ := preG hm hF hH sF sH hc A0 (some (.sh (.lst (ds.map .int)))) (some (.sh (nD k))) q9 (some (.own ((tg F H).map fun x => tgD x))) b11 (some (.own (ovs m F H))) (some (.sh (prD (low F)))) (some (.sh (prD (low ((spots m).filter (free H)))))) q16 q17 q18 q19 j20 j21 j22
  have e8 := preH hm hF hH sF sH hds k hk A0 (some (.sh (stD m))) (some (.sh (natT c))) (some (.sh (sptD m))) q9 (some (.own ((tg F H).map fun x => tgD x))) c11 (some (.own (ovs m F H))) q16 q17 q18 q19 q20 q21 j22
  obtain ⟨d11, q22, e9⟩ := preI hm hF hH sF sH hds k hk A0 (some (.sh (nD m))) (some (.sh (stD m))) (some (.sh (natT c))) (some (.sh (prD F))) (some (.sh (prD H))) q9 (some (.own ((tg F H).map fun x => tgD x))) c11 (some (.own (boD m F H))) (some (.own (ovs m F H))) (some (.sh (prD (low F)))) (some (.sh (prD (low ((spots m).filter (free H)))))) q16 q17 q18 q19 q20 q21 j22
  exact ⟨_, _, _, _, _, _, _, _, _, _, _, _, _, _, _, _, _, _, _, _, turn_two 6 e1 (exs_cut 2 (a := (d_law_L6.drop 6).take 2) rfl rfl e2 (exs_cut 3 (a := (d_law_L6.drop 8).take 3) rfl rfl e3 (exs_cut 4 (a := (d_law_L6.drop 11).take 4) rfl rfl e4 (exs_cut 3 (a := (d_law_L6.drop 15).take 3) rfl rfl e5 (exs_cut 1 (a := (d_law_L6.drop 18).take 1) rfl rfl e6 (exs_cut 1 (a := (d_law_L6.drop 19).take 1) rfl rfl e7 (exs_cut 1 (a := (d_law_L6.drop 20).take 1) rfl rfl e8 e9)))))))⟩
theorem law_true : Law1 tb 25 24 := by
  intro ns hns
  rw [callN_at (show tb.fns[24]? = some d_law.fd from rfl)]
  obtain ⟨z, hz⟩ := hasN.cellN 23 ns 0
  obtain ⟨ds, hd, hok, hds⟩ := hasN.drawsN 23 z 58 (by omega)
  have hz : cl4 12 [.scr ns, .int 0] = some (.int z) := hz
  have hds : cl4 13 [.int z, .int 58] = some (.lst (ds.map .int)) := hds
  obtain ⟨σ', key, q2, q3, q4, q5, q6, q7, q8, q9, q10, q11, q12, q13, q14, q15, q16, q17, q18, q19, q20, q21, q22, rfl⟩ := forL_range (turn cl4 (.nm 2) d_law_L6) (fun _ σ => ∃ q2 q3 q4 q5 q6 q7 q8 q9 q10 q11 q12 q13 q14 q15 q16 q17 q18 q19 q20 q21 q22, σ = [some (.sh (.scr ns)), some (.sh (.lst (ds.map .int))), q2, q3, q4, q5, q6, q7, q8, q9, q10, q11, q12, q13, q14, q15, q16, q17, q18, q19, q20, q21, q22]) 3
    [some (.sh (.scr ns)), some (.sh (.lst (ds.map .int))), none, none, none, none, none, none, none, none, none, none, none, none, none, none, none, none, none, none, none, none, none] ⟨_, _, _, _, _, _, _, _, _, _, _, _, _, _, _, _, _, _, _, _, _, rfl⟩ fun k hk σ hσ => by
      obtain ⟨q2, q3, q4, q5, q6, q7, q8, q9, q10, q11, q12, q13, q14, q15, q16, q17, q18, q19, q20, q21, q22, rfl⟩ := hσ
      obtain ⟨r3, r4, r5, r6, r7, r8, r9, r10, r11, r12, r13, r14, r15, r16, r17, r18, r19, r20, r21, r22, e⟩ := k_turn ds hd k hk (some (.sh (.scr ns))) q2 q3 q4 q5 q6 q7 q8 q9 q10 q11 q12 q13 q14 q15 q16 q17 q18 q19 q20 q21 q22
      exact ⟨_, e, _, _, _, _, _, _, _, _, _, _, _, _, _, _, _, _, _, _, _, _, _, rfl⟩
  have r3 : (List.range 3).map (fun i : Nat => D.int (i : Nat)) = [.int 0, .int 1, .int 2] := rfl
  rw [r3] at key
  simp [-forL_cons, runF, d_law, Def.fd, startS, r3, key, hz, hds]
end Dl
set_option Elab.async false
set_option linter.all false
set_option maxRecDepth 100000
set_option maxHeartbeats 0
namespace Dl
open PySem PySem.Spec PyProof.Rows L2
theorem ok_all : ∀ (i : Nat) (d : Def) (st : Stmt), tb[i]? = some (d, st) → DefOk (tb.T im) d st
  | 0, _, _, h => by cases h; exact ok_is_ascending
  | 1, _, _, h => by cases h; exact ok_lies_under
  | 2, _, _, h => by cases h; exact ok_lowest_spots
  | 3, _, _, h => by cases h; exact ok_all_spots
  | 4, _, _, h => by cases h; exact ok_is_beyond
  | 5, _, _, h => by cases h; exact ok_is_border
  | 6, _, _, h => by cases h; exact ok_border_fits
  | 7, _, _, h => by cases h; exact ok_told_tangle
  | 8, _, _, h => by cases h; exact ok_late_border
  | 9, _, _, h => by cases h; exact ok_early_border
  | 10, _, _, h => by cases h; exact ok_open_spots
  | 11, _, _, h => by cases h; exact ok_borders_left
  | 12, _, _, h => by cases h; exact ok_law_cell
  | 13, _, _, h => by cases h; exact ok_law_draws
  | 14, _, _, h => by cases h; exact ok_law_is_integer
  | 15, _, _, h => by cases h; exact ok_law_is
  | 16, _, _, h => by cases h; exact ok_law_rising
  | 17, _, _, h => by cases h; exact ok_law_bent_row
  | 18, _, _, h => by cases h; exact ok_law_under
  | 19, _, _, h => by cases h; exact ok_law_spots
  | 20, _, _, h => by cases h; exact ok_law_lowest
  | 21, _, _, h => by cases h; exact ok_law_stairs
  | 22, _, _, h => by cases h; exact ok_law_is_border
  | 23, _, _, h => by cases h; exact ok_law_bent_asked
  | 24, _, _, h => by cases h; exact ok_law
  | n + 25, _, _, h => by cases h
abbrev R : PySem.W.OpenRow := PySem.W.OpenLaw.row PySem.Challenge.rw_slopeward_k52_whole_borders_or_tangles
abbrev hk : PySem.W.Hook := He.hookX 2 (topFa tb) (topFn tb) [] (topTf tb) (topEx tb im)
def ob (s : PySem.W.SharedT) : He.AlX := He.obsX 2 (topFa tb) (topFn tb) [] (topTf tb) (topEx tb im) (HandSHeadRun.getT s)
theorem ob_eq (s : PySem.W.SharedT) : ob s = hk.obs s.abs := He.obsX_eq (HandSHeadRun.getT_eq s)
abbrev loose : List Str := ["is_ascending", "lies_under", "lowest_spots", "all_spots", "is_beyond", "is_border", "border_fits", "told_tangle", "late_border", "early_border", "open_spots", "borders_left", "_law_cell", "_law_draws", "_law_is_integer", "_law_is", "_law_rising", "_law_bent_row", "_law_under", "_law_spots", "_law_lowest", "_law_stairs", "_law_is_border", "_law_bent_asked"]
theorem run (w : World) : HandSHeadRun.RunEq R (PySem.W.view R.prog [27]) hk ob 1000 loose w := by
  intro os
  kernel_rfl
theorem law_facts_here : Law1 tb 25 24 → ∀ (w : World) (mg : Str → Option Value) (fa : Addr) (h : Heap) (K : PySem.W.Frag), K.In h → He.SaysX (topFa tb) (topFn tb) [] (topTf tb) (topEx tb im) w h K → h.Ns mainGlobals mg → mg ("law" : PySem.Str) = some (.ref fa) →
    LamX.LawAtS PySem.Challenge.rw_slopeward_k52_whole_borders_or_tangles w K L2.CX0 (2 * 25) 63 "script" mg fa h := fun law w mg fa h K KX c G hmg =>
  law_at (d := d_law) (st := top 27) (j := 24) ok_all rfl rfl law KX G hmg c
end Dl
open PySem PySem.W PySem.Calls PyProof.Rows
theorem PySem.Challenge.cw_slopeward_k52_whole_borders_or_tangles_holds : PySem.Challenge.rw_slopeward_k52_whole_borders_or_tangles.Holds := by
  w_on; o_law
  refine HandSHeadRun.head_any (r := OpenLaw.row PySem.Challenge.rw_slopeward_k52_whole_borders_or_tangles) (q := view (OpenLaw.row PySem.Challenge.rw_slopeward_k52_whole_borders_or_tangles).prog [27]) (H := Dl.hk) (ob := Dl.ob) (M := 1000) (loose := Dl.loose) (d := HandSHeadRun.topDef (OpenLaw.row PySem.Challenge.rw_slopeward_k52_whole_borders_or_tangles).prog 27) (kwd := []) Dl.ob_eq
    (by kernel_rfl) (fun s => by kernel_rfl) Dl.run (by kernel_rfl) (by kernel_rfl) (by kernel_rfl) (by rfl) (by first | assumption | decide +kernel) (by decide +kernel) ⟨rfl, rfl, rfl, rfl, rfl, by decide +kernel⟩ ?hw ?hc
  case hw => w_witness2
  case hc =>
    refine LamX.walk_ofTsE (l := PySem.Challenge.rw_slopeward_k52_whole_borders_or_tangles) (n := 63) (k := 2 * 25) (x := "script") (CX := fun _ => L2.CX0) rfl (by decide) (by kernel_rfl) ⟨rfl, by decide, by decide⟩ ?F (fun _ _ _ _ _ z => z)
    intro w mg fa h Y G hmg0
    obtain ⟨K, KX, c⟩ := Y
    refine ⟨K, KX, Dl.law_facts_here Dl.law_true w mg fa h K KX c G ?_⟩
    have e : (HandSHeadRun.topDef (OpenLaw.row PySem.Challenge.rw_slopeward_k52_whole_borders_or_tangles).prog 27).name = ("law" : PySem.Str) := by kernel_rfl
    rw [← e]
    exact hmg0
