import PyProof.Rows.All
import HandS.ForMost
import HandS.IsInst
import HandS.TupAny
import HandS.TupLe
import HandS.Deep
import HandS.Walk
import HandS.Flow
import HandS.Zip
import HandS.Rev
import HandS.Style
import HandS.Defaults
import KE.SortData
import KE.DataMinMax
import KE.DataIsa
import KE.DataFind
import KE.DataEq
import HandS.TupMul
import KE.GoesMore
import KE.GoesEnum
import PyProof.Draws
import HandS.Head0
import HandS.Head1
import HandS.Head2
import HandS.HeadEnd
import HandS.HeadHook1
import HandS.HeadHook2
import PySem.Challenge.RW_slopeward_k37_whole_dams_and_idle_ones
set_option Elab.async false
set_option linter.all false
set_option maxRecDepth 100000
/-! Data, and what an expression, a statement, a def is worth over data: no heap, no frame. -/
namespace Dl
open PySem

/-- a value with all that it holds; own: a list that may still change -/
inductive D where
  | non
  | bl (b : Bool)
  | int (i : Int)
  | str (s : Str)
  | tup (l : List D)
  | lst (l : List D)
  | scr (l : List Int)
deriving Inhabited

mutual
def D.flat : D → Bool
  | .tup l => flats l
  | .lst _ => false
  | .scr _ => false
  | .non => true
  | .bl _ => true
  | .int _ => true
  | .str _ => true
def flats : List D → Bool
  | [] => true
  | d :: ds => d.flat && flats ds
end

mutual
def D.py : D → PyData
  | .non => .none
  | .bl b => .bool b
  | .int i => .int i
  | .str s => .str s
  | .tup l => .tuple (pys l)
  | .lst l => .list (pys l)
  | .scr l => .list (l.map PyData.int)
def pys : List D → List PyData
  | [] => []
  | d :: ds => d.py :: pys ds
end

/-! ### operations -/
inductive BO | add | sub | mul | fdiv | mod | pow
deriving DecidableEq
inductive CO | eq | ne | lt | le | gt | ge | inn | nin
deriving DecidableEq

def intOf : D → Option Int
  | .int i => some i
  | _ => none
def blOf : D → Option Bool
  | .bl b => some b
  | _ => none
def strOf : D → Option Str
  | .str b => some b
  | _ => none
def allOf {α : Type} (f : D → Option α) : List D → Option (List α)
  | [] => some []
  | d :: ds => (f d).bind fun x => (allOf f ds).map fun xs => x :: xs
abbrev intsOf : List D → Option (List Int) := allOf intOf
abbrev blsOf : List D → Option (List Bool) := allOf blOf
abbrev strsOf : List D → Option (List Str) := allOf strOf

/-- a guard -/
def grd {α : Type} (c : Prop) [Decidable c] (x : α) : Option α := if c then some x else none

def addD : D → D → Option D
  | .int i, .int j => some (.int (i + j))
  | .str x, .str y => grd (x.length + y.length ≤ sizeLine) (.str (x ++ y))
  | .tup x, .tup y => grd (x.length + y.length ≤ sizeLine) (.tup (x ++ y))
  | .lst x, .lst y => grd (x.length + y.length ≤ sizeLine) (.lst (x ++ y))
  | _, _ => none
def subD : D → D → Option D
  | .int i, .int j => some (.int (i - j))
  | _, _ => none
def mulD : D → D → Option D
  | .int i, .int j => grd ((-(2 ^ 64) < i ∧ i < 2 ^ 64) ∨ (-(2 ^ 64) < j ∧ j < 2 ^ 64)) (.int (i * j))
  | .tup x, .int j => grd (x.length ≤ 1000 ∧ x.isEmpty = false ∧ -1000 ≤ j ∧ j ≤ 1000) (.tup (List.replicate j.toNat x).flatten)
  | .lst x, .int j => grd (j ≤ 2 ^ 24 ∧ -(2 ^ 24) ≤ j ∧ x.length * j.toNat ≤ sizeLine) (.lst (List.replicate j.toNat x).flatten)
  | _, _ => none
def fdivD : D → D → Option D
  | .int i, .int j => grd (j ≠ 0 ∧ j.natAbs < 1073741824) (.int (i.fdiv j))
  | _, _ => none
def modD : D → D → Option D
  | .int i, .int j => grd (j ≠ 0) (.int (i.fmod j))
  | _, _ => none
def powD : D → D → Option D
  | .int i, .int j => grd (0 ≤ j ∧ j ≤ 1000000 ∧ i.natAbs < 2 ^ 64) (.int (i ^ j.toNat))
  | _, _ => none
def binD : BO → D → D → Option D
  | .add => addD
  | .sub => subD
  | .mul => mulD
  | .fdiv => fdivD
  | .mod => modD
  | .pow => powD

def eqD (x y : D) : Option Bool := grd (x.py.depth ≤ 64 ∧ y.py.depth ≤ 64) (PyData.eqv x.py y.py)
def ltD : D → D → Option Bool
  | .int i, .int j => some (decide (i < j))
  | .str i, .str j => some (decide (i.cps.toList < j.cps.toList))
  | .tup x, .tup y => (intsOf x).bind fun a => (intsOf y).map fun b => HT.lexLt a b
  | _, _ => none
def leD : D → D → Option Bool
  | .int i, .int j => some (decide (i ≤ j))
  | _, _ => none
def itemsD : D → Option (List D)
  | .tup l => some l
  | .lst l => some l
  | _ => none
/-- what a for or a comprehension walks -/
def iterD : D → Option (List D)
  | .tup l => some l
  | .lst l => some l
  | .str z => some (z.cps.toList.map fun c => .str ⟨#[c]⟩)
  | _ => none
def inD (x y : D) : Option Bool := (itemsD y).bind fun l =>
  grd (x.py.depth ≤ 64 ∧ y.py.depth ≤ 64) (l.any fun z => PyData.eqv z.py x.py)
def cmpD : CO → D → D → Option Bool
  | .eq, x, y => eqD x y
  | .ne, x, y => (eqD x y).map (!·)
  | .lt, x, y => ltD x y
  | .le, x, y => leD x y
  | .gt, .int i, .int j => some (decide (j < i))
  | .ge, .int i, .int j => some (decide (j ≤ i))
  | .gt, _, _ => none
  | .ge, _, _ => none
  | .inn, x, y => inD x y
  | .nin, x, y => (inD x y).map (!·)
def isNonD : D → Bool
  | .non => true
  | _ => false

def truth : D → Option Bool
  | .non => some false
  | .bl b => some b
  | .int i => some (i != 0)
  | .str s => grd (s.length ≤ sizeLine) ((s.length : Int) != 0)
  | .tup l => some (!l.isEmpty)
  | .lst l => some (!l.isEmpty)
  | .scr l => some (!l.isEmpty)

def idxD : D → D → Option D
  | .tup l, .int i => L2.atI l i
  | .lst l, .int i => L2.atI l i
  | .scr l, .int i => (L2.atI l i).map .int
  | .str z, .int i => if z.length ≤ sizeLine then (L2.atI z.cps.toList i).map fun c => .str ⟨#[c]⟩ else none
  | _, _ => none
def cutL {α : Type} (xs : List α) (lo hi : Option Int) : List α := (xs.drop (HT.sIx xs.length 0 lo)).take (HT.sIx xs.length xs.length hi - HT.sIx xs.length 0 lo)
def sliceD (x : D) (lo hi : Option Int) : Option D := match x with
  | .tup l => some (.tup (cutL l lo hi))
  | .lst l => some (.lst (cutL l lo hi))
  | _ => none
/-- a slice's end: None where it is not written -/
def partD : D → Option (Option Int)
  | .non => some none
  | .int i => some (some i)
  | _ => none

/-! ### built-ins -/
inductive BI
  | len | abs | int | bool | sum | max | min | max2 | min2 | all | any | tuple | list
  | sorted
deriving DecidableEq
/-- every two can be compared -/
def alikeL (l : List D) : Bool := l.all fun x => l.all fun y => PySem.W.alike x.py y.py
def notNon : D → Bool
  | .non => false
  | _ => true
def maxDD (x : D) (l : List D) : D := l.foldl (fun a y => if PySem.W.dataLt a.py y.py = true then y else a) x
def minDD (x : D) (l : List D) : D := l.foldl (fun a y => if PySem.W.dataLt y.py a.py = true then y else a) x
def bestD (f : D → List D → D) : List D → Option D
  | [] => none
  | x :: l => grd (alikeL (x :: l) = true ∧ (x :: l).all notNon = true ∧ flats (x :: l) = true ∧ PyData.depthAll (pys (x :: l)) ≤ 64) (f x l)
def sortable (l : List D) : Bool := (l.all fun d => match d with | .tup (_ :: _) => true | _ => false) || (l.all fun d => match d with | .non => false | .tup _ => false | _ => true)
def leDD (x y : D) : Bool := PySem.W.dataLe false D.py x y
def sortD (l : List D) : Option (List D) := grd (alikeL l = true ∧ sortable l = true ∧ l.length ≤ sizeLine ∧ (l.all fun d => decide (d.py.depth ≤ 64)) = true) (l.mergeSort leDD)
def lenD : D → Option Nat
  | .tup l => some l.length
  | .lst l => some l.length
  | .scr l => some l.length
  | .str s => grd (s.length ≤ sizeLine) s.length
  | _ => none
def biD : BI → List D → Option D
  | .len, [d] => (lenD d).map fun (n : Nat) => .int (n : Int)
  | .abs, [.int i] => some (.int (if i < 0 then -i else i))
  | .int, [.int i] => some (.int i)
  | .int, [.bl b] => some (.int (if b then 1 else 0))
  | .bool, [.int i] => some (.bl (i != 0))
  | .bool, [.bl b] => some (.bl b)
  | .sum, [.tup l] => (intsOf l).map fun ns => .int ns.sum
  | .sum, [.lst l] => (intsOf l).map fun ns => .int ns.sum
  | .max, [.tup l] => bestD maxDD l
  | .max, [.lst l] => bestD maxDD l
  | .min, [.tup l] => bestD minDD l
  | .min, [.lst l] => bestD minDD l
  | .max2, [.int i, .int j] => some (.int (if j > i then j else i))
  | .min2, [.int i, .int j] => some (.int (if j < i then j else i))
  | .all, [.lst l] => (blsOf l).map fun bs => .bl (bs.all id)
  | .any, [.lst l] => (blsOf l).map fun bs => .bl (bs.any id)
  | .tuple, [.tup l] => some (.tup l)
  | .tuple, [.lst l] => some (.tup l)
  | .list, [.tup l] => some (.lst l)
  | .list, [.lst l] => some (.lst l)
  | .sorted, [.lst l] => (sortD l).map .lst
  | _, _ => none
/-- isinstance(x, int | bool | str | tuple | list) -/
inductive TY | int | bool | str | tuple | list
deriving DecidableEq
def isiD : TY → D → Bool
  | .int, .int _ => true
  | .int, .bl _ => true
  | .bool, .bl _ => true
  | .str, .str _ => true
  | .tuple, .tup _ => true
  | .list, .lst _ => true
  | .list, .scr _ => true
  | _, _ => false

/-! ### expressions -/
inductive Tg where
  | nm (i : Nat)
  | tp (l : List Tg)
inductive CE where
  | var (i : Nat)
  | int (i : Int)
  | bl (b : Bool)
  | non
  | str (s : Str)
  | bin (o : BO) (a b : CE)
  | neg (a : CE)
  | not (a : CE)
  | cmp (o : CO) (a b : CE)
  | chain (o o' : CO) (a b c : CE)
  | isN (a : CE)
  | notN (a : CE)
  | and (a b : CE)
  | or (a b : CE)
  | ite (c a b : CE)
  | idx (a b : CE)
  | slc (a lo hi : CE)
  | tup (es : List CE)
  | lst (es : List CE)
  | call (f : Nat) (es : List CE)
  | bi (b : BI) (es : List CE)
  | isi (t : TY) (a : CE)
  | lc (own : List Nat) (tg : Tg) (it : CE) (cs : List CE) (elt : CE)
  | rng1 (a : CE)
  | rng2 (a b : CE)
  | enum (a : CE)
  | zip (a b : CE)

abbrev Rho := List (Option D)
mutual
/-- the slots that a target stores -/
def Tg.slots : Tg → List Nat
  | .nm i => [i]
  | .tp l => tgSlots l
def tgSlots : List Tg → List Nat
  | [] => []
  | t :: r => t.slots ++ tgSlots r
end
mutual
/-- what a target stores, slot by slot -/
def Tg.binds : Tg → D → Option (List (Nat × D))
  | .nm i, d => some [(i, d)]
  | .tp l, .tup ds => tgBinds l ds
  | .tp _, _ => none
def tgBinds : List Tg → List D → Option (List (Nat × D))
  | [], [] => some []
  | t :: r, d :: ds => (t.binds d).bind fun a => (tgBinds r ds).map fun b => a ++ b
  | _, _ => none
end
def putAll (ρ : Rho) (bs : List (Nat × D)) : Rho := bs.foldl (fun ρ p => ρ.set p.1 (some p.2)) ρ
def Tg.put (t : Tg) (d : D) (ρ : Rho) : Option Rho := (t.binds d).map (putAll ρ)
def wipeD (ρ : Rho) : List Nat → Rho
  | [] => ρ
  | v :: vs => (wipeD ρ vs).set v none

def lcD (step : D → Option (Option D)) : List D → Option (List D)
  | [] => some []
  | x :: xs => (step x).bind fun r => (lcD step xs).map fun rs => match r with
    | none => rs
    | some y => y :: rs
def zipD : D → D → Option (List D)
  | .tup x, .tup y => some (List.zipWith (fun d e => .tup [d, e]) x y)
  | .lst x, .lst y => some (List.zipWith (fun d e => .tup [d, e]) x y)
  | _, _ => none
def enumF (n : Nat) : List D → List D
  | [] => []
  | d :: ds => .tup [.int n, d] :: enumF (n + 1) ds

section
variable (cl : Nat → List D → Option D)
mutual
def evE : CE → Rho → Option D
  | .var i, ρ => (ρ[i]?).bind id
  | .int i, _ => some (.int i)
  | .bl b, _ => some (.bl b)
  | .non, _ => some .non
  | .str s, _ => some (.str s)
  | .bin o a b, ρ => (evE a ρ).bind fun x => (evE b ρ).bind fun y => binD o x y
  | .neg a, ρ => (evE a ρ).bind fun x => (intOf x).map fun i => .int (-i)
  | .not a, ρ => (evE a ρ).bind fun x => (truth x).map fun b => .bl (!b)
  | .cmp o a b, ρ => (evE a ρ).bind fun x => (evE b ρ).bind fun y => (cmpD o x y).map .bl
  | .chain o o' a b c, ρ => (evE a ρ).bind fun x => (evE b ρ).bind fun y => (cmpD o x y).bind fun k =>
      if k = true then (evE c ρ).bind fun z => (cmpD o' y z).map .bl else some (.bl false)
  | .isN a, ρ => (evE a ρ).map fun x => .bl (isNonD x)
  | .notN a, ρ => (evE a ρ).map fun x => .bl (!isNonD x)
  | .and a b, ρ => (evE a ρ).bind fun x => (truth x).bind fun k => if k = true then evE b ρ else some x
  | .or a b, ρ => (evE a ρ).bind fun x => (truth x).bind fun k => if k = true then some x else evE b ρ
  | .ite c a b, ρ => (evE c ρ).bind fun x => (truth x).bind fun k => if k = true then evE a ρ else evE b ρ
  | .idx a b, ρ => (evE a ρ).bind fun x => (evE b ρ).bind fun y => idxD x y
  | .slc a lo hi, ρ => (evE a ρ).bind fun x => ((evE lo ρ).bind partD).bind fun l => ((evE hi ρ).bind partD).bind fun h => sliceD x l h
  | .tup es, ρ => (evEs es ρ).bind fun ds => grd (ds.length ≤ sizeLine) (.tup ds)
  | .lst es, ρ => (evEs es ρ).bind fun ds => grd (ds.length ≤ sizeLine) (.lst ds)
  | .call f es, ρ => (evEs es ρ).bind fun ds => cl f ds
  | .bi b es, ρ => (evEs es ρ).bind fun ds => biD b ds
  | .isi t a, ρ => (evE a ρ).map fun x => .bl (isiD t x)
  | .lc own tg it cs elt, ρ => ((evE it ρ).bind iterD).bind fun xs => (lcD (fun x => (tg.put x (wipeD ρ own)).bind fun ρ1 => (evT cs ρ1).bind fun k =>
      if k = true then (evE elt ρ1).map some else some none) xs).bind fun ys => grd (ys.length ≤ sizeLine) (.lst ys)
  | .rng1 a, ρ => (evE a ρ).bind fun x => (intOf x).bind fun n => grd (-(2 ^ 62) ≤ n ∧ n < 2 ^ 62) (.lst ((List.range n.toNat).map fun i => .int (i : Nat)))
  | .rng2 a b, ρ => (evE a ρ).bind fun x => (intOf x).bind fun m => (evE b ρ).bind fun y => (intOf y).bind fun n =>
      grd (-(2 ^ 62) ≤ m ∧ m < 2 ^ 62 ∧ -(2 ^ 62) ≤ n ∧ n < 2 ^ 62) (.lst ((List.range (n - m).toNat).map fun i => .int (m + (i : Nat))))
  | .enum a, ρ => (evE a ρ).bind fun x => (itemsD x).map fun xs => .lst (enumF 0 xs)
  | .zip a b, ρ => (evE a ρ).bind fun x => (evE b ρ).bind fun y => (zipD x y).map .lst
def evEs : List CE → Rho → Option (List D)
  | [], _ => some []
  | e :: es, ρ => (evE e ρ).bind fun d => (evEs es ρ).map fun ds => d :: ds
/-- a comprehension's tests: none or one -/
def evT : List CE → Rho → Option Bool
  | [], _ => some true
  | c :: _, ρ => (evE c ρ).bind truth
end
end

/-! ### statements -/
/-- a slot: a datum that nobody changes any more, or a list of the def's own -/
inductive Sl where
  | sh (d : D)
  | own (l : List D)
abbrev RhoS := List (Option Sl)
def Sl.d : Sl → D
  | .sh d => d
  | .own l => .lst l
def snapS (ρ : RhoS) : Rho := ρ.map (Option.map Sl.d)
/-- the shared slots, and those of fz -/
def hide (fz : List Nat) : Nat → RhoS → Rho
  | _, [] => []
  | n, some (.own l) :: r => (if fz.contains n = true then some (.lst l) else none) :: hide fz (n + 1) r
  | n, some (.sh d) :: r => some d :: hide fz (n + 1) r
  | n, none :: r => none :: hide fz (n + 1) r
/-- the slots of fz are shared from now on -/
def frzS (fz : List Nat) : Nat → RhoS → RhoS
  | _, [] => []
  | n, some (.own l) :: r => (if fz.contains n = true then some (.sh (.lst l)) else some (.own l)) :: frzS fz (n + 1) r
  | n, some (.sh d) :: r => some (.sh d) :: frzS fz (n + 1) r
  | n, none :: r => none :: frzS fz (n + 1) r
/-- how a value is taken: b, without lists in it; a fz, with them: own lists but those of fz are not seen, and those of fz are shared then -/
inductive Md where
  | b
  | a (fz : List Nat)
def visM : Md → RhoS → Rho
  | .b, ρ => snapS ρ
  | .a fz, ρ => hide fz 0 ρ
def aftM : Md → RhoS → RhoS
  | .b, ρ => ρ
  | .a fz, ρ => frzS fz 0 ρ
def okM : Md → D → Bool
  | .b, d => d.flat
  | .a _, _ => true
/-- the forms whose list is a new one -/
def freshB : CE → Bool
  | .bin _ _ _ => true
  | .slc _ _ _ => true
  | .lst _ => true
  | .lc _ _ _ _ _ => true
  | .bi b _ => b == .list || b == .sorted
  | _ => false
def isLst : D → Bool
  | .lst _ => true
  | _ => false
/-- nothing that may still change is walked -/
def safeI : CE → D → Bool
  | .rng1 _, _ => true
  | .rng2 _ _, _ => true
  | .enum _, _ => false
  | .zip _ _, _ => false
  | c, d => freshB c || !isLst d
def okI (m : Md) (it : CE) (d : D) (xs : List D) : Bool := match m with
  | .b => flats xs && safeI it d
  | .a _ => true
inductive CS where
  | set (m : Md) (i : Nat) (e : CE)
  | own (i : Nat) (e : CE)
  | put (m : Md) (t : Tg) (e : CE)
  | par (i j : Nat) (a b : CE)
  | app (m : Md) (i : Nat) (e : CE)
  | sti (m : Md) (i : Nat) (k e : CE)
  | aug (i : Nat) (o : BO) (e : CE)
  | ifs (c : CE) (a b : List CS)
  | loop (m : Md) (t : Tg) (it : CE) (b : List CS)
  | whl (n : Nat) (c : CE) (b : List CS)
  | ret (e : CE)
  | retN
  | brk
  | cnt
  | pas
inductive Res where
  | nx (ρ : RhoS)
  | br (ρ : RhoS)
  | ct (ρ : RhoS)
  | rt (d : D)
def putS (ρ : RhoS) (bs : List (Nat × D)) : RhoS := bs.foldl (fun ρ p => ρ.set p.1 (some (.sh p.2))) ρ
/-- the next statement -/
def thenR (r : Res) (f : RhoS → Option Res) : Option Res := match r with
  | .nx ρ => f ρ
  | .br ρ => some (.br ρ)
  | .ct ρ => some (.ct ρ)
  | .rt d => some (.rt d)
/-- the next turn -/
def turnR (r : Res) (f : RhoS → Option Res) : Option Res := match r with
  | .nx ρ => f ρ
  | .ct ρ => f ρ
  | .br ρ => some (.nx ρ)
  | .rt d => some (.rt d)
def forL (f : D → RhoS → Option Res) : List D → RhoS → Option Res
  | [], ρ => some (.nx ρ)
  | x :: xs, ρ => (f x ρ).bind fun r => turnR r (forL f xs)
def whileL (c : RhoS → Option Bool) (f : RhoS → Option Res) : Nat → RhoS → Option Res
  | 0, _ => none
  | n + 1, ρ => (c ρ).bind fun k => if k = true then (f ρ).bind fun r => turnR r (whileL c f n) else some (.nx ρ)
def ownOf (ρ : RhoS) (i : Nat) : Option (List D) := match ρ[i]? with
  | some (some (.own l)) => some l
  | _ => none
def shOf (ρ : RhoS) (i : Nat) : Option D := match ρ[i]? with
  | some (some (.sh d)) => some d
  | _ => none
def lstOf : D → Option (List D)
  | .lst l => some l
  | _ => none
def augD : BO → D → D → Option D
  | .add, .int i, .int j => some (.int (i + j))
  | .sub, .int i, .int j => some (.int (i - j))
  | _, _, _ => none
section
variable (cl : Nat → List D → Option D)
mutual
def exS : CS → RhoS → Option Res
  | .set m i e, ρ => (evE cl e (visM m ρ)).bind fun d => grd (okM m d = true) (.nx ((aftM m ρ).set i (some (.sh d))))
  | .own i e, ρ => (evE cl e (snapS ρ)).bind fun d => (lstOf d).bind fun l => grd (flats l = true ∧ freshB e = true) (.nx (ρ.set i (some (.own l))))
  | .put m t e, ρ => (evE cl e (visM m ρ)).bind fun d => if okM m d = true then (t.binds d).map fun bs => .nx (putS (aftM m ρ) bs) else none
  | .par i j a b, ρ => (evE cl a (snapS ρ)).bind fun x => (evE cl b (snapS ρ)).bind fun y => grd (x.flat = true ∧ y.flat = true) (.nx ((ρ.set i (some (.sh x))).set j (some (.sh y))))
  | .app m i e, ρ => (evE cl e (visM m ρ)).bind fun d => (ownOf (aftM m ρ) i).bind fun l => grd (okM m d = true ∧ l.length < sizeLine) (.nx ((aftM m ρ).set i (some (.own (l ++ [d])))))
  | .sti m i k e, ρ => (evE cl e (visM m ρ)).bind fun d => (ownOf (aftM m ρ) i).bind fun l => ((evE cl k (snapS (aftM m ρ))).bind intOf).bind fun z => (L2.ixN l.length z).bind fun j =>
      grd (okM m d = true) (.nx ((aftM m ρ).set i (some (.own (l.set j d)))))
  | .aug i o e, ρ => (shOf ρ i).bind fun x => (evE cl e (snapS ρ)).bind fun y => (augD o x y).map fun z => .nx (ρ.set i (some (.sh z)))
  | .ifs c a b, ρ => (evE cl c (snapS ρ)).bind fun x => (truth x).bind fun k => if k = true then exSs a ρ else exSs b ρ
  | .loop m t it b, ρ => (evE cl it (visM m ρ)).bind fun d => (iterD d).bind fun xs => if okI m it d xs = true then
      forL (fun x ρ => (t.binds x).bind fun bs => exSs b (putS ρ bs)) xs (aftM m ρ) else none
  | .whl n c b, ρ => whileL (fun ρ => (evE cl c (snapS ρ)).bind truth) (exSs b) n ρ
  | .ret e, ρ => (evE cl e (snapS ρ)).map .rt
  | .retN, _ => some (.rt .non)
  | .brk, ρ => some (.br ρ)
  | .cnt, ρ => some (.ct ρ)
  | .pas, ρ => some (.nx ρ)
def exSs : List CS → RhoS → Option Res
  | [], ρ => some (.nx ρ)
  | c :: cs, ρ => (exS c ρ).bind fun r => thenR r (exSs cs)
end
end
/-- a def: how many parameters, how many slots, its body -/
structure Fd where
  np : Nat
  nn : Nat
  body : List CS
def endR : Res → Option D
  | .nx _ => some .non
  | .rt d => some d
  | _ => none
def startS (F : Fd) (ds : List D) : RhoS := ds.map (fun d => some (.sh d)) ++ List.replicate (F.nn - F.np) none
def runF (cl : Nat → List D → Option D) (F : Fd) (ds : List D) : Option D := if ds.length = F.np then (exSs cl F.body (startS F ds)).bind endR else none
/-- calls at most n deep -/
def callN (fns : List Fd) : Nat → Nat → List D → Option D
  | 0, _, _ => none
  | n + 1, f, ds => (fns[f]?).bind fun F => runF (callN fns n) F ds
end Dl
set_option Elab.async false
set_option linter.all false
set_option maxRecDepth 100000
set_option maxHeartbeats 4000000
/-! What stands in the heap for a datum. -/
namespace Dl
open PySem PySem.Spec PyProof.Rows L2

/-- never written while it is tracked -/
def stab : HO → Bool
  | .tup _ => true
  | .frz _ _ => true
  | _ => false
/-- a list that may be locked, or stands in the written part -/
def SqG (K : PySem.W.Frag) (G : Addr → Prop) (H : Hp) (a : Addr) (xs : List V) : Prop :=
  (G a ∧ Rd H a (.lst xs)) ∨ ∃ (o : Obj) (its : Array Value) (n : Nat), K.lookup a = some o ∧ o.cls = .type "list" ∧ o.dict = none ∧ o.data = .seq its n ∧ its.size ≤ sizeLine ∧ Vals xs its.toList
theorem SqG.sql {K : PySem.W.Frag} {G : Addr → Prop} {H : Hp} {a : Addr} {xs : List V} (h : SqG K G H a xs) : SqL K H a xs := h.imp (fun z => z.2) id
theorem SqG.of {K : PySem.W.Frag} {G : Addr → Prop} {H : Hp} {a : Addr} {xs : List V} (g : G a) (h : SqL K H a xs) : SqG K G H a xs := h.imp (fun z => ⟨g, z⟩) id
section
variable (K : PySem.W.Frag) (G : Addr → Prop) (H : Hp)
mutual
def Rep : D → V → Prop
  | .non, v => v = .non
  | .bl b, v => v = .bl b
  | .int i, v => v = .int i
  | .str s, v => v = .str s
  | .tup l, v => ∃ a vs, v = .ref a ∧ SqT K H a vs ∧ Reps l vs
  | .lst l, v => ∃ a vs, v = .ref a ∧ G a ∧ H a = some (.lst vs) ∧ Reps l vs
  | .scr l, v => ∃ a, v = .ref a ∧ SqG K G H a (l.map V.int)
def Reps : List D → List V → Prop
  | [], vs => vs = []
  | d :: ds, vs => ∃ v r, vs = v :: r ∧ Rep d v ∧ Reps ds r
end
end
def Keep (P : Addr → Prop) (H H' : Hp) : Prop := ∀ a o, H a = some o → (stab o = true ∨ P a) → H' a = some o
def Gx (G : Addr → Prop) (H : Hp) : Addr → Prop := fun a => G a ∨ H a = none
theorem Keep.same {P : Addr → Prop} {H H' : Hp} (s : Same H H') : Keep P H H' := fun a o h _ => s a o h
theorem Keep.refl {P : Addr → Prop} {H : Hp} : Keep P H H := fun _ _ h _ => h
theorem Keep.trans {P : Addr → Prop} {H H1 H2 : Hp} (a : Keep P H H1) (b : Keep P H1 H2) : Keep P H H2 := fun c o h q => b c o (a c o h q) q
theorem Keep.mono {P P' : Addr → Prop} {H H' : Hp} (h : ∀ a, P' a → P a) (k : Keep P H H') : Keep P' H H' := fun a o e q => k a o e (q.imp id (h a))
theorem Gx.same {G : Addr → Prop} {H H1 : Hp} (s : Same H H1) {a : Addr} (h : Gx (Gx G H) H1 a) : Gx G H a := by
  rcases h with h | h
  · exact h
  · exact .inr (s.free h)
theorem sqT_keep {K : PySem.W.Frag} {P : Addr → Prop} {H H' : Hp} {a : Addr} {xs : List V} (k : Keep P H H') (h : SqT K H a xs) : SqT K H' a xs := by
  rcases h with (h | ⟨o, h⟩) | h
  · exact .inl (.inl (k _ _ h (.inl rfl)))
  · exact .inl (.inr ⟨o, k _ _ h (.inl rfl)⟩)
  · exact .inr h
theorem sqG_keep {K : PySem.W.Frag} {P : Addr → Prop} {H H' : Hp} {a : Addr} {xs : List V} (k : Keep P H H') (h : SqG K P H a xs) : SqG K P H' a xs := by
  rcases h with ⟨p, h | ⟨o, h⟩⟩ | h
  · exact .inl ⟨p, .inl (k _ _ h (.inr p))⟩
  · exact .inl ⟨p, .inr ⟨o, k _ _ h (.inl rfl)⟩⟩
  · exact .inr h
theorem SqG.mono {K : PySem.W.Frag} {G G' : Addr → Prop} {H : Hp} {a : Addr} {xs : List V} (m : ∀ a, G a → H a ≠ none → G' a) (h : SqG K G H a xs) : SqG K G' H a xs := by
  rcases h with ⟨p, h | ⟨o, h⟩⟩ | h
  · exact .inl ⟨m a p (by rw [h]; exact fun z => nomatch z), .inl h⟩
  · exact .inl ⟨m a p (by rw [h]; exact fun z => nomatch z), .inr ⟨o, h⟩⟩
  · exact .inr h
section
variable {K : PySem.W.Frag} {G G' : Addr → Prop} {H H' : Hp}
mutual
theorem Rep.keep (k : Keep G H H') : ∀ {d : D} {v : V}, Rep K G H d v → Rep K G H' d v
  | .non, _, h => h
  | .bl _, _, h => h
  | .int _, _, h => h
  | .str _, _, h => h
  | .tup l, _, h => by
    obtain ⟨a, vs, e, s, r⟩ := h
    exact ⟨a, vs, e, sqT_keep k s, Reps.keep k r⟩
  | .lst l, _, h => by
    obtain ⟨a, vs, e, g, s, r⟩ := h
    exact ⟨a, vs, e, g, k _ _ s (.inr g), Reps.keep k r⟩
  | .scr l, _, h => by
    obtain ⟨a, e, s⟩ := h
    exact ⟨a, e, sqG_keep k s⟩
theorem Reps.keep (k : Keep G H H') : ∀ {ds : List D} {vs : List V}, Reps K G H ds vs → Reps K G H' ds vs
  | [], _, h => h
  | d :: ds, _, h => by
    obtain ⟨v, r, e, h1, h2⟩ := h
    exact ⟨v, r, e, Rep.keep k h1, Reps.keep k h2⟩
end
mutual
theorem Rep.monoT (m : ∀ a, G a → H a ≠ none → G' a) : ∀ {d : D} {v : V}, Rep K G H d v → Rep K G' H d v
  | .non, _, h => h
  | .bl _, _, h => h
  | .int _, _, h => h
  | .str _, _, h => h
  | .tup l, _, h => by
    obtain ⟨a, vs, e, s, r⟩ := h
    exact ⟨a, vs, e, s, Reps.monoT m r⟩
  | .lst l, _, h => by
    obtain ⟨a, vs, e, g, s, r⟩ := h
    exact ⟨a, vs, e, m _ g (by rw [s]; exact fun z => nomatch z), s, Reps.monoT m r⟩
  | .scr l, _, h => by
    obtain ⟨a, e, s⟩ := h
    exact ⟨a, e, s.mono m⟩
theorem Reps.monoT (m : ∀ a, G a → H a ≠ none → G' a) : ∀ {ds : List D} {vs : List V}, Reps K G H ds vs → Reps K G' H ds vs
  | [], _, h => h
  | d :: ds, _, h => by
    obtain ⟨v, r, e, h1, h2⟩ := h
    exact ⟨v, r, e, Rep.monoT m h1, Reps.monoT m h2⟩
end
theorem Rep.mono (m : ∀ a, G a → G' a) {d : D} {v : V} (h : Rep K G H d v) : Rep K G' H d v := h.monoT fun a g _ => m a g
theorem Reps.mono (m : ∀ a, G a → G' a) {d : List D} {v : List V} (h : Reps K G H d v) : Reps K G' H d v := h.monoT fun a g _ => m a g
mutual
theorem Rep.flat : ∀ {d : D} {v : V}, d.flat = true → Rep K G H d v → Rep K G' H d v
  | .non, _, _, h => h
  | .bl _, _, _, h => h
  | .int _, _, _, h => h
  | .str _, _, _, h => h
  | .tup l, _, f, h => by
    obtain ⟨a, vs, e, s, r⟩ := h
    exact ⟨a, vs, e, s, Reps.flat (by simpa [D.flat] using f) r⟩
  | .lst l, _, f, h => by simp [D.flat] at f
  | .scr l, _, f, h => by simp [D.flat] at f
theorem Reps.flat : ∀ {ds : List D} {vs : List V}, flats ds = true → Reps K G H ds vs → Reps K G' H ds vs
  | [], _, _, h => h
  | d :: ds, _, f, h => by
    obtain ⟨v, r, e, h1, h2⟩ := h
    simp only [flats, Bool.and_eq_true] at f
    exact ⟨v, r, e, Rep.flat f.1 h1, Reps.flat f.2 h2⟩
end
theorem Reps.length : ∀ {ds : List D} {vs : List V}, Reps K G H ds vs → ds.length = vs.length
  | [], _, h => by subst h; rfl
  | d :: ds, _, h => by
    obtain ⟨v, r, e, h1, h2⟩ := h
    subst e
    simp [Reps.length h2]
theorem Reps.get : ∀ {ds : List D} {vs : List V} {i : Nat} {d : D}, Reps K G H ds vs → ds[i]? = some d → ∃ v, vs[i]? = some v ∧ Rep K G H d v
  | [], _, _, _, h, e => by simp at e
  | d :: ds, _, 0, _, h, e => by
    obtain ⟨v, r, q, h1, h2⟩ := h
    subst q
    simp at e; subst e
    exact ⟨v, rfl, h1⟩
  | d :: ds, _, i + 1, _, h, e => by
    obtain ⟨v, r, q, h1, h2⟩ := h
    subst q
    obtain ⟨w, q1, q2⟩ := Reps.get h2 (show ds[i]? = _ by simpa using e)
    exact ⟨w, by simpa using q1, q2⟩
theorem Reps.get' : ∀ {ds : List D} {vs : List V} {i : Nat} {v : V}, Reps K G H ds vs → vs[i]? = some v → ∃ d, ds[i]? = some d ∧ Rep K G H d v
  | [], _, _, _, h, e => by subst h; simp at e
  | d :: ds, _, 0, _, h, e => by
    obtain ⟨v, r, q, h1, h2⟩ := h
    subst q
    simp at e; subst e
    exact ⟨d, rfl, h1⟩
  | d :: ds, _, i + 1, _, h, e => by
    obtain ⟨v, r, q, h1, h2⟩ := h
    subst q
    obtain ⟨w, q1, q2⟩ := Reps.get' h2 (show r[i]? = _ by simpa using e)
    exact ⟨w, by simpa using q1, q2⟩
theorem Reps.append : ∀ {ds es : List D} {vs us : List V}, Reps K G H ds vs → Reps K G H es us → Reps K G H (ds ++ es) (vs ++ us)
  | [], _, _, _, h, q => by subst h; exact q
  | d :: ds, _, _, _, h, q => by
    obtain ⟨v, r, e, h1, h2⟩ := h
    subst e
    exact ⟨v, _, rfl, h1, Reps.append h2 q⟩
theorem Reps.one {d : D} {v : V} (h : Rep K G H d v) : Reps K G H [d] [v] := ⟨v, [], rfl, h, rfl⟩
theorem Reps.take : ∀ {ds : List D} {vs : List V} (n : Nat), Reps K G H ds vs → Reps K G H (ds.take n) (vs.take n)
  | _, _, 0, _ => by simp [Reps]
  | [], _, n + 1, h => by subst h; simp [Reps]
  | d :: ds, _, n + 1, h => by
    obtain ⟨v, r, e, h1, h2⟩ := h
    subst e
    exact ⟨v, _, rfl, h1, Reps.take n h2⟩
theorem Reps.drop : ∀ {ds : List D} {vs : List V} (n : Nat), Reps K G H ds vs → Reps K G H (ds.drop n) (vs.drop n)
  | _, _, 0, h => by simpa using h
  | [], _, n + 1, h => by subst h; simp [Reps]
  | d :: ds, _, n + 1, h => by
    obtain ⟨v, r, e, h1, h2⟩ := h
    subst e
    exact Reps.drop n h2
theorem Reps.set : ∀ {ds : List D} {vs : List V} {d : D} {v : V} (n : Nat), Reps K G H ds vs → Rep K G H d v → Reps K G H (ds.set n d) (vs.set n v)
  | [], _, _, _, _, h, _ => by subst h; simp [Reps]
  | d :: ds, _, _, _, 0, h, q => by
    obtain ⟨v, r, e, h1, h2⟩ := h
    subst e
    exact ⟨_, _, rfl, q, h2⟩
  | d :: ds, _, _, _, n + 1, h, q => by
    obtain ⟨v, r, e, h1, h2⟩ := h
    subst e
    exact ⟨v, _, rfl, h1, Reps.set n h2 q⟩
theorem Reps.cut {ds : List D} {vs : List V} (lo hi : Option Int) (h : Reps K G H ds vs) : Reps K G H (cutL ds lo hi) (cutV vs lo hi) := by
  unfold cutL cutV
  rw [h.length]
  exact (h.drop _).take _
theorem Reps.rep {ds : List D} {vs : List V} (h : Reps K G H ds vs) : ∀ n : Nat, Reps K G H (List.replicate n ds).flatten (List.replicate n vs).flatten
  | 0 => by simp [Reps]
  | n + 1 => by
    rw [List.replicate_succ, List.replicate_succ, List.flatten_cons, List.flatten_cons]
    exact h.append (h.rep n)
theorem Reps.ints : ∀ {ds : List D} {vs : List V} {ns : List Int}, Reps K G H ds vs → intsOf ds = some ns → vs = ns.map V.int
  | [], _, _, h, e => by
    subst h
    simp [allOf] at e
    subst e; rfl
  | d :: ds, _, ns, h, e => by
    obtain ⟨v, r, q, h1, h2⟩ := h
    subst q
    cases d <;> simp [allOf, intOf] at e
    rename_i i
    obtain ⟨xs, e1, e2⟩ := e
    subst e2
    have : v = .int i := h1
    subst this
    rw [Reps.ints h2 e1]; rfl
theorem Reps.bls : ∀ {ds : List D} {vs : List V} {ns : List Bool}, Reps K G H ds vs → blsOf ds = some ns → vs = ns.map V.bl
  | [], _, _, h, e => by
    subst h
    simp [allOf] at e
    subst e; rfl
  | d :: ds, _, ns, h, e => by
    obtain ⟨v, r, q, h1, h2⟩ := h
    subst q
    cases d <;> simp [allOf, blOf] at e
    rename_i i
    obtain ⟨xs, e1, e2⟩ := e
    subst e2
    have : v = .bl i := h1
    subst this
    rw [Reps.bls h2 e1]; rfl
theorem Reps.ofInts : ∀ (ns : List Int), Reps K G H (ns.map D.int) (ns.map V.int)
  | [] => rfl
  | n :: ns => ⟨.int n, _, rfl, rfl, Reps.ofInts ns⟩
theorem dpAll_ints (K : PySem.W.Frag) (H : Hp) : ∀ ns : List Int, DpAll K H (ns.map V.int) (ns.map PyData.int)
  | [] => .nil
  | n :: ns => .cons (.int n) (dpAll_ints K H ns)
mutual
theorem Rep.dp : ∀ {d : D} {v : V}, Rep K G H d v → Dp K H v d.py
  | .non, _, h => by cases h; exact .non
  | .bl b, _, h => by cases h; exact .bl b
  | .int i, _, h => by cases h; exact .int i
  | .str s, _, h => by cases h; exact .str s
  | .tup l, _, h => by
    obtain ⟨a, vs, e, s, r⟩ := h
    subst e
    exact .tup s (Reps.dp r)
  | .lst l, _, h => by
    obtain ⟨a, vs, e, g, s, r⟩ := h
    subst e
    exact .lst (SqL.of s) (Reps.dp r)
  | .scr l, _, h => by
    obtain ⟨a, e, s⟩ := h
    subst e
    exact .lst s.sql (dpAll_ints K H l)
theorem Reps.dp : ∀ {ds : List D} {vs : List V}, Reps K G H ds vs → DpAll K H vs (pys ds)
  | [], _, h => by subst h; exact .nil
  | d :: ds, _, h => by
    obtain ⟨v, r, e, h1, h2⟩ := h
    subst e
    exact .cons (Rep.dp h1) (Reps.dp h2)
end
end

/-! ### slots -/
def EnvR (K : PySem.W.Frag) (G : Addr → Prop) (H : Hp) (σ : L2.St) (ρ : Rho) : Prop :=
  σ.length = ρ.length ∧ ∀ (i : Nat) (d : D), ρ[i]? = some (some d) → ∃ v, σ[i]? = some (some v) ∧ Rep K G H d v
theorem EnvR.keep {K : PySem.W.Frag} {G : Addr → Prop} {H H' : Hp} {σ : L2.St} {ρ : Rho} (e : EnvR K G H σ ρ) (k : Keep G H H') : EnvR K G H' σ ρ :=
  ⟨e.1, fun i d h => let ⟨v, a, b⟩ := e.2 i d h; ⟨v, a, b.keep k⟩⟩
theorem EnvR.mono {K : PySem.W.Frag} {G G' : Addr → Prop} {H : Hp} {σ : L2.St} {ρ : Rho} (e : EnvR K G H σ ρ) (m : ∀ a, G a → G' a) : EnvR K G' H σ ρ :=
  ⟨e.1, fun i d h => let ⟨v, a, b⟩ := e.2 i d h; ⟨v, a, b.mono m⟩⟩
theorem EnvR.step {K : PySem.W.Frag} {G : Addr → Prop} {H H' : Hp} {σ : L2.St} {ρ : Rho} (e : EnvR K G H σ ρ) (s : Same H H') : EnvR K (Gx G H) H' σ ρ :=
  (e.keep (Keep.same s)).mono fun _ h => .inl h

/-- a new list -/
def Frs (d : D) (v : V) (H : Hp) : Prop := ∀ l, d = .lst l → ∀ a, v = .ref a → H a = none
/-- what is known of an expression's value -/
def Out (K : PySem.W.Frag) (G : Addr → Prop) (H : Hp) (fr : Bool) (d : D) (Q : VK) : Prop :=
  ∀ v H', Same H H' → Rep K (Gx G H) H' d v → (fr = true → Frs d v H) → Q v H'
def tD (K : PySem.W.Frag) (fr : Bool) (f : Rho → Option D) : TE := fun σ H Q => ∃ G ρ d, EnvR K G H σ ρ ∧ f ρ = some d ∧ Out K G H fr d Q
def tB (K : PySem.W.Frag) (f : Rho → Option Bool) : TT := fun σ H Q => ∃ G ρ b, EnvR K G H σ ρ ∧ f ρ = some b ∧ ∀ H', Same H H' → Q b H'
def tDs (K : PySem.W.Frag) (f : Rho → Option (List D)) : TA := fun σ H Q => ∃ G ρ ds, EnvR K G H σ ρ ∧ f ρ = some ds ∧ ∀ vs H', Same H H' → Reps K (Gx G H) H' ds vs → Q vs H'

theorem _root_.L2.PE.imp {X : Cx} {e : Expr} {t t' : TE} (h : PE X e t) (i : ∀ σ H Q, t' σ H Q → t σ H Q) : PE X e t' := ⟨fun pins s σ H Q I q => h.run pins s σ H Q I (i σ H Q q)⟩
theorem _root_.L2.PT.imp {X : Cx} {e : Expr} {t t' : TT} (h : PT X e t) (i : ∀ σ H Q, t' σ H Q → t σ H Q) : PT X e t' := ⟨fun pins s σ H Q I q => h.run pins s σ H Q I (i σ H Q q)⟩
theorem _root_.L2.PW.imp {X : Cx} {e : Expr} {t t' : TT} (h : PW X e t) (i : ∀ σ H Q, t' σ H Q → t σ H Q) : PW X e t' := ⟨fun w pins s σ H Q I q => h.run w pins s σ H Q I (i σ H Q q)⟩
theorem _root_.L2.PA.imp {X : Cx} {e : List Expr} {t t' : TA} (h : PA X e t) (i : ∀ σ H Q, t' σ H Q → t σ H Q) : PA X e t' := ⟨fun p pins s σ H Q I q => h.run p pins s σ H Q I (i σ H Q q)⟩
theorem _root_.L2.PS.imp {X : Cx} {e : Stmt} {t t' : TS} (h : PS X e t) (i : ∀ D σ H, t' D σ H → t D σ H) : PS X e t' := ⟨fun pins s σ H D I q => h.run pins s σ H D I (i D σ H q)⟩
theorem _root_.L2.PSs.imp {X : Cx} {e : List Stmt} {t t' : TS} (h : PSs X e t) (i : ∀ D σ H, t' D σ H → t D σ H) : PSs X e t' := ⟨fun pins s σ H D I q => h.run pins s σ H D I (i D σ H q)⟩
theorem _root_.L2.PI.imp {X : Cx} {tg e : Expr} {t t' : TI} (h : PI X tg e t) (i : ∀ σ H R, t' σ H R → t σ H R) : PI X tg e t' := ⟨fun pins s σ H R I q => h.run pins s σ H R I (i σ H R q)⟩
theorem _root_.L2.PI.or {X : Cx} {tg e : Expr} {t t' : TI} (h : PI X tg e t) (h' : PI X tg e t') : PI X tg e (fun σ H R => t σ H R ∨ t' σ H R) := ⟨fun pins s σ H R I q => q.elim (h.run pins s σ H R I) (h'.run pins s σ H R I)⟩
theorem _root_.L2.PE.or {X : Cx} {e : Expr} {t t' : TE} (h : PE X e t) (h' : PE X e t') : PE X e (fun σ H R => t σ H R ∨ t' σ H R) := ⟨fun pins s σ H R I q => q.elim (h.run pins s σ H R I) (h'.run pins s σ H R I)⟩

section
variable {K : PySem.W.Frag} {G : Addr → Prop} {H H1 H2 : Hp} {fr : Bool} {d : D} {Q : VK} {σ : L2.St} {ρ : Rho}
/-- behind a step the wish is a wish from the later heap -/
theorem Out.from_ (o : Out K G H fr d Q) (s : Same H H1) : Out K (Gx G H) H1 fr d Q := fun v H' s' r f =>
  o v H' (s.trans s') (r.mono fun _ h => Gx.same s h) fun e l hl a ha => s.free (f e l hl a ha)
theorem out_here (o : Out K G H fr d Q) {v : V} (r : Rep K G H d v) (f : fr = true → Frs d v H) : Q v H := o v H (Same.refl H) (r.mono fun _ h => .inl h) f
/-- one part -/
theorem tD_un {f : Rho → Option D} {fa : Bool} {Q1 : VK} (e : EnvR K G H σ ρ) {x : D} (hx : f ρ = some x)
    (k : ∀ v H1, Same H H1 → Rep K (Gx G H) H1 x v → EnvR K (Gx G H) H1 σ ρ → (fa = true → Frs x v H) → Q1 v H1) : tD K fa f σ H Q1 :=
  ⟨G, ρ, x, e, hx, fun v H1 s r fr => k v H1 s r (e.step s) fr⟩
theorem tDs_un {f : Rho → Option (List D)} {Q1 : List V → Hp → Prop} (e : EnvR K G H σ ρ) {x : List D} (hx : f ρ = some x)
    (k : ∀ v H1, Same H H1 → Reps K (Gx G H) H1 x v → EnvR K (Gx G H) H1 σ ρ → Q1 v H1) : tDs K f σ H Q1 :=
  ⟨G, ρ, x, e, hx, fun v H1 s r => k v H1 s r (e.step s)⟩
/-- a binary operation by values -/
def OpD (K : PySem.W.Frag) (fr : Bool) (r : R2) (op : D → D → Option D) : Prop := ∀ (G : Addr → Prop) (H : Hp) (x y : V) (dx dy dz : D) (Q : VK), Rep K G H dx x → Rep K G H dy y → op dx dy = some dz → Out K G H fr dz Q → r x y H Q
theorem tD_bin {fa fb : Bool} {f g : Rho → Option D} {r : R2} {op : D → D → Option D} (ho : OpD K fr r op)
    (h : tD K fr (fun ρ => (f ρ).bind fun x => (g ρ).bind fun y => op x y) σ H Q) : tOp r (tD K fa f) (tD K fb g) σ H Q := by
  obtain ⟨G, ρ, d, e, hd, o⟩ := h
  obtain ⟨x, hx, hd⟩ := Option.bind_eq_some_iff.mp hd
  obtain ⟨y, hy, hd⟩ := Option.bind_eq_some_iff.mp hd
  refine tD_un e hx fun v H1 s1 r1 e1 _ => tD_un e1 hy fun w H2 s2 r2 e2 _ => ?_
  refine ho (Gx (Gx G H) H1) H2 v w x y d Q ((r1.keep (Keep.same s2)).mono fun _ h => .inl h) r2 hd ?_
  exact (o.from_ s1).from_ s2
/-- a unary one -/
theorem tD_un1 {fa : Bool} {f : Rho → Option D} {r : V → Hp → VK → Prop} {op : D → Option D}
    (ho : ∀ (G : Addr → Prop) (H : Hp) (x : V) (dx dz : D) (Q : VK), Rep K G H dx x → op dx = some dz → Out K G H fr dz Q → r x H Q)
    (h : tD K fr (fun ρ => (f ρ).bind op) σ H Q) : tUn r (tD K fa f) σ H Q := by
  obtain ⟨G, ρ, d, e, hd, o⟩ := h
  obtain ⟨x, hx, hd⟩ := Option.bind_eq_some_iff.mp hd
  exact tD_un e hx fun v H1 s1 r1 e1 _ => ho (Gx G H) H1 v x d Q r1 hd (o.from_ s1)
end
theorem grd_some {α : Type} {c : Prop} [Decidable c] {x y : α} (h : grd c x = some y) : c ∧ x = y := by
  unfold grd at h
  split at h
  · exact ⟨by assumption, Option.some.inj h⟩
  · cases h
end Dl
set_option Elab.async false
set_option linter.all false
set_option maxRecDepth 100000
set_option maxHeartbeats 4000000
/-! A tuple times none, times one. -/
namespace Dl
open PySem PySem.Spec PyProof.Rows L2
/-- .. with the ways that «mul» goes for a count below two -/
theorem tup_mul1 (l : Addr) (items : Array Value) (n : Nat) (dd : Option Addr) (sl : Array (Option Value)) (x : Int) (u : Tok) (c0 : (decide (x < -(2 ^ 63)) || decide (x ≥ 2 ^ 63)) = false) (c1 : (items.isEmpty || x == 1) = true) :
    Meets (Builtin.«tuple.__mul__» ⟨[.ref l, .int x u], []⟩) (fun _ R s => s.heap.get? l = some { cls := .type "tuple", dict := dd, data := .seq items n, slots := sl } ∧ R (.ok (.ret (Value.ref l))) s) :=
  .of_wp fun prog w A R s h => by
    obtain ⟨hp, g, d, tk, os⟩ := s
    obtain ⟨hl, h⟩ := h
    have f1 := AutoSeq1.idx_int
    wp_walk using wpAny_loadPart' hl
    repeat (first
      | (refine wpAny_ite_false (decide_eq_false (by rw [c0]; exact Bool.false_ne_true)) ?_; wp_walk using wpAny_loadPart' hl)
      | (refine wpAny_ite_true (decide_eq_true c1) ?_; wp_walk using wpAny_loadPart' hl))
    exact ⟨_, rfl, h⟩
theorem tup_mul0 (l : Addr) (items : Array Value) (n : Nat) (dd : Option Addr) (sl : Array (Option Value)) (x : Int) (u : Tok) (c0 : (decide (x < -(2 ^ 63)) || decide (x ≥ 2 ^ 63)) = false) (c1 : (items.isEmpty || x == 1) = false) (c2 : (decide (x ≤ 0) || items.isEmpty) = true) :
    Meets (Builtin.«tuple.__mul__» ⟨[.ref l, .int x u], []⟩) (fun _ R s => s.heap.get? l = some { cls := .type "tuple", dict := dd, data := .seq items n, slots := sl } ∧
      R (.ok (.ret (Value.ref s.heap.objs.size))) { s with heap := s.heap.push { cls := Value.type "tuple", data := Data.seq #[] }, toks := s.toks }) :=
  .of_wp fun prog w A R s h => by
    obtain ⟨hp, g, d, tk, os⟩ := s
    obtain ⟨hl, h⟩ := h
    have f1 := AutoSeq1.idx_int
    wp_walk using wpAny_loadPart' hl
    repeat (first
      | (refine wpAny_ite_false (decide_eq_false (by rw [c0]; exact Bool.false_ne_true)) ?_; wp_walk using wpAny_loadPart' hl)
      | (refine wpAny_ite_false (decide_eq_false (by rw [c1]; exact Bool.false_ne_true)) ?_; wp_walk using wpAny_loadPart' hl)
      | (refine wpAny_ite_true (decide_eq_true c2) ?_; wp_walk using wpAny_loadPart' hl))
    exact ⟨_, rfl, h⟩
def rTupMul (K : PySem.W.Frag) : R2 := fun x y H Q => ∃ l k xs, x = .ref l ∧ y = .int k ∧ SqT K H l xs ∧ xs ≠ [] ∧ -1000 ≤ k ∧ k ≤ 1000 ∧ xs.length ≤ 1000 ∧ (k = 1 → Q (.ref l) H) ∧ (k ≠ 1 → ∀ p, H p = none → Q (.ref p) (upd H p (.tup (List.replicate k.toNat xs).flatten)))
theorem op_tupMul {X : Cx} : OpR X (binaryOp .Mult) (rTupMul X.K) := by
  intro pins s σ H x y v u Q I rx ry h
  obtain ⟨l, k, xs, rfl, rfl, hT, hne, h1, h2, hz, q1, q⟩ := h
  by_cases hk2 : 2 ≤ k
  · exact op_repT pins s σ H _ _ v u Q I rx ry ⟨l, k, xs, rfl, rfl, hT, hne, hk2, h2, hz, q (by omega)⟩
  cases rx
  obtain ⟨t, rfl⟩ := ry
  obtain ⟨its, r, ⟨⟨cls, dd, data, sl⟩, ho, hc, n, hd⟩, hs⟩ := I.tuple hT
  simp only at hc hd
  subst hc hd
  have hle : its.length = xs.length := r.length.symm
  have hn : its ≠ [] := fun e => hne (by
    rw [e] at hle
    exact List.eq_nil_of_length_eq_zero hle.symm)
  have hi : its.toArray.isEmpty = false := by
    cases its with
    | nil => exact absurd rfl hn
    | cons a b => rfl
  have c0 : (decide (k < -(2 ^ 63)) || decide (k ≥ 2 ^ 63)) = false := by
    rw [decide_eq_false (by omega), decide_eq_false (by omega)] <;> rfl
  by_cases hk1 : k = 1
  · have c1 : (its.toArray.isEmpty || k == 1) = true := by rw [hk1]; simp
    refine wpAny_binaryOp_repeat_ref (T := "tuple") (U := "int") (by decide) ⟨_, ho, rfl⟩ (fun s' => typeIs_int s' k t) noFill_tuple_mul F.fills_int_mul F.slot_int_rmul repeat_tuple F.slot_int_index.lookup
      (call_meets F.slot_int_rmul (typeIs_int s k t) F.entry_int_rmul (F.args_int_rmul_2 _ _) (int_rmul_tuple k t l its.toArray n dd sl)
        ⟨ho, rfl, ⟨_, ho, rfl⟩, call_meets F.slot_tuple_mul ⟨_, ho, rfl⟩ F.entry_tuple_mul (F.args_tuple_mul_2 _ _) (tup_mul1 l its.toArray n dd sl k t c0 c1) ⟨ho, ?_⟩⟩)
    exact ⟨.ref l, H, I, rfl, q1 hk1⟩
  · have c1 : (its.toArray.isEmpty || k == 1) = false := by
      rw [hi, Bool.false_or]
      exact beq_eq_false_iff_ne.mpr hk1
    have c2 : (decide (k ≤ 0) || its.toArray.isEmpty) = true := by
      rw [decide_eq_true (by omega)]; rfl
    refine wpAny_binaryOp_repeat_ref (T := "tuple") (U := "int") (by decide) ⟨_, ho, rfl⟩ (fun s' => typeIs_int s' k t) noFill_tuple_mul F.fills_int_mul F.slot_int_rmul repeat_tuple F.slot_int_index.lookup
      (call_meets F.slot_int_rmul (typeIs_int s k t) F.entry_int_rmul (F.args_int_rmul_2 _ _) (int_rmul_tuple k t l its.toArray n dd sl)
        ⟨ho, rfl, ⟨_, ho, rfl⟩, call_meets F.slot_tuple_mul ⟨_, ho, rfl⟩ F.entry_tuple_mul (F.args_tuple_mul_2 _ _) (tup_mul0 l its.toArray n dd sl k t c0 c1 c2) ⟨ho, ?_⟩⟩)
    have ek : k.toNat = 0 := by omega
    rw [ek] at q
    refine ⟨.ref s.heap.objs.size, _, I.laid (t' := s.toks) (o := .tup []) (fun b ob q => Heap.get?_push_of_some _ q) (Nat.le_refl _) ?_, rfl, q hk1 _ (I.hok.fresh (Nat.le_refl _))⟩
    exact ⟨by rw [sizeLine_eq]; exact Nat.zero_le _, [], .nil, IsTup.new _ _⟩
end Dl
set_option Elab.async false
set_option linter.all false
set_option maxRecDepth 100000
set_option maxHeartbeats 4000000
/-! Operations on data are the machine's. -/
namespace Dl
open PySem PySem.Spec PyProof.Rows L2
section
variable {X : Cx}
theorem same_new {H : Hp} {p : Addr} {o : HO} (h : H p = none) : Same H (upd H p o) := fun b x e => by
  rw [upd_ne (ne_of_none e h)]
  exact e
/-- a new object that bears data -/
theorem Reps.new {K : PySem.W.Frag} {G : Addr → Prop} {H : Hp} {ds : List D} {vs : List V} {p : Addr} {o : HO} (r : Reps K G H ds vs) (hp : H p = none) : Reps K (Gx G H) (upd H p o) ds vs :=
  (r.keep (Keep.same (same_new hp))).mono fun _ h => .inl h
theorem out_lst {K : PySem.W.Frag} {G : Addr → Prop} {H : Hp} {ds : List D} {vs : List V} {fr : Bool} {Q : VK} (r : Reps K G H ds vs) (o : Out K G H fr (.lst ds) Q) : ∀ p, H p = none → Q (.ref p) (upd H p (.lst vs)) := fun p hp =>
  o _ _ (same_new hp) ⟨p, vs, rfl, .inr hp, upd_same, r.new hp⟩ fun _ l hl a ha => by cases ha; exact hp
theorem out_tup {K : PySem.W.Frag} {G : Addr → Prop} {H : Hp} {ds : List D} {vs : List V} {fr : Bool} {Q : VK} (r : Reps K G H ds vs) (o : Out K G H fr (.tup ds) Q) : ∀ p, H p = none → Q (.ref p) (upd H p (.tup vs)) := fun p hp =>
  o _ _ (same_new hp) ⟨p, vs, rfl, .inl (.inl upd_same), r.new hp⟩ fun _ l hl => by cases hl
theorem out_sc {K : PySem.W.Frag} {G : Addr → Prop} {H : Hp} {fr : Bool} {d : D} {v : V} {Q : VK} (o : Out K G H fr d Q) (r : Rep K G H d v) (hd : ∀ l, d ≠ .lst l) : Q v H := out_here o r fun _ l hl => absurd hl (hd l)
theorem out_int {K : PySem.W.Frag} {G : Addr → Prop} {H : Hp} {fr : Bool} {i : Int} {Q : VK} (o : Out K G H fr (.int i) Q) : Q (.int i) H := out_sc o rfl fun _ h => by cases h
theorem out_bl {K : PySem.W.Frag} {G : Addr → Prop} {H : Hp} {fr : Bool} {i : Bool} {Q : VK} (o : Out K G H fr (.bl i) Q) : Q (.bl i) H := out_sc o rfl fun _ h => by cases h
theorem out_str {K : PySem.W.Frag} {G : Addr → Prop} {H : Hp} {fr : Bool} {i : Str} {Q : VK} (o : Out K G H fr (.str i) Q) : Q (.str i) H := out_sc o rfl fun _ h => by cases h

/-! ### arithmetic -/
abbrev rAdd' (K : PySem.W.Frag) : R2 := fun x y H Q => rI0 (fun i j => .int (i + j)) x y H Q ∨ (∃ i j, x = .str i ∧ y = .str j ∧ i.length + j.length ≤ sizeLine ∧ Q (.str (i ++ j)) H) ∨ rCatA K x y H Q ∨ rCat x y H Q
theorem op_addD : OpR X (binaryOp .Add) (rAdd' X.K) := op_add.or (op_add_str.or (op_catA.or op_cat))
theorem ok_add {K : PySem.W.Frag} : OpD K true (rAdd' K) addD := by
  intro G H x y dx dy dz Q rx ry e o
  cases dx <;> cases dy <;> simp only [addD, reduceCtorEq] at e
  · cases e
    cases rx; cases ry
    exact .inl ⟨_, _, rfl, rfl, out_int o⟩
  · obtain ⟨hc, rfl⟩ := grd_some e
    cases rx; cases ry
    exact .inr (.inl ⟨_, _, rfl, rfl, hc, out_str o⟩)
  · obtain ⟨hc, rfl⟩ := grd_some e
    obtain ⟨a, vs, rfl, sa, ra⟩ := rx
    obtain ⟨b, us, rfl, sb, rb⟩ := ry
    refine .inr (.inr (.inl ⟨a, b, vs, us, rfl, rfl, sa, sb, by rw [← ra.length, ← rb.length]; exact hc, fun z => ?_, fun z z' => ?_, fun _ _ => ?_⟩))
    · subst z
      have : (_ : List D) = [] := List.eq_nil_of_length_eq_zero (by rw [ra.length]; rfl)
      subst this
      exact out_sc o ⟨b, us, rfl, sb, rb⟩ fun _ h => by cases h
    · subst z'
      have : (_ : List D) = [] := List.eq_nil_of_length_eq_zero (by rw [rb.length]; rfl)
      subst this
      exact out_sc o ⟨a, vs, rfl, sa, by rw [List.append_nil]; exact ra⟩ fun _ h => by cases h
    · exact out_tup (ra.append rb) o
  · obtain ⟨hc, rfl⟩ := grd_some e
    obtain ⟨a, vs, rfl, ga, sa, ra⟩ := rx
    obtain ⟨b, us, rfl, gb, sb, rb⟩ := ry
    exact .inr (.inr (.inr ⟨a, b, vs, us, rfl, rfl, sa, sb, by rw [← ra.length, ← rb.length]; exact hc, out_lst (ra.append rb) o⟩))
theorem ok_sub {K : PySem.W.Frag} : OpD K true (rI0 fun i j => .int (i - j)) subD := by
  intro G H x y dx dy dz Q rx ry e o
  cases dx <;> cases dy <;> simp only [subD, reduceCtorEq] at e
  cases e
  cases rx; cases ry
  exact ⟨_, _, rfl, rfl, out_int o⟩
abbrev rMul' (K : PySem.W.Frag) : R2 := fun x y H Q => rI CMul (fun i j => .int (i * j)) x y H Q ∨ rTupMul K x y H Q ∨ rRep x y H Q
theorem op_mulD : OpR X (binaryOp .Mult) (rMul' X.K) := op_mul.or (op_tupMul.or op_rep)
theorem ok_mul {K : PySem.W.Frag} : OpD K true (rMul' K) mulD := by
  intro G H x y dx dy dz Q rx ry e o
  cases dx <;> cases dy <;> simp only [mulD, reduceCtorEq] at e
  · obtain ⟨hc, rfl⟩ := grd_some e
    cases rx; cases ry
    exact .inl ⟨_, _, rfl, rfl, hc, out_int o⟩
  · obtain ⟨hc, rfl⟩ := grd_some e
    obtain ⟨a, vs, rfl, sa, ra⟩ := rx
    cases ry
    have hl := ra.length
    refine .inr (.inl ⟨a, _, vs, rfl, rfl, sa, fun z => ?_, hc.2.2.1, hc.2.2.2, by omega, fun z => ?_, fun _ => out_tup (ra.rep _) o⟩)
    · subst z
      have : (_ : List D) = [] := List.eq_nil_of_length_eq_zero hl
      subst this
      exact absurd hc.2.1 (by simp)
    · subst z
      exact out_sc o ⟨a, vs, rfl, sa, by simpa using ra⟩ fun _ h => by cases h
  · obtain ⟨hc, rfl⟩ := grd_some e
    obtain ⟨a, vs, rfl, ga, sa, ra⟩ := rx
    cases ry
    refine .inr (.inr ⟨a, _, vs, rfl, rfl, sa, by omega, by omega, by rw [← ra.length]; exact hc.2.2, out_lst (ra.rep _) o⟩)
theorem ok_fdiv {K : PySem.W.Frag} : OpD K true (rI CDivN fun i j => .int (i.fdiv j)) fdivD := by
  intro G H x y dx dy dz Q rx ry e o
  cases dx <;> cases dy <;> simp only [fdivD, reduceCtorEq] at e
  obtain ⟨hc, rfl⟩ := grd_some e
  cases rx; cases ry
  exact ⟨_, _, rfl, rfl, hc, out_int o⟩
theorem ok_mod {K : PySem.W.Frag} : OpD K true (rI (fun _ j => j ≠ 0) fun i j => .int (i.fmod j)) modD := by
  intro G H x y dx dy dz Q rx ry e o
  cases dx <;> cases dy <;> simp only [modD, reduceCtorEq] at e
  obtain ⟨hc, rfl⟩ := grd_some e
  cases rx; cases ry
  exact ⟨_, _, rfl, rfl, hc, out_int o⟩
theorem ok_pow {K : PySem.W.Frag} : OpD K true (rI CPow fun i j => .int (i ^ j.toNat)) powD := by
  intro G H x y dx dy dz Q rx ry e o
  cases dx <;> cases dy <;> simp only [powD, reduceCtorEq] at e
  obtain ⟨hc, rfl⟩ := grd_some e
  cases rx; cases ry
  exact ⟨_, _, rfl, rfl, hc, out_int o⟩
def boOp : BO → Operator
  | .add => .Add
  | .sub => .Sub
  | .mul => .Mult
  | .fdiv => .FloorDiv
  | .mod => .Mod
  | .pow => .Pow
theorem op_bin (o : BO) : ∃ r, OpR X (binaryOp (boOp o)) r ∧ OpD X.K true r (binD o) := by
  cases o
  · exact ⟨_, op_addD, ok_add⟩
  · exact ⟨_, op_sub, ok_sub⟩
  · exact ⟨_, op_mulD, ok_mul⟩
  · exact ⟨_, op_fdivN, ok_fdiv⟩
  · exact ⟨_, op_modN, ok_mod⟩
  · exact ⟨_, op_pow, ok_pow⟩

/-! ### comparisons -/
/-- a comparison by values: the heap stays -/
def CmD (K : PySem.W.Frag) (r : R2) (op : D → D → Option Bool) : Prop := ∀ (G : Addr → Prop) (H : Hp) (x y : V) (dx dy : D) (k : Bool) (Q : VK), Rep K G H dx x → Rep K G H dy y → op dx dy = some k → Q (.bl k) H → r x y H Q
theorem CmD.op {K : PySem.W.Frag} {r : R2} {op : D → D → Option Bool} (h : CmD K r op) : OpD K true r (fun x y => (op x y).map .bl) := fun G H x y dx dy dz Q rx ry e o => by
  obtain ⟨k, e1, rfl⟩ := Option.map_eq_some_iff.mp e
  exact h G H x y dx dy k Q rx ry e1 (out_bl o)
theorem pys_map : ∀ l : List D, pys l = l.map D.py
  | [] => rfl
  | d :: ds => by rw [pys, pys_map ds]; rfl
theorem plain_ints : ∀ l : List Int, PyData.plainAll (l.map PyData.int) = true
  | [] => rfl
  | n :: l => by simp [PyData.plainAll, PyData.plain, plain_ints l]
mutual
theorem py_plain : ∀ d : D, d.py.plain = true
  | .non => rfl
  | .bl _ => rfl
  | .int _ => rfl
  | .str _ => rfl
  | .tup l => by simp only [D.py, PyData.plain]; exact pys_plain l
  | .lst l => by simp only [D.py, PyData.plain]; exact pys_plain l
  | .scr l => by simp only [D.py, PyData.plain]; exact plain_ints l
theorem pys_plain : ∀ l : List D, PyData.plainAll (pys l) = true
  | [] => rfl
  | d :: ds => by simp [pys, PyData.plainAll, py_plain d, pys_plain ds]
end
def rEqP (K : PySem.W.Frag) (neg : Bool) : R2 := fun x y H Q => ∃ d e, Dp K H x d ∧ Dp K H y e ∧ d.plain = true ∧ e.plain = true ∧ d.depth ≤ 64 ∧ Q (.bl (if neg then !(PyData.eqv d e) else PyData.eqv d e)) H
theorem op_eqP (hu : X.A.units + 64 < cLine) : OpR X (compareOp .Eq) (rEqP X.K false) := by
  intro pins s σ H x y v u Q I rx ry h
  obtain ⟨d, e, hd, he, sd, se, hl, q⟩ := h
  obtain ⟨as, r1⟩ := Dp.reads I d x v hd rx
  obtain ⟨bs, r2⟩ := Dp.reads I e y u he ry
  have h2 : min d.depth e.depth ≤ d.depth := Nat.min_le_left _ _
  exact SeqAt.eq_plain r1 r2 sd se (by omega) ⟨.bl _, H, I, rfl, q⟩
theorem op_neP (hu : X.A.units + 64 < cLine) : OpR X (compareOp .NotEq) (rEqP X.K true) := by
  intro pins s σ H x y v u Q I rx ry h
  obtain ⟨d, e, hd, he, sd, se, hl, q⟩ := h
  obtain ⟨as, r1⟩ := Dp.reads I d x v hd rx
  obtain ⟨bs, r2⟩ := Dp.reads I e y u he ry
  have h2 : min d.depth e.depth ≤ d.depth := Nat.min_le_left _ _
  exact SeqAt.ne_plain r1 r2 sd se (by omega) ⟨.bl _, H, I, rfl, q⟩
theorem cm_eq {K : PySem.W.Frag} : CmD K (rEqP K false) eqD := fun G H x y dx dy k Q rx ry e q => by
  obtain ⟨hc, rfl⟩ := grd_some e
  exact ⟨_, _, rx.dp, ry.dp, py_plain _, py_plain _, hc.1, q⟩
theorem cm_ne {K : PySem.W.Frag} : CmD K (rEqP K true) (fun x y => (eqD x y).map (!·)) := fun G H x y dx dy k Q rx ry e q => by
  obtain ⟨k', e2, rfl⟩ := Option.map_eq_some_iff.mp e
  obtain ⟨hc, rfl⟩ := grd_some e2
  exact ⟨_, _, rx.dp, ry.dp, py_plain _, py_plain _, hc.1, q⟩
abbrev rLt' (K : PySem.W.Frag) : R2 := fun x y H Q => rI0 (fun i j => .bl (decide (i < j))) x y H Q ∨ (∃ i j, x = .str i ∧ y = .str j ∧ Q (.bl (decide (i.cps.toList < j.cps.toList))) H) ∨ rLtT K x y H Q
theorem op_ltD (hu : X.A.units < cLine) : OpR X (compareOp .Lt) (rLt' X.K) := op_lt.or (op_lt_str.or (op_ltT hu))
theorem cm_lt {K : PySem.W.Frag} : CmD K (rLt' K) ltD := fun G H x y dx dy k Q rx ry e q => by
  cases dx <;> cases dy <;> simp only [ltD, reduceCtorEq] at e
  · cases e
    cases rx; cases ry
    exact .inl ⟨_, _, rfl, rfl, q⟩
  · cases e
    cases rx; cases ry
    exact .inr (.inl ⟨_, _, rfl, rfl, q⟩)
  · obtain ⟨ns, e1, e⟩ := Option.bind_eq_some_iff.mp e
    obtain ⟨ms, e2, rfl⟩ := Option.map_eq_some_iff.mp e
    obtain ⟨a, vs, rfl, sa, ra⟩ := rx
    obtain ⟨b, us, rfl, sb, rb⟩ := ry
    have h1 := ra.ints e1
    have h2 := rb.ints e2
    subst h1 h2
    exact .inr (.inr ⟨a, b, ns, ms, rfl, rfl, sa, sb, q⟩)
theorem cm_le {K : PySem.W.Frag} : CmD K (rI0 fun i j => .bl (decide (i ≤ j))) leD := fun G H x y dx dy k Q rx ry e q => by
  cases dx <;> cases dy <;> simp only [leD, reduceCtorEq] at e
  cases e
  cases rx; cases ry
  exact ⟨_, _, rfl, rfl, q⟩
theorem cm_gt {K : PySem.W.Frag} : CmD K (rI0 fun i j => .bl (decide (j < i))) (cmpD .gt) := fun G H x y dx dy k Q rx ry e q => by
  cases dx <;> cases dy <;> simp only [cmpD, reduceCtorEq] at e
  cases e
  cases rx; cases ry
  exact ⟨_, _, rfl, rfl, q⟩
theorem cm_ge {K : PySem.W.Frag} : CmD K (rI0 fun i j => .bl (decide (j ≤ i))) (cmpD .ge) := fun G H x y dx dy k Q rx ry e q => by
  cases dx <;> cases dy <;> simp only [cmpD, reduceCtorEq] at e
  cases e
  cases rx; cases ry
  exact ⟨_, _, rfl, rfl, q⟩
/-! in -/
def rInT (K : PySem.W.Frag) (neg : Bool) : R2 := fun x y H Q => ∃ d e ds, Dp K H x d ∧ Dp K H y e ∧ (e = .list ds ∨ e = .tuple ds) ∧ d.plain = true ∧ PyData.plainAll ds = true ∧ d.depth ≤ 64 ∧ Q (.bl (if neg then !(ds.any fun z => PyData.eqv z d) else ds.any fun z => PyData.eqv z d)) H
theorem room_in {d : PyData} {n : Nat} {A : Around} (sd : d.depth ≤ 64) (hu : A.units + 65 < cLine) : A.units + 1 + min n d.depth < cLine := by
  have h2 : min n d.depth ≤ d.depth := Nat.min_le_right _ _
  omega
theorem op_inT (hu : X.A.units + 65 < cLine) : OpR X (compareOp .In) (rInT X.K false) := by
  intro pins s σ H x y v u Q I rx ry h
  obtain ⟨d, e, ds, hd, he, ee, sd, se, hl, q⟩ := h
  obtain ⟨as, r1⟩ := Dp.reads I d x v hd rx
  obtain ⟨bs, r2⟩ := Dp.reads I e y u he ry
  have hq : EP X pins σ Q (Value.bool (ds.any fun z => PyData.eqv z d)) s := ⟨.bl _, H, I, rfl, q⟩
  rcases ee with rfl | rfl
  · exact SeqAt.in_list_data r2 r1 se sd (room_in hl hu) hq
  · exact SeqAt.in_tuple_data r2 r1 se sd (room_in hl hu) hq
theorem op_ninT (hu : X.A.units + 65 < cLine) : OpR X (compareOp .NotIn) (rInT X.K true) := by
  intro pins s σ H x y v u Q I rx ry h
  obtain ⟨d, e, ds, hd, he, ee, sd, se, hl, q⟩ := h
  obtain ⟨as, r1⟩ := Dp.reads I d x v hd rx
  obtain ⟨bs, r2⟩ := Dp.reads I e y u he ry
  have hq : EP X pins σ Q (Value.bool (!(ds.any fun z => PyData.eqv z d))) s := ⟨.bl _, H, I, rfl, q⟩
  rcases ee with rfl | rfl
  · exact SeqAt.notIn_list_data r2 r1 se sd (room_in hl hu) hq
  · exact SeqAt.notIn_tuple_data r2 r1 se sd (room_in hl hu) hq
theorem pys_any (p : PyData → Bool) (l : List D) : (pys l).any p = l.any fun z => p z.py := by
  rw [pys_map, List.any_map]; rfl
theorem inD_some {dx dy : D} {k : Bool} (e : inD dx dy = some k) : ∃ ds, (dy.py = .list ds ∨ dy.py = .tuple ds) ∧ dx.py.depth ≤ 64 ∧ PyData.plainAll ds = true ∧ (ds.any fun z => PyData.eqv z dx.py) = k := by
  unfold inD at e
  obtain ⟨l, e1, e⟩ := Option.bind_eq_some_iff.mp e
  obtain ⟨hc, rfl⟩ := grd_some e
  cases dy <;> simp only [itemsD, reduceCtorEq] at e1
  · cases e1
    exact ⟨pys l, .inr rfl, hc.1, pys_plain _, pys_any _ _⟩
  · cases e1
    exact ⟨pys l, .inl rfl, hc.1, pys_plain _, pys_any _ _⟩
theorem cm_in {K : PySem.W.Frag} : CmD K (rInT K false) inD := fun G H x y dx dy k Q rx ry e q => by
  obtain ⟨ds, e1, s1, s2, rfl⟩ := inD_some e
  exact ⟨_, _, ds, rx.dp, ry.dp, e1, py_plain _, s2, s1, q⟩
theorem cm_nin {K : PySem.W.Frag} : CmD K (rInT K true) (fun x y => (inD x y).map (!·)) := fun G H x y dx dy k Q rx ry e q => by
  obtain ⟨k', e2, rfl⟩ := Option.map_eq_some_iff.mp e
  obtain ⟨ds, e1, s1, s2, rfl⟩ := inD_some e2
  exact ⟨_, _, ds, rx.dp, ry.dp, e1, py_plain _, s2, s1, q⟩
def coOp : CO → CmpOp
  | .eq => .Eq
  | .ne => .NotEq
  | .lt => .Lt
  | .le => .LtE
  | .gt => .Gt
  | .ge => .GtE
  | .inn => .In
  | .nin => .NotIn
theorem op_cmp (hu : X.A.units + 65 < cLine) (o : CO) : ∃ r, OpR X (compareOp (coOp o)) r ∧ CmD X.K r (cmpD o) := by
  cases o
  · exact ⟨_, op_eqP (by omega), cm_eq⟩
  · exact ⟨_, op_neP (by omega), cm_ne⟩
  · exact ⟨_, op_ltD (by omega), cm_lt⟩
  · exact ⟨_, op_le, cm_le⟩
  · exact ⟨_, op_gt, cm_gt⟩
  · exact ⟨_, op_ge, cm_ge⟩
  · exact ⟨_, op_inT hu, cm_in⟩
  · exact ⟨_, op_ninT hu, cm_nin⟩

/-! ### truth -/
theorem empty_of {α β : Type} {l : List α} {m : List β} (h : l.length = m.length) : l.isEmpty = m.isEmpty := by
  cases l <;> cases m <;> first | rfl | (simp at h)
theorem tru_of {K : PySem.W.Frag} {G : Addr → Prop} {H : Hp} {d : D} {v : V} {k : Bool} (r : Rep K G H d v) (e : truth d = some k) : TruV K v H k := by
  cases d <;> simp only [truth] at e
  · cases e; cases r; rfl
  · cases e; cases r; rfl
  · cases e; cases r; rfl
  · obtain ⟨hc, rfl⟩ := grd_some e
    cases r
    exact ⟨hc, rfl⟩
  · cases e
    obtain ⟨a, vs, rfl, s, rr⟩ := r
    exact .inr (.inl ⟨vs, s, by rw [empty_of rr.length]⟩)
  · cases e
    obtain ⟨a, vs, rfl, g, s, rr⟩ := r
    exact .inl ⟨vs, SqL.of s, by rw [empty_of rr.length]⟩
  · cases e
    obtain ⟨a, rfl, s⟩ := r
    refine .inl ⟨_, s.sql, ?_⟩
    rename_i l
    cases l <;> rfl

/-! ### subscripts -/
theorem atI_reps {K : PySem.W.Frag} {G : Addr → Prop} {H : Hp} {ds : List D} {vs : List V} {i : Int} {d : D} (r : Reps K G H ds vs) (e : atI ds i = some d) : ∃ v, atI vs i = some v ∧ Rep K G H d v := by
  unfold atI at e ⊢
  obtain ⟨j, e1, e2⟩ := Option.bind_eq_some_iff.mp e
  rw [← r.length, e1]
  exact r.get e2
theorem atI_ints {ns : List Int} {i z : Int} (e : atI ns i = some z) : atI (ns.map V.int) i = some (.int z) := by
  unfold atI at e ⊢
  obtain ⟨j, e1, e2⟩ := Option.bind_eq_some_iff.mp e
  rw [List.length_map, e1]
  simp [e2]
theorem ok_idx {K : PySem.W.Frag} : OpD K false (rIx K) idxD := by
  intro G H x y dx dy dz Q rx ry e o
  cases dx <;> cases dy <;> simp only [idxD, reduceCtorEq] at e
  · split at e
    · rename_i hz
      obtain ⟨c, e1, rfl⟩ := Option.map_eq_some_iff.mp e
      cases rx; cases ry
      exact .inr (.inr ⟨_, _, c, rfl, rfl, hz, e1, out_str o⟩)
    · cases e
  · obtain ⟨a, vs, rfl, s, rr⟩ := rx
    cases ry
    obtain ⟨v, e1, rv⟩ := atI_reps rr e
    exact .inr (.inl ⟨a, vs, _, v, rfl, rfl, s, e1, out_here o rv fun h => by cases h⟩)
  · obtain ⟨a, vs, rfl, g, s, rr⟩ := rx
    cases ry
    obtain ⟨v, e1, rv⟩ := atI_reps rr e
    exact .inl ⟨a, vs, _, v, rfl, rfl, SqL.of s, e1, out_here o rv fun h => by cases h⟩
  · obtain ⟨a, rfl, s⟩ := rx
    cases ry
    obtain ⟨z, e1, rfl⟩ := Option.map_eq_some_iff.mp e
    exact .inl ⟨a, _, _, _, rfl, rfl, s.sql, atI_ints e1, out_int o⟩
/-- a slice, by values -/
theorem ok_slice {K : PySem.W.Frag} {G : Addr → Prop} {H : Hp} {x : V} {dx dz : D} {lo hi : Option Int} {Q : VK} (rx : Rep K G H dx x) (e : sliceD dx lo hi = some dz) (o : Out K G H true dz Q) : rSlA K x lo hi H Q ∨ rSlL K x lo hi H Q := by
  cases dx <;> simp only [sliceD, reduceCtorEq] at e
  · cases e
    obtain ⟨a, vs, rfl, s, rr⟩ := rx
    refine .inl ⟨a, vs, rfl, s, fun h => ?_, fun h => out_tup (rr.cut lo hi) o⟩
    refine out_sc o ⟨a, vs, rfl, s, ?_⟩ fun _ h => by cases h
    have h' := h
    rw [← rr.length] at h'
    unfold cutL
    rw [h'.1, h'.2, List.drop_zero, Nat.sub_zero, List.take_length]
    exact rr
  · cases e
    obtain ⟨a, vs, rfl, g, s, rr⟩ := rx
    exact .inr ⟨a, vs, rfl, SqL.of s, out_lst (rr.cut lo hi) o⟩
end
end Dl
set_option Elab.async false
set_option linter.all false
set_option maxRecDepth 100000
set_option maxHeartbeats 4000000
/-! Built-in functions on data. -/
namespace Dl
open PySem PySem.Spec PyProof.Rows L2
/-- the built-in's name, and what it is -/
def biName : BI → Str
  | .len => "len"
  | .abs => "abs"
  | .int => "int"
  | .bool => "bool"
  | .sum => "sum"
  | .max => "max"
  | .min => "min"
  | .max2 => "max"
  | .min2 => "min"
  | .all => "all"
  | .any => "any"
  | .tuple => "tuple"
  | .list => "list"
  | .sorted => "sorted"
def biVal : BI → Value
  | .len => .builtin "len"
  | .abs => .builtin "abs"
  | .int => .type "int"
  | .bool => .type "bool"
  | .sum => .builtin "sum"
  | .max => .builtin "max"
  | .min => .builtin "min"
  | .max2 => .builtin "max"
  | .min2 => .builtin "min"
  | .all => .builtin "all"
  | .any => .builtin "any"
  | .tuple => .type "tuple"
  | .list => .type "list"
  | .sorted => .builtin "sorted"
def rF (K : PySem.W.Frag) (fr : Bool) (f : List D → Option D) : List V → Hp → VK → Prop := fun vs H Q => ∃ G ds d, Reps K G H ds vs ∧ f ds = some d ∧ Out K G H fr d Q
theorem _root_.L2.CallR.imp {X : Cx} {f : Value} {r r' : List V → Hp → VK → Prop} (h : CallR X f r) (i : ∀ vs H Q, r' vs H Q → r vs H Q) : CallR X f r' := fun pins s σ H xs us Q I rv q => h pins s σ H xs us Q I rv (i _ _ _ q)
section
variable {K : PySem.W.Frag} {G : Addr → Prop} {H : Hp}
theorem reps1 {d : D} {vs : List V} (r : Reps K G H [d] vs) : ∃ v, vs = [v] ∧ Rep K G H d v := by
  obtain ⟨v, r, rfl, h, rfl⟩ := r
  exact ⟨v, rfl, h⟩
theorem reps2 {d e : D} {vs : List V} (r : Reps K G H [d, e] vs) : ∃ v w, vs = [v, w] ∧ Rep K G H d v ∧ Rep K G H e w := by
  obtain ⟨v, r, rfl, h, w, r', rfl, h', rfl⟩ := r
  exact ⟨v, w, rfl, h, h'⟩
end
theorem one_of {α : Type} {f : List D → Option α} {ds : List D} {x : α} (h : f ds = some x) (h0 : f [] = none) (h2 : ∀ a b l, f (a :: b :: l) = none) : ∃ d, ds = [d] := by
  match ds, h with
  | [], h => rw [h0] at h; cases h
  | [d], _ => exact ⟨d, rfl⟩
  | a :: b :: l, h => rw [h2] at h; cases h
theorem two_of {α : Type} {f : List D → Option α} {ds : List D} {x : α} (h : f ds = some x) (h0 : f [] = none) (h1 : ∀ a, f [a] = none) (h2 : ∀ a b c l, f (a :: b :: c :: l) = none) : ∃ d e, ds = [d, e] := by
  match ds, h with
  | [], h => rw [h0] at h; cases h
  | [d], h => rw [h1] at h; cases h
  | [a, b], _ => exact ⟨a, b, rfl⟩
  | a :: b :: c :: l, h => rw [h2] at h; cases h
/-- the sequence of a datum -/
theorem Rep.items {K : PySem.W.Frag} {G : Addr → Prop} {H : Hp} {d : D} {v : V} {l : List D} (r : Rep K G H d v) (e : itemsD d = some l) : ∃ a vs, v = .ref a ∧ (SqL K H a vs ∨ SqT K H a vs) ∧ Reps K G H l vs := by
  cases d <;> simp only [itemsD, reduceCtorEq] at e
  · cases e
    obtain ⟨a, vs, e, s, rr⟩ := r
    exact ⟨a, vs, e, .inr s, rr⟩
  · cases e
    obtain ⟨a, vs, e, g, s, rr⟩ := r
    exact ⟨a, vs, e, .inl (SqL.of s), rr⟩
section
variable {X : Cx}
theorem bi_len : CallR X (.builtin "len") (rF X.K false (biD .len)) := by
  refine CallR.imp call_len fun vs H Q h => ?_
  obtain ⟨G, ds, d, rv, e, o⟩ := h
  obtain ⟨x, rfl⟩ := one_of e rfl fun _ _ _ => rfl
  obtain ⟨v, rfl, r⟩ := reps1 rv
  simp only [biD] at e
  obtain ⟨n, e1, rfl⟩ := Option.map_eq_some_iff.mp e
  refine ⟨v, n, rfl, ?_, out_int o⟩
  cases x <;> simp only [lenD, reduceCtorEq] at e1
  · obtain ⟨hc, rfl⟩ := grd_some e1
    cases r
    exact ⟨hc, rfl⟩
  · cases e1
    obtain ⟨a, us, rfl, s, rr⟩ := r
    exact .inr ⟨us, s, rr.length⟩
  · cases e1
    obtain ⟨a, us, rfl, g, s, rr⟩ := r
    exact .inl ⟨us, SqL.of s, rr.length⟩
  · cases e1
    obtain ⟨a, rfl, s⟩ := r
    exact .inl ⟨_, s.sql, by rw [List.length_map]⟩
theorem bi_abs : CallR X (.builtin "abs") (rF X.K false (biD .abs)) := by
  refine CallR.imp call_abs fun vs H Q h => ?_
  obtain ⟨G, ds, d, rv, e, o⟩ := h
  obtain ⟨x, rfl⟩ := one_of e rfl fun _ _ _ => by simp [biD]
  obtain ⟨v, rfl, r⟩ := reps1 rv
  cases x <;> simp only [biD, reduceCtorEq] at e
  cases e
  cases r
  exact ⟨_, rfl, out_int o⟩
theorem bi_int : CallR X (.type "int") (rF X.K false (biD .int)) := by
  refine CallR.imp call_int1 fun vs H Q h => ?_
  obtain ⟨G, ds, d, rv, e, o⟩ := h
  obtain ⟨x, rfl⟩ := one_of e rfl fun a _ _ => by cases a <;> simp [biD]
  obtain ⟨v, rfl, r⟩ := reps1 rv
  cases x <;> simp only [biD, reduceCtorEq] at e
  · cases e
    cases r
    exact .inr ⟨_, rfl, out_int o⟩
  · cases e
    cases r
    exact .inl ⟨_, rfl, out_int o⟩
theorem bi_bool : CallR X (.type "bool") (rF X.K false (biD .bool)) := by
  refine CallR.imp call_bool1 fun vs H Q h => ?_
  obtain ⟨G, ds, d, rv, e, o⟩ := h
  obtain ⟨x, rfl⟩ := one_of e rfl fun a _ _ => by cases a <;> simp [biD]
  obtain ⟨v, rfl, r⟩ := reps1 rv
  cases x <;> simp only [biD, reduceCtorEq] at e
  · cases e
    cases r
    exact .inr ⟨_, rfl, out_bl o⟩
  · cases e
    cases r
    exact .inl ⟨_, rfl, out_bl o⟩
theorem bi_max2 (hc : X.calm = true) : CallR X (.builtin "max") (rF X.K false (biD .max2)) := by
  refine CallR.imp (call_max2 hc) fun vs H Q h => ?_
  obtain ⟨G, ds, d, rv, e, o⟩ := h
  obtain ⟨x, y, rfl⟩ := two_of e rfl (fun a => by simp [biD]) fun a b _ _ => by cases a <;> simp [biD]
  obtain ⟨v, w, rfl, r, r'⟩ := reps2 rv
  cases x <;> cases y <;> simp only [biD, reduceCtorEq] at e
  cases e
  cases r; cases r'
  exact ⟨_, _, rfl, out_int o⟩
theorem bi_min2 (hc : X.calm = true) : CallR X (.builtin "min") (rF X.K false (biD .min2)) := by
  refine CallR.imp (call_min2 hc) fun vs H Q h => ?_
  obtain ⟨G, ds, d, rv, e, o⟩ := h
  obtain ⟨x, y, rfl⟩ := two_of e rfl (fun a => by simp [biD]) fun a b _ _ => by cases a <;> simp [biD]
  obtain ⟨v, w, rfl, r, r'⟩ := reps2 rv
  cases x <;> cases y <;> simp only [biD, reduceCtorEq] at e
  cases e
  cases r; cases r'
  exact ⟨_, _, rfl, out_int o⟩
theorem bi_all (hc : X.calm = true) : CallR X (.builtin "all") (rF X.K false (biD .all)) := by
  refine CallR.imp (cr_all hc) fun vs H Q h => ?_
  obtain ⟨G, ds, d, rv, e, o⟩ := h
  obtain ⟨x, rfl⟩ := one_of e rfl fun a _ _ => by cases a <;> simp [biD]
  obtain ⟨v, rfl, r⟩ := reps1 rv
  cases x <;> simp only [biD, reduceCtorEq] at e
  obtain ⟨bs, e1, rfl⟩ := Option.map_eq_some_iff.mp e
  obtain ⟨a, us, rfl, g, s, rr⟩ := r
  have := rr.bls e1
  subst this
  exact ⟨a, bs, rfl, SqL.of s, out_bl o⟩
theorem bi_any (hc : X.calm = true) : CallR X (.builtin "any") (rF X.K false (biD .any)) := by
  refine CallR.imp (cr_any hc) fun vs H Q h => ?_
  obtain ⟨G, ds, d, rv, e, o⟩ := h
  obtain ⟨x, rfl⟩ := one_of e rfl fun a _ _ => by cases a <;> simp [biD]
  obtain ⟨v, rfl, r⟩ := reps1 rv
  cases x <;> simp only [biD, reduceCtorEq] at e
  obtain ⟨bs, e1, rfl⟩ := Option.map_eq_some_iff.mp e
  obtain ⟨a, us, rfl, g, s, rr⟩ := r
  have := rr.bls e1
  subst this
  exact ⟨a, bs, rfl, SqL.of s, out_bl o⟩
theorem bi_tuple : CallR X (.type "tuple") (rF X.K false (biD .tuple)) := by
  refine CallR.imp call_tuple_of fun vs H Q h => ?_
  obtain ⟨G, ds, d, rv, e, o⟩ := h
  obtain ⟨x, rfl⟩ := one_of e rfl fun a _ _ => by cases a <;> simp [biD]
  obtain ⟨v, rfl, r⟩ := reps1 rv
  cases x <;> simp only [biD, reduceCtorEq] at e
  · cases e
    obtain ⟨a, us, rfl, s, rr⟩ := r
    exact ⟨a, us, rfl, .inr ⟨s, out_sc o ⟨a, us, rfl, s, rr⟩ fun _ h => by cases h⟩⟩
  · cases e
    obtain ⟨a, us, rfl, g, s, rr⟩ := r
    exact ⟨a, us, rfl, .inl ⟨SqL.of s, out_tup rr o⟩⟩
theorem bi_list : CallR X (.type "list") (rF X.K true (biD .list)) := by
  refine CallR.imp call_list_of fun vs H Q h => ?_
  obtain ⟨G, ds, d, rv, e, o⟩ := h
  obtain ⟨x, rfl⟩ := one_of e rfl fun a _ _ => by cases a <;> simp [biD]
  obtain ⟨v, rfl, r⟩ := reps1 rv
  cases x <;> simp only [biD, reduceCtorEq] at e
  · cases e
    obtain ⟨a, us, rfl, s, rr⟩ := r
    exact ⟨a, us, rfl, .inr s, out_lst rr o⟩
  · cases e
    obtain ⟨a, us, rfl, g, s, rr⟩ := r
    exact ⟨a, us, rfl, .inl (SqL.of s), out_lst rr o⟩
theorem bi_sum (hc : X.calm = true) : CallR X (.builtin "sum") (rF X.K false (biD .sum)) := by
  intro pins s σ H vs us Q I rv h
  obtain ⟨G, ds, d, rd, e, o⟩ := h
  obtain ⟨x, rfl⟩ := one_of e rfl fun a _ _ => by cases a <;> simp [biD]
  obtain ⟨v, rfl, r⟩ := reps1 rd
  cases x <;> simp only [biD, reduceCtorEq] at e
  · obtain ⟨ns, e1, rfl⟩ := Option.map_eq_some_iff.mp e
    obtain ⟨a, vs, rfl, sq, rr⟩ := r
    have := rr.ints e1
    subst this
    obtain ⟨its, r2, hl, _⟩ := I.tuple sq
    have hi := r2.ints
    obtain ⟨xs, e3⟩ := hi.allInts.items
    have hn : numsOf (intItems xs).toList = ns := by rw [← e3]; exact hi.numsOf
    rw [nums_intItems] at hn
    rw [e3] at hl
    rw [Vals.ref1 rv]
    refine call_sum_walkG (PySem.W.iter_tupleW (A := X.A.in1) (I.ok.hd hc) hl fun s₂ e2 W st hfp hw hk => ?_)
    have hlt : a < s.heap.objs.size := hl.lt
    refine ⟨_, _, _, _, _, _, numAt xs, rfl, Walks.tuple (A := X.A.in1) (I.ok.hd hc) _ a (Nat.ne_of_lt hlt) (intItems xs), ?_, hfp, fun _ _ => intItems_at, fun h' tk t' hk' => ?_⟩
    · subst e2
      exact st
    · subst e2
      refine ⟨.int _, H, I.kept (h' := h') (t' := tk) fun b ob eb => hk' b ob (hw b ob eb) (hk b ob eb), ⟨t', ?_⟩, out_int o⟩
      have hs : (intItems xs).size = xs.size := by simp [intItems]
      rw [hs, preSum_eq, List.take_of_length_le (by simp), hn]
  · obtain ⟨ns, e1, rfl⟩ := Option.map_eq_some_iff.mp e
    obtain ⟨a, vs, rfl, g, sq, rr⟩ := r
    have := rr.ints e1
    subst this
    exact cr_sum hc pins s σ H _ us Q I rv ⟨a, ns, rfl, SqL.of sq, out_int o⟩
/-! ### max, min, sorted -/
theorem py_inj_flat {d e : D} (h1 : d.flat = true) (h2 : e.flat = true) (h : d.py = e.py) : d = e := go d e h1 h2 h
where
  go : ∀ d e : D, d.flat = true → e.flat = true → d.py = e.py → d = e
  | .non, e, _, _, h => by cases e <;> simp [D.py] at h <;> rfl
  | .bl b, e, _, _, h => by cases e <;> simp [D.py] at h; rw [h]
  | .int i, e, _, _, h => by cases e <;> simp [D.py] at h; rw [h]
  | .str s, e, _, _, h => by cases e <;> simp [D.py] at h; rw [h]
  | .tup l, e, f, g, h => by
    cases e <;> simp [D.py] at h
    simp only [D.flat] at f g
    rw [gos _ _ f g h]
  | .lst l, e, f, _, h => by simp [D.flat] at f
  | .scr l, e, f, _, h => by simp [D.flat] at f
  gos : ∀ l m : List D, flats l = true → flats m = true → pys l = pys m → l = m
  | [], m, _, _, h => by cases m <;> simp [pys] at h; rfl
  | d :: l, m, f, g, h => by
    cases m <;> simp [pys] at h
    simp only [flats, Bool.and_eq_true] at f g
    rw [go _ _ f.1 g.1 h.1, gos _ _ f.2 g.2 h.2]
theorem flats_mem : ∀ {l : List D} {d : D}, flats l = true → d ∈ l → d.flat = true
  | x :: l, d, f, h => by
    simp only [flats, Bool.and_eq_true] at f
    rcases List.mem_cons.mp h with rfl | h
    · exact f.1
    · exact flats_mem f.2 h
theorem alikeAll_of {l : List D} (h : alikeL l = true) (h2 : l.all notNon = true) : PySem.W.AlikeAll (pys l) := by
  unfold alikeL at h
  simp only [List.all_eq_true] at h h2
  rw [pys_map]
  constructor
  · intro x hx y hy
    obtain ⟨d, hd, rfl⟩ := List.mem_map.mp hx
    obtain ⟨e, he, rfl⟩ := List.mem_map.mp hy
    exact h d hd e he
  · intro x hx
    obtain ⟨d, hd, rfl⟩ := List.mem_map.mp hx
    have := h2 d hd
    cases d <;> simp [notNon] at this <;> simp [D.py]
theorem fold_mem (p : D → D → Bool) : ∀ (l : List D) (x : D), l.foldl (fun a y => if p a y = true then y else a) x ∈ x :: l
  | [], x => by simp
  | y :: l, x => by
    rw [List.foldl_cons]
    have := fold_mem p l (if p x y = true then y else x)
    split at this
    · simp only [List.mem_cons] at this ⊢
      rename_i h
      rw [if_pos h]
      rcases this with h | h
      · exact .inr (.inl h)
      · exact .inr (.inr h)
    · rename_i h
      rw [if_neg h]
      simp only [List.mem_cons] at this ⊢
      rcases this with h | h
      · exact .inl h
      · exact .inr (.inr h)
theorem fold_py (p : PyData → PyData → Bool) : ∀ (l : List D) (x : D), (l.foldl (fun a y => if p a.py y.py = true then y else a) x).py = (pys l).foldl (fun a y => if p a y = true then y else a) x.py
  | [], x => rfl
  | y :: l, x => by
    rw [List.foldl_cons, fold_py p l]
    simp only [pys, List.foldl_cons]
    split <;> rfl
/-- the item of a sequence -/
theorem best_of {pins : List (Addr × Obj)} {σ : L2.St} {H : Hp} {s : Shared} {G : Addr → Prop} {l : List D} {vs : List V} {its : List Value} {h' : Heap} {i : Nat} {u : Value} {p : PyData} {bs : List Addr} {d : D} (I : Inv X pins σ H s) (rr : Reps X.K G H l vs) (rv : Vals vs its)
    (hk : ∀ b o, s.heap.get? b = some o → h'.get? b = some o) (hi : its[i]? = some u) (r : Reads h' u p bs) (fl : flats l = true) (hp : d.py = p) (hd : d ∈ l) : ∃ v, RelV v u ∧ Rep X.K G H d v := by
  have hlen := rv.length
  have hil : i < its.length := (List.getElem?_eq_some_iff.mp hi).1
  have hv : vs[i]? = some vs[i] := List.getElem?_eq_getElem (by omega)
  obtain ⟨u', hu, ru⟩ := rv.get hv
  rw [hi] at hu; cases hu
  obtain ⟨e, he, re⟩ := rr.get' hv
  obtain ⟨as, r1⟩ := Dp.reads I e.py _ u re.dp ru
  have r2 := PyProof.Rows.Reads.keeps hk r1
  have e1 := SeqAt.plain_unique _ _ _ _ _ (py_plain e) r2 r
  have : d = e := py_inj_flat (flats_mem fl hd) (flats_mem fl (List.mem_of_getElem? he)) (hp.trans e1.symm)
  subst this
  exact ⟨_, ru, re⟩
theorem max_py (x : D) (l : List D) : (maxDD x l).py = PySem.W.maxD x.py (pys l) := fold_py (fun a y => PySem.W.dataLt a y) l x
theorem min_py (x : D) (l : List D) : (minDD x l).py = PySem.W.minD x.py (pys l) := fold_py (fun a y => PySem.W.dataLt y a) l x
theorem bestD_some {f : D → List D → D} {l : List D} {d : D} (e : bestD f l = some d) : ∃ x r, l = x :: r ∧ d = f x r ∧ PySem.W.AlikeAll (pys l) ∧ flats l = true ∧ PyData.depthAll (pys l) ≤ 64 := by
  cases l with
  | nil => cases e
  | cons x r =>
    obtain ⟨⟨h1, h2, h3, h4⟩, rfl⟩ := grd_some (show grd _ _ = _ from e)
    exact ⟨x, r, rfl, rfl, alikeAll_of h1 h2, h3, h4⟩
theorem bi_max (hc : X.calm = true) (hu : X.A.units + 66 < cLine) : CallR X (.builtin "max") (rF X.K false (biD .max)) := by
  intro pins s σ H vs us Q I rv h
  obtain ⟨G, ds, d, rd, e, o⟩ := h
  obtain ⟨x, rfl⟩ := one_of e rfl fun a _ _ => by cases a <;> simp [biD]
  obtain ⟨v, rfl, r⟩ := reps1 rd
  cases x <;> simp only [biD, reduceCtorEq] at e
  · obtain ⟨x, l, rfl, rfl, h1, h2, h3⟩ := bestD_some e
    obtain ⟨a, vs, rfl, sq, rr⟩ := r
    obtain ⟨its, r2, hl, _⟩ := I.tuple sq
    obtain ⟨as, rs⟩ := Dp.readsAll I _ _ its rr.dp r2
    rw [Vals.ref1 rv]
    refine PySem.W.max_tuple_data (I.ok.hd hc) (show s.heap.IsTuple a its.toArray from hl) (by simpa [pys] using rs) h1 (by simp only [pys] at h3 ⊢; omega) fun i v h' tk bs hi r hk => ?_
    obtain ⟨w, rw', q⟩ := best_of (d := maxDD x l) I rr r2 hk (by simpa using hi) r h2 (max_py x l) (fold_mem (fun a y => PySem.W.dataLt a.py y.py) l x)
    exact ⟨w, H, I.kept (h' := h') (t' := tk) hk, rw', out_here o q fun h => by cases h⟩
  · obtain ⟨x, l, rfl, rfl, h1, h2, h3⟩ := bestD_some e
    obtain ⟨a, vs, rfl, g, sq, rr⟩ := r
    obtain ⟨its, r2, hl, _⟩ := I.list (SqL.of sq)
    obtain ⟨as, rs⟩ := Dp.readsAll I _ _ its rr.dp r2
    rw [Vals.ref1 rv]
    refine PySem.W.max_list_data (I.ok.hd hc) hl.isList (by simpa [pys] using rs) h1 (by simp only [pys] at h3 ⊢; omega) fun i v h' tk bs hi r hk => ?_
    obtain ⟨w, rw', q⟩ := best_of (d := maxDD x l) I rr r2 hk (by simpa using hi) r h2 (max_py x l) (fold_mem (fun a y => PySem.W.dataLt a.py y.py) l x)
    exact ⟨w, H, I.kept (h' := h') (t' := tk) hk, rw', out_here o q fun h => by cases h⟩
theorem bi_min (hc : X.calm = true) (hu : X.A.units + 66 < cLine) : CallR X (.builtin "min") (rF X.K false (biD .min)) := by
  intro pins s σ H vs us Q I rv h
  obtain ⟨G, ds, d, rd, e, o⟩ := h
  obtain ⟨x, rfl⟩ := one_of e rfl fun a _ _ => by cases a <;> simp [biD]
  obtain ⟨v, rfl, r⟩ := reps1 rd
  cases x <;> simp only [biD, reduceCtorEq] at e
  · obtain ⟨x, l, rfl, rfl, h1, h2, h3⟩ := bestD_some e
    obtain ⟨a, vs, rfl, sq, rr⟩ := r
    obtain ⟨its, r2, hl, _⟩ := I.tuple sq
    obtain ⟨as, rs⟩ := Dp.readsAll I _ _ its rr.dp r2
    rw [Vals.ref1 rv]
    refine PySem.W.min_tuple_data (I.ok.hd hc) (show s.heap.IsTuple a its.toArray from hl) (by simpa [pys] using rs) h1 (by simp only [pys] at h3 ⊢; omega) fun i v h' tk bs hi r hk => ?_
    obtain ⟨w, rw', q⟩ := best_of (d := minDD x l) I rr r2 hk (by simpa using hi) r h2 (min_py x l) (fold_mem (fun a y => PySem.W.dataLt y.py a.py) l x)
    exact ⟨w, H, I.kept (h' := h') (t' := tk) hk, rw', out_here o q fun h => by cases h⟩
  · obtain ⟨x, l, rfl, rfl, h1, h2, h3⟩ := bestD_some e
    obtain ⟨a, vs, rfl, g, sq, rr⟩ := r
    obtain ⟨its, r2, hl, _⟩ := I.list (SqL.of sq)
    obtain ⟨as, rs⟩ := Dp.readsAll I _ _ its rr.dp r2
    rw [Vals.ref1 rv]
    refine PySem.W.min_list_data (I.ok.hd hc) hl.isList (by simpa [pys] using rs) h1 (by simp only [pys] at h3 ⊢; omega) fun i v h' tk bs hi r hk => ?_
    obtain ⟨w, rw', q⟩ := best_of (d := minDD x l) I rr r2 hk (by simpa using hi) r h2 (min_py x l) (fold_mem (fun a y => PySem.W.dataLt y.py a.py) l x)
    exact ⟨w, H, I.kept (h' := h') (t' := tk) hk, rw', out_here o q fun h => by cases h⟩
/-! sorted -/
abbrev RD (K : PySem.W.Frag) (G : Addr → Prop) (H : Hp) : Value → D → Prop := fun u d => ∃ v, RelV v u ∧ Rep K G H d v
theorem each_of {K : PySem.W.Frag} {G : Addr → Prop} {H : Hp} : ∀ {l : List D} {vs : List V} {its : List Value}, Reps K G H l vs → Vals vs its → PySem.W.EachIs (RD K G H) its l
  | [], _, _, h, r => by subst h; cases r; exact .nil
  | d :: l, _, _, h, r => by
    obtain ⟨v, w, rfl, h1, h2⟩ := h
    cases r with
    | cons r1 r2 => exact .cons ⟨v, r1, h1⟩ (each_of h2 r2)
theorem of_each {K : PySem.W.Frag} {G : Addr → Prop} {H : Hp} : ∀ {l : List D} {its : List Value}, PySem.W.EachIs (RD K G H) its l → ∃ vs, Vals vs its ∧ Reps K G H l vs
  | _, _, .nil => ⟨[], .nil, rfl⟩
  | _, _, .cons ⟨v, r, h⟩ t => by
    obtain ⟨vs, r2, h2⟩ := of_each t
    exact ⟨v :: vs, .cons r r2, v, vs, rfl, h, h2⟩
theorem each_reads {pins : List (Addr × Obj)} {σ : L2.St} {H : Hp} {s : Shared} {G : Addr → Prop} (I : Inv X pins σ H s) : ∀ {l : List D} {its : List Value}, PySem.W.EachIs (RD X.K G H) its l → PySem.W.EachIs (fun u d => ∃ as, Reads s.heap u (D.py d) as) its l
  | _, _, .nil => .nil
  | _, _, .cons ⟨v, r, h⟩ t => .cons (Dp.reads I _ _ _ h.dp r) (each_reads I t)
theorem sortable_of {l : List D} (h : sortable l = true) : PySem.W.Sortable (l.map D.py) := by
  unfold sortable at h
  simp only [Bool.or_eq_true, List.all_eq_true] at h
  rcases h with h | h
  · refine .inl fun p hp => ?_
    obtain ⟨d, hd, rfl⟩ := List.mem_map.mp hp
    have := h d hd
    split at this
    · exact ⟨_, _, rfl⟩
    · cases this
  · refine .inr fun p hp => ?_
    obtain ⟨d, hd, rfl⟩ := List.mem_map.mp hp
    have := h d hd
    cases d <;> simp at this <;> simp [D.py]
theorem bi_sorted (hu : X.A.units + 67 < cLine) : CallR X (.builtin "sorted") (rF X.K true (biD .sorted)) := by
  intro pins s σ H vs us Q I rv h
  obtain ⟨G, ds, d, rd, e, o⟩ := h
  obtain ⟨x, rfl⟩ := one_of e rfl fun a _ _ => by cases a <;> simp [biD]
  obtain ⟨v, rfl, r⟩ := reps1 rd
  cases x <;> simp only [biD, reduceCtorEq] at e
  rename_i l
  obtain ⟨m, e1, rfl⟩ := Option.map_eq_some_iff.mp e
  obtain ⟨⟨h1, h2, h3, h4⟩, rfl⟩ := grd_some (show grd _ _ = _ from e1)
  obtain ⟨a, vs, rfl, g, sq, rr⟩ := r
  obtain ⟨its, r2, hl, _⟩ := I.list (SqL.of sq)
  rw [Vals.ref1 rv]
  have hE := each_of rr r2
  refine PySem.W.sorted_data (bs := l) (enc := D.py) (R := RD X.K G H) (vs := its) hl.isList hE (each_reads I hE) ?_ (sortable_of h2) h3 ?_ fun out hlen ho => ?_
  · intro p hp q hq
    obtain ⟨d, hd, rfl⟩ := List.mem_map.mp hp
    obtain ⟨e, he, rfl⟩ := List.mem_map.mp hq
    simp only [alikeL, List.all_eq_true] at h1
    exact h1 d hd e he
  · intro b hb
    have := List.all_eq_true.mp h4 b hb
    simp only [decide_eq_true_eq] at this
    omega
  · obtain ⟨ws, r3, rr3⟩ := of_each ho
    obtain ⟨ep, he'⟩ := PyProof.Rows.sortedAll_at s.heap its out.toArray
    have hn : H (s.heap.objs.size + 1) = none := I.hok.fresh (Nat.le_succ _)
    have hw : ws.length ≤ sizeLine := by rw [r3.length, hlen]; exact h3
    refine ⟨.ref _, upd H (s.heap.objs.size + 1) (.lst ws), I.laid (t' := s.toks) (fun _ _ => PyProof.Rows.sortedAll_old) (Nat.le_succ _) ⟨hw, out, ep, r3, he'⟩, rfl, ?_⟩
    exact out_lst rr3 o _ hn
/-! isinstance -/
def tyS : TY → String
  | .int => "int"
  | .bool => "bool"
  | .str => "str"
  | .tuple => "tuple"
  | .list => "list"
theorem bi_isi (t : TY) {pins : List (Addr × Obj)} {s : Shared} {σ : L2.St} {H : Hp} {G : Addr → Prop} {d : D} {v : V} {u : Value} {Q : VK} (I : Inv X pins σ H s) (rd : Rep X.K G H d v) (rv : RelV v u) (q : Q (.bl (isiD t d)) H) :
    wpAny (model X.prog X.w) X.A (call (.builtin "isinstance") [u, .type (tyS t)]) (EP X pins σ Q) X.xe s := by
  obtain ⟨as, r⟩ := Dp.reads I d.py v u rd.dp rv
  cases t
  · refine PySem.W.isinstance_int_data r fun tk _ => ⟨.bl _, H, I.tok tk, ?_, q⟩
    cases d <;> rfl
  · refine PySem.W.isinstance_bool_data r fun tk _ => ⟨.bl _, H, I.tok tk, ?_, q⟩
    cases d <;> rfl
  · refine PySem.W.isinstance_str_data r fun tk _ => ⟨.bl _, H, I.tok tk, ?_, q⟩
    cases d <;> rfl
  · refine PySem.W.isinstance_tuple_data r fun tk _ => ⟨.bl _, H, I.tok tk, ?_, q⟩
    cases d <;> rfl
  · refine PySem.W.isinstance_list_data r fun tk _ => ⟨.bl _, H, I.tok tk, ?_, q⟩
    cases d <;> rfl
theorem boot_of (b : BI) : bootBuiltins (biName b) = some (biVal b) := by
  cases b <;> decide +kernel
theorem bi_ok (hc : X.calm = true) (hu : X.A.units + 70 < cLine) (b : BI) : CallR X (biVal b) (rF X.K (b == .list || b == .sorted) (biD b)) := by
  cases b
  · exact bi_len
  · exact bi_abs
  · exact bi_int
  · exact bi_bool
  · exact bi_sum hc
  · exact bi_max hc (by omega)
  · exact bi_min hc (by omega)
  · exact bi_max2 hc
  · exact bi_min2 hc
  · exact bi_all hc
  · exact bi_any hc
  · exact bi_tuple
  · exact bi_list
  · exact bi_sorted (by omega)
end
end Dl
set_option Elab.async false
set_option linter.all false
set_option maxRecDepth 100000
set_option maxHeartbeats 4000000
/-! A written expression has the worth that the evaluation of its datum tells: the look, and its proof. -/
namespace Dl
open PySem PySem.Spec PyProof.Rows L2

/-! ### the look -/
structure FnI where
  name : Str
  ps : List Str
/-- where a piece of syntax stands -/
structure Sc where
  sc : Scope
  fn : Str → Bool
def visB (sc : Scope) (x : Str) : Bool := match sc.names.lookup x with
  | some .local => true
  | some .cell => true
  | some .free => true
  | _ => false
def locB (s : Sc) (x : Str) : Bool := match s.sc.names.lookup x with
  | some .local => true
  | some .cell => s.fn x
  | _ => false
def glB (sc : Scope) (x : Str) : Bool := decide (sc.names.lookup x = some .globalImplicit)
def okName (x : Str) : Bool := (x == ("__debug__" : Str)) == false && (x == ("__classdict__" : Str)) == false && !decide (x = "__name__")
def tyN : TY → Str
  | .int => "int"
  | .bool => "bool"
  | .str => "str"
  | .tuple => "tuple"
  | .list => "list"
def blkSc (s : Sc) (scope : Scope) : Sc := ⟨relS scope s.sc, fun x => scope.names.lookup x == some .cell⟩
section
variable (N : List Str) (T : List FnI)
mutual
def chkG (s : Sc) : Tg → Expr → Bool
  | .nm i, .Name x _ => decide (N[i]? = some x) && locB s x
  | .tp l, .Tuple es _ _ => chkGs s l es
  | _, _ => false
def chkGs (s : Sc) : List Tg → List Expr → Bool
  | [], [] => true
  | t :: r, e :: es => chkG s t e && chkGs s r es
  | _, _ => false
end
def isTp : Tg → Bool
  | .tp _ => true
  | _ => false
def needTp : CE → Bool
  | .enum _ => true
  | .zip _ _ => true
  | _ => false
def isNonC : CE → Bool
  | .non => true
  | _ => false
/-- the names of the slots -/
def ownP (own : List Nat) : List (Str × Nat) := own.map fun i => (N.getD i "", i)
mutual
def chkE : CE → Bool → Sc → Expr → Bool
  | .var i, _, s, .Name x _ => decide (N[i]? = some x) && visB s.sc x && okName x
  | .int i, _, _, .Constant c _ _ => decide (c = .int i)
  | .bl b, _, _, .Constant c _ _ => decide (c = .bool b)
  | .non, _, _, .Constant c _ _ => decide (c = .none)
  | .str x, _, _, .Constant c _ _ => decide (c = .str x)
  | .bin o a b, _, s, .BinOp x op y _ => decide (op = boOp o) && chkE a false s x && chkE b false s y
  | .neg a, _, s, .UnaryOp op x _ => decide (op = .USub) && chkE a false s x
  | .not a, _, s, .UnaryOp op x _ => decide (op = .Not) && chkE a false s x
  | .cmp o a b, _, s, .Compare x [op] [y] _ => decide (op = coOp o) && chkE a false s x && chkE b false s y && (behindInMarks op y == false)
  | .chain o o' a b c, _, s, .Compare x [op, op'] [y, z] _ => decide (op = coOp o) && decide (op' = coOp o') && chkE a false s x && chkE b false s y && chkE c false s z && (lastMarks [op, op'] [y, z] == false)
  | .isN a, _, s, .Compare x [op] [.Constant c _ _] _ => decide (op = .Is) && decide (c = .none) && chkE a false s x
  | .notN a, _, s, .Compare x [op] [.Constant c _ _] _ => decide (op = .IsNot) && decide (c = .none) && chkE a false s x
  | .and a b, _, s, .BoolOp op (x :: y :: r) p => decide (op = .And) && chkE a false s x && (match r with | [] => chkE b false s y | _ => chkE b false s (.BoolOp .And (y :: r) p))
  | .or a b, _, s, .BoolOp op (x :: y :: r) p => decide (op = .Or) && chkE a false s x && (match r with | [] => chkE b false s y | _ => chkE b false s (.BoolOp .Or (y :: r) p))
  | .ite c a b, _, s, .IfExp t x y _ => chkE c false s t && chkE a false s x && chkE b false s y
  | .idx a b, _, s, .Subscript x y _ => chkE a false s x && chkE b false s y
  | .slc a lo hi, _, s, .Subscript x (.Slice l h none _) _ => chkE a false s x && (match l with | none => isNonC lo | some l => chkE lo false s l) && (match h with | none => isNonC hi | some h => chkE hi false s h)
  | .tup es, _, s, .Tuple xs _ _ => chkEs es s xs
  | .lst es, _, s, .List xs _ => chkEs es s xs
  | .call f es, _, s, .Call (.Name x _) xs [] _ => glB s.sc x && okName x && (match T[f]? with | some fi => decide (fi.name = x) | none => false) && chkEs es s xs
  | .bi b es, _, s, .Call (.Name x _) (y :: ys) [] _ => glB s.sc x && decide (x = biName b) && chkEs es s (y :: ys)
  | .isi t a, _, s, .Call (.Name x _) [y, .Name z _] [] _ => glB s.sc x && decide (x = "isinstance") && glB s.sc z && decide (z = tyN t) && chkE a false s y
  | .lc own tg it cs elt, _, s, .ListComp x [⟨tx, ix, ifs, asy⟩] scope _ => decide (asy = 0) && blkC N s.sc scope (ownP N own) && chkE it true s ix && chkG N (blkSc s scope) tg tx && tg.slots.all (fun i => own.contains i) && (isTp tg || !needTp it) && decide (cs.length ≤ 1) && chkEs cs (blkSc s scope) ifs && chkE elt false (blkSc s scope) x
  | .rng1 a, ip, s, .Call (.Name x _) [y] [] _ => ip && glB s.sc x && decide (x = "range") && chkE a false s y
  | .rng2 a b, ip, s, .Call (.Name x _) [y, z] [] _ => ip && glB s.sc x && decide (x = "range") && chkE a false s y && chkE b false s z
  | .enum a, ip, s, .Call (.Name x _) [y] [] _ => ip && glB s.sc x && decide (x = "enumerate") && chkE a false s y
  | .zip a b, ip, s, .Call (.Name x _) [y, z] [] _ => ip && glB s.sc x && decide (x = "zip") && chkE a false s y && chkE b false s z
  | _, _, _, _ => false
def chkEs : List CE → Sc → List Expr → Bool
  | [], _, [] => true
  | c :: cs, s, e :: es => chkE c false s e && chkEs cs s es
  | _, _, _ => false
end
end

/-! ### where it stands -/
def bnames : List Str := ["len", "abs", "int", "bool", "sum", "max", "min", "all", "any", "tuple", "list", "sorted", "isinstance", "str", "range", "enumerate", "zip", "reversed", "set", "dict"]
/-- a def's promise by its evaluation -/
def spD (K : PySem.W.Frag) (n : Nat) (f : List D → Option D) : Sp := fun vs H Q _ => vs.length = n ∧ ∃ G ds d, Reps K G H ds vs ∧ f ds = some d ∧ ∀ v H', Same H H' → Rep K (Gx G H) H' d v → Q v H'
structure Cok (N : List Str) (T : List FnI) (lvl : Nat) (cl : Nat → List D → Option D) (s : Sc) (X : Cx) : Prop where
  arity : ∀ (i : Nat) (f : FnI), T[i]? = some f → ∀ ds d, cl i ds = some d → ds.length = f.ps.length
  nd : N.Nodup
  hN : X.N = N
  calm : X.calm = true
  room : Room lvl X.A
  sc : X.env.scope = s.sc
  fn : ∀ x, s.fn x = true → X.fn x = true
  free : ∀ x ∈ bnames, X.mg x = none
  fns : ∀ (i : Nat) (f : FnI), T[i]? = some f → ∃ (a : Addr) (fd : FuncData), X.mg f.name = some (.ref a) ∧ PySem.W.keepIn X.K (.ref a) = true ∧ Binds X.K fd f.ps [] ∧ FnOk X.prog X.w X.K X.mg X.base CX0 lvl a fd f.ps (spD X.K f.ps.length (cl i))
section
variable {N : List Str} {T : List FnI} {lvl : Nat} {cl : Nat → List D → Option D} {s : Sc} {X : Cx}
theorem Cok.blk (c : Cok N T lvl cl s X) (sh : Shared) (H : Hp) (scope : Scope) (C : Addr) (cs : List (Str × Addr)) (fp : List Addr) : Cok N T lvl cl (blkSc s scope) (X.blk sh H scope (compEnvC scope cs C X.env) fp) where
  arity := c.arity
  nd := c.nd
  hN := c.hN
  calm := c.calm
  room := c.room
  sc := by
    show relS scope X.env.scope = _
    rw [c.sc]; rfl
  fn := fun x h => h
  free := c.free
  fns := c.fns
theorem vis_of {sc : Scope} {x : Str} (h : visB sc x = true) : Vis sc x := by
  unfold visB at h
  split at h
  · exact .inl (by assumption)
  · exact .inr (.inl (by assumption))
  · exact .inr (.inr (by assumption))
  · cases h
theorem Cok.gl (c : Cok N T lvl cl s X) {x : Str} (h : glB s.sc x = true) : Gl X x := by
  unfold Gl Env.kindOf
  rw [c.sc]
  exact of_decide_eq_true h
theorem Cok.loc (c : Cok N T lvl cl s X) {x : Str} (h : locB s x = true) : Loc X.env.scope x ∧ (X.fn x = true ∨ X.env.scope.names.lookup x = some .local) := by
  rw [c.sc]
  unfold locB at h
  split at h
  · exact ⟨.inl (by assumption), .inr (by assumption)⟩
  · exact ⟨.inr (by assumption), .inl (c.fn x h)⟩
  · cases h
theorem okName_of {x : Str} (h : okName x = true) : (x == ("__debug__" : Str)) = false ∧ (x == ("__classdict__" : Str)) = false ∧ x ≠ "__name__" := by
  unfold okName at h
  simp only [Bool.and_eq_true, beq_iff_eq, Bool.not_eq_true', decide_eq_false_iff_not] at h
  exact ⟨h.1.1, h.1.2, h.2⟩

/-! ### targets -/
def setAll (σ : L2.St) (ws : List (Nat × V)) : L2.St := ws.foldl (fun σ p => σ.set p.1 (some p.2)) σ
def BindR (K : PySem.W.Frag) (G : Addr → Prop) (H : Hp) : List (Nat × D) → List (Nat × V) → Prop := Paired fun p q => p.1 = q.1 ∧ Rep K G H p.2 q.2
def gT (K : PySem.W.Frag) (t : Tg) : TG := fun v σ H Q => ∃ G d bs, Rep K G H d v ∧ t.binds d = some bs ∧ ∀ ws, BindR K G H bs ws → Q (setAll σ ws) H
def gTs (K : PySem.W.Frag) (t : List Tg) : TGs := fun vs σ H Q => ∃ G ds bs, Reps K G H ds vs ∧ tgBinds t ds = some bs ∧ ∀ ws, BindR K G H bs ws → Q (setAll σ ws) H
theorem _root_.L2.PG.imp {e : Expr} {t t' : TG} (h : PG X e t) (i : ∀ v σ H Q, t' v σ H Q → t v σ H Q) : PG X e t' := ⟨fun pins s σ H v u Q I r q => h.run pins s σ H v u Q I r (i v σ H Q q)⟩
theorem _root_.L2.PGs.imp {e : List Expr} {t t' : TGs} (h : PGs X e t) (i : ∀ v σ H Q, t' v σ H Q → t v σ H Q) : PGs X e t' := ⟨fun pins s σ H v u Q I r q => h.run pins s σ H v u Q I r (i v σ H Q q)⟩
theorem paired_app {α β : Type} {F : α → β → Prop} : ∀ {a : List α} {b : List β} {c : List α} {d : List β}, Paired F a b → Paired F c d → Paired F (a ++ c) (b ++ d)
  | _, _, _, _, .nil, h => h
  | _, _, _, _, .cons r t, h => .cons r (paired_app t h)
theorem assign_notStar {t : Tg} {e : Expr} (h : chkG N s t e = true) (es : List Expr) (env : Env) : assignEach (e :: es) env = (false, assign e env) :: assignEach es env := by
  cases t <;> cases e <;> first | rfl | (simp [chkG] at h)
theorem assign_plain : ∀ {ts : List Tg} {es : List Expr} (_ : chkGs N s ts es = true) (env : Env), (assignEach es env).length = ts.length ∧ (assignEach es env).findIdx? (·.1) = none
  | [], [], _, env => ⟨rfl, rfl⟩
  | [], e :: es, h, _ => by simp [chkGs] at h
  | t :: r, [], h, _ => by simp [chkGs] at h
  | t :: r, e :: es, h, env => by
    simp only [chkGs, Bool.and_eq_true] at h
    obtain ⟨h1, h2⟩ := assign_plain h.2 env
    rw [assign_notStar h.1]
    constructor
    · simp [h1]
    · rw [List.findIdx?_cons, h2]; rfl
theorem tgBinds_len : ∀ {ts : List Tg} {ds : List D} {bs : List (Nat × D)}, tgBinds ts ds = some bs → ts.length = ds.length
  | [], [], _, _ => rfl
  | [], d :: ds, _, h => by simp [tgBinds] at h
  | t :: r, [], _, h => by simp [tgBinds] at h
  | t :: r, d :: ds, bs, h => by
    simp only [tgBinds] at h
    obtain ⟨a, h1, h⟩ := Option.bind_eq_some_iff.mp h
    obtain ⟨b, h2, h⟩ := Option.map_eq_some_iff.mp h
    simp [tgBinds_len h2]
mutual
theorem okG (c : Cok N T lvl cl s X) : ∀ (t : Tg) (e : Expr), chkG N s t e = true → PG X e (gT X.K t)
  | .nm i, e, h => by
    cases e <;> simp only [chkG, reduceCtorEq, Bool.false_eq_true] at h
    simp only [Bool.and_eq_true, decide_eq_true_eq] at h
    obtain ⟨l1, l2⟩ := c.loc h.2
    refine (pg_name (i := i) (by rw [c.hN]; exact c.nd) (by rw [c.hN]; exact h.1) l1 l2).imp fun v σ H Q q => ?_
    obtain ⟨G, d, bs, r, e, q⟩ := q
    simp only [Tg.binds, Option.some.injEq] at e
    subst e
    exact q [(i, v)] (.cons ⟨rfl, r⟩ .nil)
  | .tp l, e, h => by
    cases e <;> simp only [chkG, reduceCtorEq, Bool.false_eq_true] at h
    rename_i es k p
    refine (pg_tup (n := l.length) c.calm (okGs c l es h) (assign_plain h _).1 (assign_plain h _).2).imp fun v σ H Q q => ?_
    obtain ⟨G, d, bs, r, e, q⟩ := q
    cases d <;> simp only [Tg.binds, reduceCtorEq] at e
    obtain ⟨a, vs, rfl, sq, rr⟩ := r
    exact ⟨a, vs, rfl, sq, by rw [← rr.length, tgBinds_len e], G, _, bs, rr, e, q⟩
theorem okGs (c : Cok N T lvl cl s X) : ∀ (t : List Tg) (e : List Expr), chkGs N s t e = true → PGs X e (gTs X.K t)
  | [], [], h => by
    refine pgs_nil.imp fun vs σ H Q q => ?_
    obtain ⟨G, ds, bs, r, e, q⟩ := q
    cases ds <;> simp only [tgBinds, reduceCtorEq] at e
    cases e
    exact ⟨r, q [] .nil⟩
  | [], e :: es, h => by simp [chkGs] at h
  | t :: r, [], h => by simp [chkGs] at h
  | t :: r, e :: es, h => by
    simp only [chkGs, Bool.and_eq_true] at h
    refine (pgs_cons (okG c t e h.1) (okGs c r es h.2) (by rw [assign_notStar h.1]; rfl)).imp fun vs σ H Q q => ?_
    obtain ⟨G, ds, bs, rr, e, q⟩ := q
    cases ds with
    | nil => simp [tgBinds] at e
    | cons d ds =>
      simp only [tgBinds] at e
      obtain ⟨a, h1, e⟩ := Option.bind_eq_some_iff.mp e
      obtain ⟨b, h2, rfl⟩ := Option.map_eq_some_iff.mp e
      obtain ⟨v, w, rfl, r1, r2⟩ := rr
      refine ⟨v, w, rfl, G, d, a, r1, h1, fun ws hw => ⟨G, ds, b, r2, h2, fun ws' hw' => ?_⟩⟩
      have := q (ws ++ ws') (paired_app hw hw')
      unfold setAll at this ⊢
      rwa [List.foldl_append] at this
end
end
end Dl
set_option Elab.async false
set_option linter.all false
set_option maxRecDepth 100000
set_option maxHeartbeats 4000000
/-! The look's proof: expressions. -/
namespace Dl
open PySem PySem.Spec PyProof.Rows L2

def tI (K : PySem.W.Frag) (f : Rho → Option D) (safe : D → Bool) : TI := fun σ H R => ∃ (G : Addr → Prop) (ρ : Rho) (d : D) (items : List D), EnvR K G H σ ρ ∧ f ρ = some d ∧ iterD d = some items ∧
  ∀ (J : It) (H1 : Hp) (Gd : Hp → Prop) (Y : Nat → Hp → V → Hp → Prop) (pa : List Addr), Same H H1 → Walk J items.length Gd Y → (∀ a ∈ pa, Gx G H a ∧ H1 a ≠ none) → (safe d = true → ∀ a ∈ pa, H a = none) →
    (∀ H', Keep (fun a => a ∈ pa) H1 H' → Gd H') →
    (∀ Gp : Addr → Prop, ((∀ a, Gx G H a → H1 a ≠ none → Gp a) ∨ flats items = true) → ∀ i d H' x H'', items[i]? = some d → Keep Gp H1 H' → Gd H' → Y i H' x H'' → Same H' H'' ∧ Rep K Gp H'' d x) → R J H1
section
variable {K : PySem.W.Frag} {G : Addr → Prop} {H H1 : Hp}
/-- the items' data, wherever they are kept -/
theorem Reps.at {items : List D} {vs : List V} (r : Reps K (Gx G H) H1 items vs) (Gp : Addr → Prop) (h : (∀ a, Gx G H a → H1 a ≠ none → Gp a) ∨ flats items = true) {H' : Hp} (k : Keep Gp H1 H') : Reps K Gp H' items vs := by
  rcases h with h | h
  · exact (r.monoT h).keep k
  · exact (Reps.flat h r).keep k
theorem flats_map_int (f : Nat → Int) : ∀ l : List Nat, flats (l.map fun i => D.int (f i)) = true
  | [] => rfl
  | i :: l => by simp [flats, D.flat, flats_map_int f l]
theorem flats_map_str (f : Nat → Str) : ∀ l : List Nat, flats (l.map fun i => D.str (f i)) = true
  | [] => rfl
  | i :: l => by simp [flats, D.flat, flats_map_str f l]
end
theorem isNon_of {K : PySem.W.Frag} {G : Addr → Prop} {H : Hp} {d : D} {v : V} (r : Rep K G H d v) : decide (v = .non) = isNonD d := by
  cases d with
  | non => cases r; rfl
  | bl b => cases r; rfl
  | int b => cases r; rfl
  | str b => cases r; rfl
  | tup l => obtain ⟨a, vs, rfl, _⟩ := r; rfl
  | lst l => obtain ⟨a, vs, rfl, _⟩ := r; rfl
  | scr l => obtain ⟨a, rfl, _⟩ := r; rfl
/-- a test by the truth of its datum -/
def tT (K : PySem.W.Frag) (f : Rho → Option D) : TT := fun σ H Q => ∃ G ρ d b, EnvR K G H σ ρ ∧ f ρ = some d ∧ truth d = some b ∧ ∀ H', Same H H' → Q b H'
section
variable {X : Cx} {K : PySem.W.Frag} {σ : L2.St} {H : Hp} {Q : VK}
theorem tT_in {f : Rho → Option D} {G : Addr → Prop} {ρ : Rho} {d : D} {b : Bool} {Q : Bool → Hp → Prop} (e : EnvR K G H σ ρ) (h : f ρ = some d) (ht : truth d = some b) (k : ∀ H', Same H H' → EnvR K (Gx G H) H' σ ρ → Q b H') : tT K f σ H Q :=
  ⟨G, ρ, d, b, e, h, ht, fun H' s => k H' s (e.step s)⟩
/-- by the value's truth -/
theorem pt_of {a : Expr} {f : Rho → Option D} {fr : Bool} (ha : PE X a (tD X.K fr f)) (he : ∀ whole, isTrue a X.env whole = (do let v ← whole; standAt a.pos; holding [v] (truthy v))) : PT X a (tT X.K f) :=
  (pt_truth ha he).imp fun σ H Q h => by
    obtain ⟨G, ρ, d, b, e, h1, h2, k⟩ := h
    exact tD_un e h1 fun v H1 s r _ _ => ⟨b, tru_of r h2, k H1 s⟩

/-! ### the parts -/
structure Snd (N : List Str) (T : List FnI) (lvl : Nat) (cl : Nat → List D → Option D) (c : CE) : Prop where
  e : ∀ (X : Cx) (s : Sc) (e : Expr), Cok N T lvl cl s X → chkE N T c false s e = true → PE X e (tD X.K (freshB c) (evE cl c))
  t : ∀ (X : Cx) (s : Sc) (e : Expr), Cok N T lvl cl s X → chkE N T c false s e = true → PT X e (tT X.K (evE cl c))
  i : ∀ (X : Cx) (s : Sc) (e tg : Expr), Cok N T lvl cl s X → (∃ es k p, tg = .Tuple es k p) ∨ needTp c = false → chkE N T c true s e = true → PI X tg e (tI X.K (evE cl c) (safeI c))
section
variable {N : List Str} {T : List FnI} {lvl : Nat} {cl : Nat → List D → Option D} {s : Sc}
theorem Cok.hu (c : Cok N T lvl cl s X) : X.A.units + 70 < cLine := by
  have := c.room.un
  omega
theorem Cok.nm (c : Cok N T lvl cl s X) {x : Str} (h : x ∈ bnames) : X.mg x = none := c.free x h
/-- a walked value -/
theorem pi_val {tg e : Expr} {f : Rho → Option D} {fr : Bool} {safe : D → Bool} (h : PE X e (tD X.K fr f)) (hs : ∀ d, safe d = true → fr = true ∨ isLst d = false) : PI X tg e (tI X.K f safe) := by
  refine ((pi_list h).or ((pi_tup h).or (pi_str h))).imp fun σ H R q => ?_
  obtain ⟨G, ρ, d, items, e, h1, h2, k⟩ := q
  cases d <;> simp only [iterD, reduceCtorEq] at h2
  · cases h2
    rename_i z
    refine .inr (.inr (tD_un e h1 fun v H1 s1 r _ _ => ?_))
    cases r
    refine ⟨z, rfl, k _ H1 _ _ [] s1 (by simpa using (walk_str (z := z))) (fun a h => nomatch h) (fun _ a h => nomatch h) (fun _ _ => trivial) fun Gp _ i d H' x H'' hd _ _ y => ?_⟩
    obtain ⟨rfl, c, hc, rfl⟩ := y
    refine ⟨Same.refl _, ?_⟩
    simp only [List.getElem?_map, Array.getElem?_toList, hc, Option.map_some, Option.some.injEq] at hd
    subst hd
    rfl
  · cases h2
    refine .inr (.inl (tD_un e h1 fun v H1 s1 r _ _ => ?_))
    obtain ⟨a, vs, rfl, sq, rr⟩ := r
    refine ⟨a, rfl, ⟨vs, sq⟩, k _ H1 _ _ [] s1 (by rw [rr.length]; exact walk_tup (xs := vs)) (fun a h => nomatch h) (fun _ a h => nomatch h) (fun H' kp => sqT_keep kp sq) fun Gp hG i d H' x H'' hd kp _ y => ?_⟩
    obtain ⟨rfl, hx⟩ := y
    refine ⟨Same.refl _, ?_⟩
    obtain ⟨w, hw, q⟩ := (rr.at Gp hG kp).get hd
    rw [hx] at hw; cases hw
    exact q
  · cases h2
    refine .inl (tD_un e h1 fun v H1 s1 r _ hf => ?_)
    obtain ⟨a, vs, rfl, g, sq, rr⟩ := r
    refine ⟨a, rfl, ⟨vs, SqL.of sq⟩, k _ H1 _ _ [a] s1 (by rw [rr.length]; exact walk_list (xs := vs)) (fun b h => ?_) (fun hsf b h => ?_) (fun H' kp => SqL.of (kp a _ sq (.inr (by simp)))) fun Gp hG i d H' x H'' hd kp _ y => ?_⟩
    · rcases List.mem_singleton.mp h with rfl
      exact ⟨g, by rw [sq]; exact fun z => nomatch z⟩
    · rcases List.mem_singleton.mp h with rfl
      rcases hs _ hsf with z | z
      · exact hf z _ rfl _ rfl
      · cases z
    · obtain ⟨rfl, hx⟩ := y
      refine ⟨Same.refl _, ?_⟩
      obtain ⟨w, hw, q⟩ := (rr.at Gp hG kp).get hd
      rw [hx] at hw; cases hw
      exact q
/-- from the value alone -/
theorem Snd.mk_e {c : CE} (he : ∀ (X : Cx) (s : Sc) (e : Expr), Cok N T lvl cl s X → chkE N T c false s e = true → PE X e (tD X.K (freshB c) (evE cl c)))
    (hp : ∀ (s : Sc) (e : Expr), chkE N T c false s e = true → ∀ env whole, isTrue e env whole = (do let v ← whole; standAt e.pos; holding [v] (truthy v)))
    (hi : ∀ s e, chkE N T c true s e = chkE N T c false s e) (hs : ∀ d, safeI c d = (freshB c || !isLst d)) : Snd N T lvl cl c where
  e := he
  t := fun X s e k h => pt_of (he X s e k h) (hp s e h X.env)
  i := fun X s e tg k _ h => pi_val (he X s e k (by rw [← hi]; exact h)) fun d hd => by
    rw [hs] at hd
    simpa using hd
/-- from the value and the test -/
theorem Snd.mk_t {c : CE} (he : ∀ (X : Cx) (s : Sc) (e : Expr), Cok N T lvl cl s X → chkE N T c false s e = true → PE X e (tD X.K (freshB c) (evE cl c)))
    (ht : ∀ (X : Cx) (s : Sc) (e : Expr), Cok N T lvl cl s X → chkE N T c false s e = true → PT X e (tT X.K (evE cl c)))
    (hi : ∀ s e, chkE N T c true s e = chkE N T c false s e) (hs : ∀ d, safeI c d = (freshB c || !isLst d)) : Snd N T lvl cl c where
  e := he
  t := ht
  i := fun X s e tg k _ h => pi_val (he X s e k (by rw [← hi]; exact h)) fun d hd => by
    rw [hs] at hd
    simpa using hd
end

/-! ### the single forms -/
section
variable {N : List Str} {T : List FnI} {lvl : Nat} {cl : Nat → List D → Option D} {s : Sc}
theorem snd_var (i : Nat) : Snd N T lvl cl (.var i) := by
  refine .mk_e (fun X s e k h => ?_) (fun s e h env whole => ?_) (fun s e => by cases e <;> rfl) fun d => rfl
  · cases e <;> simp only [chkE, reduceCtorEq, Bool.false_eq_true] at h
    simp only [Bool.and_eq_true, decide_eq_true_eq] at h
    obtain ⟨⟨h1, h2⟩, h3⟩ := h
    obtain ⟨n1, n2, _⟩ := okName_of h3
    refine (pe_var (i := i) (by rw [k.hN]; exact h1) (by rw [k.sc]; exact vis_of h2) n1 n2).imp fun σ H Q q => ?_
    obtain ⟨G, ρ, d, e, hd, o⟩ := q
    simp only [evE] at hd
    obtain ⟨x, e1, e2⟩ := Option.bind_eq_some_iff.mp hd
    have e2 : x = some d := e2
    subst e2
    obtain ⟨v, hv, r⟩ := e.2 i d e1
    exact ⟨v, hv, out_here o r fun z => by cases z⟩
  · cases e <;> first | rfl | (simp only [chkE, reduceCtorEq, Bool.false_eq_true] at h)
theorem snd_const {c : CE} {v : V} {d : D} {cc : Const} (h1 : ∀ b s e, chkE N T c b s e = (match e with | .Constant x _ _ => decide (x = cc) | _ => false)) (h2 : ∀ X : Cx, ∀ j pos, PE X (.Constant cc j pos) (tC v)) (h3 : ∀ ρ, evE cl c ρ = some d)
    (h4 : ∀ K G H, Rep K G H d v) (h5 : freshB c = false) (h6 : ∀ d, safeI c d = (freshB c || !isLst d)) : Snd N T lvl cl c := by
  refine .mk_e (fun X s e k h => ?_) (fun s e h env whole => ?_) (fun s e => by rw [h1, h1]) h6
  · rw [h1] at h
    cases e <;> simp only [Bool.false_eq_true] at h
    have := of_decide_eq_true h
    subst this
    refine (h2 X _ _).imp fun σ H Q q => ?_
    obtain ⟨G, ρ, d, e, hd, o⟩ := q
    rw [h3] at hd; cases hd
    exact out_here o (h4 _ _ _) fun z => by rw [h5] at z; cases z
  · rw [h1] at h
    cases e <;> first | rfl | (simp only [Bool.false_eq_true] at h)
theorem snd_bin (o : BO) {a b : CE} (ha : Snd N T lvl cl a) (hb : Snd N T lvl cl b) : Snd N T lvl cl (.bin o a b) := by
  refine .mk_e (fun X s e k h => ?_) (fun s e h env whole => ?_) (fun s e => by cases e <;> rfl) fun d => rfl
  · cases e <;> simp only [chkE, reduceCtorEq, Bool.false_eq_true] at h
    simp only [Bool.and_eq_true, decide_eq_true_eq] at h
    obtain ⟨⟨rfl, h2⟩, h3⟩ := h
    obtain ⟨r, hr, ho⟩ := op_bin (X := X) o
    refine (pe_op hr (ha.e X s _ k h2) (hb.e X s _ k h3)).imp fun σ H Q q => tD_bin ho ?_
    simp only [evE] at q
    exact q
  · cases e <;> first | rfl | (simp only [chkE, reduceCtorEq, Bool.false_eq_true] at h)
theorem snd_neg {a : CE} (ha : Snd N T lvl cl a) : Snd N T lvl cl (.neg a) := by
  refine .mk_e (fun X s e k h => ?_) (fun s e h env whole => ?_) (fun s e => by cases e <;> rfl) fun d => rfl
  · cases e <;> simp only [chkE, reduceCtorEq, Bool.false_eq_true] at h
    simp only [Bool.and_eq_true, decide_eq_true_eq] at h
    obtain ⟨rfl, h2⟩ := h
    refine (pe_un un_neg (ha.e X s _ k h2)).imp fun σ H Q q => ?_
    simp only [evE] at q
    refine tD_un1 (op := fun x => (intOf x).map fun i => .int (-i)) (fun G H x dx dz Q rx e o => ?_) q
    obtain ⟨i, e1, rfl⟩ := Option.map_eq_some_iff.mp e
    cases dx <;> simp only [intOf, reduceCtorEq] at e1
    cases e1
    cases rx
    exact ⟨_, rfl, out_int o⟩
  · cases e <;> simp only [chkE, reduceCtorEq, Bool.false_eq_true] at h
    simp only [Bool.and_eq_true, decide_eq_true_eq] at h
    obtain ⟨rfl, _⟩ := h
    rfl
theorem snd_not {a : CE} (ha : Snd N T lvl cl a) : Snd N T lvl cl (.not a) := by
  refine .mk_t (fun X s e k h => ?_) (fun X s e k h => ?_) (fun s e => by cases e <;> rfl) fun d => rfl
  · cases e <;> simp only [chkE, reduceCtorEq, Bool.false_eq_true] at h
    simp only [Bool.and_eq_true, decide_eq_true_eq] at h
    obtain ⟨rfl, h2⟩ := h
    refine (pe_notT (ha.e X s _ k h2)).imp fun σ H Q q => ?_
    simp only [evE] at q
    obtain ⟨G, ρ, d, e, hd, o⟩ := q
    obtain ⟨x, e1, hd⟩ := Option.bind_eq_some_iff.mp hd
    obtain ⟨b, e2, rfl⟩ := Option.map_eq_some_iff.mp hd
    exact tD_un e e1 fun v H1 s1 r _ _ => ⟨b, tru_of r e2, out_bl (o.from_ s1)⟩
  · cases e <;> simp only [chkE, reduceCtorEq, Bool.false_eq_true] at h
    simp only [Bool.and_eq_true, decide_eq_true_eq] at h
    obtain ⟨rfl, h2⟩ := h
    refine (pt_not (ha.t X s _ k h2)).imp fun σ H Q q => ?_
    obtain ⟨G, ρ, d, b, e, hd, hb, o⟩ := q
    simp only [evE] at hd
    obtain ⟨x, e1, hd⟩ := Option.bind_eq_some_iff.mp hd
    obtain ⟨b', e2, rfl⟩ := Option.map_eq_some_iff.mp hd
    simp only [truth, Option.some.injEq] at hb
    subst hb
    exact ⟨G, ρ, x, b', e, e1, e2, o⟩
theorem snd_cmp (o : CO) {a b : CE} (ha : Snd N T lvl cl a) (hb : Snd N T lvl cl b) : Snd N T lvl cl (.cmp o a b) := by
  have key : ∀ (X : Cx) (s : Sc) (e : Expr), Cok N T lvl cl s X → chkE N T (.cmp o a b) false s e = true → ∃ x y p op, e = .Compare x [op] [y] p ∧ op = coOp o ∧ chkE N T a false s x = true ∧ chkE N T b false s y = true ∧ behindInMarks op y = false := by
    intro X s e k h
    cases e <;> first | exact absurd (show false = true from h) Bool.false_ne_true | skip
    rename_i x ops ys p
    rcases ops with _ | ⟨op, _ | ⟨op2, ops⟩⟩ <;> rcases ys with _ | ⟨y, _ | ⟨y2, ys⟩⟩ <;> first | exact absurd (show false = true from h) Bool.false_ne_true | skip
    have h : (decide (op = coOp o) && chkE N T a false s x && chkE N T b false s y && (behindInMarks op y == false)) = true := h
    simp only [Bool.and_eq_true, decide_eq_true_eq, beq_iff_eq] at h
    exact ⟨x, y, p, op, rfl, h.1.1.1, h.1.1.2, h.1.2, h.2⟩
  refine .mk_t (fun X s e k h => ?_) (fun X s e k h => ?_) (fun s e => ?_) fun d => rfl
  · obtain ⟨x, y, p, op, rfl, rfl, h1, h2, h3⟩ := key X s e k h
    obtain ⟨r, hr, ho⟩ := op_cmp (X := X) (by have := k.hu; omega) o
    refine (pe_cmpR hr (ha.e X s _ k h1) (hb.e X s _ k h2) h3).imp fun σ H Q q => tD_bin ho.op ?_
    simp only [evE] at q
    obtain ⟨G, ρ, d, e, hd, oo⟩ := q
    exact ⟨G, ρ, d, e, hd, fun v H' s' r' f => oo v H' s' r' fun z => by cases z⟩
  · obtain ⟨x, y, p, op, rfl, rfl, h1, h2, h3⟩ := key X s e k h
    obtain ⟨r, hr, ho⟩ := op_cmp (X := X) (by have := k.hu; omega) o
    refine (pt_cmpR hr (ha.e X s _ k h1) (hb.e X s _ k h2) h3).imp fun σ H Q q => ?_
    obtain ⟨G, ρ, d, bb, e, hd, hb', oo⟩ := q
    simp only [evE] at hd
    refine tD_bin (fr := true) ho.op ⟨G, ρ, d, e, hd, fun v H' s' r' _ => ?_⟩
    obtain ⟨x, e1, hd⟩ := Option.bind_eq_some_iff.mp hd
    obtain ⟨y, e2, hd⟩ := Option.bind_eq_some_iff.mp hd
    obtain ⟨kk, e3, rfl⟩ := Option.map_eq_some_iff.mp hd
    simp only [truth, Option.some.injEq] at hb'
    subst hb'
    cases r'
    exact ⟨_, rfl, oo H' s'⟩
  · cases e <;> try rfl
    rename_i x ops ys p
    rcases ops with _ | ⟨op, _ | ⟨op2, ops⟩⟩ <;> rcases ys with _ | ⟨y, _ | ⟨y2, ys⟩⟩ <;> rfl
end
end
end Dl
set_option Elab.async false
set_option linter.all false
set_option maxRecDepth 100000
set_option maxHeartbeats 4000000
/-! The look's proof: more forms. -/
namespace Dl
open PySem PySem.Spec PyProof.Rows L2
section
variable {N : List Str} {T : List FnI} {lvl : Nat} {cl : Nat → List D → Option D} {X : Cx}
theorem chk_star {c : CE} {b : Bool} {s : Sc} {x : Expr} {p : Pos} : chkE N T c b s (.Starred x p) = false := by cases c <;> rfl
theorem chk_slice {c : CE} {b : Bool} {s : Sc} {x y z : Option Expr} {p : Pos} : chkE N T c b s (.Slice x y z p) = false := by cases c <;> rfl
theorem chk_set {c : CE} {b : Bool} {s : Sc} {x : List Expr} {k : Nat} {p : Pos} : chkE N T c b s (.Set x k p) = false := by cases c <;> rfl
theorem star_of {c : CE} {b : Bool} {s : Sc} {e : Expr} (h : chkE N T c b s e = true) (es : List Expr) (env : Env) : starEach (e :: es) env = (false, eval e env) :: starEach es env := by
  cases e <;> first | rfl | (rw [chk_star] at h; cases h)
theorem plainIx_of {c : CE} {b : Bool} {s : Sc} {e : Expr} (h : chkE N T c b s e = true) : PlainIx e := by
  intro o i
  cases e <;> first | rfl | (rw [chk_slice] at h; cases h)
theorem fset_of {c : CE} {b : Bool} {s : Sc} {e : Expr} (h : chkE N T c b s e = true) (env : Env) (x : Value) : foldedSetIterable e env x = pure x := by
  cases e <;> first | rfl | (rw [chk_set] at h; cases h)
/-- all items without a star -/
theorem nostars {s : Sc} : ∀ {cs : List CE} {es : List Expr} (_ : chkEs N T cs s es = true) (env : Env) (pos : Pos), (backTo pos (starEach es env)).any (·.1) = false
  | [], [], _, _, _ => rfl
  | [], e :: es, h, _, _ => by simp [chkEs] at h
  | c :: cs, [], h, _, _ => by simp [chkEs] at h
  | c :: cs, e :: es, h, env, pos => by
    simp only [chkEs, Bool.and_eq_true] at h
    rw [star_of h.1]
    show ((false, _) :: backTo pos (starEach es env)).any (·.1) = false
    simp [nostars h.2 env pos]

def tTs (K : PySem.W.Frag) (f : Rho → Option Bool) : TT := fun σ H Q => ∃ G ρ b, EnvR K G H σ ρ ∧ f ρ = some b ∧ ∀ H', Same H H' → Q b H'
structure SndL (N : List Str) (T : List FnI) (lvl : Nat) (cl : Nat → List D → Option D) (cs : List CE) : Prop where
  a : ∀ (X : Cx) (s : Sc) (es : List Expr), Cok N T lvl cl s X → chkEs N T cs s es = true → PA X es (tDs X.K (evEs cl cs))
  t : ∀ (X : Cx) (s : Sc) (es : List Expr), Cok N T lvl cl s X → cs.length ≤ 1 → chkEs N T cs s es = true → PTs X es (tTs X.K (evT cl cs))
theorem sndL_nil : SndL N T lvl cl [] where
  a := fun X s es k h => by
    cases es with
    | nil =>
      refine pa_nil.imp fun σ H Q q => ?_
      obtain ⟨G, ρ, ds, e, h1, o⟩ := q
      simp only [evEs, Option.some.injEq] at h1
      subst h1
      exact o [] H (Same.refl _) rfl
    | cons e es => simp [chkEs] at h
  t := fun X s es k hl h => by
    cases es with
    | nil =>
      refine ⟨fun pins s σ H Q I q => pts_nil.run pins s σ H Q I ?_⟩
      obtain ⟨G, ρ, b, e, h1, o⟩ := q
      simp only [evT, Option.some.injEq] at h1
      subst h1
      exact o H (Same.refl _)
    | cons e es => simp [chkEs] at h
theorem sndL_cons {c : CE} {cs : List CE} (hc : Snd N T lvl cl c) (hs : SndL N T lvl cl cs) : SndL N T lvl cl (c :: cs) where
  a := fun X s es k h => by
    cases es with
    | nil => simp [chkEs] at h
    | cons e es =>
      simp only [chkEs, Bool.and_eq_true] at h
      refine (pa_cons (hc.e X s e k h.1) (hs.a X s es k h.2) (star_of h.1 _ _)).imp fun σ H Q q => ?_
      obtain ⟨G, ρ, ds, e, h1, o⟩ := q
      simp only [evEs] at h1
      obtain ⟨d, h2, h1⟩ := Option.bind_eq_some_iff.mp h1
      obtain ⟨ds', h3, rfl⟩ := Option.map_eq_some_iff.mp h1
      exact tD_un e h2 fun v H1 s1 r1 e1 _ => tDs_un e1 h3 fun vs H2 s2 r2 e2 => o _ H2 (s1.trans s2) ⟨v, vs, rfl, r1.keep (Keep.same s2), r2.mono fun _ h => Gx.same s1 h⟩
  t := fun X s es k hl h => by
    cases es with
    | nil => simp [chkEs] at h
    | cons e es =>
      simp only [chkEs, Bool.and_eq_true] at h
      cases cs with
      | cons c' cs' => simp at hl
      | nil =>
        cases es with
        | cons e' es' => simp [chkEs] at h
        | nil =>
          refine ⟨fun pins s σ H Q I q => (pts_one (hc.t X _ e k h.1)).run pins s σ H Q I ?_⟩
          obtain ⟨G, ρ, b, e, h1, o⟩ := q
          simp only [evT] at h1
          obtain ⟨d, h2, h3⟩ := Option.bind_eq_some_iff.mp h1
          exact ⟨G, ρ, d, b, e, h2, h3, o⟩

theorem snd_chain (o o' : CO) {a b c : CE} (ha : Snd N T lvl cl a) (hb : Snd N T lvl cl b) (hc : Snd N T lvl cl c) : Snd N T lvl cl (.chain o o' a b c) := by
  have key : ∀ (X : Cx) (s : Sc) (e : Expr), Cok N T lvl cl s X → chkE N T (.chain o o' a b c) false s e = true → ∃ x y z p, e = .Compare x [coOp o, coOp o'] [y, z] p ∧ chkE N T a false s x = true ∧ chkE N T b false s y = true ∧ chkE N T c false s z = true ∧ lastMarks [coOp o, coOp o'] [y, z] = false := by
    intro X s e k h
    cases e <;> first | exact absurd (show false = true from h) Bool.false_ne_true | skip
    rename_i x ops ys p
    rcases ops with _ | ⟨op, _ | ⟨op2, _ | ⟨op3, ops⟩⟩⟩ <;> rcases ys with _ | ⟨y, _ | ⟨y2, _ | ⟨y3, ys⟩⟩⟩ <;> first | exact absurd (show false = true from h) Bool.false_ne_true | skip
    have h : (decide (op = coOp o) && decide (op2 = coOp o') && chkE N T a false s x && chkE N T b false s y && chkE N T c false s y2 && (lastMarks [op, op2] [y, y2] == false)) = true := h
    simp only [Bool.and_eq_true, decide_eq_true_eq, beq_iff_eq] at h
    obtain ⟨⟨⟨⟨⟨rfl, rfl⟩, h1⟩, h2⟩, h3⟩, h4⟩ := h
    exact ⟨x, y, y2, p, rfl, h1, h2, h3, h4⟩
  have rd : ∀ {X : Cx} {s : Sc} (k : Cok N T lvl cl s X) {r r' : R2}, CmD X.K r (cmpD o) → CmD X.K r' (cmpD o') → ∀ (σ : L2.St) (H : Hp) (Q : VK) (G : Addr → Prop) (ρ : Rho) (d : D), EnvR X.K G H σ ρ → evE cl (.chain o o' a b c) ρ = some d → (∀ v H', Same H H' → Rep X.K (Gx G H) H' d v → Q v H') →
      tChain r r' (tD X.K (freshB a) (evE cl a)) (tD X.K (freshB b) (evE cl b)) (tD X.K (freshB c) (evE cl c)) σ H Q := by
    intro X s k r r' ho ho' σ H Q G ρ d e hd oo
    simp only [evE] at hd
    obtain ⟨x, e1, hd⟩ := Option.bind_eq_some_iff.mp hd
    obtain ⟨y, e2, hd⟩ := Option.bind_eq_some_iff.mp hd
    obtain ⟨kk, e3, hd⟩ := Option.bind_eq_some_iff.mp hd
    refine tD_un e e1 fun v H1 s1 r1 en1 _ => tD_un en1 e2 fun w H2 s2 r2 en2 _ => ?_
    have r1' := (r1.keep (Keep.same s2)).mono (G' := Gx (Gx G H) H1) fun _ h => .inl h
    refine ho _ H2 v w x y kk _ r1' r2 e3 ⟨kk, rfl, ?_⟩
    cases kk with
    | false =>
      simp only [Bool.false_eq_true, if_false] at hd ⊢
      cases hd
      exact oo _ H2 (s1.trans s2) rfl
    | true =>
      simp only [if_true] at hd ⊢
      obtain ⟨z, e4, hd⟩ := Option.bind_eq_some_iff.mp hd
      obtain ⟨k2, e5, rfl⟩ := Option.map_eq_some_iff.mp hd
      refine tD_un en2 e4 fun u H3 s3 r3 en3 _ => ?_
      exact ho' _ H3 w u y z k2 Q ((r2.keep (Keep.same s3)).mono fun _ h => .inl h) r3 e5 (oo _ H3 ((s1.trans s2).trans s3) rfl)
  refine .mk_t (fun X s e k h => ?_) (fun X s e k h => ?_) (fun s e => ?_) fun d => rfl
  · obtain ⟨x, y, z, p, rfl, h1, h2, h3, h4⟩ := key X s e k h
    obtain ⟨r, hr, ho⟩ := op_cmp (X := X) (by have := k.hu; omega) o
    obtain ⟨r', hr', ho'⟩ := op_cmp (X := X) (by have := k.hu; omega) o'
    refine (pe_chain hr hr' (ha.e X s _ k h1) (hb.e X s _ k h2) (hc.e X s _ k h3) h4).imp fun σ H Q q => ?_
    obtain ⟨G, ρ, d, e, hd, oo⟩ := q
    exact rd k ho ho' σ H Q G ρ d e hd fun v H' s' r' => oo v H' s' r' fun z => by cases z
  · obtain ⟨x, y, z, p, rfl, h1, h2, h3, h4⟩ := key X s e k h
    obtain ⟨r, hr, ho⟩ := op_cmp (X := X) (by have := k.hu; omega) o
    obtain ⟨r', hr', ho'⟩ := op_cmp (X := X) (by have := k.hu; omega) o'
    refine (pt_chain hr hr' (ha.e X s _ k h1) (hb.e X s _ k h2) (hc.e X s _ k h3) h4).imp fun σ H Q q => ?_
    obtain ⟨G, ρ, d, bb, e, hd, hb', oo⟩ := q
    refine rd k ho ho' σ H _ G ρ d e hd fun v H' s' r' => ?_
    have : ∃ kk, d = .bl kk := by
      simp only [evE] at hd
      obtain ⟨x, e1, hd⟩ := Option.bind_eq_some_iff.mp hd
      obtain ⟨y, e2, hd⟩ := Option.bind_eq_some_iff.mp hd
      obtain ⟨kk, e3, hd⟩ := Option.bind_eq_some_iff.mp hd
      split at hd
      · obtain ⟨z, e4, hd⟩ := Option.bind_eq_some_iff.mp hd
        obtain ⟨k2, e5, rfl⟩ := Option.map_eq_some_iff.mp hd
        exact ⟨_, rfl⟩
      · cases hd
        exact ⟨_, rfl⟩
    obtain ⟨kk, rfl⟩ := this
    simp only [truth, Option.some.injEq] at hb'
    subst hb'
    cases r'
    exact ⟨_, rfl, oo H' s'⟩
  · cases e <;> try rfl
    rename_i x ops ys p
    rcases ops with _ | ⟨op, _ | ⟨op2, _ | ⟨op3, ops⟩⟩⟩ <;> rcases ys with _ | ⟨y, _ | ⟨y2, _ | ⟨y3, ys⟩⟩⟩ <;> rfl
theorem key_is {a c : CE} {o : CmpOp} (hk : ∀ b s e, chkE N T c b s e = (match e with | .Compare x [op] [.Constant k _ _] _ => decide (op = o) && decide (k = .none) && chkE N T a false s x | _ => false)) {b : Bool} {s : Sc} {e : Expr} (h : chkE N T c b s e = true) :
    ∃ x j p p', e = .Compare x [o] [.Constant .none j p'] p ∧ chkE N T a false s x = true := by
  rw [hk] at h
  split at h
  · simp only [Bool.and_eq_true, decide_eq_true_eq] at h
    obtain ⟨⟨rfl, rfl⟩, h⟩ := h
    exact ⟨_, _, _, _, rfl, h⟩
  · cases h
theorem snd_isN {a : CE} (ha : Snd N T lvl cl a) : Snd N T lvl cl (.isN a) := by
  have hk : ∀ b s e, chkE N T (.isN a) b s e = (match e with | .Compare x [op] [.Constant k _ _] _ => decide (op = .Is) && decide (k = .none) && chkE N T a false s x | _ => false) := fun b s e => by
    cases e <;> try rfl
    rename_i x ops ys p
    rcases ops with _ | ⟨op, _ | ⟨op2, ops⟩⟩ <;> rcases ys with _ | ⟨y, _ | ⟨y2, ys⟩⟩ <;> try rfl
    all_goals (cases y <;> rfl)
  refine .mk_t (fun X s e k h => ?_) (fun X s e k h => ?_) (fun s e => by rw [hk, hk]) fun d => rfl
  · obtain ⟨x, j, p, p', rfl, h⟩ := key_is hk h
    refine (pe_cmp (pc_isN (ha.e X s _ k h))).imp fun σ H Q q => ?_
    obtain ⟨G, ρ, d, e, hd, o⟩ := q
    simp only [evE] at hd
    obtain ⟨x, e1, rfl⟩ := Option.map_eq_some_iff.mp hd
    refine tD_un e e1 fun v H1 s1 r1 _ _ => ?_
    rw [isNon_of r1]
    exact out_bl (o.from_ s1)
  · obtain ⟨x, j, p, p', rfl, h⟩ := key_is hk h
    refine (pt_cmp (pc_isN (ha.e X s _ k h))).imp fun σ H Q q => ?_
    obtain ⟨G, ρ, d, b, e, hd, hb, o⟩ := q
    simp only [evE] at hd
    obtain ⟨x, e1, rfl⟩ := Option.map_eq_some_iff.mp hd
    refine tD_un e e1 fun v H1 s1 r1 _ _ => ?_
    rw [isNon_of r1]
    simp only [truth, Option.some.injEq] at hb
    subst hb
    exact ⟨_, rfl, o H1 s1⟩
theorem snd_notN {a : CE} (ha : Snd N T lvl cl a) : Snd N T lvl cl (.notN a) := by
  have hk : ∀ b s e, chkE N T (.notN a) b s e = (match e with | .Compare x [op] [.Constant k _ _] _ => decide (op = .IsNot) && decide (k = .none) && chkE N T a false s x | _ => false) := fun b s e => by
    cases e <;> try rfl
    rename_i x ops ys p
    rcases ops with _ | ⟨op, _ | ⟨op2, ops⟩⟩ <;> rcases ys with _ | ⟨y, _ | ⟨y2, ys⟩⟩ <;> try rfl
    all_goals (cases y <;> rfl)
  refine .mk_t (fun X s e k h => ?_) (fun X s e k h => ?_) (fun s e => by rw [hk, hk]) fun d => rfl
  · obtain ⟨x, j, p, p', rfl, h⟩ := key_is hk h
    refine (pe_cmp (pc_notN (ha.e X s _ k h))).imp fun σ H Q q => ?_
    obtain ⟨G, ρ, d, e, hd, o⟩ := q
    simp only [evE] at hd
    obtain ⟨x, e1, rfl⟩ := Option.map_eq_some_iff.mp hd
    refine tD_un e e1 fun v H1 s1 r1 _ _ => ?_
    rw [isNon_of r1]
    exact out_bl (o.from_ s1)
  · obtain ⟨x, j, p, p', rfl, h⟩ := key_is hk h
    refine (pt_cmp (pc_notN (ha.e X s _ k h))).imp fun σ H Q q => ?_
    obtain ⟨G, ρ, d, b, e, hd, hb, o⟩ := q
    simp only [evE] at hd
    obtain ⟨x, e1, rfl⟩ := Option.map_eq_some_iff.mp hd
    refine tD_un e e1 fun v H1 s1 r1 _ _ => ?_
    rw [isNon_of r1]
    simp only [truth, Option.some.injEq] at hb
    subst hb
    exact ⟨_, rfl, o H1 s1⟩
/-- the second part of and, or -/
def bo2 (op : BoolOp) (y : Expr) (r : List Expr) (p : Pos) : Expr := match r with
  | [] => y
  | _ => .BoolOp op (y :: r) p
theorem pe_bo2 {op : BoolOp} {y : Expr} {r : List Expr} {p : Pos} {t : TE} (h : PE X (bo2 op y r p) t) : PE X (.BoolOp op (y :: r) p) t := by
  cases r with
  | nil => exact pe_one h
  | cons z r => exact h
theorem key_bo {a b c : CE} {o : BoolOp} (hk : ∀ f s e, chkE N T c f s e = (match e with | .BoolOp op (x :: y :: r) p => decide (op = o) && chkE N T a false s x && (match r with | [] => chkE N T b false s y | _ => chkE N T b false s (.BoolOp o (y :: r) p)) | _ => false)) {f : Bool} {s : Sc} {e : Expr} (h : chkE N T c f s e = true) :
    ∃ x y r p, e = .BoolOp o (x :: y :: r) p ∧ chkE N T a false s x = true ∧ chkE N T b false s (bo2 o y r p) = true := by
  rw [hk] at h
  split at h
  · rename_i op x y r p
    simp only [Bool.and_eq_true, decide_eq_true_eq] at h
    obtain ⟨⟨rfl, h⟩, h2⟩ := h
    refine ⟨x, y, r, p, rfl, h, ?_⟩
    cases r with
    | nil => exact h2
    | cons z r => exact h2
  · cases h
/-- a chain of one operator as a test -/
theorem pw_bo2 {y : Expr} {r : List Expr} {p : Pos} {t : TT} (hy : PT X (bo2 .And y r p) t) : PW X (.BoolOp .And (y :: r) p) t := by
  cases r with
  | nil => exact pw_and1 hy
  | cons z r => exact ⟨fun w pins s σ H Q I q => by
      have := hy.run pins s σ H Q I q
      simp only [bo2] at this
      rw [PySem.isTrue] at this ⊢
      exact this⟩
theorem pw_bo2o {y : Expr} {r : List Expr} {p : Pos} {t : TT} (hy : PT X (bo2 .Or y r p) t) : PW X (.BoolOp .Or (y :: r) p) t := by
  cases r with
  | nil => exact pw_or1 hy
  | cons z r => exact ⟨fun w pins s σ H Q I q => by
      have := hy.run pins s σ H Q I q
      simp only [bo2] at this
      rw [PySem.isTrue] at this ⊢
      exact this⟩
theorem snd_and {a b : CE} (ha : Snd N T lvl cl a) (hb : Snd N T lvl cl b) : Snd N T lvl cl (.and a b) := by
  have hk : ∀ f s e, chkE N T (.and a b) f s e = (match e with | .BoolOp op (x :: y :: r) p => decide (op = .And) && chkE N T a false s x && (match r with | [] => chkE N T b false s y | _ => chkE N T b false s (.BoolOp .And (y :: r) p)) | _ => false) := fun f s e => by
    cases e <;> try rfl
    rename_i op vs p
    rcases vs with _ | ⟨x, _ | ⟨y, r⟩⟩ <;> rfl
  refine .mk_t (fun X s e k h => ?_) (fun X s e k h => ?_) (fun s e => by rw [hk, hk]) fun d => rfl
  · obtain ⟨x, y, r, p, rfl, h1, h2⟩ := key_bo hk h
    refine (pe_andT (ha.e X s _ k h1) (pe_bo2 (hb.e X s _ k h2))).imp fun σ H Q q => ?_
    obtain ⟨G, ρ, d, e, hd, o⟩ := q
    simp only [evE] at hd
    obtain ⟨x, e1, hd⟩ := Option.bind_eq_some_iff.mp hd
    obtain ⟨kk, e2, hd⟩ := Option.bind_eq_some_iff.mp hd
    refine tD_un e e1 fun v H1 s1 r1 en _ => ⟨kk, tru_of r1 e2, ?_⟩
    cases kk with
    | true =>
      simp only [if_true] at hd ⊢
      exact tD_un en hd fun w H2 s2 r2 _ _ => o w H2 (s1.trans s2) (r2.mono fun _ h => Gx.same s1 h) fun z => by cases z
    | false =>
      simp only [Bool.false_eq_true, if_false] at hd ⊢
      cases hd
      exact o v H1 s1 r1 fun z => by cases z
  · obtain ⟨x, y, r, p, rfl, h1, h2⟩ := key_bo hk h
    refine (PW.pt (pw_and (ha.t X s _ k h1) (pw_bo2 (hb.t X s _ k h2)))).imp fun σ H Q q => ?_
    obtain ⟨G, ρ, d, b, e, hd, hb, o⟩ := q
    simp only [evE] at hd
    obtain ⟨x, e1, hd⟩ := Option.bind_eq_some_iff.mp hd
    obtain ⟨kk, e2, hd⟩ := Option.bind_eq_some_iff.mp hd
    refine tT_in e e1 e2 fun H1 s1 en => ?_
    cases kk with
    | true =>
      simp only [if_true] at hd ⊢
      exact tT_in en hd hb fun H2 s2 _ => o H2 (s1.trans s2)
    | false =>
      simp only [Bool.false_eq_true, if_false] at hd ⊢
      cases hd
      rw [e2] at hb; cases hb
      exact o H1 s1
theorem snd_or {a b : CE} (ha : Snd N T lvl cl a) (hb : Snd N T lvl cl b) : Snd N T lvl cl (.or a b) := by
  have hk : ∀ f s e, chkE N T (.or a b) f s e = (match e with | .BoolOp op (x :: y :: r) p => decide (op = .Or) && chkE N T a false s x && (match r with | [] => chkE N T b false s y | _ => chkE N T b false s (.BoolOp .Or (y :: r) p)) | _ => false) := fun f s e => by
    cases e <;> try rfl
    rename_i op vs p
    rcases vs with _ | ⟨x, _ | ⟨y, r⟩⟩ <;> rfl
  refine .mk_t (fun X s e k h => ?_) (fun X s e k h => ?_) (fun s e => by rw [hk, hk]) fun d => rfl
  · obtain ⟨x, y, r, p, rfl, h1, h2⟩ := key_bo hk h
    refine (pe_orT (ha.e X s _ k h1) (pe_bo2 (hb.e X s _ k h2))).imp fun σ H Q q => ?_
    obtain ⟨G, ρ, d, e, hd, o⟩ := q
    simp only [evE] at hd
    obtain ⟨x, e1, hd⟩ := Option.bind_eq_some_iff.mp hd
    obtain ⟨kk, e2, hd⟩ := Option.bind_eq_some_iff.mp hd
    refine tD_un e e1 fun v H1 s1 r1 en _ => ⟨kk, tru_of r1 e2, ?_⟩
    cases kk with
    | false =>
      simp only [Bool.false_eq_true, if_false] at hd ⊢
      exact tD_un en hd fun w H2 s2 r2 _ _ => o w H2 (s1.trans s2) (r2.mono fun _ h => Gx.same s1 h) fun z => by cases z
    | true =>
      simp only [if_true] at hd ⊢
      cases hd
      exact o v H1 s1 r1 fun z => by cases z
  · obtain ⟨x, y, r, p, rfl, h1, h2⟩ := key_bo hk h
    refine (PW.pt (pw_or (ha.t X s _ k h1) (pw_bo2o (hb.t X s _ k h2)))).imp fun σ H Q q => ?_
    obtain ⟨G, ρ, d, b, e, hd, hb, o⟩ := q
    simp only [evE] at hd
    obtain ⟨x, e1, hd⟩ := Option.bind_eq_some_iff.mp hd
    obtain ⟨kk, e2, hd⟩ := Option.bind_eq_some_iff.mp hd
    refine tT_in e e1 e2 fun H1 s1 en => ?_
    cases kk with
    | false =>
      simp only [Bool.false_eq_true, if_false] at hd ⊢
      exact tT_in en hd hb fun H2 s2 _ => o H2 (s1.trans s2)
    | true =>
      simp only [if_true] at hd ⊢
      cases hd
      rw [e2] at hb; cases hb
      exact o H1 s1
theorem snd_ite {c a b : CE} (hc : Snd N T lvl cl c) (ha : Snd N T lvl cl a) (hb : Snd N T lvl cl b) : Snd N T lvl cl (.ite c a b) := by
  refine .mk_t (fun X s e k h => ?_) (fun X s e k h => ?_) (fun s e => by cases e <;> rfl) fun d => rfl
  · cases e <;> first | exact absurd (show false = true from h) Bool.false_ne_true | skip
    simp only [chkE, Bool.and_eq_true] at h
    obtain ⟨⟨h1, h2⟩, h3⟩ := h
    refine (pe_ifExp (hc.t X s _ k h1) (ha.e X s _ k h2) (hb.e X s _ k h3)).imp fun σ H Q q => ?_
    obtain ⟨G, ρ, d, e, hd, o⟩ := q
    simp only [evE] at hd
    obtain ⟨x, e1, hd⟩ := Option.bind_eq_some_iff.mp hd
    obtain ⟨kk, e2, hd⟩ := Option.bind_eq_some_iff.mp hd
    refine tT_in e e1 e2 fun H1 s1 en => ?_
    cases kk with
    | false =>
      simp only [Bool.false_eq_true, if_false] at hd ⊢
      exact tD_un en hd fun w H2 s2 r2 _ _ => o w H2 (s1.trans s2) (r2.mono fun _ h => Gx.same s1 h) fun z => by cases z
    | true =>
      simp only [if_true] at hd ⊢
      exact tD_un en hd fun w H2 s2 r2 _ _ => o w H2 (s1.trans s2) (r2.mono fun _ h => Gx.same s1 h) fun z => by cases z
  · cases e <;> first | exact absurd (show false = true from h) Bool.false_ne_true | skip
    simp only [chkE, Bool.and_eq_true] at h
    obtain ⟨⟨h1, h2⟩, h3⟩ := h
    refine ⟨fun pins sh σ H Q I q => ?_⟩
    obtain ⟨G, ρ, d, b, e, hd, hb', o⟩ := q
    simp only [evE] at hd
    obtain ⟨x, e1, hd⟩ := Option.bind_eq_some_iff.mp hd
    obtain ⟨kk, e2, hd⟩ := Option.bind_eq_some_iff.mp hd
    refine isTrue_IfExp (thn ((hc.t X s _ k h1).run pins sh σ H (fun b' H' => b' = kk ∧ Same H H' ∧ EnvR X.K (Gx G H) H' σ ρ) I (tT_in e e1 e2 fun H1 s1 en => ⟨rfl, s1, en⟩)) fun b' s2 hq => ?_)
    obtain ⟨H1, I1, rfl, s1, en⟩ := hq
    cases b' with
    | false =>
      simp only [Bool.false_eq_true, if_false] at hd ⊢
      exact (hb.t X s _ k h3).run pins s2 σ H1 Q I1 (tT_in en hd hb' fun H2 s2 _ => o H2 (s1.trans s2))
    | true =>
      simp only [if_true] at hd ⊢
      exact (ha.t X s _ k h2).run pins s2 σ H1 Q I1 (tT_in en hd hb' fun H2 s2 _ => o H2 (s1.trans s2))
theorem snd_idx {a b : CE} (ha : Snd N T lvl cl a) (hb : Snd N T lvl cl b) : Snd N T lvl cl (.idx a b) := by
  refine .mk_e (fun X s e k h => ?_) (fun s e h env whole => ?_) (fun s e => by cases e <;> rfl) fun d => rfl
  · cases e <;> first | exact absurd (show false = true from h) Bool.false_ne_true | skip
    simp only [chkE, Bool.and_eq_true] at h
    refine (pe_ix ix_seq (ha.e X s _ k h.1) (hb.e X s _ k h.2) (plainIx_of h.2)).imp fun σ H Q q => tD_bin ok_idx ?_
    simp only [evE] at q
    exact q
  · cases e <;> first | exact absurd (show false = true from h) Bool.false_ne_true | rfl
end
end Dl
set_option Elab.async false
set_option linter.all false
set_option maxRecDepth 100000
set_option maxHeartbeats 4000000
/-! The look's proof: displays, slices, calls, comprehensions. -/
namespace Dl
open PySem PySem.Spec PyProof.Rows L2
section
variable {N : List Str} {T : List FnI} {lvl : Nat} {cl : Nat → List D → Option D} {X : Cx}
theorem snd_tup {es : List CE} (h : SndL N T lvl cl es) : Snd N T lvl cl (.tup es) := by
  refine .mk_e (fun X s e k hh => ?_) (fun s e h env whole => ?_) (fun s e => by cases e <;> rfl) fun d => rfl
  · cases e <;> first | exact absurd (show false = true from hh) Bool.false_ne_true | skip
    refine (pe_tup (h.a X s _ k hh)).imp fun σ H Q q => ?_
    obtain ⟨G, ρ, d, e, hd, o⟩ := q
    simp only [evE] at hd
    obtain ⟨ds, e1, hd⟩ := Option.bind_eq_some_iff.mp hd
    obtain ⟨hc, rfl⟩ := grd_some hd
    refine tDs_un e e1 fun vs H1 s1 r1 _ => ⟨by rw [← r1.length]; exact hc, fun p hp => ?_⟩
    exact out_tup r1 (o.from_ s1) p hp
  · cases e <;> first | exact absurd (show false = true from h) Bool.false_ne_true | rfl
theorem snd_lst {es : List CE} (h : SndL N T lvl cl es) : Snd N T lvl cl (.lst es) := by
  refine .mk_e (fun X s e k hh => ?_) (fun s e h env whole => ?_) (fun s e => by cases e <;> rfl) fun d => rfl
  · cases e <;> first | exact absurd (show false = true from hh) Bool.false_ne_true | skip
    refine (pe_lst (h.a X s _ k hh)).imp fun σ H Q q => ?_
    obtain ⟨G, ρ, d, e, hd, o⟩ := q
    simp only [evE] at hd
    obtain ⟨ds, e1, hd⟩ := Option.bind_eq_some_iff.mp hd
    obtain ⟨hc, rfl⟩ := grd_some hd
    refine tDs_un e e1 fun vs H1 s1 r1 _ => ⟨by rw [← r1.length]; exact hc, fun p hp => ?_⟩
    exact out_lst r1 (o.from_ s1) p hp
  · cases e <;> first | exact absurd (show false = true from h) Bool.false_ne_true | rfl
/-- a slice's end -/
def tP (K : PySem.W.Frag) (f : Rho → Option D) : TO := fun σ H Q => ∃ G ρ o, EnvR K G H σ ρ ∧ (f ρ).bind partD = some o ∧ ∀ H', Same H H' → Q o H'
theorem PO.imp {e : Option Expr} {t t' : TO} (h : PO X e t) (i : ∀ σ H Q, t' σ H Q → t σ H Q) : PO X e t' := ⟨fun pins s σ H Q I q => h.run pins s σ H Q I (i σ H Q q)⟩
theorem po_ok {c : CE} (hc : Snd N T lvl cl c) {s : Sc} (k : Cok N T lvl cl s X) {l : Option Expr} (h : (match l with | none => isNonC c | some l => chkE N T c false s l) = true) : PO X l (tP X.K (evE cl c)) := by
  cases l with
  | none =>
    refine PO.imp po_none fun σ H Q q => ?_
    obtain ⟨G, ρ, o, e, h1, kk⟩ := q
    cases c <;> simp only [isNonC, Bool.false_eq_true] at h
    simp only [evE, Option.bind_some, partD, Option.some.injEq] at h1
    subst h1
    exact kk H (Same.refl _)
  | some l =>
    refine ⟨fun pins sh σ H Q I q => ?_⟩
    obtain ⟨G, ρ, o, e, h1, kk⟩ := q
    obtain ⟨d, h2, h3⟩ := Option.bind_eq_some_iff.mp h1
    rw [evalPart_some]
    refine thn ((hc.e X s l k h).run pins sh σ H (fun v H' => Same H H' ∧ Rep X.K (Gx G H) H' d v) I (tD_un e h2 fun v H1 s1 r1 _ _ => ⟨s1, r1⟩)) fun u s1 hq => ?_
    obtain ⟨v, H1, I1, ru, ss, r1⟩ := hq
    cases d <;> simp only [partD, reduceCtorEq] at h3
    · cases h3
      cases r1
      cases ru
      exact ⟨none, H1, I1, .none, kk H1 ss⟩
    · cases h3
      cases r1
      obtain ⟨t, rfl⟩ := ru
      exact ⟨some _, H1, I1, .int _ t, kk H1 ss⟩
theorem key_slc {a lo hi : CE} : ∀ (s : Sc) (e : Expr), chkE N T (.slc a lo hi) false s e = true → ∃ x l h p p2, e = .Subscript x (.Slice l h none p2) p ∧ chkE N T a false s x = true ∧
      (match l with | none => isNonC lo | some l => chkE N T lo false s l) = true ∧ (match h with | none => isNonC hi | some h => chkE N T hi false s h) = true := by
    intro s e h
    cases e <;> first | exact absurd (show false = true from h) Bool.false_ne_true | skip
    rename_i x y p
    cases y <;> first | exact absurd (show false = true from h) Bool.false_ne_true | skip
    rename_i l h' st p2
    cases st <;> first | exact absurd (show false = true from h) Bool.false_ne_true | skip
    simp only [chkE, Bool.and_eq_true] at h
    exact ⟨x, l, h', p, p2, rfl, h.1.1, h.1.2, h.2⟩
theorem snd_slc {a lo hi : CE} (ha : Snd N T lvl cl a) (hl : Snd N T lvl cl lo) (hh : Snd N T lvl cl hi) : Snd N T lvl cl (.slc a lo hi) := by
  refine .mk_e (fun X s e k h => ?_) (fun s e h env whole => ?_) (fun s e => ?_) fun d => rfl
  · obtain ⟨x, l, h', p, p2, rfl, h1, h2, h3⟩ := key_slc s e h
    refine (pe_slice (sl_tupA.or sl_list) (ha.e X s _ k h1) (po_ok hl k h2) (po_ok hh k h3)).imp fun σ H Q q => ?_
    obtain ⟨G, ρ, d, e, hd, o⟩ := q
    simp only [evE] at hd
    obtain ⟨x, e1, hd⟩ := Option.bind_eq_some_iff.mp hd
    obtain ⟨l, e2, hd⟩ := Option.bind_eq_some_iff.mp hd
    obtain ⟨u, e3, hd⟩ := Option.bind_eq_some_iff.mp hd
    refine tD_un e e1 fun v H1 s1 r1 en _ => ⟨_, ρ, l, en, e2, fun H2 s2 => ⟨_, ρ, u, en.step s2, e3, fun H3 s3 => ?_⟩⟩
    exact ok_slice (r1.keep (Keep.same (s2.trans s3))) hd (o.from_ ((s1.trans s2).trans s3))
  · cases e <;> first | exact absurd (show false = true from h) Bool.false_ne_true | rfl
  · cases e <;> try rfl
    rename_i x y p
    cases y <;> try rfl
    rename_i l h' st p2
    cases st <;> rfl
theorem snd_call (f : Nat) {es : List CE} (h : SndL N T lvl cl es) : Snd N T lvl cl (.call f es) := by
  have hk : ∀ b s e, chkE N T (.call f es) b s e = (match e with | .Call (.Name x _) xs [] _ => glB s.sc x && okName x && (match T[f]? with | some fi => decide (fi.name = x) | none => false) && chkEs N T es s xs | _ => false) := fun b s e => by
    cases e <;> try rfl
    rename_i fn xs kw p
    cases fn <;> try rfl
    cases kw <;> rfl
  refine .mk_e (fun X s e k hh => ?_) (fun s e h env whole => ?_) (fun s e => by rw [hk, hk]) fun d => rfl
  · rw [hk] at hh
    split at hh
    · rename_i x p xs pos
      simp only [Bool.and_eq_true] at hh
      obtain ⟨⟨⟨h1, h2⟩, h3⟩, h4⟩ := hh
      cases hf : T[f]? with
      | none => rw [hf] at h3; cases h3
      | some fi =>
        rw [hf] at h3
        have := of_decide_eq_true h3
        subst this
        obtain ⟨a, fd, m1, m2, m3, m4⟩ := k.fns f fi hf
        obtain ⟨n1, _, _⟩ := okName_of h2
        have hrd : ∀ (σ : L2.St) (H : Hp) (Q : VK), tD X.K (freshB (.call f es)) (evE cl (.call f es)) σ H Q → tCall (spD X.K fi.ps.length (cl f)) [] E0 (tDs X.K (evEs cl es)) σ H Q := by
          intro σ H Q q
          obtain ⟨G, ρ, d, e, hd, o⟩ := q
          simp only [evE] at hd
          obtain ⟨ds, e1, hd⟩ := Option.bind_eq_some_iff.mp hd
          refine tDs_un e e1 fun vs H1 s1 r1 _ => ?_
          rw [List.append_nil]
          by_cases hl : vs.length = fi.ps.length
          · exact ⟨hl, _, ds, d, r1, hd, fun v H' s' r' => o v H' (s1.trans s') (r'.mono fun _ h => Gx.same s1 h) fun z => by cases z⟩
          · exact (hl (k.arity f fi hf ds d hd ▸ r1.length.symm)).elim
        cases xs with
        | nil =>
          refine (pe_call0 m4 k.room (k.gl h1) m1 m2 m3 .nil pass0 n1).imp fun σ H Q q => ?_
          have := hrd σ H Q q
          cases es with
          | nil =>
            obtain ⟨G, ρ, ds, e, e1, o⟩ := this
            simp only [evEs, Option.some.injEq] at e1
            subst e1
            exact o [] H (Same.refl _) rfl
          | cons c cs => simp [chkEs] at h4
        | cons x xs =>
          have hs : starEach (x :: xs) X.env = (false, eval x X.env) :: starEach xs X.env := by
            cases es with
            | nil => simp [chkEs] at h4
            | cons c cs =>
              simp only [chkEs, Bool.and_eq_true] at h4
              exact star_of h4.1 _ _
          have hp : (backTo pos (starEach xs X.env)).any (·.1) = false := by
            cases es with
            | nil => simp [chkEs] at h4
            | cons c cs =>
              simp only [chkEs, Bool.and_eq_true] at h4
              exact nostars h4.2 _ _
          exact (pe_call m4 k.room (k.gl h1) m1 m2 m3 .nil pass0 (h.a X s _ k h4) n1 hs hp).imp hrd
    · cases hh
  · rw [hk] at h
    split at h
    · rfl
    · cases h
theorem snd_bi (b : BI) {es : List CE} (h : SndL N T lvl cl es) : Snd N T lvl cl (.bi b es) := by
  have hk : ∀ f s e, chkE N T (.bi b es) f s e = (match e with | .Call (.Name x _) (y :: ys) [] _ => glB s.sc x && decide (x = biName b) && chkEs N T es s (y :: ys) | _ => false) := fun f s e => by
    cases e <;> try rfl
    rename_i fn xs kw p
    cases fn <;> try rfl
    cases xs <;> try rfl
    cases kw <;> rfl
  refine .mk_e (fun X s e k hh => ?_) (fun s e h env whole => ?_) (fun s e => by rw [hk, hk]) fun d => by cases d <;> rfl
  · rw [hk] at hh
    split at hh
    · rename_i x p y ys pos
      simp only [Bool.and_eq_true, decide_eq_true_eq] at hh
      obtain ⟨⟨h1, rfl⟩, h4⟩ := hh
      have hs : starEach (y :: ys) X.env = (false, eval y X.env) :: starEach ys X.env := by
        cases es with
        | nil => simp [chkEs] at h4
        | cons c cs =>
          simp only [chkEs, Bool.and_eq_true] at h4
          exact star_of h4.1 _ _
      have hp : (backTo pos (starEach ys X.env)).any (·.1) = false := by
        cases es with
        | nil => simp [chkEs] at h4
        | cons c cs =>
          simp only [chkEs, Bool.and_eq_true] at h4
          exact nostars h4.2 _ _
      have hrd : ∀ (σ : L2.St) (H : Hp) (Q : VK), tD X.K (freshB (.bi b es)) (evE cl (.bi b es)) σ H Q → tCB (rF X.K (b == .list || b == .sorted) (biD b)) (tDs X.K (evEs cl es)) σ H Q := by
        intro σ H Q q
        obtain ⟨G, ρ, d, e, hd, o⟩ := q
        simp only [evE] at hd
        obtain ⟨ds, e1, hd⟩ := Option.bind_eq_some_iff.mp hd
        exact tDs_un e e1 fun vs H1 s1 r1 _ => ⟨_, ds, d, r1, hd, o.from_ s1⟩
      have hm : X.mg (biName b) = none := k.free _ (by cases b <;> simp [biName, bnames])
      have hn : biName b ≠ "__name__" := by cases b <;> decide
      have hd : (biName b == ("__debug__" : Str)) = false := by cases b <;> decide
      have hc := bi_ok (X := X) k.calm k.hu b
      have hv := boot_of b
      cases hb : biVal b with
      | builtin id =>
        rw [hb] at hc hv
        exact (pe_callB hc (k.gl h1) hm hv (h.a X s _ k h4) hn hd hs hp).imp hrd
      | type id =>
        rw [hb] at hc hv
        exact (pe_callTy hc (k.gl h1) hm hv (h.a X s _ k h4) hn hd hs hp).imp hrd
      | _ => cases b <;> cases hb
    · cases hh
  · rw [hk] at h
    split at h
    · rfl
    · cases h
theorem snd_isi (t : TY) {a : CE} (h : Snd N T lvl cl a) : Snd N T lvl cl (.isi t a) := by
  have hk : ∀ f s e, chkE N T (.isi t a) f s e = (match e with | .Call (.Name x _) [y, .Name z _] [] _ => glB s.sc x && decide (x = "isinstance") && glB s.sc z && decide (z = tyN t) && chkE N T a false s y | _ => false) := fun f s e => by
    cases e <;> try rfl
    rename_i fn xs kw p
    cases fn <;> try rfl
    rcases xs with _ | ⟨x, _ | ⟨y, _ | ⟨z, xs⟩⟩⟩ <;> try rfl
    all_goals (cases y <;> try rfl)
    all_goals (cases kw <;> rfl)
  refine .mk_e (fun X s e k hh => ?_) (fun s e h env whole => ?_) (fun s e => by rw [hk, hk]) fun d => rfl
  · rw [hk] at hh
    split at hh
    · rename_i x p y z p2 pos
      simp only [Bool.and_eq_true, decide_eq_true_eq] at hh
      obtain ⟨⟨⟨⟨h1, rfl⟩, h2⟩, rfl⟩, h4⟩ := hh
      have hT : PE X (.Name (tyN t) p2) (tC (.ty (tyS t))) := by
        refine pe_bltn (k.gl h2) (k.free _ (by cases t <;> simp [tyN, bnames])) (u := .type (tyS t)) (by cases t <;> decide +kernel) rfl (by cases t <;> decide) (by cases t <;> decide)
      have hC : CallR X (.builtin "isinstance") (fun vs H Q => ∃ (v : V) (G : Addr → Prop) (d : D), vs = [v, .ty (tyS t)] ∧ Rep X.K G H d v ∧ Q (.bl (isiD t d)) H) := by
        intro pins sh σ H vs us Q I r q
        obtain ⟨v, G, d, rfl, rd, q⟩ := q
        obtain ⟨u, u2, rfl, r1, r2⟩ := vals2 r
        cases r2
        exact bi_isi t I rd r1 q
      refine (pe_callB hC (k.gl h1) (k.free _ (by simp [bnames])) (by decide +kernel) (pa_cons (h.e X s y k h4) (pa_cons hT pa_nil) (star_of h4 _ _)) (by decide) (by decide) (star_of h4 _ _) rfl).imp fun σ H Q q => ?_
      obtain ⟨G, ρ, d, e, hd, o⟩ := q
      simp only [evE] at hd
      obtain ⟨x, e1, rfl⟩ := Option.map_eq_some_iff.mp hd
      exact tD_un e e1 fun v H1 s1 r1 _ _ => ⟨v, _, x, rfl, r1, out_bl (o.from_ s1)⟩
    · cases hh
  · rw [hk] at h
    split at h
    · rfl
    · cases h
end
end Dl
set_option Elab.async false
set_option linter.all false
set_option maxRecDepth 100000
set_option maxHeartbeats 4000000
/-! The look's proof: comprehensions and what is walked. -/
namespace Dl
open PySem PySem.Spec PyProof.Rows L2
/-! ### slots stored and forgotten -/
theorem setAll_length (σ : L2.St) : ∀ ws : List (Nat × V), (setAll σ ws).length = σ.length
  | [] => rfl
  | w :: ws => by
    show (setAll (σ.set w.1 (some w.2)) ws).length = _
    rw [setAll_length, List.length_set]
theorem putAll_length (ρ : Rho) : ∀ ws : List (Nat × D), (putAll ρ ws).length = ρ.length
  | [] => rfl
  | w :: ws => by
    show (putAll (ρ.set w.1 (some w.2)) ws).length = _
    rw [putAll_length, List.length_set]
theorem wipeD_length (ρ : Rho) : ∀ vs : List Nat, (wipeD ρ vs).length = ρ.length
  | [] => rfl
  | v :: vs => by unfold wipeD; rw [List.length_set, wipeD_length ρ vs]
theorem EnvR.set {K : PySem.W.Frag} {G : Addr → Prop} {H : Hp} {σ : L2.St} {ρ : Rho} (e : EnvR K G H σ ρ) {d : D} {v : V} (i : Nat) (r : Rep K G H d v) : EnvR K G H (σ.set i (some v)) (ρ.set i (some d)) := by
  refine ⟨by rw [List.length_set, List.length_set, e.1], fun j x h => ?_⟩
  by_cases hj : i = j
  · subst hj
    by_cases hi : i < ρ.length
    · rw [List.getElem?_set_self hi] at h
      cases h
      exact ⟨v, by rw [List.getElem?_set_self (by rw [e.1]; exact hi)], r⟩
    · rw [List.getElem?_eq_none (by simpa using hi)] at h; cases h
  · rw [List.getElem?_set_ne hj] at h
    obtain ⟨w, h1, h2⟩ := e.2 j x h
    exact ⟨w, by rw [List.getElem?_set_ne hj]; exact h1, h2⟩
theorem EnvR.unset {K : PySem.W.Frag} {G : Addr → Prop} {H : Hp} {σ : L2.St} {ρ : Rho} (e : EnvR K G H σ ρ) (i : Nat) : EnvR K G H (σ.set i none) (ρ.set i none) := by
  refine ⟨by rw [List.length_set, List.length_set, e.1], fun j x h => ?_⟩
  by_cases hj : i = j
  · subst hj
    by_cases hi : i < ρ.length
    · rw [List.getElem?_set_self hi] at h; cases h
    · rw [List.getElem?_eq_none (by simpa using hi)] at h; cases h
  · rw [List.getElem?_set_ne hj] at h
    obtain ⟨w, h1, h2⟩ := e.2 j x h
    exact ⟨w, by rw [List.getElem?_set_ne hj]; exact h1, h2⟩
theorem EnvR.wipe {K : PySem.W.Frag} {G : Addr → Prop} {H : Hp} {σ : L2.St} {ρ : Rho} (e : EnvR K G H σ ρ) : ∀ vs : List Nat, EnvR K G H (wipe σ vs) (wipeD ρ vs)
  | [] => e
  | v :: vs => by
    unfold L2.wipe wipeD
    exact (EnvR.wipe e vs).unset v
theorem EnvR.putAll {K : PySem.W.Frag} {G : Addr → Prop} {H : Hp} : ∀ {bs : List (Nat × D)} {ws : List (Nat × V)} {σ : L2.St} {ρ : Rho}, EnvR K G H σ ρ → BindR K G H bs ws → EnvR K G H (setAll σ ws) (putAll ρ bs)
  | _, _, σ, ρ, e, .nil => e
  | b :: bs, w :: ws, σ, ρ, e, .cons ⟨h1, h2⟩ t => by
    show EnvR K G H (setAll (σ.set w.1 (some w.2)) ws) (Dl.putAll (ρ.set b.1 (some b.2)) bs)
    rw [h1]
    exact EnvR.putAll (e.set w.1 h2) t
mutual
theorem binds_slots : ∀ {t : Tg} {d : D} {bs : List (Nat × D)}, t.binds d = some bs → ∀ p ∈ bs, p.1 ∈ t.slots
  | .nm i, d, bs, h, p, hp => by
    simp only [Tg.binds, Option.some.injEq] at h
    subst h
    rw [List.mem_singleton.mp hp]
    simp [Tg.slots]
  | .tp l, d, bs, h, p, hp => by
    cases d <;> simp only [Tg.binds, reduceCtorEq] at h
    simp only [Tg.slots]
    exact bindsL_slots h p hp
theorem bindsL_slots : ∀ {t : List Tg} {d : List D} {bs : List (Nat × D)}, tgBinds t d = some bs → ∀ p ∈ bs, p.1 ∈ tgSlots t
  | [], [], bs, h, p, hp => by
    simp only [tgBinds, Option.some.injEq] at h
    subst h
    cases hp
  | [], d :: ds, bs, h, p, hp => by simp [tgBinds] at h
  | t :: r, [], bs, h, p, hp => by simp [tgBinds] at h
  | t :: r, d :: ds, bs, h, p, hp => by
    simp only [tgBinds] at h
    obtain ⟨a, h1, h⟩ := Option.bind_eq_some_iff.mp h
    obtain ⟨b, h2, rfl⟩ := Option.map_eq_some_iff.mp h
    simp only [tgSlots, List.mem_append]
    rcases List.mem_append.mp hp with hp | hp
    · exact .inl (binds_slots h1 p hp)
    · exact .inr (bindsL_slots h2 p hp)
end
theorem bindR_slots {K : PySem.W.Frag} {G : Addr → Prop} {H : Hp} : ∀ {bs : List (Nat × D)} {ws : List (Nat × V)}, BindR K G H bs ws → ∀ p ∈ ws, ∃ q ∈ bs, q.1 = p.1
  | _, _, .nil, p, hp => nomatch hp
  | b :: bs, w :: ws, .cons ⟨h1, _⟩ t, p, hp => by
    rcases List.mem_cons.mp hp with rfl | hp
    · exact ⟨b, List.mem_cons_self, h1⟩
    · obtain ⟨q, h2, h3⟩ := bindR_slots t p hp
      exact ⟨q, List.mem_cons_of_mem _ h2, h3⟩
theorem wipe_get (σ : L2.St) (i : Nat) : ∀ vs : List Nat, (wipe σ vs)[i]? = if i ∈ vs ∧ i < σ.length then some none else σ[i]?
  | [] => by simp [L2.wipe]
  | v :: vs => by
    unfold L2.wipe
    by_cases h : v = i
    · subst h
      by_cases hl : v < σ.length
      · rw [List.getElem?_set_self (by rw [wipe_length]; exact hl)]
        simp [hl]
      · rw [List.getElem?_eq_none (by rw [List.length_set, wipe_length]; omega)]
        simp [hl]
    · rw [List.getElem?_set_ne h, wipe_get σ i vs]
      have : i ≠ v := fun e => h e.symm
      simp [this]
theorem wipe_set (σ : L2.St) {i : Nat} {x : Option V} {vs : List Nat} (h : i ∈ vs) : wipe (σ.set i x) vs = wipe σ vs := by
  apply List.ext_getElem?
  intro j
  rw [wipe_get, wipe_get, List.length_set]
  split
  · rfl
  · rename_i hn
    by_cases hj : i = j
    · subst hj
      have : ¬ i < σ.length := fun z => hn ⟨h, z⟩
      rw [List.getElem?_eq_none (by simpa using this), List.getElem?_eq_none (by simpa using this)]
    · rw [List.getElem?_set_ne hj]
theorem wipe_setAll {vs : List Nat} : ∀ (ws : List (Nat × V)) (σ : L2.St), (∀ p ∈ ws, p.1 ∈ vs) → wipe (setAll σ ws) vs = wipe σ vs
  | [], _, _ => rfl
  | w :: ws, σ, h => by
    show wipe (setAll (σ.set w.1 (some w.2)) ws) vs = _
    rw [wipe_setAll ws _ fun p hp => h p (List.mem_cons_of_mem _ hp), wipe_set _ (h w List.mem_cons_self)]
theorem wipe_wipe (σ : L2.St) (vs : List Nat) : wipe (wipe σ vs) vs = wipe σ vs := by
  apply List.ext_getElem?
  intro j
  rw [wipe_get, wipe_get, wipe_length]
  split <;> simp_all

/-! ### a comprehension's items -/
theorem lcD_at {step : D → Option (Option D)} : ∀ {l : List D} {ys : List D}, lcD step l = some ys → ∀ {i : Nat} {d : D}, l[i]? = some d → ∃ r, step d = some r
  | [], _, _, i, d, h => by simp at h
  | x :: l, ys, e, i, d, h => by
    simp only [lcD] at e
    obtain ⟨r, h1, e⟩ := Option.bind_eq_some_iff.mp e
    obtain ⟨rs, h2, _⟩ := Option.map_eq_some_iff.mp e
    cases i with
    | zero =>
      simp at h; subst h
      exact ⟨r, h1⟩
    | succ i => exact lcD_at h2 (by simpa using h)
theorem lcD_snoc {step : D → Option (Option D)} {d : D} {r : Option D} (h : step d = some r) : ∀ {l : List D} {ys : List D}, lcD step l = some ys → lcD step (l ++ [d]) = some (ys ++ r.toList)
  | [], ys, e => by
    simp only [lcD, Option.some.injEq] at e
    subst e
    simp only [List.nil_append, lcD, h, Option.bind_some, Option.map_some]
    cases r <;> rfl
  | x :: l, ys, e => by
    simp only [lcD] at e
    obtain ⟨r', h1, e⟩ := Option.bind_eq_some_iff.mp e
    obtain ⟨rs, h2, rfl⟩ := Option.map_eq_some_iff.mp e
    simp only [List.cons_append, lcD, h1, Option.bind_some, lcD_snoc h h2, Option.map_some]
    cases r <;> cases r' <;> rfl
theorem lcD_pre {step : D → Option (Option D)} : ∀ {l m : List D} {ys : List D}, lcD step (l ++ m) = some ys → ∃ zs, lcD step l = some zs ∧ zs.length ≤ ys.length
  | [], m, ys, e => ⟨[], rfl, Nat.zero_le _⟩
  | x :: l, m, ys, e => by
    simp only [List.cons_append, lcD] at e ⊢
    obtain ⟨r, h1, e⟩ := Option.bind_eq_some_iff.mp e
    obtain ⟨rs, h2, rfl⟩ := Option.map_eq_some_iff.mp e
    obtain ⟨zs, h3, h4⟩ := lcD_pre h2
    rw [h1, h3]
    cases r with
    | none => exact ⟨zs, rfl, h4⟩
    | some y => exact ⟨y :: zs, rfl, Nat.succ_le_succ h4⟩
section
variable {N : List Str} {T : List FnI} {lvl : Nat} {cl : Nat → List D → Option D} {X : Cx}
theorem ownP_snd {N : List Str} (own : List Nat) : (ownP N own).map (·.2) = own := by
  unfold ownP
  rw [List.map_map]
  exact List.map_id _
theorem lc_read {K : PySem.W.Frag} {own : List Nat} {tg : Tg} {it : CE} {cs : List CE} {elt : CE} (h5 : ∀ x ∈ tg.slots, own.contains x = true) {σ : L2.St} {H : Hp} {Q : VK} (q : tD K true (evE cl (.lc own tg it cs elt)) σ H Q) :
    tLc (tI K (evE cl it) (safeI it)) (gT K tg) (tTs K (evT cl cs)) (tD K (freshB elt) (evE cl elt)) own σ H Q := by
  obtain ⟨G, ρ, d, e, hd, o⟩ := q
  simp only [evE] at hd
  obtain ⟨items, e1, hd⟩ := Option.bind_eq_some_iff.mp hd
  obtain ⟨dit, e0, e1⟩ := Option.bind_eq_some_iff.mp e1
  obtain ⟨ys, e2, hd⟩ := Option.bind_eq_some_iff.mp hd
  obtain ⟨hz, rfl⟩ := grd_some hd
  -- the frozen addresses that are tracked
  have eG : EnvR K (fun a => G a ∧ H a ≠ none) H σ ρ := ⟨e.1, fun i d h => let ⟨v, a, b⟩ := e.2 i d h; ⟨v, a, b.monoT fun a g t => ⟨g, t⟩⟩⟩
  refine ⟨_, ρ, dit, items, eG, e0, e1, fun J H1 Gd Y pa s1 hw hpa _ hGd hY D hD => ?_⟩
  have hHD : H D = none := s1.free hD
  -- what may hold lists: all but the new one
  let E : Addr → Prop := fun a => Gx (fun a => G a ∧ H a ≠ none) H a ∧ a ≠ D
  have eE : EnvR K E H σ ρ := eG.mono fun a g => ⟨.inl g, fun z => g.2 (z ▸ hHD)⟩
  refine lc_it hw (fun i Hh => ∃ acc ds, Hh D = some (.lst acc) ∧ lcD (fun x => (tg.put x (wipeD ρ own)).bind fun ρ1 => (evT cl cs ρ1).bind fun k => if k = true then (evE cl elt ρ1).map some else some none) (items.take i) = some ds ∧ Reps K E Hh ds acc ∧ Same H1 Hh) ?_ ?_ ?_ ?_
  · exact ⟨[], [], upd_same, rfl, rfl, same_new hD⟩
  · rintro i Hh hi ⟨acc, ds, _, _, _, ss⟩
    exact hGd Hh (Keep.same ss)
  · rintro i x Hh H' hi ⟨acc, ds, hacc, hds, hr, ss⟩ hy
    obtain ⟨di, hdi⟩ : ∃ di, items[i]? = some di := ⟨_, List.getElem?_eq_getElem hi⟩
    have hdi' := hdi
    obtain ⟨r, hr1⟩ := lcD_at e2 hdi
    obtain ⟨sy, ry⟩ := hY E (.inl fun a g t => ⟨g, fun z => t (z ▸ hD)⟩) i di Hh x H' hdi (Keep.same ss) (hGd Hh (Keep.same ss)) hy
    have hr1' := hr1
    obtain ⟨ρ1, e3, hr1⟩ := Option.bind_eq_some_iff.mp hr1
    obtain ⟨kk, e4, hr1⟩ := Option.bind_eq_some_iff.mp hr1
    unfold Tg.put at e3
    obtain ⟨bs, e5, rfl⟩ := Option.map_eq_some_iff.mp e3
    refine ⟨E, di, bs, ry, e5, fun ws hws => ⟨?_, ?_⟩⟩
    · rw [wipe_setAll, wipe_wipe]
      intro p hp
      obtain ⟨q, hq, hqp⟩ := bindR_slots hws p hp
      have := h5 _ (binds_slots e5 q hq)
      rw [← hqp]
      simpa using this
    · have sH : Same H H' := (s1.trans ss).trans sy
      have e6 : EnvR K E H' (setAll (wipe σ own) ws) (putAll (wipeD ρ own) bs) := EnvR.putAll ((eE.keep (Keep.same sH)).wipe own) hws
      refine ⟨E, _, kk, e6, e4, fun H3 s3 => ?_⟩
      have htake : items.take (i + 1) = items.take i ++ [di] := by rw [List.take_add_one, hdi']; rfl
      have hstep := lcD_snoc hr1' hds
      have hD3 : H3 D = some (.lst acc) := s3 _ _ (sy _ _ hacc)
      cases kk with
      | false =>
        simp only [Bool.false_eq_true, if_false] at hr1 ⊢
        cases hr1
        refine ⟨acc, ds, hD3, ?_, hr.keep (Keep.same (sy.trans s3)), (ss.trans sy).trans s3⟩
        rw [htake]
        simpa using hstep
      | true =>
        simp only [if_true] at hr1 ⊢
        obtain ⟨dy, e7, rfl⟩ := Option.map_eq_some_iff.mp hr1
        refine tD_un (e6.keep (Keep.same s3)) e7 fun y H4 s4 r4 _ _ => ?_
        have hD4 : H4 D = some (.lst acc) := s4 _ _ hD3
        refine ⟨acc, hD4, ?_, acc ++ [y], ds ++ [dy], upd_same, ?_, ?_, ?_⟩
        · obtain ⟨zs, h10, h11⟩ := lcD_pre (m := items.drop (i + 1)) (show lcD _ (items.take (i + 1) ++ items.drop (i + 1)) = some ys by rw [List.take_append_drop]; exact e2)
          rw [htake, hstep] at h10
          cases h10
          simp only [Option.toList] at h11
          rw [List.length_append, hr.length] at h11
          simp only [List.length_singleton] at h11
          omega
        · rw [htake]
          simpa using hstep
        · have kU : ∀ {P : Addr → Prop}, (∀ a, P a → a ≠ D) → Keep P H4 (upd H4 D (.lst (acc ++ [y]))) := fun {P} hP a ob ha hq => by
            have : a ≠ D := by
              rcases hq with hq | hq
              · rintro rfl
                rw [hD4] at ha; cases ha; cases hq
              · exact hP a hq
            rw [upd_ne this]
            exact ha
          refine Reps.append ?_ (Reps.one ?_)
          · exact (hr.keep (Keep.same ((sy.trans s3).trans s4))).keep (kU fun a z => z.2)
          · have r5 : Rep K E H4 dy y := r4.mono fun a z => by
              rcases z with z | z
              · exact z
              · refine ⟨.inr ((sH.trans s3).free z), ?_⟩
                rintro rfl
                rw [hD3] at z; cases z
            exact r5.keep (kU fun a z => z.2)
        · intro a ob ha
          rw [upd_ne (ne_of_none ha hD)]
          exact s4 _ _ (s3 _ _ (sy _ _ (ss _ _ ha)))
  · rintro Hh ⟨acc, ds, hacc, hds, hr, ss⟩
    rw [List.take_length, e2] at hds
    cases hds
    refine o (.ref D) Hh (s1.trans ss) ⟨D, acc, rfl, .inr hHD, hacc, hr.mono fun a z => z.1.imp (fun z => z.1) id⟩ fun _ l hl a ha => ?_
    cases ha
    exact hHD
theorem snd_lc {own : List Nat} {tg : Tg} {it : CE} {cs : List CE} {elt : CE} (hi : Snd N T lvl cl it) (hc : SndL N T lvl cl cs) (he : Snd N T lvl cl elt) : Snd N T lvl cl (.lc own tg it cs elt) := by
  have hk : ∀ f s e, chkE N T (.lc own tg it cs elt) f s e = (match e with | .ListComp x [⟨tx, ix, ifs, asy⟩] scope _ => decide (asy = 0) && blkC N s.sc scope (ownP N own) && chkE N T it true s ix && chkG N (blkSc s scope) tg tx && tg.slots.all (fun i => own.contains i) && (isTp tg || !needTp it) && decide (cs.length ≤ 1) && chkEs N T cs (blkSc s scope) ifs && chkE N T elt false (blkSc s scope) x | _ => false) := fun f s e => by
    cases e <;> try rfl
    rename_i x gs sc p
    rcases gs with _ | ⟨⟨tx, ix, ifs, asy⟩, _ | ⟨g2, gs⟩⟩ <;> rfl
  refine .mk_e (fun X s e k hh => ?_) (fun s e h env whole => ?_) (fun s e => by rw [hk, hk]) fun d => rfl
  · rw [hk] at hh
    split at hh
    · rename_i x tx ix ifs asy scope p
      simp only [Bool.and_eq_true, decide_eq_true_eq, List.all_eq_true] at hh
      obtain ⟨⟨⟨⟨⟨⟨⟨⟨rfl, h2⟩, h3⟩, h4⟩, h5⟩, h6⟩, h7⟩, h8⟩, h9⟩ := hh
      have htg : (∃ es k p, tx = .Tuple es k p) ∨ needTp it = false := by
        rcases Bool.or_eq_true _ _ ▸ h6 with h6 | h6
        · refine .inl ?_
          cases tg with
          | nm i => cases h6
          | tp l => cases tx <;> first | exact ⟨_, _, _, rfl⟩ | exact absurd (show false = true from h4) Bool.false_ne_true
        · exact .inr (by simpa using h6)
      refine (pe_lc (own := ownP N own) (g := gT X.K tg) (tt := tTs X.K (evT cl cs)) (te := tD X.K (freshB elt) (evE cl elt)) k.calm (by rw [k.hN]; exact k.nd) (hi.i X s ix tx k htg h3) (by rw [k.hN, k.sc]; exact blkOk_by h2)
        (fun sh H C cells fp => okG (k.blk sh H scope C cells fp) tg tx h4) (fun sh H C cells fp => hc.t _ (blkSc s scope) ifs (k.blk sh H scope C cells fp) h7 h8)
        (fun sh H C cells fp => he.e _ (blkSc s scope) x (k.blk sh H scope C cells fp) h9) (fset_of h3 _)).imp fun σ H Q q => ?_
      rw [ownP_snd]
      exact lc_read h5 q
    · cases hh
  · rw [hk] at h
    split at h
    · rfl
    · cases h
end
end Dl
set_option Elab.async false
set_option linter.all false
set_option maxRecDepth 100000
set_option maxHeartbeats 4000000
/-! enumerate of a tuple; what is walked; all expressions. -/
namespace Dl
open PySem PySem.Spec PyProof.Rows L2
open AutoSeq1 (wpAny_loadPart')
theorem meets_enum1 {v : Value} {o : Obj} {H : Heap → Prop} (B : Begins v o H) :
    Meets (Builtin.«enumerate.__new__» ⟨[.type "enumerate", v], []⟩) (fun _ R s => H s.heap ∧
      R (.ok (.ret (.ref (s.heap.push o).objs.size))) { s with heap := (s.heap.push o).push { cls := .type "enumerate", data := .fields #[.none, .bool false, .ref s.heap.objs.size, rawInt 0, .none, .none] } }) :=
  .of_wp fun prog w A R s h => by
    obtain ⟨hp, g, d, tk, os⟩ := s; obtain ⟨h1, h⟩ := h
    have hsub := sub_enumerate
    have q1 : ∀ {A' : Around} {E : Value → Shared → Prop} {Q : Value → Shared → Prop}, Q (.ref hp.objs.size) ⟨hp.push o, g, d, tk, os⟩ → wpAny (model prog w) A' (pyIter v) Q E ⟨hp, g, d, tk, os⟩ :=
      fun q => B.iter prog w _ _ ⟨hp, g, d, tk, os⟩ _ h1 q
    wp_walk using q1
    refine wpAny_stack_any fun st => wpAny_pure ?_
    split
    · rename_i c _ _ _ _ _
      cases (c == Value.type "enumerate")
      · wp_walk using q1
        exact ⟨_, rfl, h⟩
      · wp_walk using q1
        exact ⟨_, rfl, h⟩
    · wp_walk using q1
      exact ⟨_, rfl, h⟩
theorem enum1_begins {prog : Program} {w : World} {A : Around} {E : Value → Shared → Prop} {s : Shared} {v : Value} {o : Obj} {H : Heap → Prop} {Q : Value → Shared → Prop} (B : Begins v o H) (h1 : H s.heap)
    (h : ∀ h', IsEnum h' (s.heap.objs.size + 1) s.heap.objs.size 0 .none → h'.get? s.heap.objs.size = some o → h'.objs.size = s.heap.objs.size + 2 →
      (∀ b o, s.heap.get? b = some o → h'.get? b = some o) → Q (.ref (s.heap.objs.size + 1)) { s with heap := h' }) :
    wpAny (model prog w) A (call (.type "enumerate") [v]) Q E s := by
  refine callType_new F.called_enumerate (by decide) (F.typeCall_enumerate_1 _) (F.newCall_enumerate_1 _) (fun obj => F.args_object_init_2 obj _) F.entry_enumerate_new
    (meets_enum1 B) ⟨h1, ?_⟩
  have hz : (s.heap.push o).objs.size = s.heap.objs.size + 1 := Heap.size_push ..
  show _ ∧ _
  rw [hz]
  have he : IsEnum ((s.heap.push o).push { cls := .type "enumerate", data := .fields #[.none, .bool false, .ref s.heap.objs.size, rawInt 0, .none, .none] }) (s.heap.objs.size + 1) s.heap.objs.size 0 .none := by
    have := Heap.get?_push_size (s.heap.push o) (o := { cls := .type "enumerate", data := .fields #[.none, .bool false, .ref s.heap.objs.size, rawInt 0, .none, .none] }) rfl
    rw [hz] at this; exact this
  refine ⟨⟨_, he, rfl⟩, h _ he (Heap.get?_push_of_some _ (Heap.get?_push_size _ B.free)) (by rw [Heap.size_push, hz]) fun b o x => Heap.get?_push_of_some _ (Heap.get?_push_of_some _ x)⟩

/-- the tuple at a, each item in a new pair -/
def IteT (K : PySem.W.Frag) (a : Addr) : It :=
  ⟨fun i H => ∃ (xs : List V) (x : V), SqT K H a xs ∧ xs[i]? = some x, fun i H v H' => ∃ T x, v = .ref T ∧ H T = none ∧ H' = upd H T (.tup [.int (i : Nat), x]) ∧ ∀ xs, SqT K H a xs → xs[i]? = some x, fun i H => ∃ xs : List V, SqT K H a xs ∧ xs.length = i⟩
theorem turn_enumT {P : Program} {w : World} {K : PySem.W.Frag} {elts : List Expr} {kk : Nat} {tpos : Pos} (a e it : Addr) :
    Turn P w K (.Tuple elts kk tpos) (IteT K a) [e, it] e (fun i h => (∃ old, IsEnum h e it ((i : Nat) : Int) old) ∧ h.IsTupleIter it a i ∧ e ≠ it ∧ a < it ∧ e ≠ a) where
  mem := by simp
  obj := fun i h st b hb => by
    obtain ⟨⟨old, he⟩, ⟨o, ho, hc, hd⟩, _⟩ := st
    have e' : b = e ∨ b = it := by simpa using hb
    rcases e' with z | z
    · rw [z]; exact ⟨_, he, fun v q => nomatch q⟩
    · rw [z]; exact ⟨o, ho, fun v q => by rw [hd] at q; cases q⟩
  keep := fun i h h' st k => let ⟨⟨old, he⟩, hi, hne⟩ := st; ⟨⟨old, k e (by simp) _ he⟩, hi.at fun o q => k it (by simp) o q, hne⟩
  item := by
    intro X hP hw hK hc i pins s σ H E I hf st hg
    subst hP hw hK
    obtain ⟨⟨old, he⟩, hit, hne, hai, hea⟩ := st
    obtain ⟨xs, x, hq, hx⟩ := hg
    obtain ⟨its, rv, p, hz⟩ := I.tuple hq
    obtain ⟨u, hu, ru⟩ := rv.get hx
    have hel : e < s.heap.objs.size := Heap.lt_size he
    have hil : it < s.heap.objs.size := by obtain ⟨_, q, _⟩ := hit; exact Heap.lt_size q
    have hli : i < its.length := (List.getElem?_eq_some_iff.mp hu).1
    refine wpAny_pyNext_enum_itemD (Draws.tuple (A := X.A.in1) (I.ok.hd hc) it a (Nat.ne_of_lt hai) its.toArray) he ⟨hit, p⟩ (by simpa using hli) hne (by simp [hne, hea]) fun x1 h' tk hp1 ho hit' hT hsz hk => ?_
    have hx1 : x1 = u := by
      have : its.toArray[i]? = some x1 := hp1
      simp only [List.getElem?_toArray] at this
      rw [hu] at this
      exact (Option.some.inj this).symm
    subst hx1
    refine ⟨_, rfl, wpAny_letOwnedTupleGo_enum (s := { s with heap := h', toks := tk + 1 }) ho fun h'' he' sb => ?_⟩
    have hT2 : h''.get? s.heap.objs.size = some { cls := .type "tuple", data := .seq #[.int i tk, x1] } := (sb.2 _ (Nat.ne_of_gt hel)).trans hT
    have new : ObjOk X.prog X.w (upd H s.heap.objs.size (.tup [.int (i : Nat), x])) h'' s.heap.objs.size (.tup [.int (i : Nat), x]) :=
      ⟨by show 2 ≤ sizeLine; decide, [.int i tk, x1], .cons ⟨_, rfl⟩ (.cons ru .nil), ⟨_, hT2, rfl, _, rfl⟩⟩
    have I1 : Inv X pins σ (upd H s.heap.objs.size (.tup [.int (i : Nat), x])) { s with heap := h'', toks := tk + 1 } :=
      I.turnedNew (ch := [e, it]) (fun b ob hb q => (sb.2 b (fun z => hb (by simp [z]))).trans (hk b ob (fun z => hb (by simp [z])) (fun z => hb (by simp [z])) q)) hf (Nat.le_refl _) new
    refine ⟨.ref s.heap.objs.size, _, I1, rfl, ⟨_, x, rfl, I.hok.fresh (Nat.le_refl _), rfl, fun ys hy => by rw [I.tuple_inj hy hq]; exact hx⟩, ⟨⟨x1, ?_⟩, hit'.1.at fun o q => (sb.2 it (Ne.symm hne)).trans q, hne, hai, hea⟩, fun b hb => ?_⟩
    · have e1 : ((i + 1 : Nat) : Int) = (i : Int) + 1 := by omega
      rw [e1]; exact he'
    · have hb' : b < s.heap.objs.size := by
        have e' : b = e ∨ b = it := by simpa using hb
        rcases e' with z | z
        · rw [z]; exact hel
        · rw [z]; exact hil
      rw [upd_ne (Nat.ne_of_lt hb')]
      exact (hf b hb).1
  done := by
    intro X hP hw hK hc i pins s σ H E I hf st hg
    subst hP hw hK
    obtain ⟨⟨old, he⟩, hit, hne, hai, hea⟩ := st
    obtain ⟨xs, hq, hx⟩ := hg
    obtain ⟨its, rv, p, hz⟩ := I.tuple hq
    obtain ⟨f0, f1, f2, f3, f4, f5⟩ := hf it (by simp)
    have hl := rv.length
    have hi : i = its.toArray.size := by simp; omega
    subst hi
    exact wpAny_pyNext_enum_endD (Draws.tuple (A := X.A.in1) (I.ok.hd hc) it a (Nat.ne_of_lt hai) its.toArray) he ⟨hit, p⟩ fun h' eb => ⟨rfl, I.turned (t' := s.toks) (fun b o hb q => eb b o hb q) f0 f1 f3 f4 f5⟩
  self := fun A i s Q E st h => let ⟨⟨_, he⟩, _⟩ := st; wpAny_pyIter_enum he h
theorem walk_enumT {K : PySem.W.Frag} {a : Addr} {xs : List V} : Walk (IteT K a) xs.length (fun H => SqT K H a xs) (YPair (fun i => some (.int (i : Nat))) (fun i => xs[i]?)) := by
  refine ⟨fun i _ hi q => ⟨xs, xs[i], q, by simp [hi]⟩, fun _ q => ⟨xs, q, rfl⟩, fun i H v H' _ q y => ?_⟩
  obtain ⟨T, x, h1, h2, h3, h4⟩ := y
  exact ⟨T, .int (i : Nat), x, h1, h2, h3, rfl, h4 xs q⟩
def iEnumT (K : PySem.W.Frag) (ta : TA) : TI := fun σ H R => ta σ H fun vs H1 => ∃ a xs, vs = [.ref a] ∧ SqT K H1 a xs ∧ R (IteT K a) H1
theorem pi_enumT {X : Cx} {e : Expr} {ta : TA} {p pos tpos : Pos} {elts : List Expr} {kk : Nat} (hg : Gl X "enumerate") (hm : X.mg "enumerate" = none) (ha : PA X [e] ta) (hs : starEach [e] X.env = [(false, eval e X.env)] := by rfl) :
    PI X (.Tuple elts kk tpos) (.Call (.Name "enumerate" p) [e] [] pos) (iEnumT X.K ta) := by
  refine ⟨fun pins s σ H R I h => ?_⟩
  refine Call_ (ld_blt I hg hm boot_enumerate (PyProof.Rows.callWith_type1 (thn (ha.run pos pins s σ H _ I h) fun us s1 ⟨vs, H1, I1, r1, q1⟩ => ?_) hs rfl))
  obtain ⟨a, xs, ex, hq, q⟩ := q1
  subst ex
  cases r1 with
  | cons r rr =>
    cases rr
    cases r
    obtain ⟨its, rv, p', hz⟩ := I1.tuple hq
    have hlt : a < s1.heap.objs.size := p'.lt
    refine enum1_begins (begins_tuple a its.toArray) p' fun h' he hit hsz hk => wpAny_pyIter_enum he ?_
    have I2 : Inv X pins σ H1 { s1 with heap := h' } := I1.kept (t' := s1.toks) hk
    refine ⟨s1.heap.objs.size + 1, [s1.heap.objs.size + 1, s1.heap.objs.size], _, _, H1, rfl, I2, turn_enumT a (s1.heap.objs.size + 1) s1.heap.objs.size, ⟨⟨.none, he⟩, ⟨_, hit, rfl, rfl⟩, Nat.succ_ne_self _, hlt, Nat.ne_of_gt (Nat.lt_succ_of_lt hlt)⟩, fun b hb => ?_, q⟩
    have e' : b = s1.heap.objs.size + 1 ∨ b = s1.heap.objs.size := by simpa using hb
    have hle : s1.heap.objs.size ≤ b := by
      rcases e' with z | z
      · rw [z]; exact Nat.le_add_right _ _
      · rw [z]; exact Nat.le_refl _
    exact I1.fpOk hle (I1.hok.fresh hle)

section
variable {N : List Str} {T : List FnI} {lvl : Nat} {cl : Nat → List D → Option D} {X : Cx}
theorem snd_rng1 {a : CE} (ha : Snd N T lvl cl a) : Snd N T lvl cl (.rng1 a) := by
  have hk : ∀ f s e, chkE N T (.rng1 a) f s e = (match e with | .Call (.Name x _) [y] [] _ => f && glB s.sc x && decide (x = "range") && chkE N T a false s y | _ => false) := fun f s e => by
    cases e <;> try rfl
    rename_i fn xs kw p
    cases fn <;> try rfl
    rcases xs with _ | ⟨x, _ | ⟨y, xs⟩⟩ <;> try rfl
    all_goals (cases kw <;> rfl)
  have h0 : ∀ s e, chkE N T (.rng1 a) false s e = true → False := fun s e h => by
    rw [hk] at h
    split at h <;> simp at h
  refine ⟨fun X s e k h => (h0 s e h).elim, fun X s e k h => (h0 s e h).elim, fun X s e tg k _ h => ?_⟩
  rw [hk] at h
  split at h
  · rename_i x p y pos
    simp only [Bool.true_and, Bool.and_eq_true, decide_eq_true_eq] at h
    obtain ⟨⟨h1, rfl⟩, h3⟩ := h
    refine (pi_range1 (k.gl h1) (k.free _ (by simp [bnames])) (pa_cons (ha.e X s y k h3) pa_nil (star_of h3 _ _)) (star_of h3 _ _)).imp fun σ H R q => ?_
    obtain ⟨G, ρ, d, items, e, hd, h2, kk⟩ := q
    simp only [evE] at hd
    obtain ⟨x, e1, hd⟩ := Option.bind_eq_some_iff.mp hd
    obtain ⟨n, e2, hd⟩ := Option.bind_eq_some_iff.mp hd
    obtain ⟨hc, rfl⟩ := grd_some hd
    simp only [iterD, Option.some.injEq] at h2
    subst h2
    refine tD_un e e1 fun v H1 s1 r1 _ _ => ?_
    cases x <;> simp only [intOf, reduceCtorEq] at e2
    cases e2
    cases r1
    refine ⟨n, rfl, hc.1, hc.2, kk _ H1 _ _ [] s1 (by simpa using (walk_range (lo := 0) (n := n.toNat))) (fun a h => nomatch h) (fun _ a h => nomatch h) (fun _ _ => trivial) fun Gp _ i d H' x H'' hd _ _ y => ?_⟩
    obtain ⟨rfl, rfl⟩ := y
    refine ⟨Same.refl _, ?_⟩
    obtain ⟨hi, hd⟩ := List.getElem?_eq_some_iff.mp hd
    simp only [List.getElem_map, List.getElem_range] at hd
    subst hd
    rfl
  · cases h
theorem snd_rng2 {a b : CE} (ha : Snd N T lvl cl a) (hb : Snd N T lvl cl b) : Snd N T lvl cl (.rng2 a b) := by
  have hk : ∀ f s e, chkE N T (.rng2 a b) f s e = (match e with | .Call (.Name x _) [y, z] [] _ => f && glB s.sc x && decide (x = "range") && chkE N T a false s y && chkE N T b false s z | _ => false) := fun f s e => by
    cases e <;> try rfl
    rename_i fn xs kw p
    cases fn <;> try rfl
    rcases xs with _ | ⟨x, _ | ⟨y, _ | ⟨z, xs⟩⟩⟩ <;> try rfl
    all_goals (cases kw <;> rfl)
  have h0 : ∀ s e, chkE N T (.rng2 a b) false s e = true → False := fun s e h => by
    rw [hk] at h
    split at h <;> simp at h
  refine ⟨fun X s e k h => (h0 s e h).elim, fun X s e k h => (h0 s e h).elim, fun X s e tg k _ h => ?_⟩
  rw [hk] at h
  split at h
  · rename_i x p y z pos
    simp only [Bool.true_and, Bool.and_eq_true, decide_eq_true_eq] at h
    obtain ⟨⟨⟨h1, rfl⟩, h3⟩, h4⟩ := h
    refine (pi_range2 (k.gl h1) (k.free _ (by simp [bnames])) (pa_cons (ha.e X s y k h3) (pa_cons (hb.e X s z k h4) pa_nil (star_of h4 _ _)) (star_of h3 _ _)) (by rw [star_of h3, star_of h4]; rfl) (star_of h4 _ _)).imp fun σ H R q => ?_
    obtain ⟨G, ρ, d, items, e, hd, h2, kk⟩ := q
    simp only [evE] at hd
    obtain ⟨x, e1, hd⟩ := Option.bind_eq_some_iff.mp hd
    obtain ⟨m, e2, hd⟩ := Option.bind_eq_some_iff.mp hd
    obtain ⟨y, e3, hd⟩ := Option.bind_eq_some_iff.mp hd
    obtain ⟨n, e4, hd⟩ := Option.bind_eq_some_iff.mp hd
    obtain ⟨hc, rfl⟩ := grd_some hd
    simp only [iterD, Option.some.injEq] at h2
    subst h2
    refine tD_un e e1 fun v H1 s1 r1 en _ => tD_un en e3 fun w H2 s2 r2 _ _ => ?_
    cases x <;> simp only [intOf, reduceCtorEq] at e2
    cases e2
    cases y <;> simp only [intOf, reduceCtorEq] at e4
    cases e4
    cases r1; cases r2
    refine ⟨m, n, rfl, hc, kk _ H2 _ _ [] (s1.trans s2) (by simpa using (walk_range (lo := m) (n := (n - m).toNat))) (fun a h => nomatch h) (fun _ a h => nomatch h) (fun _ _ => trivial) fun Gp _ i d H' x H'' hd _ _ y => ?_⟩
    obtain ⟨rfl, rfl⟩ := y
    refine ⟨Same.refl _, ?_⟩
    obtain ⟨hi, hd⟩ := List.getElem?_eq_some_iff.mp hd
    simp only [List.getElem_map, List.getElem_range] at hd
    subst hd
    rfl
  · cases h
theorem enumF_get : ∀ (xs : List D) (n i : Nat), (enumF n xs)[i]? = (xs[i]?).map fun d => .tup [.int (n + i : Nat), d]
  | [], n, i => by simp [enumF]
  | d :: xs, n, 0 => by simp [enumF]
  | d :: xs, n, i + 1 => by
    simp only [enumF, List.getElem?_cons_succ]
    rw [enumF_get xs (n + 1) i]
    have : n + 1 + i = n + (i + 1) := by omega
    rw [this]
theorem enumF_length : ∀ (xs : List D) (n : Nat), (enumF n xs).length = xs.length
  | [], n => rfl
  | d :: xs, n => by simp [enumF, enumF_length xs]
theorem flats_enumF : ∀ (xs : List D) (n : Nat), flats (enumF n xs) = true → flats xs = true
  | [], n, h => rfl
  | d :: xs, n, h => by
    simp only [enumF, flats, D.flat, Bool.and_eq_true, Bool.and_true, Bool.true_and] at h ⊢
    exact ⟨h.1, flats_enumF xs _ h.2⟩
theorem rep_pair {K : PySem.W.Frag} {Gp : Addr → Prop} {H : Hp} {T : Addr} {d e : D} {x y : V} (hT : H T = none) (r1 : Rep K Gp H d x) (r2 : Rep K Gp H e y) : Same H (upd H T (.tup [x, y])) ∧ Rep K Gp (upd H T (.tup [x, y])) (.tup [d, e]) (.ref T) :=
  ⟨same_new hT, T, [x, y], rfl, .inl (.inl upd_same), x, [y], rfl, r1.keep (Keep.same (same_new hT)), y, [], rfl, r2.keep (Keep.same (same_new hT)), rfl⟩
theorem snd_enum {a : CE} (ha : Snd N T lvl cl a) : Snd N T lvl cl (.enum a) := by
  have hk : ∀ f s e, chkE N T (.enum a) f s e = (match e with | .Call (.Name x _) [y] [] _ => f && glB s.sc x && decide (x = "enumerate") && chkE N T a false s y | _ => false) := fun f s e => by
    cases e <;> try rfl
    rename_i fn xs kw p
    cases fn <;> try rfl
    rcases xs with _ | ⟨x, _ | ⟨y, xs⟩⟩ <;> try rfl
    all_goals (cases kw <;> rfl)
  have h0 : ∀ s e, chkE N T (.enum a) false s e = true → False := fun s e h => by
    rw [hk] at h
    split at h <;> simp at h
  refine ⟨fun X s e k h => (h0 s e h).elim, fun X s e k h => (h0 s e h).elim, fun X s e tg k ht h => ?_⟩
  obtain ⟨es, kt, pt, rfl⟩ : ∃ es k p, tg = .Tuple es k p := by
    rcases ht with h | h
    · exact h
    · cases h
  rw [hk] at h
  split at h
  · rename_i x p y pos
    simp only [Bool.true_and, Bool.and_eq_true, decide_eq_true_eq] at h
    obtain ⟨⟨h1, rfl⟩, h3⟩ := h
    have hpa := pa_cons (ha.e X s y k h3) pa_nil (star_of h3 _ _)
    refine ((pi_enum (k.gl h1) (k.free _ (by simp [bnames])) hpa (star_of h3 _ _)).or (pi_enumT (k.gl h1) (k.free _ (by simp [bnames])) hpa (star_of h3 _ _))).imp fun σ H R q => ?_
    obtain ⟨G, ρ, d, items, e, hd, h2, kk⟩ := q
    simp only [evE] at hd
    obtain ⟨x, e1, hd⟩ := Option.bind_eq_some_iff.mp hd
    obtain ⟨xs, e2, rfl⟩ := Option.map_eq_some_iff.mp hd
    simp only [iterD, Option.some.injEq] at h2
    subst h2
    cases x <;> simp only [itemsD, reduceCtorEq] at e2
    · cases e2
      refine .inr (tD_un e e1 fun v H1 s1 r1 _ _ => ?_)
      obtain ⟨a, vs, rfl, sq, rr⟩ := r1
      refine ⟨a, vs, rfl, sq, kk _ H1 _ _ [] s1 (by rw [enumF_length, rr.length]; exact walk_enumT (xs := vs)) (fun a h => nomatch h) (fun _ a h => nomatch h) (fun H' kp => sqT_keep kp sq) fun Gp hG i d H' x H'' hd kp _ y => ?_⟩
      obtain ⟨Tt, x1, x2, rfl, hT, rfl, hx1, hx2⟩ := y
      rw [enumF_get] at hd
      obtain ⟨dd, hdd, rfl⟩ := Option.map_eq_some_iff.mp hd
      obtain ⟨w, hw, q⟩ := (rr.at Gp (hG.imp id (flats_enumF _ _)) kp).get hdd
      rw [show vs[i]? = some x2 from hx2] at hw; cases hw
      cases hx1
      exact rep_pair hT (by rw [Nat.zero_add]; rfl) q
    · cases e2
      refine .inl (tD_un e e1 fun v H1 s1 r1 _ _ => ?_)
      obtain ⟨a, vs, rfl, g, sq, rr⟩ := r1
      refine ⟨a, vs, rfl, SqL.of sq, kk _ H1 _ _ [a] s1 (by rw [enumF_length, rr.length]; exact walk_enum (xs := vs)) (fun b h => ?_) (fun hsf b h => by cases hsf) (fun H' kp => SqL.of (kp a _ sq (.inr (by simp)))) fun Gp hG i d H' x H'' hd kp _ y => ?_⟩
      · rcases List.mem_singleton.mp h with rfl
        exact ⟨g, by rw [sq]; exact fun z => nomatch z⟩
      · obtain ⟨Tt, x1, x2, rfl, hT, rfl, hx1, hx2⟩ := y
        rw [enumF_get] at hd
        obtain ⟨dd, hdd, rfl⟩ := Option.map_eq_some_iff.mp hd
        obtain ⟨w, hw, q⟩ := (rr.at Gp (hG.imp id (flats_enumF _ _)) kp).get hdd
        rw [show vs[i]? = some x2 from hx2] at hw; cases hw
        cases hx1
        exact rep_pair hT (by rw [Nat.zero_add]; rfl) q
  · cases h
theorem flats_zip : ∀ (xs ys : List D), flats (List.zipWith (fun d e => D.tup [d, e]) xs ys) = true → ∀ (i : Nat) d e, xs[i]? = some d → ys[i]? = some e → d.flat = true ∧ e.flat = true
  | [], ys, _, i, d, e, h1, h2 => by simp at h1
  | x :: xs, [], _, i, d, e, h1, h2 => by simp at h2
  | x :: xs, y :: ys, h, 0, d, e, h1, h2 => by
    simp at h1 h2
    subst h1 h2
    simp only [List.zipWith_cons_cons, flats, D.flat, Bool.and_eq_true, Bool.and_true] at h
    exact h.1
  | x :: xs, y :: ys, h, i + 1, d, e, h1, h2 => by
    simp only [List.zipWith_cons_cons, flats, Bool.and_eq_true] at h
    exact flats_zip xs ys h.2 i d e (by simpa using h1) (by simpa using h2)
theorem walk_zipT {K : PySem.W.Frag} {a b : Addr} {xs ys : List V} {n : Nat} (hn : n = min xs.length ys.length) : Walk (RZ.ItzT K a b) n (fun H => SqT K H a xs ∧ SqT K H b ys) (YPair (fun i => xs[i]?) (fun i => ys[i]?)) := by
  subst hn
  refine ⟨fun i _ hi q => ?_, fun _ q => ⟨xs, ys, q.1, q.2, by omega⟩, fun i H v H' _ q y => ?_⟩
  · have h1 : i < xs.length := by omega
    have h2 : i < ys.length := by omega
    exact ⟨xs, ys, xs[i], ys[i], q.1, q.2, by simp [h1], by simp [h2]⟩
  · obtain ⟨T, x, z, h1, h2, h3, h4, h5⟩ := y
    exact ⟨T, x, z, h1, h2, h3, h4 xs q.1, h5 ys q.2⟩
/-- an item kept, by its own flatness -/
theorem rep_at {K : PySem.W.Frag} {G Gp : Addr → Prop} {H H1 H' : Hp} {l : List D} {vs : List V} (r : Reps K (Gx G H) H1 l vs) {i : Nat} {d : D} {w : V} (hd : l[i]? = some d) (hw : vs[i]? = some w) (h : (∀ a, Gx G H a → H1 a ≠ none → Gp a) ∨ d.flat = true) (k : Keep Gp H1 H') : Rep K Gp H' d w := by
  obtain ⟨w', h1, q⟩ := r.get hd
  rw [hw] at h1; cases h1
  rcases h with h | h
  · exact (q.monoT h).keep k
  · exact (Rep.flat h q).keep k
theorem snd_zip {a b : CE} (ha : Snd N T lvl cl a) (hb : Snd N T lvl cl b) : Snd N T lvl cl (.zip a b) := by
  have hk : ∀ f s e, chkE N T (.zip a b) f s e = (match e with | .Call (.Name x _) [y, z] [] _ => f && glB s.sc x && decide (x = "zip") && chkE N T a false s y && chkE N T b false s z | _ => false) := fun f s e => by
    cases e <;> try rfl
    rename_i fn xs kw p
    cases fn <;> try rfl
    rcases xs with _ | ⟨x, _ | ⟨y, _ | ⟨z, xs⟩⟩⟩ <;> try rfl
    all_goals (cases kw <;> rfl)
  have h0 : ∀ s e, chkE N T (.zip a b) false s e = true → False := fun s e h => by
    rw [hk] at h
    split at h <;> simp at h
  refine ⟨fun X s e k h => (h0 s e h).elim, fun X s e k h => (h0 s e h).elim, fun X s e tg k ht h => ?_⟩
  obtain ⟨es, kt, pt, rfl⟩ : ∃ es k p, tg = .Tuple es k p := by
    rcases ht with h | h
    · exact h
    · cases h
  rw [hk] at h
  split at h
  · rename_i x p y z pos
    simp only [Bool.true_and, Bool.and_eq_true, decide_eq_true_eq] at h
    obtain ⟨⟨⟨h1, rfl⟩, h3⟩, h4⟩ := h
    refine (RZ.pi_zipA (k.gl h1) (k.free _ (by simp [bnames])) (pa_cons (ha.e X s y k h3) (pa_cons (hb.e X s z k h4) pa_nil (star_of h4 _ _)) (star_of h3 _ _)) (star_of h3 _ _) (by rw [star_of h4]; rfl)).imp fun σ H R q => ?_
    obtain ⟨G, ρ, d, items, e, hd, h2, kk⟩ := q
    simp only [evE] at hd
    obtain ⟨x, e1, hd⟩ := Option.bind_eq_some_iff.mp hd
    obtain ⟨y, e2, hd⟩ := Option.bind_eq_some_iff.mp hd
    refine tD_un e e1 fun v H1 s1 r1 en _ => tD_un en e2 fun w H2 s2 r2 _ _ => ?_
    have r1 := r1.keep (Keep.same s2)
    have r2 := r2.mono (G' := Gx G H) fun _ h => Gx.same s1 h
    cases x <;> cases y <;> simp only [zipD, Option.map_some, Option.map_none, Option.some.injEq, reduceCtorEq] at hd
    · subst hd
      simp only [iterD, Option.some.injEq] at h2
      subst h2
      obtain ⟨a, vs, rfl, sq, rr⟩ := r1
      obtain ⟨b, ws, rfl, sq2, rr2⟩ := r2
      refine ⟨a, b, vs, ws, rfl, .inr ⟨sq, sq2, kk _ H2 _ _ [] (s1.trans s2) (walk_zipT (xs := vs) (ys := ws) (by rw [List.length_zipWith, rr.length, rr2.length])) (fun a h => nomatch h) (fun _ a h => nomatch h) (fun H' kp => ⟨sqT_keep kp sq, sqT_keep kp sq2⟩) fun Gp hG i d H' x H'' hd kp _ y => ?_⟩⟩
      obtain ⟨Tt, x1, x2, rfl, hT, rfl, hx1, hx2⟩ := y
      rw [List.getElem?_zipWith] at hd
      split at hd
      · rename_i da db ea eb
        cases hd
        exact rep_pair hT (rep_at rr ea hx1 (hG.imp id fun f => (flats_zip _ _ f i da db ea eb).1) kp) (rep_at rr2 eb hx2 (hG.imp id fun f => (flats_zip _ _ f i da db ea eb).2) kp)
      · cases hd
    · subst hd
      simp only [iterD, Option.some.injEq] at h2
      subst h2
      obtain ⟨a, vs, rfl, g, sq, rr⟩ := r1
      obtain ⟨b, ws, rfl, g2, sq2, rr2⟩ := r2
      refine ⟨a, b, vs, ws, rfl, .inl ⟨SqL.of sq, SqL.of sq2, kk _ H2 _ _ [a, b] (s1.trans s2) (walk_zip (xs := vs) (ys := ws) (by rw [List.length_zipWith, rr.length, rr2.length])) (fun c h => ?_) (fun hsf b h => by cases hsf) (fun H' kp => ⟨SqL.of (kp a _ sq (.inr (by simp))), SqL.of (kp b _ sq2 (.inr (by simp)))⟩) fun Gp hG i d H' x H'' hd kp _ y => ?_⟩⟩
      · have : c = a ∨ c = b := by simpa using h
        rcases this with rfl | rfl
        · exact ⟨g, by rw [sq]; exact fun z => nomatch z⟩
        · exact ⟨g2, by rw [sq2]; exact fun z => nomatch z⟩
      · obtain ⟨Tt, x1, x2, rfl, hT, rfl, hx1, hx2⟩ := y
        rw [List.getElem?_zipWith] at hd
        split at hd
        · rename_i da db ea eb
          cases hd
          exact rep_pair hT (rep_at rr ea hx1 (hG.imp id fun f => (flats_zip _ _ f i da db ea eb).1) kp) (rep_at rr2 eb hx2 (hG.imp id fun f => (flats_zip _ _ f i da db ea eb).2) kp)
        · cases hd
  · cases h
/-! ### all forms -/
mutual
theorem snd_all : ∀ c : CE, Snd N T lvl cl c
  | .var i => snd_var i
  | .int i => snd_const (cc := .int i) (d := .int i) (v := .int i) (fun b s e => by cases e <;> rfl) (fun X j p => pe_int) (fun ρ => rfl) (fun _ _ _ => rfl) rfl fun d => rfl
  | .bl i => snd_const (cc := .bool i) (d := .bl i) (v := .bl i) (fun b s e => by cases e <;> rfl) (fun X j p => pe_bl) (fun ρ => rfl) (fun _ _ _ => rfl) rfl fun d => rfl
  | .non => snd_const (cc := .none) (d := .non) (v := .non) (fun b s e => by cases e <;> rfl) (fun X j p => pe_non) (fun ρ => rfl) (fun _ _ _ => rfl) rfl fun d => rfl
  | .str x => snd_const (cc := .str x) (d := .str x) (v := .str x) (fun b s e => by cases e <;> rfl) (fun X j p => pe_str) (fun ρ => rfl) (fun _ _ _ => rfl) rfl fun d => rfl
  | .bin o a b => snd_bin o (snd_all a) (snd_all b)
  | .neg a => snd_neg (snd_all a)
  | .not a => snd_not (snd_all a)
  | .cmp o a b => snd_cmp o (snd_all a) (snd_all b)
  | .chain o o' a b c => snd_chain o o' (snd_all a) (snd_all b) (snd_all c)
  | .isN a => snd_isN (snd_all a)
  | .notN a => snd_notN (snd_all a)
  | .and a b => snd_and (snd_all a) (snd_all b)
  | .or a b => snd_or (snd_all a) (snd_all b)
  | .ite c a b => snd_ite (snd_all c) (snd_all a) (snd_all b)
  | .idx a b => snd_idx (snd_all a) (snd_all b)
  | .slc a lo hi => snd_slc (snd_all a) (snd_all lo) (snd_all hi)
  | .tup es => snd_tup (sndL_all es)
  | .lst es => snd_lst (sndL_all es)
  | .call f es => snd_call f (sndL_all es)
  | .bi b es => snd_bi b (sndL_all es)
  | .isi t a => snd_isi t (snd_all a)
  | .lc own tg it cs elt => snd_lc (snd_all it) (sndL_all cs) (snd_all elt)
  | .rng1 a => snd_rng1 (snd_all a)
  | .rng2 a b => snd_rng2 (snd_all a) (snd_all b)
  | .enum a => snd_enum (snd_all a)
  | .zip a b => snd_zip (snd_all a) (snd_all b)
theorem sndL_all : ∀ cs : List CE, SndL N T lvl cl cs
  | [] => sndL_nil
  | c :: cs => sndL_cons (snd_all c) (sndL_all cs)
end
end
end Dl
set_option Elab.async false
set_option linter.all false
set_option maxRecDepth 100000
set_option maxHeartbeats 4000000
/-! Statements: the slots' state, the look, its proof. -/
namespace Dl
open PySem PySem.Spec PyProof.Rows L2

/-! ### the state of the slots -/
/-- what stands through a loop: the tuples of a heap, and its lists at F -/
structure Pr where
  H : Hp
  F : Addr → Prop
  S : Addr → Prop
/-- a list that must stand -/
def Pr.at (P : Pr) (a : Addr) : Prop := P.F a ∧ P.H a ≠ none
structure StR (K : PySem.W.Frag) (H0 : Hp) (G0 : Addr → Prop) (P : Pr) (F : Addr → Prop) (σ : L2.St) (H : Hp) (ρ : RhoS) : Prop where
  len : σ.length = ρ.length
  base : Same H0 H
  sub : ∀ a, F a → Gx G0 H0 a
  trk : ∀ a, F a → H a ≠ none
  pt : Keep P.F P.H H
  inc : ∀ a, P.S a → F a
  sh : ∀ (i : Nat) (d : D), ρ[i]? = some (some (.sh d)) → ∃ v, σ[i]? = some (some v) ∧ Rep K F H d v
  own : ∀ (i : Nat) (l : List D), ρ[i]? = some (some (.own l)) → ∃ a vs, σ[i]? = some (some (.ref a)) ∧ H a = some (.lst vs) ∧ Reps K F H l vs ∧ ¬ F a ∧ H0 a = none ∧ ¬ P.at a
  dist : ∀ (i j : Nat) (l l' : List D) (a : Addr), i ≠ j → ρ[i]? = some (some (.own l)) → ρ[j]? = some (some (.own l')) → σ[i]? = some (some (.ref a)) → σ[j]? ≠ some (some (.ref a))
section
variable {K : PySem.W.Frag} {H0 : Hp} {G0 : Addr → Prop} {P : Pr} {F : Addr → Prop} {σ : L2.St} {H H1 : Hp} {ρ : RhoS}
theorem snapS_get (ρ : RhoS) (i : Nat) (d : D) (h : (snapS ρ)[i]? = some (some d)) : ∃ s, ρ[i]? = some (some s) ∧ s.d = d := by
  unfold snapS at h
  rw [List.getElem?_map] at h
  cases e : ρ[i]? with
  | none => rw [e] at h; cases h
  | some o =>
    rw [e] at h
    cases o with
    | none => simp at h
    | some s =>
      simp at h
      exact ⟨s, rfl, h⟩
theorem hide_get (fz : List Nat) : ∀ (ρ : RhoS) (n i : Nat) (d : D), (hide fz n ρ)[i]? = some (some d) → ρ[i]? = some (some (.sh d)) ∨ ∃ l, ρ[i]? = some (some (.own l)) ∧ d = .lst l ∧ n + i ∈ fz
  | [], n, i, d, h => by simp [hide] at h
  | o :: r, n, 0, d, h => by
    rcases o with _ | ⟨e⟩ | ⟨l⟩
    · simp [hide] at h
    · simp [hide] at h
      exact .inl (by simp [h])
    · by_cases hc : fz.contains n = true
      · simp only [hide, hc, if_true, List.getElem?_cons_zero, Option.some.injEq] at h
        exact .inr ⟨l, rfl, h.symm, by simpa using hc⟩
      · simp only [hide, hc, if_false, List.getElem?_cons_zero, Option.some.injEq] at h
        cases h
  | o :: r, n, i + 1, d, h => by
    have h' : (hide fz (n + 1) r)[i]? = some (some d) := by
      rcases o with _ | ⟨e⟩ | ⟨l⟩ <;> simpa [hide] using h
    rcases hide_get fz r (n + 1) i d h' with h | ⟨l, h1, h2, h3⟩
    · exact .inl (by simpa using h)
    · exact .inr ⟨l, by simpa using h1, h2, (show n + 1 + i = n + (i + 1) by omega) ▸ h3⟩
theorem hide_length (fz : List Nat) : ∀ (ρ : RhoS) (n : Nat), (hide fz n ρ).length = ρ.length
  | [], n => rfl
  | o :: r, n => by
    rcases o with _ | ⟨e⟩ | ⟨l⟩ <;> simp [hide, hide_length fz r]
theorem frzS_length (fz : List Nat) : ∀ (ρ : RhoS) (n : Nat), (frzS fz n ρ).length = ρ.length
  | [], n => rfl
  | o :: r, n => by
    rcases o with _ | ⟨e⟩ | ⟨l⟩ <;> simp [frzS, frzS_length fz r]
theorem frzS_sh (fz : List Nat) : ∀ (ρ : RhoS) (n i : Nat) (d : D), (frzS fz n ρ)[i]? = some (some (.sh d)) → ρ[i]? = some (some (.sh d)) ∨ ∃ l, ρ[i]? = some (some (.own l)) ∧ d = .lst l ∧ n + i ∈ fz
  | [], n, i, d, h => by simp [frzS] at h
  | o :: r, n, 0, d, h => by
    rcases o with _ | ⟨e⟩ | ⟨l⟩
    · simp [frzS] at h
    · simp [frzS] at h
      exact .inl (by simp [h])
    · by_cases hc : fz.contains n = true
      · simp only [frzS, hc, if_true, List.getElem?_cons_zero, Option.some.injEq, Sl.sh.injEq] at h
        exact .inr ⟨l, rfl, h.symm, by simpa using hc⟩
      · simp only [frzS, hc, if_false, List.getElem?_cons_zero, Option.some.injEq] at h
        cases h
  | o :: r, n, i + 1, d, h => by
    have h' : (frzS fz (n + 1) r)[i]? = some (some (.sh d)) := by
      rcases o with _ | ⟨e⟩ | ⟨l⟩ <;> simpa [frzS] using h
    rcases frzS_sh fz r (n + 1) i d h' with h | ⟨l, h1, h2, h3⟩
    · exact .inl (by simpa using h)
    · exact .inr ⟨l, by simpa using h1, h2, (show n + 1 + i = n + (i + 1) by omega) ▸ h3⟩
theorem frzS_own (fz : List Nat) : ∀ (ρ : RhoS) (n i : Nat) (l : List D), (frzS fz n ρ)[i]? = some (some (.own l)) → ρ[i]? = some (some (.own l)) ∧ n + i ∉ fz
  | [], n, i, d, h => by simp [frzS] at h
  | o :: r, n, 0, d, h => by
    rcases o with _ | ⟨e⟩ | ⟨l⟩
    · simp [frzS] at h
    · simp [frzS] at h
    · by_cases hc : fz.contains n = true
      · simp only [frzS, hc, if_true, List.getElem?_cons_zero, Option.some.injEq] at h
        cases h
      · have h : (if fz.contains n = true then some (Sl.sh (.lst l)) else some (.own l)) = some (Sl.own d) := Option.some.inj h
        rw [if_neg hc] at h
        cases h
        exact ⟨rfl, by simpa using hc⟩
  | o :: r, n, i + 1, d, h => by
    have h' : (frzS fz (n + 1) r)[i]? = some (some (.own d)) := by
      rcases o with _ | ⟨e⟩ | ⟨l⟩ <;> simpa [frzS] using h
    obtain ⟨h1, h2⟩ := frzS_own fz r (n + 1) i d h'
    exact ⟨by simpa using h1, (show n + 1 + i = n + (i + 1) by omega) ▸ h2⟩
/-- the addresses of own lists -/
def OwnA (σ : L2.St) (ρ : RhoS) (fz : Nat → Prop) (a : Addr) : Prop := ∃ i l, fz i ∧ ρ[i]? = some (some (.own l)) ∧ σ[i]? = some (some (.ref a))
theorem StR.envAll (st : StR K H0 G0 P F σ H ρ) : EnvR K (fun a => F a ∨ OwnA σ ρ (fun _ => True) a) H σ (snapS ρ) := by
  refine ⟨by rw [st.len]; simp [snapS], fun i d h => ?_⟩
  obtain ⟨s, h1, h2⟩ := snapS_get ρ i d h
  cases s with
  | sh e =>
    cases h2
    obtain ⟨v, a, b⟩ := st.sh i e h1
    exact ⟨v, a, b.mono fun _ h => .inl h⟩
  | own l =>
    cases h2
    obtain ⟨a, vs, e1, e2, e3, e4, e5, e6⟩ := st.own i l h1
    exact ⟨.ref a, e1, a, vs, rfl, .inr ⟨i, l, trivial, h1, e1⟩, e2, e3.mono fun _ h => .inl h⟩
theorem StR.envHide (st : StR K H0 G0 P F σ H ρ) (fz : List Nat) : EnvR K (fun a => F a ∨ OwnA σ ρ (fun i => i ∈ fz) a) H σ (hide fz 0 ρ) := by
  refine ⟨by rw [hide_length]; exact st.len, fun i d h => ?_⟩
  rcases hide_get fz ρ 0 i d h with h1 | ⟨l, h1, rfl, h2⟩
  · obtain ⟨v, a, b⟩ := st.sh i d h1
    exact ⟨v, a, b.mono fun _ h => .inl h⟩
  · obtain ⟨a, vs, e1, e2, e3, e4, e5, e6⟩ := st.own i l h1
    rw [Nat.zero_add] at h2
    exact ⟨.ref a, e1, a, vs, rfl, .inr ⟨i, l, h2, h1, e1⟩, e2, e3.mono fun _ h => .inl h⟩
/-- the heap has grown -/
theorem StR.grow (st : StR K H0 G0 P F σ H ρ) (s : Same H H1) : StR K H0 G0 P F σ H1 ρ where
  len := st.len
  base := st.base.trans s
  sub := st.sub
  trk := fun a f z => st.trk a f (s.free z)
  pt := st.pt.trans (Keep.same s)
  inc := st.inc
  sh := fun i d h => let ⟨v, a, b⟩ := st.sh i d h; ⟨v, a, b.keep (Keep.same s)⟩
  own := fun i l h => let ⟨a, vs, e1, e2, e3, e4⟩ := st.own i l h; ⟨a, vs, e1, s _ _ e2, e3.keep (Keep.same s), e4⟩
  dist := st.dist
theorem StR.ownA_fresh (st : StR K H0 G0 P F σ H ρ) {fz : Nat → Prop} {a : Addr} (h : OwnA σ ρ fz a) : H0 a = none ∧ H a ≠ none ∧ ¬ F a := by
  obtain ⟨i, l, _, h1, h2⟩ := h
  obtain ⟨b, vs, e1, e2, e3, e4, e5, e6⟩ := st.own i l h1
  rw [e1] at h2; cases h2
  exact ⟨e5, (by rw [e2]; exact fun z => nomatch z), e4⟩
/-- the slots of fz shared, all that is new too -/
theorem StR.modeA {fz : List Nat} (st : StR K H0 G0 P F σ H ρ) (s : Same H H1) : StR K H0 G0 P (fun a => Gx (fun a => F a ∨ OwnA σ ρ (fun i => i ∈ fz) a) H a ∧ H1 a ≠ none) σ H1 (aftM (.a fz) ρ) := by
  have up : ∀ a, F a → Gx (fun a => F a ∨ OwnA σ ρ (fun i => i ∈ fz) a) H a ∧ H1 a ≠ none := fun a f => ⟨.inl (.inl f), fun z => st.trk a f (s.free z)⟩
  refine ⟨by show _ = (frzS fz 0 ρ).length; rw [frzS_length]; exact st.len, st.base.trans s, fun a f => ?_, fun a f => f.2, st.pt.trans (Keep.same s), fun a z => up a (st.inc a z), fun i d h => ?_, fun i l h => ?_, fun i j l l' a hij h1 h2 => ?_⟩
  · rcases f.1 with (f | f) | f
    · exact st.sub a f
    · exact .inr (st.ownA_fresh f).1
    · exact .inr (st.base.free f)
  · rcases frzS_sh fz ρ 0 i d h with h1 | ⟨l, h1, rfl, h2⟩
    · obtain ⟨v, a, b⟩ := st.sh i d h1
      exact ⟨v, a, (b.keep (Keep.same s)).mono up⟩
    · obtain ⟨a, vs, e1, e2, e3, e4, e5, e6⟩ := st.own i l h1
      rw [Nat.zero_add] at h2
      exact ⟨.ref a, e1, a, vs, rfl, ⟨.inl (.inr ⟨i, l, h2, h1, e1⟩), by rw [s _ _ e2]; exact fun z => nomatch z⟩, s _ _ e2, (e3.keep (Keep.same s)).mono up⟩
  · obtain ⟨h1, h2⟩ := frzS_own fz ρ 0 i l h
    obtain ⟨a, vs, e1, e2, e3, e4, e5, e6⟩ := st.own i l h1
    refine ⟨a, vs, e1, s _ _ e2, (e3.keep (Keep.same s)).mono up, fun z => ?_, e5, e6⟩
    rcases z.1 with (f | ⟨j, l', hj, h3, h4⟩) | f
    · exact e4 f
    · rw [Nat.zero_add] at h2
      exact st.dist i j l l' a (fun e => h2 (e ▸ hj)) h1 h3 e1 h4
    · rw [e2] at f; cases f
  · exact st.dist i j l l' a hij (frzS_own fz ρ 0 i l h1).1 (frzS_own fz ρ 0 j l' h2).1
/-- behind an expression, taken in a mode -/
theorem StR.mode {m : Md} (st : StR K H0 G0 P F σ H ρ) {f : Rho → Option D} {d : D} {fr : Bool} {Q : VK} (h : f (visM m ρ) = some d) (ok : okM m d = true)
    (q : ∀ v H1 F', Same H H1 → (∀ a, F a → F' a) → StR K H0 G0 P F' σ H1 (aftM m ρ) → Rep K F' H1 d v → (fr = true → Frs d v H) → Q v H1) : tD K fr f σ H Q := by
  cases m with
  | b =>
    refine ⟨_, _, d, st.envAll, h, fun v H1 s r fr' => q v H1 F s (fun _ h => h) (st.grow s) (Rep.flat ok r) fr'⟩
  | a fz =>
    refine ⟨_, _, d, st.envHide fz, h, fun v H1 s r fr' => ?_⟩
    exact q v H1 _ s (fun a f => ⟨.inl (.inl f), fun z => st.trk a f (s.free z)⟩) (st.modeA s) (r.monoT fun a g t => ⟨g, t⟩) fr'
/-- .. where nothing is kept of it but a plain datum, the heap alone grows -/
theorem StR.peek (st : StR K H0 G0 P F σ H ρ) {f : Rho → Option D} {d : D} {fr : Bool} {Q : VK} (h : f (snapS ρ) = some d)
    (q : ∀ v H1, Same H H1 → StR K H0 G0 P F σ H1 ρ → Rep K (fun a => Gx G0 H0 a) H1 d v → Q v H1) : tD K fr f σ H Q := by
  refine ⟨_, _, d, st.envAll, h, fun v H1 s r fr' => q v H1 s (st.grow s) (r.mono fun a g => ?_)⟩
  rcases g with (f | f) | f
  · exact st.sub a f
  · exact .inr (st.ownA_fresh f).1
  · exact .inr (st.base.free f)
theorem StR.test (st : StR K H0 G0 P F σ H ρ) {f : Rho → Option D} {d : D} {b : Bool} {Q : Bool → Hp → Prop} (h : f (snapS ρ) = some d) (ht : truth d = some b)
    (q : ∀ H1, Same H H1 → StR K H0 G0 P F σ H1 ρ → Q b H1) : tT K f σ H Q := ⟨_, _, d, b, st.envAll, h, ht, fun H1 s => q H1 s (st.grow s)⟩
/-- a slot stored -/
theorem StR.setSh (st : StR K H0 G0 P F σ H ρ) {d : D} {v : V} (i : Nat) (r : Rep K F H d v) : StR K H0 G0 P F (σ.set i (some v)) H (ρ.set i (some (.sh d))) where
  len := by rw [List.length_set, List.length_set]; exact st.len
  base := st.base
  sub := st.sub
  trk := st.trk
  pt := st.pt
  inc := st.inc
  sh := fun j e h => by
    by_cases hj : i = j
    · subst hj
      by_cases hi : i < ρ.length
      · rw [List.getElem?_set_self hi] at h
        cases h
        exact ⟨v, by rw [List.getElem?_set_self (by rw [st.len]; exact hi)], r⟩
      · rw [List.getElem?_eq_none (by simpa using hi)] at h; cases h
    · rw [List.getElem?_set_ne hj] at h ⊢
      exact st.sh j e h
  own := fun j l h => by
    by_cases hj : i = j
    · subst hj
      by_cases hi : i < ρ.length
      · rw [List.getElem?_set_self hi] at h; cases h
      · rw [List.getElem?_eq_none (by simpa using hi)] at h; cases h
    · rw [List.getElem?_set_ne hj] at h ⊢
      exact st.own j l h
  dist := fun j k l l' a hjk h1 h2 => by
    have nj : ∀ {j l}, (ρ.set i (some (Sl.sh d)))[j]? = some (some (.own l)) → i ≠ j := fun {j l} h e => by
      subst e
      by_cases hi : i < ρ.length
      · rw [List.getElem?_set_self hi] at h; cases h
      · rw [List.getElem?_eq_none (by simpa using hi)] at h; cases h
    have a1 := nj h1
    have a2 := nj h2
    rw [List.getElem?_set_ne a1] at h1 ⊢
    rw [List.getElem?_set_ne a2] at h2 ⊢
    exact st.dist j k l l' a hjk h1 h2
theorem StR.setOwn (st : StR K H0 G0 P F σ H ρ) {l : List D} {vs : List V} {a : Addr} (i : Nat) (ha : H a = some (.lst vs)) (r : Reps K F H l vs) (h1 : ¬ F a) (h2 : H0 a = none) (h3 : ¬ P.at a)
    (h4 : ∀ j l', i ≠ j → ρ[j]? = some (some (.own l')) → σ[j]? ≠ some (some (.ref a))) : StR K H0 G0 P F (σ.set i (some (.ref a))) H (ρ.set i (some (.own l))) where
  len := by rw [List.length_set, List.length_set]; exact st.len
  base := st.base
  sub := st.sub
  trk := st.trk
  pt := st.pt
  inc := st.inc
  sh := fun j e h => by
    by_cases hj : i = j
    · subst hj
      by_cases hi : i < ρ.length
      · rw [List.getElem?_set_self hi] at h; cases h
      · rw [List.getElem?_eq_none (by simpa using hi)] at h; cases h
    · rw [List.getElem?_set_ne hj] at h ⊢
      exact st.sh j e h
  own := fun j m h => by
    by_cases hj : i = j
    · subst hj
      by_cases hi : i < ρ.length
      · rw [List.getElem?_set_self hi] at h
        cases h
        exact ⟨a, vs, by rw [List.getElem?_set_self (by rw [st.len]; exact hi)], ha, r, h1, h2, h3⟩
      · rw [List.getElem?_eq_none (by simpa using hi)] at h; cases h
    · rw [List.getElem?_set_ne hj] at h ⊢
      exact st.own j m h
  dist := fun j k l1 l2 b hjk e1 e2 e3 => by
    have at_ : ∀ {j m b}, i = j → (ρ.set i (some (Sl.own l)))[j]? = some (some (.own m)) → (σ.set i (some (.ref a)))[j]? = some (some (.ref b)) → b = a := fun {j m b} e h h' => by
      subst e
      by_cases hi : i < ρ.length
      · rw [List.getElem?_set_self (by rw [st.len]; exact hi)] at h'
        cases h'; rfl
      · rw [List.getElem?_eq_none (by simpa using hi)] at h; cases h
    by_cases hj : i = j
    · have : b = a := at_ hj e1 e3
      subst this
      have hk : i ≠ k := fun e => hjk (hj.symm.trans e)
      rw [List.getElem?_set_ne hk] at e2 ⊢
      exact h4 k l2 hk e2
    · rw [List.getElem?_set_ne hj] at e1 e3
      by_cases hk : i = k
      · intro e4
        have : b = a := at_ hk e2 e4
        subst this
        exact h4 j l1 hj e1 e3
      · rw [List.getElem?_set_ne hk] at e2 ⊢
        exact st.dist j k l1 l2 b hjk e1 e2 e3
/-- an own list changed in place -/
theorem StR.write (st : StR K H0 G0 P F σ H ρ) {i : Nat} {l m : List D} {ws : List V} {a : Addr} (hl : ρ[i]? = some (some (.own l))) (ha : σ[i]? = some (some (.ref a))) (r : Reps K F H m ws) : StR K H0 G0 P F σ (upd H a (.lst ws)) (ρ.set i (some (.own m))) := by
  obtain ⟨b, vs, e1, e2, e3, e4, e5, e6⟩ := st.own i l hl
  rw [ha] at e1; cases e1
  have kp : Keep F H (upd H a (.lst ws)) := fun c o hc q => by
    have : c ≠ a := by
      rintro rfl
      rcases q with q | q
      · rw [e2] at hc; cases hc; cases q
      · exact e4 q
    rw [upd_ne this]; exact hc
  have hi : i < ρ.length := (List.getElem?_eq_some_iff.mp hl).1
  refine ⟨by rw [List.length_set]; exact st.len, fun c o h => ?_, st.sub, fun c f z => ?_, fun c o h q => ?_, st.inc, fun j d h => ?_, fun j n h => ?_, fun j k l1 l2 c hjk h1 h2 => ?_⟩
  · rw [upd_ne (ne_of_none h e5)]
    exact st.base c o h
  · have : c ≠ a := fun e => e4 (e ▸ f)
    rw [upd_ne this] at z
    exact st.trk c f z
  · have : c ≠ a := by
      rintro rfl
      have hc := st.pt c o h q
      rw [e2] at hc
      cases hc
      rcases q with q | q
      · cases q
      · exact e6 ⟨q, by rw [h]; exact fun z => nomatch z⟩
    rw [upd_ne this]
    exact st.pt c o h q
  · by_cases hj : i = j
    · subst hj
      rw [List.getElem?_set_self hi] at h; cases h
    · rw [List.getElem?_set_ne hj] at h
      obtain ⟨v, q1, q2⟩ := st.sh j d h
      exact ⟨v, q1, q2.keep kp⟩
  · by_cases hj : i = j
    · subst hj
      rw [List.getElem?_set_self hi] at h
      cases h
      exact ⟨a, ws, ha, upd_same, r.keep kp, e4, e5, e6⟩
    · rw [List.getElem?_set_ne hj] at h
      obtain ⟨b, us, q1, q2, q3, q4, q5, q6⟩ := st.own j n h
      have : b ≠ a := by
        rintro rfl
        exact st.dist i j l n b hj hl h ha q1
      exact ⟨b, us, q1, by rw [upd_ne this]; exact q2, q3.keep kp, q4, q5, q6⟩
  · have up : ∀ {j n}, (ρ.set i (some (Sl.own m)))[j]? = some (some (Sl.own n)) → ∃ n', ρ[j]? = some (some (Sl.own n')) := fun {j n} h => by
      by_cases hj : i = j
      · subst hj; exact ⟨l, hl⟩
      · rw [List.getElem?_set_ne hj] at h; exact ⟨n, h⟩
    obtain ⟨n1, h1⟩ := up h1
    obtain ⟨n2, h2⟩ := up h2
    exact st.dist j k n1 n2 c hjk h1 h2
theorem StR.setAll (bs : List (Nat × D)) : ∀ {ws : List (Nat × V)} {σ : L2.St} {ρ : RhoS}, StR K H0 G0 P F σ H ρ → BindR K F H bs ws → StR K H0 G0 P F (setAll σ ws) H (putS ρ bs) := by
  induction bs with
  | nil =>
    intro ws σ ρ st h
    cases h
    exact st
  | cons b bs ih =>
    intro ws σ ρ st h
    cases h with
    | cons p t =>
      rename_i w ws
      show StR K H0 G0 P F (Dl.setAll (σ.set w.1 (some w.2)) ws) H (putS (ρ.set b.1 (some (.sh b.2))) bs)
      rw [p.1]
      exact ih (st.setSh w.1 p.2) t
end

/-- what is wanted behind a statement -/
def Wants (K : PySem.W.Frag) (D : Ends) (H0 : Hp) (G0 : Addr → Prop) (P : Pr) : Res → Prop
  | .nx ρ => ∀ σ H F, StR K H0 G0 P F σ H ρ → D.nx σ H
  | .br ρ => ∀ σ H F, StR K H0 G0 P F σ H ρ → D.bk σ H
  | .ct ρ => ∀ σ H F, StR K H0 G0 P F σ H ρ → D.ct σ H
  | .rt d => ∀ v H, Same H0 H → Rep K (Gx G0 H0) H d v → D.rt v H
def tS (K : PySem.W.Frag) (f : RhoS → Option Res) : TS := fun D σ H => ∃ H0 G0 P F ρ r, StR K H0 G0 P F σ H ρ ∧ f ρ = some r ∧ Wants K D H0 G0 P r
end Dl
set_option Elab.async false
set_option linter.all false
set_option maxRecDepth 100000
set_option maxHeartbeats 4000000
/-! Statements: the look and its proof. -/
namespace Dl
open PySem PySem.Spec PyProof.Rows L2
/-- no stores out of order -/
def noSwap : Expr → Expr → Bool
  | _, .Tuple vs _ _ => vs.all (foldedForSure 8)
  | _, _ => true
section
variable (N : List Str) (T : List FnI)
mutual
def chkS : CS → Sc → Stmt → Bool
  | .set _ i c, s, .Assign [.Name x _] e _ => decide (N[i]? = some x) && locB s x && chkE N T c false s e
  | .own i c, s, .Assign [.Name x _] e _ => decide (N[i]? = some x) && locB s x && chkE N T c false s e
  | .put _ t c, s, .Assign [tg] e _ => isTp t && chkG N s t tg && chkE N T c false s e && noSwap tg e
  | .par i j a b, s, .Assign [.Tuple [.Name x px, .Name y py] _ _] (.Tuple [u, v] _ _) _ => decide (N[i]? = some x) && decide (N[j]? = some y) && decide (i ≠ j) && decide (s.sc.names.lookup x = some .local) && decide (s.sc.names.lookup y = some .local) &&
      (px.line == py.line) && !([u, v].all (foldedForSure 8)) && !([u, v].all (constantsAlone 8)) && chkE N T a false s u && chkE N T b false s v
  | .app _ i c, s, .Expr (.Call (.Attribute (.Name x _) at_ ap) [e] [] cp) _ => decide (N[i]? = some x) && visB s.sc x && okName x && decide (at_ = "append") && (ap.endLine == cp.line) && chkE N T c false s e
  | .sti _ i k c, s, .Assign [.Subscript (.Name x _) ke _] e _ => decide (N[i]? = some x) && visB s.sc x && okName x && chkE N T k false s ke && chkE N T c false s e
  | .aug i o c, s, .AugAssign (.Name x _) op e _ => decide (N[i]? = some x) && locB s x && decide (op = boOp o) && (decide (o = .add) || decide (o = .sub)) && chkE N T c false s e
  | .ifs c a b, s, .If t x y _ => chkE N T c false s t && chkSs a s x && chkSs b s y
  | .loop _ t it b, s, .For tg ix body [] _ => chkE N T it true s ix && chkG N s t tg && (isTp t || !needTp it) && chkSs b s body
  | .whl _ c b, s, .While t body [] _ => chkE N T c false s t && chkSs b s body
  | .ret c, s, .Return (some e) _ => chkE N T c false s e
  | .retN, _, .Return none _ => true
  | .brk, _, .Break _ => true
  | .cnt, _, .Continue _ => true
  | .pas, _, .Pass _ => true
  | _, _, _ => false
def chkSs : List CS → Sc → List Stmt → Bool
  | [], _, [] => true
  | c :: cs, s, e :: es => chkS c s e && chkSs cs s es
  | _, _, _ => false
end
end
/-! ### stores of a comprehension -/
def swB (sc : Scope) (x : Str) (p : Pos) : Expr → Bool
  | .ListComp _ _ scope pos => decide (sc.names.lookup x = some .local) && (p.line == pos.line) && !(scope.names.any fun (n, k) => n == x && (k == .local || k == .cell))
  | _ => false
section
variable {N : List Str} {T : List FnI} {lvl : Nat} {cl : Nat → List D → Option D} {X : Cx} {s : Sc}
theorem chk_setc {c : CE} {b : Bool} {a : Expr} {g : List Comprehension} {sc : Scope} {p : Pos} : chkE N T c b s (.SetComp a g sc p) = false := by cases c <;> rfl
theorem chk_dictc {c : CE} {b : Bool} {a a' : Expr} {g : List Comprehension} {sc : Scope} {p : Pos} : chkE N T c b s (.DictComp a a' g sc p) = false := by cases c <;> rfl
theorem sw_false {c : CE} {b : Bool} {e : Expr} {env : Env} {x : Str} {p : Pos} {l : Nat} (hk : env.scope.kind = .function) (h : chkE N T c b s e = true) (hs : swB env.scope x p e = false) : swapsWith e (some (.Name x p)) l env = pure false := by
  cases e with
  | ListComp elt gs scope pos =>
    have hb : env.blockKind = .function := by unfold Env.blockKind; rw [hk]; rfl
    unfold swapsWith
    show (pure (env.blockKind == .function && env.kindOf x == some .local && p.line == pos.line && !(scope.names.any fun (n, k) => n == x && (k == .local || k == .cell))) : Sem Bool) = pure false
    congr 1
    rw [hb]
    unfold swB at hs
    have e1 : (env.kindOf x == some NameKind.local) = decide (env.scope.names.lookup x = some .local) := by
      unfold Env.kindOf
      by_cases h : env.scope.names.lookup x = some .local
      · rw [h]; rfl
      · rw [decide_eq_false h]
        exact beq_eq_false_iff_ne.mpr h
    rw [e1]
    simpa using hs
  | SetComp _ _ _ _ => rw [chk_setc] at h; cases h
  | DictComp _ _ _ _ _ => rw [chk_dictc] at h; cases h
  | _ => rfl
theorem sw_other {c : CE} {b : Bool} {e : Expr} {env : Env} {t : Expr} {l : Nat} (h : chkE N T c b s e = true) (ht : ∀ x p, t ≠ .Name x p) : swapsWith e (some t) l env = pure false := by
  cases e with
  | SetComp _ _ _ _ => rw [chk_setc] at h; cases h
  | DictComp _ _ _ _ _ => rw [chk_dictc] at h; cases h
  | ListComp _ _ _ _ => cases t <;> first | rfl | exact absurd rfl (ht _ _)
  | _ => rfl
theorem sw_sole {c : CE} {b : Bool} {e : Expr} {env : Env} {t : Expr} {l : Nat} (h : chkE N T c b s e = true) (ht : ∀ x p, t ≠ .Name x p) : swapsWithSole [t] e l env = pure false := sw_other h ht
theorem swapped_none {tg e : Expr} {env : Env} (h : noSwap tg e = true) : swappedStores [tg] e env = pure none := by
  cases e with
  | Tuple vs k p =>
    have h : vs.all (foldedForSure 8) = true := h
    cases tg with
    | Tuple ts kt pt =>
      unfold swappedStores
      simp only [h, if_true]
      split
      · rfl
      · split
        · rfl
        · split <;> rfl
    | List ts pt =>
      unfold swappedStores
      simp only [h, if_true]
      split
      · rfl
      · split
        · rfl
        · split <;> rfl
    | _ => rfl
  | _ => cases tg <;> rfl
theorem swapped_sub {o i : Expr} {p : Pos} (e : Expr) {env : Env} : swappedStores [.Subscript o i p] e env = pure none := by
  cases e <;> rfl
theorem swapped_two {x y : Str} {px py pt pt2 : Pos} {kt k2 : Nat} {u v : Expr} {env : Env} (hk : env.scope.kind = .function) (hx : env.scope.names.lookup x = some .local) (hy : env.scope.names.lookup y = some .local) (hne : x ≠ y) (hl : (px.line == py.line) = true)
    (hu : ∀ a p, u ≠ .Starred a p) (hv : ∀ a p, v ≠ .Starred a p)
    (h1 : [u, v].all (foldedForSure 8) = false) (h2 : [u, v].all (constantsAlone 8) = false) :
    swappedStores [.Tuple [.Name x px, .Name y py] kt pt] (.Tuple [u, v] k2 pt2) env = pure (some [x, y]) := by
  have hb : env.blockKind = .function := by unfold Env.blockKind; rw [hk]; rfl
  have e1 : (env.kindOf x == some NameKind.local) = true := by unfold Env.kindOf; rw [hx]; rfl
  have e2 : (env.kindOf y == some NameKind.local) = true := by unfold Env.kindOf; rw [hy]; rfl
  have hl' : py.line = px.line := (beq_iff_eq.mp hl).symm
  have hd : ([x, y] : List Str).eraseDups.length = 2 := by
    have hb : (x == y) = false := beq_eq_false_iff_ne.mpr hne
    have hb' : (y == x) = false := beq_eq_false_iff_ne.mpr (Ne.symm hne)
    simp [List.eraseDups_cons, hb, hb']
  unfold swappedStores
  simp only [h1, h2, hb, List.filterMap_cons, List.filterMap_nil, Expr.pos, List.head?_cons, Option.map_some, Option.getD_some, e1, e2, hl', Bool.true_and, beq_self_eq_true, if_true, hd]
  rw [if_neg (by simp), if_neg (by
    rw [List.any_eq_true]
    rintro ⟨z, hz, hf⟩
    have hz : z = u ∨ z = v := by simpa using hz
    rcases hz with rfl | rfl
    · cases z <;> first | exact absurd hf Bool.false_ne_true | exact hu _ _ rfl
    · cases z <;> first | exact absurd hf Bool.false_ne_true | exact hv _ _ rfl)]
  rfl

structure SndS (N : List Str) (T : List FnI) (lvl : Nat) (cl : Nat → List D → Option D) (c : CS) : Prop where
  s : ∀ (X : Cx) (s : Sc) (st : Stmt), Cok N T lvl cl s X → X.env.scope.kind = .function → (X.xe = fun _ _ => False) → chkS N T c s st = true → PS X st (tS X.K (exS cl c))
structure SndSs (N : List Str) (T : List FnI) (lvl : Nat) (cl : Nat → List D → Option D) (c : List CS) : Prop where
  s : ∀ (X : Cx) (s : Sc) (st : List Stmt), Cok N T lvl cl s X → X.env.scope.kind = .function → (X.xe = fun _ _ => False) → chkSs N T c s st = true → PSs X st (tS X.K (exSs cl c))
theorem ps_asgn {i : Nat} {c : CE} {x : Str} {p pos : Pos} {e : Expr} (k : Cok N T lvl cl s X) (hk : X.env.scope.kind = .function) (h1 : N[i]? = some x) (h2 : locB s x = true) (h3 : chkE N T c false s e = true) :
    PS X (.Assign [.Name x p] e pos) (tAsg (tD X.K (freshB c) (evE cl c)) (gName i)) := by
  obtain ⟨l1, l2⟩ := k.loc h2
  by_cases hs : swB X.env.scope x p e = false
  · exact ps_set (i := i) (by rw [k.hN]; exact k.nd) (by rw [k.hN]; exact h1) l1 ((snd_all c).e X s e k h3) (sw_false hk h3 hs) l2
  · cases e <;> first | exact absurd rfl hs | skip
    rename_i elt gs scope pe
    simp only [swB, Bool.not_eq_false, Bool.and_eq_true, decide_eq_true_eq, Bool.not_eq_true'] at hs
    obtain ⟨⟨h4, h5⟩, h6⟩ := hs
    cases c <;> first | exact absurd (show false = true from h3) Bool.false_ne_true | skip
    rename_i own tg it cs el
    have hk2 := h3
    rcases gs with _ | ⟨⟨tx, ix, ifs, asy⟩, _ | ⟨g2, gs⟩⟩ <;> first | exact absurd (show false = true from h3) Bool.false_ne_true | skip
    have h3 : (decide (asy = 0) && blkC N s.sc scope (ownP N own) && chkE N T it true s ix && chkG N (blkSc s scope) tg tx && tg.slots.all (fun i => own.contains i) && (isTp tg || !needTp it) && decide (cs.length ≤ 1) && chkEs N T cs (blkSc s scope) ifs && chkE N T el false (blkSc s scope) elt) = true := h3
    simp only [Bool.and_eq_true, decide_eq_true_eq, List.all_eq_true] at h3
    obtain ⟨⟨⟨⟨⟨⟨⟨⟨rfl, c2⟩, c3⟩, c4⟩, c5⟩, c6⟩, c7⟩, c8⟩, c9⟩ := h3
    have htg : (∃ es k p, tx = .Tuple es k p) ∨ needTp it = false := by
      rcases Bool.or_eq_true _ _ ▸ c6 with h6 | h6
      · refine .inl ?_
        cases tg with
        | nm i => cases h6
        | tp l => cases tx <;> first | exact ⟨_, _, _, rfl⟩ | exact absurd (show false = true from c4) Bool.false_ne_true
      · exact .inr (by simpa using h6)
    have := ps_setLc (i := i) (own := ownP N own) (g := gT X.K tg) (tt := tTs X.K (evT cl cs)) (te := tD X.K (freshB el) (evE cl el)) (pos := pe) (py := p) (spos := pos) k.calm (by rw [k.hN]; exact k.nd) (by rw [k.hN]; exact h1) h4 (sw_true hk h4 h5 h6) ((snd_all it).i X s ix tx k htg c3) (by rw [k.hN, k.sc]; exact blkOk_by c2)
        (fun sh H C cells fp => okG (k.blk sh H scope C cells fp) tg tx c4) (fun sh H C cells fp => (sndL_all cs).t _ (blkSc s scope) ifs (k.blk sh H scope C cells fp) c7 c8)
        (fun sh H C cells fp => (snd_all el).e _ (blkSc s scope) elt (k.blk sh H scope C cells fp) c9) (fset_of c3 _)
    refine this.imp fun D σ H q => ?_
    rw [ownP_snd]
    exact lc_read c5 q
theorem sndS_set (m : Md) (i : Nat) (c : CE) : SndS N T lvl cl (.set m i c) where
  s := fun X s st k hk hx h => by
    cases st <;> first | exact absurd (show false = true from h) Bool.false_ne_true | skip
    rename_i ts e pos
    rcases ts with _ | ⟨t, _ | ⟨t2, ts⟩⟩ <;> first | exact absurd (show false = true from h) Bool.false_ne_true | skip
    all_goals (cases t <;> first | exact absurd (show false = true from h) Bool.false_ne_true | skip)
    simp only [chkS, Bool.and_eq_true, decide_eq_true_eq] at h
    refine (ps_asgn k hk h.1.1 h.1.2 h.2).imp fun D σ H q => ?_
    obtain ⟨H0, G0, P, F, ρ, r, st, hf, hw⟩ := q
    simp only [exS] at hf
    obtain ⟨d, e1, hf⟩ := Option.bind_eq_some_iff.mp hf
    obtain ⟨hc, rfl⟩ := grd_some hf
    exact st.mode e1 hc fun v H1 F' s1 _ st1 r1 _ => hw _ _ _ (st1.setSh i r1)
theorem sndS_own (i : Nat) (c : CE) : SndS N T lvl cl (.own i c) where
  s := fun X s st k hk hx h => by
    cases st <;> first | exact absurd (show false = true from h) Bool.false_ne_true | skip
    rename_i ts e pos
    rcases ts with _ | ⟨t, _ | ⟨t2, ts⟩⟩ <;> first | exact absurd (show false = true from h) Bool.false_ne_true | skip
    all_goals (cases t <;> first | exact absurd (show false = true from h) Bool.false_ne_true | skip)
    simp only [chkS, Bool.and_eq_true, decide_eq_true_eq] at h
    refine (ps_asgn k hk h.1.1 h.1.2 h.2).imp fun D σ H q => ?_
    obtain ⟨H0, G0, P, F, ρ, r, st, hf, hw⟩ := q
    simp only [exS] at hf
    obtain ⟨d, e1, hf⟩ := Option.bind_eq_some_iff.mp hf
    obtain ⟨l, e2, hf⟩ := Option.bind_eq_some_iff.mp hf
    obtain ⟨⟨hc, hfr⟩, rfl⟩ := grd_some hf
    cases d <;> simp only [lstOf, reduceCtorEq] at e2
    cases e2
    refine ⟨_, _, _, st.envAll, e1, fun v H1 s1 r1 fr => ?_⟩
    obtain ⟨a, vs, rfl, _, ha, rr⟩ := r1
    have hn : H a = none := fr hfr _ rfl a rfl
    refine hw _ _ F ((st.grow s1).setOwn i ha (Reps.flat hc rr) (fun f => st.trk a f hn) (st.base.free hn) (fun z => ?_) fun j l' hj h1 h2 => ?_)
    · obtain ⟨z1, z2⟩ := z
      cases e : P.H a with
      | none => exact z2 e
      | some o =>
        have := st.pt a o e (.inr z1)
        rw [hn] at this; cases this
    · obtain ⟨b, us, q1, q2, _⟩ := st.own j l' h1
      rw [q1] at h2; cases h2
      rw [hn] at q2; cases q2
theorem sndS_put (m : Md) (t : Tg) (c : CE) : SndS N T lvl cl (.put m t c) where
  s := fun X s st k hk hx h => by
    cases st <;> first | exact absurd (show false = true from h) Bool.false_ne_true | skip
    rename_i ts e pos
    rcases ts with _ | ⟨tg, _ | ⟨t2, ts⟩⟩ <;> first | exact absurd (show false = true from h) Bool.false_ne_true | skip
    simp only [chkS, Bool.and_eq_true] at h
    obtain ⟨⟨⟨h1, h2⟩, h3⟩, h4⟩ := h
    have hn : ∀ x p, tg ≠ .Name x p := by
      rintro x p rfl
      cases t <;> first | exact absurd (show false = true from h1) Bool.false_ne_true | (simp [chkG] at h2)
    refine (ps_asg ((snd_all c).e X s e k h3) (okG k t tg h2) (sw_sole h3 hn) (swapped_none h4) (by rw [assign_notStar h2]; rfl)).imp fun D σ H q => ?_
    obtain ⟨H0, G0, P, F, ρ, r, st, hf, hw⟩ := q
    simp only [exS] at hf
    obtain ⟨d, e1, hf⟩ := Option.bind_eq_some_iff.mp hf
    split at hf
    · rename_i hc
      obtain ⟨bs, e2, rfl⟩ := Option.map_eq_some_iff.mp hf
      exact st.mode e1 hc fun v H1 F' s1 _ st1 r1 _ => ⟨F', d, bs, r1, e2, fun ws hws => hw _ _ _ (st1.setAll bs hws)⟩
    · cases hf
theorem sndS_par (i j : Nat) (a b : CE) : SndS N T lvl cl (.par i j a b) where
  s := fun X s st k hk hx h => by
    have key : ∃ x px y py kt pt u v k2 p2 pos, st = .Assign [.Tuple [.Name x px, .Name y py] kt pt] (.Tuple [u, v] k2 p2) pos ∧ (decide (N[i]? = some x) && decide (N[j]? = some y) && decide (i ≠ j) && decide (s.sc.names.lookup x = some .local) && decide (s.sc.names.lookup y = some .local) &&
      (px.line == py.line) && !([u, v].all (foldedForSure 8)) && !([u, v].all (constantsAlone 8)) && chkE N T a false s u && chkE N T b false s v) = true := by
      cases st <;> first | exact absurd (show false = true from h) Bool.false_ne_true | skip
      rename_i ts e pos
      rcases ts with _ | ⟨tg, _ | ⟨t2, ts⟩⟩ <;> first | exact absurd (show false = true from h) Bool.false_ne_true | skip
      all_goals (cases tg <;> first | exact absurd (show false = true from h) Bool.false_ne_true | skip)
      all_goals (rename_i es kt pt; rcases es with _ | ⟨n1, _ | ⟨n2, _ | ⟨n3, es⟩⟩⟩ <;> first | exact absurd (show false = true from h) Bool.false_ne_true | skip)
      all_goals (cases n1 <;> first | exact absurd (show false = true from h) Bool.false_ne_true | skip)
      all_goals (cases n2 <;> first | exact absurd (show false = true from h) Bool.false_ne_true | skip)
      all_goals (cases e <;> first | exact absurd (show false = true from h) Bool.false_ne_true | skip)
      all_goals (rename_i vs k2 p2; rcases vs with _ | ⟨u, _ | ⟨v, _ | ⟨w, vs⟩⟩⟩ <;> first | exact absurd (show false = true from h) Bool.false_ne_true | skip)
      exact ⟨_, _, _, _, _, _, _, _, _, _, _, rfl, h⟩
    obtain ⟨x, px, y, py, kt, pt, u, v, k2, p2, pos, rfl, hq⟩ := key
    simp only [Bool.and_eq_true, decide_eq_true_eq, Bool.not_eq_true'] at hq
    obtain ⟨⟨⟨⟨⟨⟨⟨⟨⟨h1, h2⟩, h3⟩, h4⟩, h5⟩, h6⟩, h7⟩, h8⟩, h9⟩, h10⟩ := hq
    have hne : x ≠ y := by
      rintro rfl
      exact h3 (nodup_ix k.nd h1 h2)
    have su : ∀ a p, u ≠ .Starred a p := by
      rintro a p rfl
      rw [chk_star] at h9; cases h9
    have sv : ∀ a p, v ≠ .Starred a p := by
      rintro a p rfl
      rw [chk_star] at h10; cases h10
    refine (ps_par (i := i) (j := j) k.calm (by rw [k.hN]; exact k.nd) (by rw [k.hN]; exact h1) (by rw [k.hN]; exact h2) h3 (by rw [k.sc]; exact h4) (by rw [k.sc]; exact h5)
      (pa_cons ((snd_all a).e X s u k h9) (pa_cons ((snd_all b).e X s v k h10) pa_nil (star_of h10 _ _)) (star_of h9 _ _)) (swapped_two hk (by rw [k.sc]; exact h4) (by rw [k.sc]; exact h5) hne h6 su sv h7 h8) rfl).imp fun D σ H q => ?_
    obtain ⟨H0, G0, P, F, ρ, r, st, hf, hw⟩ := q
    simp only [exS] at hf
    obtain ⟨d, e1, hf⟩ := Option.bind_eq_some_iff.mp hf
    obtain ⟨d2, e2, hf⟩ := Option.bind_eq_some_iff.mp hf
    obtain ⟨hc, rfl⟩ := grd_some hf
    refine st.mode (m := .b) e1 hc.1 fun v H1 F' s1 _ st1 r1 _ => st1.mode (m := .b) e2 hc.2 fun w H2 F2 s2 _ st2 r2 _ => ?_
    exact ⟨v, w, rfl, hw _ _ _ ((st2.setSh i (Rep.flat hc.1 (r1.keep (Keep.same s2)))).setSh j r2)⟩
theorem sndS_app (m : Md) (i : Nat) (c : CE) : SndS N T lvl cl (.app m i c) where
  s := fun X s st k hk hx h => by
    have key : ∃ x p ap cp e pos, st = .Expr (.Call (.Attribute (.Name x p) "append" ap) [e] [] cp) pos ∧ N[i]? = some x ∧ visB s.sc x = true ∧ okName x = true ∧ (ap.endLine == cp.line) = true ∧ chkE N T c false s e = true := by
      cases st <;> first | exact absurd (show false = true from h) Bool.false_ne_true | skip
      rename_i e pos
      cases e <;> first | exact absurd (show false = true from h) Bool.false_ne_true | skip
      rename_i f es kw cp
      cases f <;> first | exact absurd (show false = true from h) Bool.false_ne_true | skip
      rename_i o at_ ap
      cases o <;> first | exact absurd (show false = true from h) Bool.false_ne_true | skip
      rename_i x p
      rcases es with _ | ⟨e, _ | ⟨e2, es⟩⟩ <;> first | exact absurd (show false = true from h) Bool.false_ne_true | skip
      cases kw <;> first | exact absurd (show false = true from h) Bool.false_ne_true | skip
      have h : (decide (N[i]? = some x) && visB s.sc x && okName x && decide (at_ = "append") && (ap.endLine == cp.line) && chkE N T c false s e) = true := h
      simp only [Bool.and_eq_true, decide_eq_true_eq] at h
      obtain ⟨⟨⟨⟨⟨h1, h2⟩, h3⟩, rfl⟩, h5⟩, h6⟩ := h
      exact ⟨x, p, ap, cp, e, pos, rfl, h1, h2, h3, h5, h6⟩
    obtain ⟨x, p, ap, cp, e, pos, rfl, h1, h2, h3, h5, h6⟩ := key
    obtain ⟨n1, n2, _⟩ := okName_of h3
    have hs := star_of h6 [] X.env
    refine (ps_expr (pe_bm PySem.F.plainAttrs_list PySem.F.slot_list_append PySem.F.type_list_append mt_append (pe_var (i := i) (by rw [k.hN]; exact h1) (by rw [k.sc]; exact vis_of h2) n1 n2) (pa_cons ((snd_all c).e X s e k h6) pa_nil hs) rfl (by rw [hs]; rfl) h5 hs rfl)).imp fun D σ H q => ?_
    obtain ⟨H0, G0, P, F, ρ, r, st, hf, hw⟩ := q
    simp only [exS] at hf
    obtain ⟨d, e1, hf⟩ := Option.bind_eq_some_iff.mp hf
    obtain ⟨l, e2, hf⟩ := Option.bind_eq_some_iff.mp hf
    obtain ⟨⟨hc, hl⟩, rfl⟩ := grd_some hf
    have hi : (aftM m ρ)[i]? = some (some (.own l)) := by
      unfold ownOf at e2
      split at e2
      · cases e2; assumption
      · cases e2
    have hi0 : ρ[i]? = some (some (.own l)) := by
      cases m with
      | b => exact hi
      | a fz => exact (frzS_own fz ρ 0 i l hi).1
    obtain ⟨a, vs, q1, q2, q3, q4, q5, q6⟩ := st.own i l hi0
    refine ⟨.ref a, q1, .inl ⟨rfl, vs, SqL.of q2⟩, st.mode e1 hc fun v H1 F' s1 _ st1 r1 _ => ?_⟩
    obtain ⟨a', vs', w1, w2, w3, _⟩ := st1.own i l hi
    rw [q1] at w1; cases w1
    exact ⟨a, vs', v, rfl, rfl, w2, by rw [← w3.length]; exact hl, hw _ _ _ (st1.write hi q1 (w3.append (Reps.one r1)))⟩
theorem sndS_sti (m : Md) (i : Nat) (kc c : CE) : SndS N T lvl cl (.sti m i kc c) where
  s := fun X s st k hk hx h => by
    have key : ∃ x p ke sp e pos, st = .Assign [.Subscript (.Name x p) ke sp] e pos ∧ N[i]? = some x ∧ visB s.sc x = true ∧ okName x = true ∧ chkE N T kc false s ke = true ∧ chkE N T c false s e = true := by
      cases st <;> first | exact absurd (show false = true from h) Bool.false_ne_true | skip
      rename_i ts e pos
      rcases ts with _ | ⟨tg, _ | ⟨t2, ts⟩⟩ <;> first | exact absurd (show false = true from h) Bool.false_ne_true | skip
      all_goals (cases tg <;> first | exact absurd (show false = true from h) Bool.false_ne_true | skip)
      all_goals (rename_i o ke sp; cases o <;> first | exact absurd (show false = true from h) Bool.false_ne_true | skip)
      rename_i x p
      have h : (decide (N[i]? = some x) && visB s.sc x && okName x && chkE N T kc false s ke && chkE N T c false s e) = true := h
      simp only [Bool.and_eq_true, decide_eq_true_eq] at h
      exact ⟨x, p, ke, sp, e, pos, rfl, h.1.1.1.1, h.1.1.1.2, h.1.1.2, h.1.2, h.2⟩
    obtain ⟨x, p, ke, sp, e, pos, rfl, h1, h2, h3, h5, h6⟩ := key
    obtain ⟨n1, n2, _⟩ := okName_of h3
    refine (ps_asg (tg := .Subscript (.Name x p) ke sp) (pos := pos) ((snd_all c).e X s e k h6) (pg_sub (pe_var (i := i) (by rw [k.hN]; exact h1) (by rw [k.sc]; exact vis_of h2) n1 n2) ((snd_all kc).e X s ke k h5) set_list (fun v => by cases ke <;> first | rfl | (rw [chk_slice] at h5; cases h5))) (sw_sole h6 (fun _ _ z => by cases z)) (swapped_sub e) rfl).imp fun D σ H q => ?_
    obtain ⟨H0, G0, P, F, ρ, r, st, hf, hw⟩ := q
    simp only [exS] at hf
    obtain ⟨d, e1, hf⟩ := Option.bind_eq_some_iff.mp hf
    obtain ⟨l, e2, hf⟩ := Option.bind_eq_some_iff.mp hf
    obtain ⟨z, e3, hf⟩ := Option.bind_eq_some_iff.mp hf
    obtain ⟨dk, e3, e5⟩ := Option.bind_eq_some_iff.mp e3
    obtain ⟨j, e4, hf⟩ := Option.bind_eq_some_iff.mp hf
    obtain ⟨hc, rfl⟩ := grd_some hf
    have hi : (aftM m ρ)[i]? = some (some (.own l)) := by
      unfold ownOf at e2
      split at e2
      · cases e2; assumption
      · cases e2
    refine st.mode e1 hc fun v H1 F' s1 _ st1 r1 _ => ?_
    obtain ⟨a, vs, q1, q2, q3, q4, q5, q6⟩ := st1.own i l hi
    cases dk <;> simp only [intOf, reduceCtorEq] at e5
    cases e5
    refine ⟨.ref a, q1, st1.mode (m := .b) e3 rfl fun w H2 F2 s2 up st2 r2 _ => ?_⟩
    obtain ⟨a', vs', w1, w2, w3, w4⟩ := st2.own i l hi
    rw [q1] at w1; cases w1
    cases r2
    refine ⟨a, vs', _, j, rfl, rfl, w2, by rw [← w3.length]; exact e4, hw _ _ _ (st2.write hi q1 (w3.set j ((r1.keep (Keep.same s2)).mono up)))⟩
theorem sndS_aug (i : Nat) (o : BO) (c : CE) : SndS N T lvl cl (.aug i o c) where
  s := fun X s st k hk hx h => by
    cases st <;> first | exact absurd (show false = true from h) Bool.false_ne_true | skip
    rename_i tg op e pos
    cases tg <;> first | exact absurd (show false = true from h) Bool.false_ne_true | skip
    rename_i x p
    have h : (decide (N[i]? = some x) && locB s x && decide (op = boOp o) && (decide (o = .add) || decide (o = .sub)) && chkE N T c false s e) = true := h
    simp only [Bool.and_eq_true, Bool.or_eq_true, decide_eq_true_eq] at h
    obtain ⟨⟨⟨⟨h1, h2⟩, rfl⟩, h3⟩, h4⟩ := h
    obtain ⟨l1, l2⟩ := k.loc h2
    have hop : ∃ g, PIp X (boOp o) (ipI g) ∧ ∀ x y z, augD o x y = some z → ∃ a b, x = .int a ∧ y = .int b ∧ z = .int (g a b) := by
      rcases h3 with rfl | rfl
      · refine ⟨_, ip_add, fun x y z h => ?_⟩
        cases x <;> cases y <;> simp only [augD, reduceCtorEq] at h
        cases h
        exact ⟨_, _, rfl, rfl, rfl⟩
      · refine ⟨_, ip_sub, fun x y z h => ?_⟩
        cases x <;> cases y <;> simp only [augD, reduceCtorEq] at h
        cases h
        exact ⟨_, _, rfl, rfl, rfl⟩
    obtain ⟨g, hop, hg⟩ := hop
    refine (ps_aug (i := i) (by rw [k.hN]; exact k.nd) (by rw [k.hN]; exact h1) l1 ((snd_all c).e X s e k h4) hop l2).imp fun D σ H q => ?_
    obtain ⟨H0, G0, P, F, ρ, r, st, hf, hw⟩ := q
    simp only [exS] at hf
    obtain ⟨x, e1, hf⟩ := Option.bind_eq_some_iff.mp hf
    obtain ⟨y, e2, hf⟩ := Option.bind_eq_some_iff.mp hf
    obtain ⟨z, e3, rfl⟩ := Option.map_eq_some_iff.mp hf
    obtain ⟨a, b, rfl, rfl, rfl⟩ := hg x y z e3
    have hi : ρ[i]? = some (some (.sh (.int a))) := by
      unfold shOf at e1
      split at e1
      · cases e1; assumption
      · cases e1
    obtain ⟨v, q1, q2⟩ := st.sh i _ hi
    cases q2
    refine ⟨_, q1, st.mode (m := .b) e2 rfl fun w H1 F' s1 _ st1 r1 _ => ?_⟩
    cases r1
    exact ⟨a, b, rfl, rfl, hw _ _ _ (st1.setSh i rfl)⟩
theorem sndS_ret (c : CE) : SndS N T lvl cl (.ret c) where
  s := fun X s st k hk hx h => by
    cases st <;> first | exact absurd (show false = true from h) Bool.false_ne_true | skip
    rename_i v pos
    cases v <;> first | exact absurd (show false = true from h) Bool.false_ne_true | skip
    rename_i e
    refine (ps_ret ((snd_all c).e X s e k h)).imp fun D σ H q => ?_
    obtain ⟨H0, G0, P, F, ρ, r, st, hf, hw⟩ := q
    simp only [exS] at hf
    obtain ⟨d, e1, rfl⟩ := Option.map_eq_some_iff.mp hf
    exact st.peek e1 fun v H1 s1 st1 r1 => hw v H1 st1.base r1
theorem sndS_retN : SndS N T lvl cl .retN where
  s := fun X s st k hk hx h => by
    cases st <;> first | exact absurd (show false = true from h) Bool.false_ne_true | skip
    rename_i v pos
    cases v <;> first | exact absurd (show false = true from h) Bool.false_ne_true | skip
    refine ps_retN.imp fun D σ H q => ?_
    obtain ⟨H0, G0, P, F, ρ, r, st, hf, hw⟩ := q
    simp only [exS, Option.some.injEq] at hf
    subst hf
    exact hw .non H st.base rfl
theorem sndS_brk : SndS N T lvl cl .brk where
  s := fun X s st k hk hx h => by
    cases st <;> first | exact absurd (show false = true from h) Bool.false_ne_true | skip
    refine ps_break.imp fun D σ H q => ?_
    obtain ⟨H0, G0, P, F, ρ, r, st, hf, hw⟩ := q
    simp only [exS, Option.some.injEq] at hf
    subst hf
    exact hw σ H F st
theorem sndS_cnt : SndS N T lvl cl .cnt where
  s := fun X s st k hk hx h => by
    cases st <;> first | exact absurd (show false = true from h) Bool.false_ne_true | skip
    refine ps_continue.imp fun D σ H q => ?_
    obtain ⟨H0, G0, P, F, ρ, r, st, hf, hw⟩ := q
    simp only [exS, Option.some.injEq] at hf
    subst hf
    exact hw σ H F st
theorem sndS_pas : SndS N T lvl cl .pas where
  s := fun X s st k hk hx h => by
    cases st <;> first | exact absurd (show false = true from h) Bool.false_ne_true | skip
    refine ps_pass.imp fun D σ H q => ?_
    obtain ⟨H0, G0, P, F, ρ, r, st, hf, hw⟩ := q
    simp only [exS, Option.some.injEq] at hf
    subst hf
    exact hw σ H F st
theorem sndS_ifs {c : CE} {a b : List CS} (ha : SndSs N T lvl cl a) (hb : SndSs N T lvl cl b) : SndS N T lvl cl (.ifs c a b) where
  s := fun X s st k hk hx h => by
    cases st <;> first | exact absurd (show false = true from h) Bool.false_ne_true | skip
    simp only [chkS, Bool.and_eq_true] at h
    refine (ps_if ((snd_all c).t X s _ k h.1.1) (ha.s X s _ k hk hx h.1.2) (hb.s X s _ k hk hx h.2)).imp fun D σ H q => ?_
    obtain ⟨H0, G0, P, F, ρ, r, st, hf, hw⟩ := q
    simp only [exS] at hf
    obtain ⟨d, e1, hf⟩ := Option.bind_eq_some_iff.mp hf
    obtain ⟨kk, e2, hf⟩ := Option.bind_eq_some_iff.mp hf
    refine st.test e1 e2 fun H1 s1 st1 => ?_
    cases kk with
    | true =>
      simp only [if_true] at hf ⊢
      exact ⟨H0, G0, P, F, ρ, r, st1, hf, hw⟩
    | false =>
      simp only [Bool.false_eq_true, if_false] at hf ⊢
      exact ⟨H0, G0, P, F, ρ, r, st1, hf, hw⟩
theorem sndSs_nil : SndSs N T lvl cl [] where
  s := fun X s st k hk hx h => by
    cases st with
    | cons e es => simp [chkSs] at h
    | nil =>
      refine pss_nil.imp fun D σ H q => ?_
      obtain ⟨H0, G0, P, F, ρ, r, st, hf, hw⟩ := q
      simp only [exSs, Option.some.injEq] at hf
      subst hf
      exact hw σ H F st
theorem sndSs_cons {c : CS} {cs : List CS} (hc : SndS N T lvl cl c) (hs : SndSs N T lvl cl cs) : SndSs N T lvl cl (c :: cs) where
  s := fun X s st k hk hx h => by
    cases st with
    | nil => simp [chkSs] at h
    | cons e es =>
      simp only [chkSs, Bool.and_eq_true] at h
      refine (pss_cons (hc.s X s e k hk hx h.1) (hs.s X s es k hk hx h.2)).imp fun D σ H q => ?_
      obtain ⟨H0, G0, P, F, ρ, r, st, hf, hw⟩ := q
      simp only [exSs] at hf
      obtain ⟨r1, e1, hf⟩ := Option.bind_eq_some_iff.mp hf
      refine ⟨H0, G0, P, F, ρ, r1, st, e1, ?_⟩
      cases r1 with
      | nx ρ1 => exact fun σ H F st1 => ⟨H0, G0, P, F, ρ1, r, st1, hf, hw⟩
      | br ρ1 => cases hf; exact hw
      | ct ρ1 => cases hf; exact hw
      | rt d => cases hf; exact hw
theorem sndS_whl (n : Nat) {c : CE} {b : List CS} (hb : SndSs N T lvl cl b) : SndS N T lvl cl (.whl n c b) where
  s := fun X s st k hk hx h => by
    cases st <;> first | exact absurd (show false = true from h) Bool.false_ne_true | skip
    rename_i t body els pos
    cases els <;> first | exact absurd (show false = true from h) Bool.false_ne_true | skip
    simp only [chkS, Bool.and_eq_true] at h
    refine (ps_while (by rw [hx]; exact PassesOwn.never) ((snd_all c).t X s _ k h.1) (hb.s X s _ k hk hx h.2)).imp fun D σ H q => ?_
    obtain ⟨H0, G0, P, F, ρ, r, st, hf, hw⟩ := q
    simp only [exS] at hf
    refine ⟨fun m σ H => ∃ F ρ, StR X.K H0 G0 P F σ H ρ ∧ whileL (fun ρ => (evE cl c (snapS ρ)).bind truth) (exSs cl b) m ρ = some r, ⟨n, F, ρ, st, hf⟩, fun m σ H hW => ?_⟩
    obtain ⟨F, ρ, st, hf⟩ := hW
    cases m with
    | zero => cases hf
    | succ m =>
      simp only [whileL] at hf
      obtain ⟨kk, e1, hf⟩ := Option.bind_eq_some_iff.mp hf
      obtain ⟨d, e1, e2⟩ := Option.bind_eq_some_iff.mp e1
      refine st.test e1 e2 fun H1 s1 st1 => ?_
      cases kk with
      | false =>
        simp only [Bool.false_eq_true, if_false] at hf ⊢
        cases hf
        exact hw _ _ _ st1
      | true =>
        simp only [if_true] at hf ⊢
        obtain ⟨r1, e3, hf⟩ := Option.bind_eq_some_iff.mp hf
        cases r1 with
        | nx ρ1 => exact ⟨fun σ' H' => ∃ F, StR X.K H0 G0 P F σ' H' ρ1, fun σ' H' ⟨F, st2⟩ => ⟨m, Nat.lt_succ_self _, F, ρ1, st2, hf⟩, H0, G0, P, F, ρ, _, st1, e3, fun σ' H' F' st2 => ⟨F', st2⟩⟩
        | ct ρ1 => exact ⟨fun σ' H' => ∃ F, StR X.K H0 G0 P F σ' H' ρ1, fun σ' H' ⟨F, st2⟩ => ⟨m, Nat.lt_succ_self _, F, ρ1, st2, hf⟩, H0, G0, P, F, ρ, _, st1, e3, fun σ' H' F' st2 => ⟨F', st2⟩⟩
        | br ρ1 =>
          cases hf
          exact ⟨fun _ _ => False, fun _ _ z => z.elim, H0, G0, P, F, ρ, _, st1, e3, fun σ' H' F' st2 => hw _ _ _ st2⟩
        | rt d =>
          cases hf
          exact ⟨fun _ _ => False, fun _ _ z => z.elim, H0, G0, P, F, ρ, _, st1, e3, hw⟩
/-- more stands through the loop -/
theorem StR.weak {K : PySem.W.Frag} {H0 : Hp} {G0 : Addr → Prop} {P P' : Pr} {F : Addr → Prop} {σ : L2.St} {H : Hp} {ρ : RhoS} (st : StR K H0 G0 P' F σ H ρ) (h : ∀ H', Keep P'.F P'.H H' → Keep P.F P.H H') (h2 : ∀ a, P.at a → P'.at a) (h3 : ∀ a, P.S a → P'.S a) : StR K H0 G0 P F σ H ρ where
  len := st.len
  base := st.base
  sub := st.sub
  trk := st.trk
  pt := h H st.pt
  inc := fun a z => st.inc a (h3 a z)
  sh := st.sh
  own := fun i l e => let ⟨a, vs, e1, e2, e3, e4, e5, e6⟩ := st.own i l e; ⟨a, vs, e1, e2, e3, e4, e5, fun z => e6 (h2 a z)⟩
  dist := st.dist
theorem Wants.weak {K : PySem.W.Frag} {D : Ends} {H0 : Hp} {G0 : Addr → Prop} {P P' : Pr} (h : ∀ H', Keep P'.F P'.H H' → Keep P.F P.H H') (h2 : ∀ a, P.at a → P'.at a) (h3 : ∀ a, P.S a → P'.S a) : ∀ {r : Res}, Wants K D H0 G0 P r → Wants K D H0 G0 P' r
  | .nx ρ, w => fun σ H F st => w σ H F (st.weak h h2 h3)
  | .br ρ, w => fun σ H F st => w σ H F (st.weak h h2 h3)
  | .ct ρ, w => fun σ H F st => w σ H F (st.weak h h2 h3)
  | .rt d, w => w
theorem sndS_loop (m : Md) (t : Tg) {it : CE} {b : List CS} (hb : SndSs N T lvl cl b) : SndS N T lvl cl (.loop m t it b) where
  s := fun X s st k hk hx h => by
    cases st <;> first | exact absurd (show false = true from h) Bool.false_ne_true | skip
    rename_i tg ix body els pos
    cases els <;> first | exact absurd (show false = true from h) Bool.false_ne_true | skip
    simp only [chkS, Bool.and_eq_true] at h
    obtain ⟨⟨⟨h1, h2⟩, h3⟩, h4⟩ := h
    have htg : (∃ es k p, tg = .Tuple es k p) ∨ needTp it = false := by
      rcases Bool.or_eq_true _ _ ▸ h3 with h6 | h6
      · refine .inl ?_
        cases t with
        | nm i => cases h6
        | tp l => cases tg <;> first | exact ⟨_, _, _, rfl⟩ | exact absurd (show false = true from h2) Bool.false_ne_true
      · exact .inr (by simpa using h6)
    refine (ps_for (by rw [hx]; exact PassesOwn.never) k.calm ((snd_all it).i X s ix tg k htg h1) (okG k t tg h2) (hb.s X s _ k hk hx h4) (fset_of h1 _)).imp fun D σ H q => ?_
    obtain ⟨H0, G0, P, F, ρ, r, st, hf, hw⟩ := q
    simp only [exS] at hf
    obtain ⟨d, e1, hf⟩ := Option.bind_eq_some_iff.mp hf
    obtain ⟨items, e2, hf⟩ := Option.bind_eq_some_iff.mp hf
    split at hf
    · rename_i hm
      -- the loop, from the state behind the walked thing
      have loop : ∀ (J : It) (H1 : Hp) (Gd : Hp → Prop) (Y : Nat → Hp → V → Hp → Prop) (pa : List Addr) (F1 : Addr → Prop) (Gp : Addr → Prop), Same H H1 → Walk J items.length Gd Y → StR X.K H0 G0 P F1 σ H1 (aftM m ρ) →
          (∀ a ∈ pa, H1 a ≠ none) → (∀ a, a ∈ pa ∨ Gp a → (∃ (i : Nat) (l : List Dl.D), (aftM m ρ)[i]? = some (some (Sl.own l)) ∧ σ[i]? = some (some (V.ref a))) → False) → (∀ a, Gp a → F1 a) → 
          (∀ H', Keep (fun a => a ∈ pa) H1 H' → Gd H') → (∀ i d H' x H'', items[i]? = some d → Keep Gp H1 H' → Gd H' → Y i H' x H'' → Same H' H'' ∧ Rep X.K Gp H'' d x) →
          ∃ W : Nat → Nat → L2.St → Hp → Prop, (∃ m, W 0 m σ H1) ∧ ∀ i m σ H, W i m σ H →
            (J.stop i H ∧ D.nx σ H) ∨ (J.go i H ∧ ∃ N : L2.St → Hp → Prop, (∀ σ' H', N σ' H' → ∃ m', m' < m ∧ W (i + 1) m' σ' H') ∧ ∀ x H', J.yld i H x H' → gT X.K t x σ H' fun σ2 H2 => tS X.K (exSs cl b) { D with nx := N, ct := N, bk := D.nx } σ2 H2) := by
        intro J H1 Gd Y pa F1 Gp s1 hwk st1 hpa hown hGF hGd hY
        let P' : Pr := ⟨H1, fun a => P.at a ∨ a ∈ pa ∨ Gp a, fun a => P.S a ∨ Gp a⟩
        have kPP : ∀ H', Keep P'.F P'.H H' → Keep P.F P.H H' := fun H' kk a o e q => by
          have e1 := st1.pt a o e q
          refine kk a o e1 (q.imp id fun f => .inl ⟨f, ?_⟩)
          rw [e]; exact fun z => nomatch z
        have kat : ∀ a, P.at a → P'.at a := fun a z => by
          refine ⟨.inl z, ?_⟩
          obtain ⟨z1, z2⟩ := z
          cases e : P.H a with
          | none => exact absurd e z2
          | some o =>
            show H1 a ≠ none
            rw [st1.pt a o e (.inr z1)]
            exact fun z => nomatch z
        have hw' := Wants.weak (P' := P') kPP kat (fun a z => .inl z) hw
        have st1' : StR X.K H0 G0 P' F1 σ H1 (aftM m ρ) := by
          refine ⟨st1.len, st1.base, st1.sub, st1.trk, Keep.refl, fun a z => z.elim (st1.inc a) (hGF a), st1.sh, fun i l e => ?_, st1.dist⟩
          obtain ⟨a, vs, q1, q2, q3, q4, q5, q6⟩ := st1.own i l e
          refine ⟨a, vs, q1, q2, q3, q4, q5, fun z => ?_⟩
          rcases z.1 with z | z
          · exact q6 z
          · exact hown a z ⟨i, l, e, q1⟩
        refine for_it hwk (fun i σ' H' => ∃ F' ρ', StR X.K H0 G0 P' F' σ' H' ρ' ∧ forL (fun x ρ => (t.binds x).bind fun bs => exSs cl b (putS ρ bs)) (items.drop i) ρ' = some r) ?_ ?_ ?_ ?_
        · exact ⟨F1, aftM m ρ, st1', by rw [List.drop_zero]; exact hf⟩
        · rintro i σ' H' hi ⟨F', ρ', st', _⟩
          exact hGd H' (st'.pt.mono fun a h => .inr (.inl h))
        · rintro i x σ' H' H'' hi ⟨F', ρ', st', hl⟩ hy
          have kp' : Keep (fun a => a ∈ pa) H1 H' := st'.pt.mono fun a h => .inr (.inl h)
          have kg' : Keep Gp H1 H' := st'.pt.mono fun a h => .inr (.inr h)
          have hdi : items[i]? = some items[i] := List.getElem?_eq_getElem hi
          obtain ⟨sy, ry⟩ := hY i _ H' x H'' hdi kg' (hGd H' kp') hy
          rw [List.drop_eq_getElem_cons hi] at hl
          simp only [forL] at hl
          obtain ⟨r1, e3, hl⟩ := Option.bind_eq_some_iff.mp hl
          obtain ⟨bs, e4, e5⟩ := Option.bind_eq_some_iff.mp e3
          have stg := st'.grow sy
          -- from here on the items' lists are shared ones
          have ryF : Rep X.K F' H'' items[i] x := ry.mono fun a z => st'.inc a (.inr z)
          refine ⟨F', items[i], bs, ryF, e4, fun ws hws => ⟨H0, G0, P', F', _, r1, stg.setAll bs hws, e5, ?_⟩⟩
          cases r1 with
          | nx ρ1 => exact fun σ3 H3 F3 st3 => ⟨F3, ρ1, st3, hl⟩
          | ct ρ1 => exact fun σ3 H3 F3 st3 => ⟨F3, ρ1, st3, hl⟩
          | br ρ1 =>
            cases hl
            exact hw'
          | rt dd =>
            cases hl
            exact hw'
        · rintro σ' H' ⟨F', ρ', st', hl⟩
          rw [List.drop_length] at hl
          simp only [forL, Option.some.injEq] at hl
          subst hl
          exact hw' σ' H' F' st'
      cases m with
      | b =>
        have hm : (flats items && safeI it d) = true := hm
        simp only [Bool.and_eq_true] at hm
        refine ⟨_, _, d, items, st.envAll, e1, e2, fun J H1 Gd Y pa s1 hwk hpa hsafe hGd hY => ?_⟩
        refine loop J H1 Gd Y pa F (fun _ => False) s1 hwk (st.grow s1) (fun a h => (hpa a h).2) (fun a h hh => ?_) (fun a z => z.elim) hGd fun i d H' x H'' hd kp gd y => hY (fun _ => False) (.inr hm.1) i d H' x H'' hd kp gd y
        obtain ⟨i, l, q1, q2⟩ := hh
        obtain ⟨b, vs, w1, w2, _⟩ := st.own i l q1
        rw [w1] at q2; cases q2
        rcases h with h | h
        · rw [hsafe hm.2 _ h] at w2; cases w2
        · exact h
      | a fz =>
        refine ⟨_, _, d, items, st.envHide fz, e1, e2, fun J H1 Gd Y pa s1 hwk hpa hsafe hGd hY => ?_⟩
        have := st.modeA (fz := fz) s1
        refine loop J H1 Gd Y pa _ _ s1 hwk this (fun a h => (hpa a h).2) (fun a h hh => ?_) (fun a z => z) hGd fun i d H' x H'' hd kp gd y => hY _ (.inl fun a g t => ⟨g, t⟩) i d H' x H'' hd kp gd y
        obtain ⟨i, l, q1, q2⟩ := hh
        obtain ⟨b, vs, w1, w2, w3, w4, _⟩ := this.own i l q1
        rw [w1] at q2; cases q2
        rcases h with h | h
        · exact w4 (hpa _ h)
        · exact w4 h
    · cases hf
mutual
theorem sndS_all : ∀ c : CS, SndS N T lvl cl c
  | .set m i c => sndS_set m i c
  | .own i c => sndS_own i c
  | .put m t c => sndS_put m t c
  | .par i j a b => sndS_par i j a b
  | .app m i c => sndS_app m i c
  | .sti m i k c => sndS_sti m i k c
  | .aug i o c => sndS_aug i o c
  | .ifs c a b => sndS_ifs (sndSs_all a) (sndSs_all b)
  | .loop m t it b => sndS_loop m t (sndSs_all b)
  | .whl n c b => sndS_whl n (sndSs_all b)
  | .ret c => sndS_ret c
  | .retN => sndS_retN
  | .brk => sndS_brk
  | .cnt => sndS_cnt
  | .pas => sndS_pas
theorem sndSs_all : ∀ cs : List CS, SndSs N T lvl cl cs
  | [] => sndSs_nil
  | c :: cs => sndSs_cons (sndS_all c) (sndSs_all cs)
end
end
end Dl
set_option Elab.async false
set_option linter.all false
set_option maxRecDepth 100000
set_option maxHeartbeats 4000000
/-! Defs, and a law over them. -/
namespace Dl
open PySem PySem.Spec PyProof.Rows L2
structure Def where
  name : Str
  ps : List Str
  N : List Str
  body : List CS
def Def.fd (d : Def) : Fd := ⟨d.ps.length, d.N.length, d.body⟩
def Def.fi (d : Def) : FnI := ⟨d.name, d.ps⟩
abbrev Tb := List (Def × Stmt)
def Tb.T (tb : Tb) : List FnI := tb.map fun p => p.1.fi
def Tb.fns (tb : Tb) : List Fd := tb.map fun p => p.1.fd
def parB (sc : Scope) (x : Str) : Bool := match sc.names.lookup x with
  | some .local => true
  | some .cell => true
  | _ => false
def chkD (T : List FnI) (d : Def) (st : Stmt) : Bool :=
  decide ((defScope st).kind = .function) && !(defScope st).isCoroutine && !(defScope st).isGenerator && decide d.N.Nodup && decide (d.N.take d.ps.length = d.ps) &&
  d.ps.all (parB (defScope st)) && (defScope st).names.all (fun y => decide (y.2 ≠ .free)) && chkSs d.N T d.body ⟨defScope st, fun _ => true⟩ (defBody st)
structure DefOk (T : List FnI) (d : Def) (st : Stmt) : Prop where
  chk : chkD T d st = true
  bnd : ∀ (kV doc pm : Value) (an : Option Addr) (cdv ct : Value) (us : List Value), us.length = d.ps.length → bindArgs (PySem.W.fnOf d.name d.name (defArgs st) (defBody st) (defScope st) .none kV doc pm an cdv ct) ⟨us, []⟩ = pure (d.ps.zip us)
theorem chkD_scope {T : List FnI} {d : Def} {st : Stmt} (h : chkD T d st = true) : FnScope d.N d.ps (defScope st) ∧ chkSs d.N T d.body ⟨defScope st, fun _ => true⟩ (defBody st) = true := by
  unfold chkD at h
  simp only [Bool.and_eq_true, decide_eq_true_eq, Bool.not_eq_true'] at h
  obtain ⟨⟨⟨⟨⟨⟨⟨h1, h2⟩, h3⟩, h4⟩, h5⟩, h6⟩, h7⟩, h8⟩ := h
  refine ⟨⟨h1, h2, h3, h4, h5, fun x hx => ?_, fun y hy => ?_⟩, h8⟩
  · have := List.all_eq_true.mp h6 x hx
    unfold parB at this
    split at this
    · exact .inl (by assumption)
    · exact .inr (by assumption)
    · cases this
  · exact of_decide_eq_true (List.all_eq_true.mp h7 y hy)
theorem startS_get {F : Fd} {ds : List D} {i : Nat} {s : Sl} (h : (startS F ds)[i]? = some (some s)) : ∃ d, ds[i]? = some d ∧ s = .sh d := by
  unfold startS at h
  by_cases hi : i < ds.length
  · rw [List.getElem?_append_left (by simpa using hi), List.getElem?_map, List.getElem?_eq_getElem hi] at h
    refine ⟨ds[i], List.getElem?_eq_getElem hi, ?_⟩
    simpa using h.symm
  · rw [List.getElem?_append_right (by simpa using hi)] at h
    rw [List.getElem?_replicate] at h
    split at h <;> cases h
theorem start_get {N : List Str} {vs : List V} {i : Nat} {v : V} (h : vs[i]? = some v) : (L2.start N vs)[i]? = some (some v) := by
  unfold L2.start
  have hi := (List.getElem?_eq_some_iff.mp h).1
  rw [List.getElem?_append_left (by simpa using hi), List.getElem?_map, h]
  rfl
theorem st_start {K : PySem.W.Frag} {G : Addr → Prop} {H : Hp} {ds : List D} {vs : List V} {N : List Str} {F : Fd} (hF : F.nn = N.length) (hl : ds.length = F.np) (r : Reps K G H ds vs) :
    StR K H G ⟨H, fun _ => False, fun _ => False⟩ (fun a => G a ∧ H a ≠ none) (L2.start N vs) H (startS F ds) where
  len := by
    unfold L2.start startS
    rw [List.length_append, List.length_append, List.length_map, List.length_map, List.length_replicate, List.length_replicate, hF, ← r.length, hl]
  base := fun _ _ h => h
  sub := fun a h => .inl h.1
  trk := fun a h => h.2
  pt := Keep.refl
  inc := fun a z => z.elim
  sh := fun i d h => by
    obtain ⟨d', h1, h2⟩ := startS_get h
    cases h2
    obtain ⟨v, e, q⟩ := r.get h1
    exact ⟨v, start_get e, q.monoT fun a g t => ⟨g, t⟩⟩
  own := fun i l h => by
    obtain ⟨d', h1, h2⟩ := startS_get h
    cases h2
  dist := fun i j l l' a _ h => by
    obtain ⟨d', h1, h2⟩ := startS_get h
    cases h2
theorem callN_arity {tb : Tb} {n i : Nat} {d : Def} {st : Stmt} (h : tb[i]? = some (d, st)) {ds : List D} {r : D} (e : callN tb.fns n i ds = some r) : ds.length = d.ps.length := by
  cases n with
  | zero => cases e
  | succ n =>
    unfold callN at e
    unfold Tb.fns at e
    rw [List.getElem?_map, h] at e
    have e : runF (callN tb.fns n) d.fd ds = some r := e
    unfold runF at e
    split at e
    · assumption
    · cases e
/-- the names that the module has, and has not -/
structure Top (K : PySem.W.Frag) (mg : Str → Option Value) (tb : Tb) : Prop where
  free : ∀ x ∈ bnames, mg x = none
  fns : ∀ (i : Nat) (d : Def) (st : Stmt), tb[i]? = some (d, st) → ∃ (a : Addr) (fd : FuncData), mg d.name = some (.ref a) ∧ FunD K d.name d.name (defArgs st) (defBody st) (defScope st) [] [] a fd
theorem fns_ok {P : Program} {w : World} {K : PySem.W.Frag} {mg : Str → Option Value} {base : Heap} {tb : Tb} (ok : ∀ (i : Nat) (d : Def) (st : Stmt), tb[i]? = some (d, st) → DefOk tb.T d st) (top : Top K mg tb) :
    ∀ (n i : Nat) (d : Def) (st : Stmt) (a : Addr) (fd : FuncData), tb[i]? = some (d, st) → FunD K d.name d.name (defArgs st) (defBody st) (defScope st) [] [] a fd →
      FnOk P w K mg base CX0 n a fd d.ps (spD K d.ps.length (callN tb.fns n i))
  | 0, i, d, st, a, fd, h, F => by
    refine ⟨fun vs H Q E z => z.1, fun A outer s H args us vs Q E _ _ _ _ z => ?_⟩
    obtain ⟨_, _, _, _, _, e, _⟩ := z
    cases e
  | n + 1, i, d, st, a, fd, h, F => by
    have ih := fns_ok ok top (P := P) (w := w) (base := base) n
    have hd := ok i d st h
    obtain ⟨S, hc⟩ := chkD_scope hd.chk
    refine F.ok S (fun vs H Q E z => z.1) fun cdv A outer s H vs Q E hr hsp => ?_
    refine ⟨_, PSs.nox ((sndSs_all (N := d.N) (T := tb.T) (lvl := n) (cl := callN tb.fns n) d.body).s _ ⟨defScope st, fun _ => true⟩ _ ⟨?_, S.nd, rfl, rfl, hr, rfl, fun _ _ => rfl, top.free, ?_⟩ S.kind rfl hc), ?_⟩
    · intro j f hj ds r e
      unfold Tb.T at hj
      rw [List.getElem?_map] at hj
      cases hq : tb[j]? with
      | none => rw [hq] at hj; cases hj
      | some p =>
        obtain ⟨d', st'⟩ := p
        rw [hq] at hj
        cases hj
        exact callN_arity hq e
    · intro j f hj
      unfold Tb.T at hj
      rw [List.getElem?_map] at hj
      cases hq : tb[j]? with
      | none => rw [hq] at hj; cases hj
      | some p =>
        obtain ⟨d', st'⟩ := p
        rw [hq] at hj
        cases hj
        obtain ⟨a', fd', g, F'⟩ := top.fns j d' st' hq
        exact ⟨a', fd', g, F'.kp, F'.bindsN (ok j d' st' hq).bnd, ih j d' st' a' fd' hq F'⟩
    · obtain ⟨hl, G, ds, r, rr, e, q⟩ := hsp
      unfold callN at e
      unfold Tb.fns at e
      rw [List.getElem?_map, h] at e
      have e : runF (callN tb.fns n) d.fd ds = some r := e
      unfold runF at e
      split at e
      · rename_i hn
        obtain ⟨z, e1, e2⟩ := Option.bind_eq_some_iff.mp e
        refine ⟨H, G, ⟨H, fun _ => False, fun _ => False⟩, _, startS d.fd ds, z, st_start rfl hn rr, e1, ?_⟩
        cases z with
        | nx ρ =>
          cases e2
          exact fun σ H' F' st => q .non H' st.base rfl
        | br ρ => cases e2
        | ct ρ => cases e2
        | rt d' =>
          cases e2
          exact fun v H' s r => q v H' s r
      · cases e
/-! ### the top -/
def defD (p : Def × Stmt) : He.DefD := ⟨(p.1.name, none), p.1.name, p.1.name, defArgs p.2, defBody p.2, defScope p.2, [], []⟩
def topFn (tb : Tb) : List He.DefD := tb.map defD
def topFa (tb : Tb) : List He.Fa := bnames.map He.Fa.free ++ tb.map fun p => He.Fa.glo p.1.name
theorem top_of {K : PySem.W.Frag} {h : Heap} {mg : Str → Option Value} {tb : Tb} (X : K.In h) (G : h.Ns mainGlobals mg) (c : He.SaysD (topFa tb) (topFn tb) K) : Top K mg tb where
  free := fun x hx => by
    obtain ⟨i, hi, e⟩ := List.mem_iff_getElem.mp hx
    refine He.free_ok X G (c.fact i (f := .free x) ?_)
    unfold topFa
    rw [List.getElem?_append_left (by simpa using hi), List.getElem?_map, List.getElem?_eq_getElem hi, e]
    rfl
  fns := fun i d st h => by
    have h1 : (topFn tb)[i]? = some (defD (d, st)) := by unfold topFn; rw [List.getElem?_map, h]; rfl
    obtain ⟨fd, F⟩ := c.def_ i h1
    have h2 : (topFa tb)[bnames.length + i]? = some (.glo d.name) := by
      unfold topFa
      rw [List.getElem?_append_right (by simp)]
      simp only [List.length_map, Nat.add_sub_cancel_left, List.getElem?_map, h]
      rfl
    exact ⟨_, fd, He.glo_ok X G (c.fact _ h2), F⟩
/-- a law that says True of every script -/
def Law1 (tb : Tb) (k j : Nat) : Prop := ∀ ns : List Int, ns.length ≤ 63 → callN tb.fns k j [.scr ns] = some (.bl true)
theorem law_facts {P : Program} {w : World} {K : PySem.W.Frag} {h : Heap} {mg : Str → Option Value} {f : Addr} {tb : Tb} {j k : Nat} {d : Def} {st : Stmt} {x : Str}
    (ok : ∀ (i : Nat) (d : Def) (st : Stmt), tb[i]? = some (d, st) → DefOk tb.T d st) (hj : tb[j]? = some (d, st)) (hps : d.ps = [x]) (law : Law1 tb k j)
    (X : K.In h) (G : h.Ns mainGlobals mg) (hfa : mg d.name = some (.ref f)) (c : He.SaysD (topFa tb) (topFn tb) K) :
    ∃ (fd : FuncData) (sp : Sp), (∀ (s : Shared) (u : Value), BindsTo s fd ⟨[u], []⟩ [(x, u)]) ∧
        (∀ (H : Hp) (a : Addr) (ns : List Int), ns.length ≤ 63 → Only H → SqL K H a (ns.map V.int) → sp [.ref a] H (fun v _ => v = .bl true) fun _ _ _ => False) ∧
        ∀ base : Heap, K.In base → base.Ns mainGlobals mg → FnOk P w K mg base CX0 k f fd [x] sp := by
  have top := top_of X G c
  obtain ⟨a, fd, g, F⟩ := top.fns j d st hj
  have e := hfa.symm.trans g
  cases e
  have b := FunD.bindsA F (ok j d st hj).bnd
  refine ⟨fd, spD K d.ps.length (callN tb.fns k j), fun s u => ?_, fun H a ns hl hO hS => ?_, fun base _ _ => ?_⟩
  · have := b s [u] (by rw [hps]; rfl)
    rw [hps] at this
    exact this
  · refine ⟨by rw [hps]; rfl, fun _ => True, [.scr ns], .bl true, ⟨.ref a, [], rfl, ⟨a, rfl, .of trivial hS⟩, rfl⟩, law ns hl, fun v H' _ r => r⟩
  · have := fns_ok (P := P) (w := w) (base := base) ok top k j d st f fd hj F
    rw [hps] at this ⊢
    exact this
end Dl
set_option Elab.async false
set_option linter.all false
set_option maxRecDepth 100000
set_option maxHeartbeats 4000000
/-! Words for the evaluation: rewriting rules. -/
namespace Dl
open PySem
/-! no rule here may be one that holds by unfolding alone: the kernel would run the program -/
@[simp high] theorem obind_some {α β : Type} (x : α) (f : α → Option β) : (some x).bind f = f x := .trans rfl rfl
@[simp high] theorem obind_none {α β : Type} (f : α → Option β) : (none : Option α).bind f = none := .trans rfl rfl
@[simp high] theorem omap_some {α β : Type} (x : α) (f : α → β) : (some x).map f = some (f x) := .trans rfl rfl
@[simp high] theorem omap_none {α β : Type} (f : α → β) : (none : Option α).map f = none := .trans rfl rfl
@[simp high] theorem get_zero {α : Type} (x : α) (l : List α) : (x :: l)[0]? = some x := .trans rfl rfl
@[simp high] theorem get_succ {α : Type} (x : α) (l : List α) (n : Nat) : (x :: l)[n + 1]? = l[n]? := .trans rfl rfl
@[simp high] theorem set_zero {α : Type} (x y : α) (l : List α) : (x :: l).set 0 y = y :: l := .trans rfl rfl
@[simp high] theorem set_succ {α : Type} (x y : α) (l : List α) (n : Nat) : (x :: l).set (n + 1) y = x :: l.set n y := .trans rfl rfl
@[simp high] theorem ite_tt {α : Sort u} (a b : α) : (if true = true then a else b) = a := .trans (if_pos (.refl true)) rfl
@[simp high] theorem ite_ff {α : Sort u} (a b : α) : (if false = true then a else b) = b := .trans (if_neg Bool.false_ne_true) rfl
@[simp high] theorem id_of {α : Sort u} (a : α) : id a = a := .trans rfl rfl
section
variable (cl : Nat → List D → Option D) (ρ : Rho) (σ : RhoS)
@[simp] theorem grd_true {α : Type} {c : Prop} [Decidable c] {x : α} (h : c) : grd c x = some x := .trans (if_pos h) rfl
theorem grd_def {α : Type} {c : Prop} [Decidable c] {x : α} : grd c x = if c then some x else none := .trans rfl rfl
/-! the ways on, named: simp does not go into them -/
def op1 (f : D → Option D) (x : Option D) : Option D := x.bind f
def op2 (f : D → D → Option D) (x y : Option D) : Option D := x.bind fun x => y.bind fun y => f x y
def negD (x : D) : Option D := (intOf x).map fun i => .int (-i)
def notD (x : D) : Option D := (truth x).map fun b => .bl (!b)
def cmpB (o : CO) (x y : D) : Option D := (cmpD o x y).map .bl
def chn2 (o' : CO) (c : CE) (y : D) (k : Option Bool) : Option D := k.bind fun k => if k = true then (evE cl c ρ).bind fun z => (cmpD o' y z).map .bl else some (.bl false)
def chn (o o' : CO) (c : CE) (x y : Option D) : Option D := x.bind fun x => y.bind fun y => chn2 cl ρ o' c y (cmpD o x y)
def isNK (x : Option D) : Option D := x.map fun x => .bl (isNonD x)
def notNK (x : Option D) : Option D := x.map fun x => .bl (!isNonD x)
def andT (b : CE) (x : D) (k : Option Bool) : Option D := k.bind fun k => if k = true then evE cl b ρ else some x
def andK (b : CE) (x : Option D) : Option D := x.bind fun x => andT cl ρ b x (truth x)
def orT (b : CE) (x : D) (k : Option Bool) : Option D := k.bind fun k => if k = true then some x else evE cl b ρ
def orK (b : CE) (x : Option D) : Option D := x.bind fun x => orT cl ρ b x (truth x)
def iteT (a b : CE) (k : Option Bool) : Option D := k.bind fun k => if k = true then evE cl a ρ else evE cl b ρ
def iteK (a b : CE) (x : Option D) : Option D := x.bind fun x => iteT cl ρ a b (truth x)
def slc3 (x lo hi : Option D) : Option D := x.bind fun x => (lo.bind partD).bind fun l => (hi.bind partD).bind fun h => sliceD x l h
def tupK (x : Option (List D)) : Option D := x.bind fun ds => grd (ds.length ≤ sizeLine) (.tup ds)
def lstK (x : Option (List D)) : Option D := x.bind fun ds => grd (ds.length ≤ sizeLine) (.lst ds)
def callK (f : Nat) (x : Option (List D)) : Option D := x.bind fun ds => cl f ds
def biK (b : BI) (x : Option (List D)) : Option D := x.bind fun ds => biD b ds
def isiK (t : TY) (x : Option D) : Option D := x.map fun x => .bl (isiD t x)
def consK (x : Option D) (y : Option (List D)) : Option (List D) := x.bind fun d => y.map fun ds => d :: ds
/-- a comprehension's turn -/
def lcS (own : List Nat) (tg : Tg) (cs : List CE) (elt : CE) (ρ : Rho) (x : D) : Option (Option D) := (tg.put x (wipeD ρ own)).bind fun ρ1 => (evT cl cs ρ1).bind fun k => if k = true then (evE cl elt ρ1).map some else some none
/-- a loop's turn -/
def turn (t : Tg) (b : List CS) (x : D) (σ : RhoS) : Option Res := (t.binds x).bind fun bs => exSs cl b (putS σ bs)
def lcE (elt : CE) (ρ : Rho) (k : Option Bool) : Option (Option D) := k.bind fun k => if k = true then (evE cl elt ρ).map some else some none
def lcR (cs : List CE) (elt : CE) (ρ : Option Rho) : Option (Option D) := ρ.bind fun ρ1 => lcE cl elt ρ1 (evT cl cs ρ1)
def turnK (b : List CS) (σ : RhoS) (bs : Option (List (Nat × D))) : Option Res := bs.bind fun bs => exSs cl b (putS σ bs)
theorem lcS_eq (own : List Nat) (tg : Tg) (cs : List CE) (elt : CE) (ρ : Rho) (x : D) : lcS cl own tg cs elt ρ x = lcR cl cs elt (tg.put x (wipeD ρ own)) := .trans rfl rfl
@[simp] theorem lcR_some (cs : List CE) (elt : CE) (ρ : Rho) : lcR cl cs elt (some ρ) = lcE cl elt ρ (evT cl cs ρ) := .trans rfl rfl
@[simp] theorem lcE_some (elt : CE) (ρ : Rho) (k : Bool) : lcE cl elt ρ (some k) = if k = true then (evE cl elt ρ).map some else some none := .trans rfl rfl
theorem turn_eq (t : Tg) (b : List CS) (x : D) (σ : RhoS) : turn cl t b x σ = turnK cl b σ (t.binds x) := .trans rfl rfl
@[simp] theorem turnK_some (b : List CS) (σ : RhoS) (bs : List (Nat × D)) : turnK cl b σ (some bs) = exSs cl b (putS σ bs) := .trans rfl rfl
def lcF (xs : Option (List D)) : Option D := xs.bind fun ys => grd (ys.length ≤ sizeLine) (.lst ys)
def lcK (own : List Nat) (tg : Tg) (cs : List CE) (elt : CE) (x : Option D) : Option D := (x.bind iterD).bind fun xs => lcF (lcD (lcS cl own tg cs elt ρ) xs)
def rng1K (x : Option D) : Option D := x.bind fun x => (intOf x).bind fun n => grd (-(2 ^ 62) ≤ n ∧ n < 2 ^ 62) (.lst ((List.range n.toNat).map fun i => .int (i : Nat)))
def rng2K (x y : Option D) : Option D := x.bind fun x => (intOf x).bind fun m => y.bind fun y => (intOf y).bind fun n =>
      grd (-(2 ^ 62) ≤ m ∧ m < 2 ^ 62 ∧ -(2 ^ 62) ≤ n ∧ n < 2 ^ 62) (.lst ((List.range (n - m).toNat).map fun i => .int (m + (i : Nat))))
def enumK (x : Option D) : Option D := x.bind fun x => (itemsD x).map fun xs => .lst (enumF 0 xs)
def zipK (x y : Option D) : Option D := x.bind fun x => y.bind fun y => (zipD x y).map .lst
@[simp] theorem op1_some (f : D → Option D) (x : D) : op1 f (some x) = f x := .trans rfl rfl
@[simp] theorem op2_some (f : D → D → Option D) (x y : D) : op2 f (some x) (some y) = f x y := .trans rfl rfl
@[simp] theorem negD_int (i : Int) : negD (.int i) = some (.int (-i)) := .trans rfl rfl
@[simp] theorem notD_eq (x : D) : notD x = (truth x).map fun b => .bl (!b) := .trans rfl rfl
@[simp] theorem cmpB_eq (o : CO) (x y : D) : cmpB o x y = (cmpD o x y).map .bl := .trans rfl rfl
@[simp] theorem chn_some (o o' : CO) (c : CE) (x y : D) : chn cl ρ o o' c (some x) (some y) = chn2 cl ρ o' c y (cmpD o x y) := .trans rfl rfl
@[simp] theorem chn2_some (o' : CO) (c : CE) (y : D) (k : Bool) : chn2 cl ρ o' c y (some k) = if k = true then op2 (cmpB o') (some y) (evE cl c ρ) else some (.bl false) := .trans rfl rfl
@[simp] theorem isNK_some (x : D) : isNK (some x) = some (.bl (isNonD x)) := .trans rfl rfl
@[simp] theorem notNK_some (x : D) : notNK (some x) = some (.bl (!isNonD x)) := .trans rfl rfl
@[simp] theorem andK_some (b : CE) (x : D) : andK cl ρ b (some x) = andT cl ρ b x (truth x) := .trans rfl rfl
@[simp] theorem andT_some (b : CE) (x : D) (k : Bool) : andT cl ρ b x (some k) = if k = true then evE cl b ρ else some x := .trans rfl rfl
@[simp] theorem orK_some (b : CE) (x : D) : orK cl ρ b (some x) = orT cl ρ b x (truth x) := .trans rfl rfl
@[simp] theorem orT_some (b : CE) (x : D) (k : Bool) : orT cl ρ b x (some k) = if k = true then some x else evE cl b ρ := .trans rfl rfl
@[simp] theorem iteK_some (a b : CE) (x : D) : iteK cl ρ a b (some x) = iteT cl ρ a b (truth x) := .trans rfl rfl
@[simp] theorem iteT_some (a b : CE) (k : Bool) : iteT cl ρ a b (some k) = if k = true then evE cl a ρ else evE cl b ρ := .trans rfl rfl
@[simp] theorem slc3_some (x lo hi : D) : slc3 (some x) (some lo) (some hi) = (partD lo).bind fun l => (partD hi).bind fun h => sliceD x l h := .trans rfl rfl
@[simp] theorem tupK_some (ds : List D) : tupK (some ds) = grd (ds.length ≤ sizeLine) (.tup ds) := .trans rfl rfl
@[simp] theorem lstK_some (ds : List D) : lstK (some ds) = grd (ds.length ≤ sizeLine) (.lst ds) := .trans rfl rfl
@[simp] theorem callK_some (f : Nat) (ds : List D) : callK cl f (some ds) = cl f ds := .trans rfl rfl
@[simp] theorem biK_some (b : BI) (ds : List D) : biK b (some ds) = biD b ds := .trans rfl rfl
@[simp] theorem isiK_some (t : TY) (x : D) : isiK t (some x) = some (.bl (isiD t x)) := .trans rfl rfl
@[simp] theorem consK_some (d : D) (ds : List D) : consK (some d) (some ds) = some (d :: ds) := .trans rfl rfl
@[simp] theorem lcK_some (own : List Nat) (tg : Tg) (cs : List CE) (elt : CE) (x : D) : lcK cl ρ own tg cs elt (some x) = (iterD x).bind fun xs => lcF (lcD (lcS cl own tg cs elt ρ) xs) := .trans rfl rfl
@[simp] theorem lcF_some (ys : List D) : lcF (some ys) = grd (ys.length ≤ sizeLine) (.lst ys) := .trans rfl rfl
@[simp] theorem rng1K_some (n : Int) : rng1K (some (.int n)) = grd (-(2 ^ 62) ≤ n ∧ n < 2 ^ 62) (.lst ((List.range n.toNat).map fun i => .int (i : Nat))) := .trans rfl rfl
@[simp] theorem rng2K_some (m n : Int) : rng2K (some (.int m)) (some (.int n)) = grd (-(2 ^ 62) ≤ m ∧ m < 2 ^ 62 ∧ -(2 ^ 62) ≤ n ∧ n < 2 ^ 62) (.lst ((List.range (n - m).toNat).map fun i => .int (m + (i : Nat)))) := .trans rfl rfl
@[simp] theorem enumK_some (x : D) : enumK (some x) = (itemsD x).map fun xs => .lst (enumF 0 xs) := .trans rfl rfl
@[simp] theorem zipK_some (x y : D) : zipK (some x) (some y) = (zipD x y).map .lst := .trans rfl rfl
@[simp] theorem evE_var (i : Nat) : evE cl (.var i) ρ = (ρ[i]?).bind id := .trans rfl rfl
@[simp] theorem evE_int (i : Int) : evE cl (.int i) ρ = some (.int i) := .trans rfl rfl
@[simp] theorem evE_bl (i : Bool) : evE cl (.bl i) ρ = some (.bl i) := .trans rfl rfl
@[simp] theorem evE_non : evE cl .non ρ = some .non := .trans rfl rfl
@[simp] theorem evE_str (s : Str) : evE cl (.str s) ρ = some (.str s) := .trans rfl rfl
@[simp] theorem evE_bin (o : BO) (a b : CE) : evE cl (.bin o a b) ρ = op2 (binD o) (evE cl a ρ) (evE cl b ρ) := .trans rfl rfl
@[simp] theorem evE_neg (a : CE) : evE cl (.neg a) ρ = op1 negD (evE cl a ρ) := .trans rfl rfl
@[simp] theorem evE_not (a : CE) : evE cl (.not a) ρ = op1 notD (evE cl a ρ) := .trans rfl rfl
@[simp] theorem evE_cmp (o : CO) (a b : CE) : evE cl (.cmp o a b) ρ = op2 (cmpB o) (evE cl a ρ) (evE cl b ρ) := .trans rfl rfl
@[simp] theorem evE_chain (o o' : CO) (a b c : CE) : evE cl (.chain o o' a b c) ρ = chn cl ρ o o' c (evE cl a ρ) (evE cl b ρ) := .trans rfl rfl
@[simp] theorem evE_isN (a : CE) : evE cl (.isN a) ρ = isNK (evE cl a ρ) := .trans rfl rfl
@[simp] theorem evE_notN (a : CE) : evE cl (.notN a) ρ = notNK (evE cl a ρ) := .trans rfl rfl
@[simp] theorem evE_and (a b : CE) : evE cl (.and a b) ρ = andK cl ρ b (evE cl a ρ) := .trans rfl rfl
@[simp] theorem evE_or (a b : CE) : evE cl (.or a b) ρ = orK cl ρ b (evE cl a ρ) := .trans rfl rfl
@[simp] theorem evE_ite (c a b : CE) : evE cl (.ite c a b) ρ = iteK cl ρ a b (evE cl c ρ) := .trans rfl rfl
@[simp] theorem evE_idx (a b : CE) : evE cl (.idx a b) ρ = op2 idxD (evE cl a ρ) (evE cl b ρ) := .trans rfl rfl
@[simp] theorem evE_slc (a lo hi : CE) : evE cl (.slc a lo hi) ρ = slc3 (evE cl a ρ) (evE cl lo ρ) (evE cl hi ρ) := .trans rfl rfl
@[simp] theorem evE_tup (es : List CE) : evE cl (.tup es) ρ = tupK (evEs cl es ρ) := .trans rfl rfl
@[simp] theorem evE_lst (es : List CE) : evE cl (.lst es) ρ = lstK (evEs cl es ρ) := .trans rfl rfl
@[simp] theorem evE_call (f : Nat) (es : List CE) : evE cl (.call f es) ρ = callK cl f (evEs cl es ρ) := .trans rfl rfl
@[simp] theorem evE_bi (b : BI) (es : List CE) : evE cl (.bi b es) ρ = biK b (evEs cl es ρ) := .trans rfl rfl
@[simp] theorem evE_isi (t : TY) (a : CE) : evE cl (.isi t a) ρ = isiK t (evE cl a ρ) := .trans rfl rfl
@[simp] theorem evE_lc (own : List Nat) (tg : Tg) (it : CE) (cs : List CE) (elt : CE) : evE cl (.lc own tg it cs elt) ρ = lcK cl ρ own tg cs elt (evE cl it ρ) := .trans rfl rfl
@[simp] theorem evE_rng1 (a : CE) : evE cl (.rng1 a) ρ = rng1K (evE cl a ρ) := .trans rfl rfl
@[simp] theorem evE_rng2 (a b : CE) : evE cl (.rng2 a b) ρ = rng2K (evE cl a ρ) (evE cl b ρ) := .trans rfl rfl
@[simp] theorem evE_enum (a : CE) : evE cl (.enum a) ρ = enumK (evE cl a ρ) := .trans rfl rfl
@[simp] theorem evE_zip (a b : CE) : evE cl (.zip a b) ρ = zipK (evE cl a ρ) (evE cl b ρ) := .trans rfl rfl
@[simp] theorem evEs_nil : evEs cl [] ρ = some [] := .trans rfl rfl
@[simp] theorem evEs_cons (e : CE) (es : List CE) : evEs cl (e :: es) ρ = consK (evE cl e ρ) (evEs cl es ρ) := .trans rfl rfl
@[simp] theorem evT_nil : evT cl [] ρ = some true := .trans rfl rfl
@[simp] theorem evT_cons (c : CE) (cs : List CE) : evT cl (c :: cs) ρ = (evE cl c ρ).bind truth := .trans rfl rfl
/-! statements -/
def setK (m : Md) (i : Nat) (x : Option D) : Option Res := x.bind fun d => grd (okM m d = true) (.nx ((aftM m σ).set i (some (.sh d))))
def ownK (e : CE) (i : Nat) (x : Option D) : Option Res := x.bind fun d => (lstOf d).bind fun l => grd (flats l = true ∧ freshB e = true) (.nx (σ.set i (some (.own l))))
def putT (m : Md) (bs : Option (List (Nat × D))) : Option Res := bs.map fun bs => .nx (putS (aftM m σ) bs)
def putK (m : Md) (t : Tg) (x : Option D) : Option Res := x.bind fun d => if okM m d = true then putT σ m (t.binds d) else none
def parK (i j : Nat) (x y : Option D) : Option Res := x.bind fun x => y.bind fun y => grd (x.flat = true ∧ y.flat = true) (.nx ((σ.set i (some (.sh x))).set j (some (.sh y))))
def appT (m : Md) (i : Nat) (d : D) (l : Option (List D)) : Option Res := l.bind fun l => grd (okM m d = true ∧ l.length < sizeLine) (.nx ((aftM m σ).set i (some (.own (l ++ [d])))))
def appK (m : Md) (i : Nat) (x : Option D) : Option Res := x.bind fun d => appT σ m i d (ownOf (aftM m σ) i)
def stiU (m : Md) (i : Nat) (d : D) (l : List D) (j : Option Nat) : Option Res := j.bind fun j => grd (okM m d = true) (.nx ((aftM m σ).set i (some (.own (l.set j d)))))
def stiT (m : Md) (i : Nat) (d : D) (l : List D) (k : Option D) : Option Res := (k.bind intOf).bind fun z => stiU σ m i d l (L2.ixN l.length z)
def stiL (m : Md) (i : Nat) (d : D) (k : CE) (l : Option (List D)) : Option Res := l.bind fun l => stiT σ m i d l (evE cl k (snapS (aftM m σ)))
def stiK (m : Md) (i : Nat) (k : CE) (x : Option D) : Option Res := x.bind fun d => stiL cl σ m i d k (ownOf (aftM m σ) i)
def augT (i : Nat) (o : BO) (x y : D) : Option Res := (augD o x y).map fun z => .nx (σ.set i (some (.sh z)))
def augK (i : Nat) (o : BO) (x y : Option D) : Option Res := x.bind fun x => y.bind fun y => augT σ i o x y
def ifsT (a b : List CS) (k : Option Bool) : Option Res := k.bind fun k => if k = true then exSs cl a σ else exSs cl b σ
def ifsK (a b : List CS) (x : Option D) : Option Res := x.bind fun x => ifsT cl σ a b (truth x)
def loopT (m : Md) (t : Tg) (it : CE) (b : List CS) (d : D) (xs : Option (List D)) : Option Res := xs.bind fun xs => if okI m it d xs = true then forL (turn cl t b) xs (aftM m σ) else none
def loopK (m : Md) (t : Tg) (it : CE) (b : List CS) (x : Option D) : Option Res := x.bind fun d => loopT cl σ m t it b d (iterD d)
def retK (x : Option D) : Option Res := x.map .rt
def thenK (cs : List CS) (r : Option Res) : Option Res := r.bind fun r => thenR r (exSs cl cs)
def wTest (c : CE) (σ : RhoS) : Option Bool := (evE cl c (snapS σ)).bind truth
@[simp] theorem setK_some (m : Md) (i : Nat) (d : D) : setK σ m i (some d) = grd (okM m d = true) (.nx ((aftM m σ).set i (some (.sh d)))) := .trans rfl rfl
@[simp] theorem ownK_some (e : CE) (i : Nat) (l : List D) : ownK σ e i (some (.lst l)) = grd (flats l = true ∧ freshB e = true) (.nx (σ.set i (some (.own l)))) := .trans rfl rfl
@[simp] theorem putT_some (m : Md) (bs : List (Nat × D)) : putT σ m (some bs) = some (.nx (putS (aftM m σ) bs)) := .trans rfl rfl
@[simp] theorem putK_some (m : Md) (t : Tg) (d : D) : putK σ m t (some d) = if okM m d = true then putT σ m (t.binds d) else none := .trans rfl rfl
@[simp] theorem parK_some (i j : Nat) (x y : D) : parK σ i j (some x) (some y) = grd (x.flat = true ∧ y.flat = true) (.nx ((σ.set i (some (.sh x))).set j (some (.sh y)))) := .trans rfl rfl
@[simp] theorem appT_some (m : Md) (i : Nat) (d : D) (l : List D) : appT σ m i d (some l) = grd (okM m d = true ∧ l.length < sizeLine) (.nx ((aftM m σ).set i (some (.own (l ++ [d]))))) := .trans rfl rfl
@[simp] theorem appK_some (m : Md) (i : Nat) (d : D) : appK σ m i (some d) = appT σ m i d (ownOf (aftM m σ) i) := .trans rfl rfl
@[simp] theorem stiU_some (m : Md) (i : Nat) (d : D) (l : List D) (j : Nat) : stiU σ m i d l (some j) = grd (okM m d = true) (.nx ((aftM m σ).set i (some (.own (l.set j d))))) := .trans rfl rfl
@[simp] theorem stiT_some (m : Md) (i : Nat) (d : D) (l : List D) (z : Int) : stiT σ m i d l (some (.int z)) = stiU σ m i d l (L2.ixN l.length z) := .trans rfl rfl
@[simp] theorem stiL_some (m : Md) (i : Nat) (d : D) (k : CE) (l : List D) : stiL cl σ m i d k (some l) = stiT σ m i d l (evE cl k (snapS (aftM m σ))) := .trans rfl rfl
@[simp] theorem stiK_some (m : Md) (i : Nat) (k : CE) (d : D) : stiK cl σ m i k (some d) = stiL cl σ m i d k (ownOf (aftM m σ) i) := .trans rfl rfl
@[simp] theorem augK_some (i : Nat) (o : BO) (x y : D) : augK σ i o (some x) (some y) = augT σ i o x y := .trans rfl rfl
@[simp] theorem augT_add (i : Nat) (x y : Int) : augT σ i .add (.int x) (.int y) = some (.nx (σ.set i (some (.sh (.int (x + y)))))) := .trans rfl rfl
@[simp] theorem augT_sub (i : Nat) (x y : Int) : augT σ i .sub (.int x) (.int y) = some (.nx (σ.set i (some (.sh (.int (x - y)))))) := .trans rfl rfl
@[simp] theorem ifsT_some (a b : List CS) (k : Bool) : ifsT cl σ a b (some k) = if k = true then exSs cl a σ else exSs cl b σ := .trans rfl rfl
@[simp] theorem ifsK_some (a b : List CS) (x : D) : ifsK cl σ a b (some x) = ifsT cl σ a b (truth x) := .trans rfl rfl
@[simp] theorem loopT_some (m : Md) (t : Tg) (it : CE) (b : List CS) (d : D) (xs : List D) : loopT cl σ m t it b d (some xs) = if okI m it d xs = true then forL (turn cl t b) xs (aftM m σ) else none := .trans rfl rfl
@[simp] theorem loopK_some (m : Md) (t : Tg) (it : CE) (b : List CS) (d : D) : loopK cl σ m t it b (some d) = loopT cl σ m t it b d (iterD d) := .trans rfl rfl
@[simp] theorem retK_some (d : D) : retK (some d) = some (.rt d) := .trans rfl rfl
@[simp] theorem thenK_nx (cs : List CS) : thenK cl cs (some (.nx σ)) = exSs cl cs σ := .trans rfl rfl
@[simp] theorem thenK_br (cs : List CS) : thenK cl cs (some (.br σ)) = some (.br σ) := .trans rfl rfl
@[simp] theorem thenK_ct (cs : List CS) : thenK cl cs (some (.ct σ)) = some (.ct σ) := .trans rfl rfl
@[simp] theorem thenK_rt (cs : List CS) (d : D) : thenK cl cs (some (.rt d)) = some (.rt d) := .trans rfl rfl
@[simp] theorem exS_set (m : Md) (i : Nat) (e : CE) : exS cl (.set m i e) σ = setK σ m i (evE cl e (visM m σ)) := .trans rfl rfl
@[simp] theorem exS_own (i : Nat) (e : CE) : exS cl (.own i e) σ = ownK σ e i (evE cl e (snapS σ)) := .trans rfl rfl
@[simp] theorem exS_put (m : Md) (t : Tg) (e : CE) : exS cl (.put m t e) σ = putK σ m t (evE cl e (visM m σ)) := .trans rfl rfl
@[simp] theorem exS_par (i j : Nat) (a b : CE) : exS cl (.par i j a b) σ = parK σ i j (evE cl a (snapS σ)) (evE cl b (snapS σ)) := .trans rfl rfl
@[simp] theorem exS_app (m : Md) (i : Nat) (e : CE) : exS cl (.app m i e) σ = appK σ m i (evE cl e (visM m σ)) := .trans rfl rfl
@[simp] theorem exS_sti (m : Md) (i : Nat) (k e : CE) : exS cl (.sti m i k e) σ = stiK cl σ m i k (evE cl e (visM m σ)) := .trans rfl rfl
@[simp] theorem exS_aug (i : Nat) (o : BO) (e : CE) : exS cl (.aug i o e) σ = augK σ i o (shOf σ i) (evE cl e (snapS σ)) := .trans rfl rfl
@[simp] theorem exS_ifs (c : CE) (a b : List CS) : exS cl (.ifs c a b) σ = ifsK cl σ a b (evE cl c (snapS σ)) := .trans rfl rfl
@[simp] theorem exS_loop (m : Md) (t : Tg) (it : CE) (b : List CS) : exS cl (.loop m t it b) σ = loopK cl σ m t it b (evE cl it (visM m σ)) := .trans rfl rfl
@[simp] theorem exS_whl (n : Nat) (c : CE) (b : List CS) : exS cl (.whl n c b) σ = whileL (wTest cl c) (exSs cl b) n σ := .trans rfl rfl
@[simp] theorem exS_ret (e : CE) : exS cl (.ret e) σ = retK (evE cl e (snapS σ)) := .trans rfl rfl
@[simp] theorem exS_retN : exS cl .retN σ = some (.rt .non) := .trans rfl rfl
@[simp] theorem exS_brk : exS cl .brk σ = some (.br σ) := .trans rfl rfl
@[simp] theorem exS_cnt : exS cl .cnt σ = some (.ct σ) := .trans rfl rfl
@[simp] theorem exS_pas : exS cl .pas σ = some (.nx σ) := .trans rfl rfl
@[simp] theorem exSs_nil : exSs cl [] σ = some (.nx σ) := .trans rfl rfl
@[simp] theorem exSs_cons (c : CS) (cs : List CS) : exSs cl (c :: cs) σ = thenK cl cs (exS cl c σ) := .trans rfl rfl
@[simp] theorem turnR_nx (f : RhoS → Option Res) : turnR (.nx σ) f = f σ := .trans rfl rfl
@[simp] theorem turnR_ct (f : RhoS → Option Res) : turnR (.ct σ) f = f σ := .trans rfl rfl
@[simp] theorem turnR_br (f : RhoS → Option Res) : turnR (.br σ) f = some (.nx σ) := .trans rfl rfl
@[simp] theorem turnR_rt (d : D) (f : RhoS → Option Res) : turnR (.rt d) f = some (.rt d) := .trans rfl rfl
@[simp] theorem endR_nx : endR (.nx σ) = some .non := .trans rfl rfl
@[simp] theorem endR_rt (d : D) : endR (.rt d) = some d := .trans rfl rfl
/-! slots -/
@[simp] theorem visM_b : visM .b σ = snapS σ := .trans rfl rfl
@[simp] theorem aftM_b : aftM .b σ = σ := .trans rfl rfl
@[simp] theorem visM_a (fz : List Nat) : visM (.a fz) σ = hide fz 0 σ := .trans rfl rfl
@[simp] theorem aftM_a (fz : List Nat) : aftM (.a fz) σ = frzS fz 0 σ := .trans rfl rfl
@[simp] theorem okM_b (d : D) : okM .b d = d.flat := .trans rfl rfl
@[simp] theorem okM_a (fz : List Nat) (d : D) : okM (.a fz) d = true := .trans rfl rfl
@[simp] theorem okI_b (it : CE) (d : D) (xs : List D) : okI .b it d xs = (flats xs && safeI it d) := .trans rfl rfl
@[simp] theorem okI_a (fz : List Nat) (it : CE) (d : D) (xs : List D) : okI (.a fz) it d xs = true := .trans rfl rfl
@[simp] theorem snapS_nil : snapS [] = [] := .trans rfl rfl
@[simp] theorem snapS_cons (o : Option Sl) : snapS (o :: σ) = o.map Sl.d :: snapS σ := .trans rfl rfl
@[simp] theorem Sl_d_sh (d : D) : Sl.d (.sh d) = d := .trans rfl rfl
@[simp] theorem Sl_d_own (l : List D) : Sl.d (.own l) = .lst l := .trans rfl rfl
def hideO (b : Bool) : Option Sl → Option D
  | some (.own l) => if b = true then some (.lst l) else none
  | some (.sh d) => some d
  | none => none
def frzO (b : Bool) : Option Sl → Option Sl
  | some (.own l) => if b = true then some (.sh (.lst l)) else some (.own l)
  | some (.sh d) => some (.sh d)
  | none => none
@[simp] theorem hide_nil (fz : List Nat) (n : Nat) : hide fz n [] = [] := .trans rfl rfl
@[simp] theorem hide_cons (fz : List Nat) (n : Nat) (o : Option Sl) : hide fz n (o :: σ) = hideO (fz.contains n) o :: hide fz (n + 1) σ := by
  rcases o with _ | ⟨d⟩ | ⟨l⟩ <;> rfl
@[simp] theorem frzS_nil (fz : List Nat) (n : Nat) : frzS fz n [] = [] := .trans rfl rfl
@[simp] theorem frzS_cons (fz : List Nat) (n : Nat) (o : Option Sl) : frzS fz n (o :: σ) = frzO (fz.contains n) o :: frzS fz (n + 1) σ := by
  rcases o with _ | ⟨d⟩ | ⟨l⟩ <;> rfl
@[simp] theorem hideO_none (b : Bool) : hideO b none = none := .trans rfl rfl
@[simp] theorem hideO_sh (b : Bool) (d : D) : hideO b (some (.sh d)) = some d := .trans rfl rfl
@[simp] theorem hideO_own (b : Bool) (l : List D) : hideO b (some (.own l)) = if b = true then some (.lst l) else none := .trans rfl rfl
@[simp] theorem frzO_none (b : Bool) : frzO b none = none := .trans rfl rfl
@[simp] theorem frzO_sh (b : Bool) (d : D) : frzO b (some (.sh d)) = some (.sh d) := .trans rfl rfl
@[simp] theorem frzO_own (b : Bool) (l : List D) : frzO b (some (.own l)) = if b = true then some (.sh (.lst l)) else some (.own l) := .trans rfl rfl
@[simp] theorem frzO_false (o : Option Sl) : frzO false o = o := by rcases o with _ | ⟨d⟩ | ⟨l⟩ <;> rfl
@[simp] theorem putS_nil : putS σ [] = σ := .trans rfl rfl
@[simp] theorem putS_cons (i : Nat) (d : D) (bs : List (Nat × D)) : putS σ ((i, d) :: bs) = putS (σ.set i (some (.sh d))) bs := .trans rfl rfl
@[simp] theorem putAll_nil : putAll ρ [] = ρ := .trans rfl rfl
@[simp] theorem putAll_cons (i : Nat) (d : D) (bs : List (Nat × D)) : putAll ρ ((i, d) :: bs) = putAll (ρ.set i (some d)) bs := .trans rfl rfl
@[simp] theorem wipeD_nil : wipeD ρ [] = ρ := .trans rfl rfl
@[simp] theorem wipeD_cons (v : Nat) (vs : List Nat) : wipeD ρ (v :: vs) = (wipeD ρ vs).set v none := .trans rfl rfl
@[simp] theorem put_nm (i : Nat) (d : D) : (Tg.nm i).put d ρ = some (ρ.set i (some d)) := .trans rfl rfl
@[simp] theorem put_tp (l : List Tg) (ds : List D) : (Tg.tp l).put (.tup ds) ρ = (tgBinds l ds).map (putAll ρ) := .trans rfl rfl
@[simp] theorem binds_nm (i : Nat) (d : D) : (Tg.nm i).binds d = some [(i, d)] := .trans rfl rfl
@[simp] theorem binds_tp (l : List Tg) (ds : List D) : (Tg.tp l).binds (.tup ds) = tgBinds l ds := .trans rfl rfl
@[simp] theorem tgBinds_nil : tgBinds [] [] = some [] := .trans rfl rfl
@[simp] theorem tgBinds_cons (t : Tg) (r : List Tg) (d : D) (ds : List D) : tgBinds (t :: r) (d :: ds) = (t.binds d).bind fun a => (tgBinds r ds).map fun b => a ++ b := .trans rfl rfl
@[simp] theorem ownOf_some {i : Nat} {l : List D} (h : σ[i]? = some (some (.own l))) : ownOf σ i = some l := by unfold ownOf; rw [h]
@[simp] theorem shOf_some {i : Nat} {l : D} (h : σ[i]? = some (some (.sh l))) : shOf σ i = some l := by unfold shOf; rw [h]
@[simp] theorem freshB_bin (o : BO) (a b : CE) : freshB (.bin o a b) = true := .trans rfl rfl
@[simp] theorem freshB_slc (a b c : CE) : freshB (.slc a b c) = true := .trans rfl rfl
@[simp] theorem freshB_lst (a : List CE) : freshB (.lst a) = true := .trans rfl rfl
@[simp] theorem freshB_lc (own : List Nat) (tg : Tg) (it : CE) (cs : List CE) (elt : CE) : freshB (.lc own tg it cs elt) = true := .trans rfl rfl
@[simp] theorem freshB_list (a : List CE) : freshB (.bi .list a) = true := .trans rfl rfl
@[simp] theorem freshB_sorted (a : List CE) : freshB (.bi .sorted a) = true := .trans rfl rfl
@[simp] theorem lstOf_lst (l : List D) : lstOf (.lst l) = some l := .trans rfl rfl
@[simp] theorem safeI_fresh (c : CE) (d : D) (h : freshB c = true) : safeI c d = true := by
  cases c <;> simp_all [safeI] <;> simp_all [freshB]
@[simp] theorem safeI_rng1 (a : CE) (d : D) : safeI (.rng1 a) d = true := .trans rfl rfl
@[simp] theorem safeI_rng2 (a b : CE) (d : D) : safeI (.rng2 a b) d = true := .trans rfl rfl
@[simp] theorem safeI_tup (c : CE) (l : List D) (h : (match c with | .enum _ => false | .zip _ _ => false | _ => true) = true) : safeI c (.tup l) = true := by
  cases c <;> simp_all [safeI, isLst]
end
/-! values -/
@[simp] theorem binD_add (x y : D) : binD .add x y = addD x y := .trans rfl rfl
@[simp] theorem binD_sub (x y : D) : binD .sub x y = subD x y := .trans rfl rfl
@[simp] theorem binD_mul (x y : D) : binD .mul x y = mulD x y := .trans rfl rfl
@[simp] theorem binD_fdiv (x y : D) : binD .fdiv x y = fdivD x y := .trans rfl rfl
@[simp] theorem binD_mod (x y : D) : binD .mod x y = modD x y := .trans rfl rfl
@[simp] theorem binD_pow (x y : D) : binD .pow x y = powD x y := .trans rfl rfl
@[simp] theorem addD_int (i j : Int) : addD (.int i) (.int j) = some (.int (i + j)) := .trans rfl rfl
@[simp] theorem addD_tup (x y : List D) : addD (.tup x) (.tup y) = grd (x.length + y.length ≤ sizeLine) (.tup (x ++ y)) := .trans rfl rfl
@[simp] theorem addD_lst (x y : List D) : addD (.lst x) (.lst y) = grd (x.length + y.length ≤ sizeLine) (.lst (x ++ y)) := .trans rfl rfl
@[simp] theorem subD_int (i j : Int) : subD (.int i) (.int j) = some (.int (i - j)) := .trans rfl rfl
@[simp] theorem mulD_int (i j : Int) : mulD (.int i) (.int j) = grd ((-(2 ^ 64) < i ∧ i < 2 ^ 64) ∨ (-(2 ^ 64) < j ∧ j < 2 ^ 64)) (.int (i * j)) := .trans rfl rfl
@[simp] theorem mulD_lst (x : List D) (j : Int) : mulD (.lst x) (.int j) = grd (j ≤ 2 ^ 24 ∧ -(2 ^ 24) ≤ j ∧ x.length * j.toNat ≤ sizeLine) (.lst (List.replicate j.toNat x).flatten) := .trans rfl rfl
@[simp] theorem mulD_tup (x : List D) (j : Int) : mulD (.tup x) (.int j) = grd (x.length ≤ 1000 ∧ x.isEmpty = false ∧ -1000 ≤ j ∧ j ≤ 1000) (.tup (List.replicate j.toNat x).flatten) := .trans rfl rfl
@[simp] theorem fdivD_int (i j : Int) : fdivD (.int i) (.int j) = grd (j ≠ 0 ∧ j.natAbs < 1073741824) (.int (i.fdiv j)) := .trans rfl rfl
@[simp] theorem modD_int (i j : Int) : modD (.int i) (.int j) = grd (j ≠ 0) (.int (i.fmod j)) := .trans rfl rfl
@[simp] theorem powD_int (i j : Int) : powD (.int i) (.int j) = grd (0 ≤ j ∧ j ≤ 1000000 ∧ i.natAbs < 2 ^ 64) (.int (i ^ j.toNat)) := .trans rfl rfl
@[simp] theorem intOf_int (i : Int) : intOf (.int i) = some i := .trans rfl rfl
@[simp] theorem blOf_bl (i : Bool) : blOf (.bl i) = some i := .trans rfl rfl
@[simp] theorem truth_bl (b : Bool) : truth (.bl b) = some b := .trans rfl rfl
@[simp] theorem truth_int (i : Int) : truth (.int i) = some (i != 0) := .trans rfl rfl
@[simp] theorem truth_non : truth .non = some false := .trans rfl rfl
@[simp] theorem truth_tup (l : List D) : truth (.tup l) = some (!l.isEmpty) := .trans rfl rfl
@[simp] theorem truth_lst (l : List D) : truth (.lst l) = some (!l.isEmpty) := .trans rfl rfl
@[simp] theorem isNonD_non : isNonD .non = true := .trans rfl rfl
@[simp] theorem isNonD_int (i : Int) : isNonD (.int i) = false := .trans rfl rfl
@[simp] theorem isNonD_bl (i : Bool) : isNonD (.bl i) = false := .trans rfl rfl
@[simp] theorem isNonD_tup (i : List D) : isNonD (.tup i) = false := .trans rfl rfl
@[simp] theorem isNonD_lst (i : List D) : isNonD (.lst i) = false := .trans rfl rfl
@[simp] theorem isNonD_str (i : Str) : isNonD (.str i) = false := .trans rfl rfl
@[simp] theorem cmpD_eq (x y : D) : cmpD .eq x y = eqD x y := by cases x <;> cases y <;> rfl
@[simp] theorem cmpD_ne (x y : D) : cmpD .ne x y = (eqD x y).map (!·) := by cases x <;> cases y <;> rfl
@[simp] theorem cmpD_lt (x y : D) : cmpD .lt x y = ltD x y := by cases x <;> cases y <;> rfl
@[simp] theorem cmpD_le (x y : D) : cmpD .le x y = leD x y := by cases x <;> cases y <;> rfl
@[simp] theorem cmpD_gt (i j : Int) : cmpD .gt (.int i) (.int j) = some (decide (j < i)) := .trans rfl rfl
@[simp] theorem cmpD_ge (i j : Int) : cmpD .ge (.int i) (.int j) = some (decide (j ≤ i)) := .trans rfl rfl
@[simp] theorem cmpD_inn (x y : D) : cmpD .inn x y = inD x y := by cases x <;> cases y <;> rfl
@[simp] theorem cmpD_nin (x y : D) : cmpD .nin x y = (inD x y).map (!·) := by cases x <;> cases y <;> rfl
@[simp] theorem ltD_int (i j : Int) : ltD (.int i) (.int j) = some (decide (i < j)) := .trans rfl rfl
@[simp] theorem leD_int (i j : Int) : leD (.int i) (.int j) = some (decide (i ≤ j)) := .trans rfl rfl
@[simp] theorem idxD_tup (l : List D) (i : Int) : idxD (.tup l) (.int i) = L2.atI l i := .trans rfl rfl
@[simp] theorem idxD_lst (l : List D) (i : Int) : idxD (.lst l) (.int i) = L2.atI l i := .trans rfl rfl
@[simp] theorem idxD_scr (l : List Int) (i : Int) : idxD (.scr l) (.int i) = (L2.atI l i).map .int := .trans rfl rfl
@[simp] theorem sliceD_tup (l : List D) (lo hi : Option Int) : sliceD (.tup l) lo hi = some (.tup (cutL l lo hi)) := .trans rfl rfl
@[simp] theorem sliceD_lst (l : List D) (lo hi : Option Int) : sliceD (.lst l) lo hi = some (.lst (cutL l lo hi)) := .trans rfl rfl
@[simp] theorem partD_non : partD .non = some none := .trans rfl rfl
@[simp] theorem partD_int (i : Int) : partD (.int i) = some (some i) := .trans rfl rfl
@[simp] theorem itemsD_tup (l : List D) : itemsD (.tup l) = some l := .trans rfl rfl
@[simp] theorem itemsD_lst (l : List D) : itemsD (.lst l) = some l := .trans rfl rfl
@[simp] theorem iterD_tup (l : List D) : iterD (.tup l) = some l := .trans rfl rfl
@[simp] theorem iterD_lst (l : List D) : iterD (.lst l) = some l := .trans rfl rfl
@[simp] theorem lenD_tup (l : List D) : lenD (.tup l) = some l.length := .trans rfl rfl
@[simp] theorem lenD_lst (l : List D) : lenD (.lst l) = some l.length := .trans rfl rfl
@[simp] theorem lenD_scr (l : List Int) : lenD (.scr l) = some l.length := .trans rfl rfl
@[simp] theorem biD_len (d : D) : biD .len [d] = (lenD d).map fun (n : Nat) => .int (n : Int) := by cases d <;> rfl
@[simp] theorem biD_abs (i : Int) : biD .abs [.int i] = some (.int (if i < 0 then -i else i)) := .trans rfl rfl
@[simp] theorem biD_int (i : Int) : biD .int [.int i] = some (.int i) := .trans rfl rfl
@[simp] theorem biD_intb (b : Bool) : biD .int [.bl b] = some (.int (if b then 1 else 0)) := .trans rfl rfl
@[simp] theorem biD_sum (l : List D) : biD .sum [.tup l] = (intsOf l).map fun ns => .int ns.sum := .trans rfl rfl
@[simp] theorem biD_sumL (l : List D) : biD .sum [.lst l] = (intsOf l).map fun ns => .int ns.sum := .trans rfl rfl
@[simp] theorem biD_max (l : List D) : biD .max [.tup l] = bestD maxDD l := .trans rfl rfl
@[simp] theorem biD_maxL (l : List D) : biD .max [.lst l] = bestD maxDD l := .trans rfl rfl
@[simp] theorem biD_min (l : List D) : biD .min [.tup l] = bestD minDD l := .trans rfl rfl
@[simp] theorem biD_minL (l : List D) : biD .min [.lst l] = bestD minDD l := .trans rfl rfl
@[simp] theorem biD_max2 (i j : Int) : biD .max2 [.int i, .int j] = some (.int (if j > i then j else i)) := .trans rfl rfl
@[simp] theorem biD_min2 (i j : Int) : biD .min2 [.int i, .int j] = some (.int (if j < i then j else i)) := .trans rfl rfl
@[simp] theorem biD_all (l : List D) : biD .all [.lst l] = (blsOf l).map fun bs => .bl (bs.all id) := .trans rfl rfl
@[simp] theorem biD_any (l : List D) : biD .any [.lst l] = (blsOf l).map fun bs => .bl (bs.any id) := .trans rfl rfl
@[simp] theorem biD_tuple (l : List D) : biD .tuple [.tup l] = some (.tup l) := .trans rfl rfl
@[simp] theorem biD_tupleL (l : List D) : biD .tuple [.lst l] = some (.tup l) := .trans rfl rfl
@[simp] theorem biD_list (l : List D) : biD .list [.tup l] = some (.lst l) := .trans rfl rfl
@[simp] theorem biD_listL (l : List D) : biD .list [.lst l] = some (.lst l) := .trans rfl rfl
@[simp] theorem biD_sorted (l : List D) : biD .sorted [.lst l] = (sortD l).map .lst := .trans rfl rfl
@[simp] theorem flat_int (i : Int) : (D.int i).flat = true := .trans rfl rfl
@[simp] theorem flat_bl (i : Bool) : (D.bl i).flat = true := .trans rfl rfl
@[simp] theorem flat_str (i : Str) : (D.str i).flat = true := .trans rfl rfl
@[simp] theorem flat_non : D.non.flat = true := .trans rfl rfl
@[simp] theorem flat_tup (l : List D) : (D.tup l).flat = flats l := .trans rfl rfl
@[simp] theorem flats_nil : flats [] = true := .trans rfl rfl
@[simp] theorem flats_cons (d : D) (l : List D) : flats (d :: l) = (d.flat && flats l) := .trans rfl rfl
theorem flats_all {l : List D} : flats l = true ↔ ∀ d ∈ l, d.flat = true := by
  induction l with
  | nil => simp
  | cons d l ih => simp [ih]
@[simp] theorem flats_append (a b : List D) : flats (a ++ b) = (flats a && flats b) := by
  induction a with
  | nil => simp
  | cons d l ih => simp [ih, Bool.and_assoc]
@[simp] theorem flats_map {α : Type} (f : α → D) (l : List α) (h : ∀ x ∈ l, (f x).flat = true) : flats (l.map f) = true := flats_all.mpr fun d hd => by
  obtain ⟨x, hx, rfl⟩ := List.mem_map.mp hd
  exact h x hx
@[simp] theorem allOf_nil {α : Type} (f : D → Option α) : allOf f [] = some [] := .trans rfl rfl
@[simp] theorem allOf_cons {α : Type} (f : D → Option α) (d : D) (l : List D) : allOf f (d :: l) = (f d).bind fun x => (allOf f l).map fun xs => x :: xs := .trans rfl rfl
@[simp] theorem allOf_append {α : Type} (f : D → Option α) (a b : List D) : allOf f (a ++ b) = (allOf f a).bind fun x => (allOf f b).map fun y => x ++ y := by
  induction a with
  | nil => simp
  | cons d l ih =>
    simp only [List.cons_append, allOf_cons, ih]
    cases f d <;> cases allOf f l <;> cases allOf f b <;> simp
theorem allOf_map {α β : Type} (f : D → Option α) (g : β → D) (k : β → α) (l : List β) (h : ∀ x ∈ l, f (g x) = some (k x)) : allOf f (l.map g) = some (l.map k) := by
  induction l with
  | nil => rfl
  | cons x l ih => simp [h x (List.mem_cons_self ..), ih fun y hy => h y (List.mem_cons_of_mem _ hy)]
@[simp] theorem intsOf_map (l : List Int) : allOf intOf (l.map D.int) = some l := by
  simpa using allOf_map intOf D.int id l fun _ _ => rfl
@[simp] theorem intsOf_take (l : List Int) (k : Nat) : allOf intOf ((l.map D.int).take k) = some (l.take k) := by
  rw [← List.map_take]
  exact intsOf_map _
@[simp] theorem intsOf_drop (l : List Int) (k : Nat) : allOf intOf ((l.map D.int).drop k) = some (l.drop k) := by
  rw [← List.map_drop]
  exact intsOf_map _
@[simp] theorem blsOf_map (l : List Bool) : allOf blOf (l.map D.bl) = some l := by
  simpa using allOf_map blOf D.bl id l fun _ _ => rfl
/-! equality -/
@[simp] theorem dep_int (i : Int) : (D.int i).py.depth = 0 := by simp [D.py, PyData.depth]
@[simp] theorem dep_bl (i : Bool) : (D.bl i).py.depth = 0 := by simp [D.py, PyData.depth]
@[simp] theorem dep_str (i : Str) : (D.str i).py.depth = 0 := by simp [D.py, PyData.depth]
@[simp] theorem dep_non : D.non.py.depth = 0 := by simp [D.py, PyData.depth]
theorem depAll_le {k : Nat} {l : List D} (h : ∀ d ∈ l, d.py.depth ≤ k) : PyData.depthAll (pys l) ≤ k := by
  induction l with
  | nil => simp [pys, PyData.depthAll]
  | cons d l ih =>
    simp only [pys, PyData.depthAll]
    have := h d (List.mem_cons_self ..)
    have := ih fun x hx => h x (List.mem_cons_of_mem _ hx)
    omega
theorem dep_tup {k : Nat} {l : List D} (h : ∀ d ∈ l, d.py.depth ≤ k) : (D.tup l).py.depth ≤ k + 1 := by
  simp only [D.py, PyData.depth]
  have := depAll_le h
  omega
theorem dep_lst {k : Nat} {l : List D} (h : ∀ d ∈ l, d.py.depth ≤ k) : (D.lst l).py.depth ≤ k + 1 := by
  simp only [D.py, PyData.depth]
  have := depAll_le h
  omega
theorem dep_ints (l : List Int) : (D.tup (l.map .int)).py.depth ≤ 64 := by
  have : (D.tup (l.map .int)).py.depth ≤ 0 + 1 := dep_tup fun d hd => by
    obtain ⟨x, _, rfl⟩ := List.mem_map.mp hd
    simp
  omega
@[simp] theorem eqD_int (i j : Int) : eqD (.int i) (.int j) = some (decide (i = j)) := by
  rw [eqD, grd_true (by simp)]
  simp [D.py, PyData.eqv]
  by_cases h : i = j <;> simp [h]
@[simp] theorem eqD_bl (i j : Bool) : eqD (.bl i) (.bl j) = some (i == j) := by
  rw [eqD, grd_true (by simp)]
  simp [D.py, PyData.eqv]
@[simp] theorem eqD_non : eqD .non .non = some true := by
  rw [eqD, grd_true (by simp)]
  simp [D.py, PyData.eqv]
@[simp] theorem eqD_str (i j : Str) : eqD (.str i) (.str j) = some (i == j) := by
  rw [eqD, grd_true (by simp)]
  simp [D.py, PyData.eqv]
@[simp] theorem eqD_int_non (i : Int) : eqD (.int i) .non = some false := by
  rw [eqD, grd_true (by simp)]
  simp [D.py, PyData.eqv]
@[simp] theorem eqD_non_int (i : Int) : eqD .non (.int i) = some false := by
  rw [eqD, grd_true (by simp)]
  simp [D.py, PyData.eqv]
theorem eqv_ints : ∀ a b : List Int, PyData.eqvAll (pys (a.map .int)) (pys (b.map .int)) = decide (a = b)
  | [], [] => by simp [pys, PyData.eqvAll]
  | [], y :: b => by simp [pys, PyData.eqvAll]
  | x :: a, [] => by simp [pys, PyData.eqvAll]
  | x :: a, y :: b => by
    simp [pys, PyData.eqvAll, D.py, PyData.eqv, eqv_ints a b]
    by_cases h : x = y <;> by_cases h' : a = b <;> simp [h, h']
@[simp] theorem eqD_ints (a b : List Int) : eqD (.tup (a.map .int)) (.tup (b.map .int)) = some (decide (a = b)) := by
  rw [eqD, grd_true ⟨dep_ints a, dep_ints b⟩]
  simp [D.py, PyData.eqv, eqv_ints]
/-! the least, the greatest -/
theorem lt_int (x y : Int) : PySem.W.dataLt (D.int x).py (D.int y).py = decide (x < y) := by
  simp only [D.py]
  exact PySem.W.dataLt_int x y
theorem alike_int (x y : Int) : PySem.W.alike (D.int x).py (D.int y).py = true := by
  simp [D.py, PySem.W.alike]
def minF (x : Int) (l : List Int) : Int := l.foldl (fun a y => if y < a then y else a) x
def maxF (x : Int) (l : List Int) : Int := l.foldl (fun a y => if a < y then y else a) x
theorem minDD_int (x : Int) (l : List Int) : minDD (.int x) (l.map .int) = .int (minF x l) := by
  unfold minDD minF
  induction l generalizing x with
  | nil => rfl
  | cons y l ih =>
    simp only [List.map_cons, List.foldl_cons, lt_int, decide_eq_true_eq]
    rw [← ih]
    split <;> rfl
theorem maxDD_int (x : Int) (l : List Int) : maxDD (.int x) (l.map .int) = .int (maxF x l) := by
  unfold maxDD maxF
  induction l generalizing x with
  | nil => rfl
  | cons y l ih =>
    simp only [List.map_cons, List.foldl_cons, lt_int, decide_eq_true_eq]
    rw [← ih]
    split <;> rfl
theorem best_ok (x : Int) (l : List Int) : alikeL ((x :: l).map D.int) = true ∧ ((x :: l).map D.int).all notNon = true ∧ flats ((x :: l).map D.int) = true ∧ PyData.depthAll (pys ((x :: l).map D.int)) ≤ 64 := by
  refine ⟨?_, ?_, ?_, ?_⟩
  · simp only [alikeL, List.all_eq_true, List.mem_map, forall_exists_index, and_imp]
    rintro _ a _ rfl _ b _ rfl
    exact alike_int a b
  · simp only [List.all_eq_true, List.mem_map, forall_exists_index, and_imp]
    rintro _ a _ rfl
    rfl
  · exact flats_map _ _ fun _ _ => rfl
  · have := depAll_le (k := 0) (l := (x :: l).map D.int) fun d hd => by
      obtain ⟨a, _, rfl⟩ := List.mem_map.mp hd
      simp
    omega
theorem best_min (x : Int) (l : List Int) : bestD minDD ((x :: l).map D.int) = some (.int (minF x l)) := by
  have h := best_ok x l
  rw [List.map_cons] at h ⊢
  show grd _ _ = _
  rw [grd_true h, minDD_int]
theorem best_max (x : Int) (l : List Int) : bestD maxDD ((x :: l).map D.int) = some (.int (maxF x l)) := by
  have h := best_ok x l
  rw [List.map_cons] at h ⊢
  show grd _ _ = _
  rw [grd_true h, maxDD_int]
def minL : List Int → Int
  | [] => 0
  | x :: l => minF x l
def maxL : List Int → Int
  | [] => 0
  | x :: l => maxF x l
@[simp] theorem best_minL {l : List Int} (h : l ≠ []) : bestD minDD (l.map D.int) = some (.int (minL l)) := by
  cases l with
  | nil => exact absurd rfl h
  | cons x l => exact best_min x l
@[simp] theorem best_maxL {l : List Int} (h : l ≠ []) : bestD maxDD (l.map D.int) = some (.int (maxL l)) := by
  cases l with
  | nil => exact absurd rfl h
  | cons x l => exact best_max x l
theorem minF_le (x : Int) (l : List Int) : minF x l ≤ x ∧ ∀ y ∈ l, minF x l ≤ y := by
  unfold minF
  induction l generalizing x with
  | nil => simp
  | cons y l ih =>
    have := ih (if y < x then y else x)
    simp only [List.foldl_cons, List.mem_cons, forall_eq_or_imp]
    split at this <;> rename_i h <;> simp only [h, if_true, if_false] <;> refine ⟨by omega, by omega, this.2⟩
theorem minF_mem (x : Int) (l : List Int) : minF x l = x ∨ minF x l ∈ l := by
  unfold minF
  induction l generalizing x with
  | nil => simp
  | cons y l ih =>
    have := ih (if y < x then y else x)
    simp only [List.foldl_cons, List.mem_cons]
    split at this <;> rename_i h <;> simp only [h, if_true, if_false] <;> rcases this with h | h <;> simp [h]
theorem maxF_le (x : Int) (l : List Int) : x ≤ maxF x l ∧ ∀ y ∈ l, y ≤ maxF x l := by
  unfold maxF
  induction l generalizing x with
  | nil => simp
  | cons y l ih =>
    have := ih (if x < y then y else x)
    simp only [List.foldl_cons, List.mem_cons, forall_eq_or_imp]
    split at this <;> rename_i h <;> simp only [h, if_true, if_false] <;> refine ⟨by omega, by omega, this.2⟩
theorem maxF_mem (x : Int) (l : List Int) : maxF x l = x ∨ maxF x l ∈ l := by
  unfold maxF
  induction l generalizing x with
  | nil => simp
  | cons y l ih =>
    have := ih (if x < y then y else x)
    simp only [List.foldl_cons, List.mem_cons]
    split at this <;> rename_i h <;> simp only [h, if_true, if_false] <;> rcases this with h | h <;> simp [h]
theorem minL_le {l : List Int} {y : Int} (h : y ∈ l) : minL l ≤ y := by
  cases l with
  | nil => cases h
  | cons x l =>
    rcases List.mem_cons.mp h with rfl | h
    · exact (minF_le _ l).1
    · exact (minF_le x l).2 y h
theorem minL_mem {l : List Int} (h : l ≠ []) : minL l ∈ l := by
  cases l with
  | nil => exact absurd rfl h
  | cons x l => exact List.mem_cons.mpr (minF_mem x l)
theorem maxL_le {l : List Int} {y : Int} (h : y ∈ l) : y ≤ maxL l := by
  cases l with
  | nil => cases h
  | cons x l =>
    rcases List.mem_cons.mp h with rfl | h
    · exact (maxF_le _ l).1
    · exact (maxF_le x l).2 y h
theorem maxL_mem {l : List Int} (h : l ≠ []) : maxL l ∈ l := by
  cases l with
  | nil => exact absurd rfl h
  | cons x l => exact List.mem_cons.mpr (maxF_mem x l)
/-! loops -/
@[simp] theorem forL_nil (f : D → RhoS → Option Res) (σ : RhoS) : forL f [] σ = some (.nx σ) := .trans rfl rfl
@[simp] theorem forL_cons (f : D → RhoS → Option Res) (x : D) (xs : List D) (σ : RhoS) : forL f (x :: xs) σ = (f x σ).bind fun r => turnR r (forL f xs) := .trans rfl rfl
/-- each turn maps a state to the next -/
theorem forL_fold {α β : Type} (f : D → RhoS → Option Res) (g : β → D) (S : α → RhoS) (step : α → β → α) : ∀ (xs : List β) (a : α), (∀ a, ∀ x ∈ xs, f (g x) (S a) = some (.nx (S (step a x)))) → forL f (xs.map g) (S a) = some (.nx (S (xs.foldl step a)))
  | [], a, h => rfl
  | x :: xs, a, h => by
    simp only [List.map_cons, forL_cons, h a x (List.mem_cons_self ..), Option.bind_some, turnR_nx, List.foldl_cons]
    exact forL_fold f g S step xs _ fun a y hy => h a y (List.mem_cons_of_mem _ hy)
/-- .. with an invariant -/
theorem forL_foldI {α β : Type} (f : D → RhoS → Option Res) (g : β → D) (S : α → RhoS) (step : α → β → α) (I : α → Prop) : ∀ (xs : List β) (a : α), I a → (∀ a, I a → ∀ x ∈ xs, f (g x) (S a) = some (.nx (S (step a x))) ∧ I (step a x)) →
    forL f (xs.map g) (S a) = some (.nx (S (xs.foldl step a))) ∧ I (xs.foldl step a)
  | [], a, h0, h => ⟨rfl, h0⟩
  | x :: xs, a, h0, h => by
    obtain ⟨h1, h2⟩ := h a h0 x (List.mem_cons_self ..)
    simp only [List.map_cons, forL_cons, h1, Option.bind_some, turnR_nx, List.foldl_cons]
    exact forL_foldI f g S step I xs _ h2 fun a ha y hy => h a ha y (List.mem_cons_of_mem _ hy)
/-- a relation that each turn hands on: k tells how many turns are behind -/
theorem forL_inv (f : D → RhoS → Option Res) (P : Nat → RhoS → Prop) : ∀ (xs : List D) (k : Nat) (σ : RhoS), P k σ → (∀ i x σ, xs[i]? = some x → P (k + i) σ → ∃ σ', f x σ = some (.nx σ') ∧ P (k + i + 1) σ') → ∃ σ', forL f xs σ = some (.nx σ') ∧ P (k + xs.length) σ'
  | [], k, σ, h0, h => ⟨σ, rfl, h0⟩
  | x :: xs, k, σ, h0, h => by
    obtain ⟨σ1, h1, h2⟩ := h 0 x σ rfl h0
    obtain ⟨σ2, h3, h4⟩ := forL_inv f P xs (k + 1) σ1 h2 fun i y σ hy hp => by
      have := h (i + 1) y σ hy (by rw [show k + (i + 1) = k + 1 + i by omega]; exact hp)
      rwa [show k + (i + 1) + 1 = k + 1 + i + 1 by omega] at this
    refine ⟨σ2, ?_, by rw [List.length_cons, show k + (xs.length + 1) = k + 1 + xs.length by omega]; exact h4⟩
    rw [forL_cons, h1]
    exact h3
/-- .. that may end the def: R the value, F when -/
theorem forL_find {β : Type} (f : D → RhoS → Option Res) (g : β → D) (P : RhoS → Prop) (p : β → Bool) (r : β → D) : ∀ (xs : List β) (σ : RhoS), P σ → (∀ x ∈ xs, ∀ σ, P σ → if p x = true then f (g x) σ = some (.rt (r x)) else ∃ σ', f (g x) σ = some (.nx σ') ∧ P σ') →
    (match xs.find? p with
      | some x => forL f (xs.map g) σ = some (.rt (r x))
      | none => ∃ σ', forL f (xs.map g) σ = some (.nx σ') ∧ P σ')
  | [], σ, h0, h => ⟨σ, rfl, h0⟩
  | x :: xs, σ, h0, h => by
    have hx := h x (List.mem_cons_self ..) σ h0
    cases hp : p x with
    | true =>
      rw [hp] at hx
      simp only [if_true] at hx
      simp only [List.find?_cons, hp, List.map_cons, forL_cons, hx]
      rfl
    | false =>
      rw [hp] at hx
      obtain ⟨σ1, h1, h2⟩ := hx
      simp only [List.find?_cons, hp, List.map_cons, forL_cons, h1, Option.bind_some, turnR_nx]
      exact forL_find f g P p r xs σ1 h2 fun y hy => h y (List.mem_cons_of_mem _ hy)
/-! comprehensions -/
@[simp] theorem lcD_nil (step : D → Option (Option D)) : lcD step [] = some [] := .trans rfl rfl
theorem lcD_map {β : Type} (step : D → Option (Option D)) (g : β → D) (k : β → D) : ∀ xs : List β, (∀ x ∈ xs, step (g x) = some (some (k x))) → lcD step (xs.map g) = some (xs.map k)
  | [], _ => rfl
  | x :: xs, h => by
    simp [lcD, h x (List.mem_cons_self ..), lcD_map step g k xs fun y hy => h y (List.mem_cons_of_mem _ hy)]
theorem lcD_filter {β : Type} (step : D → Option (Option D)) (g : β → D) (p : β → Bool) (k : β → D) : ∀ xs : List β, (∀ x ∈ xs, step (g x) = some (if p x = true then some (k x) else none)) → lcD step (xs.map g) = some ((xs.filter p).map k)
  | [], _ => rfl
  | x :: xs, h => by
    have := lcD_filter step g p k xs fun y hy => h y (List.mem_cons_of_mem _ hy)
    cases hp : p x <;> simp [lcD, h x (List.mem_cons_self ..), this, hp]
/-! numbers -/
@[simp] theorem atI_nat {α : Type} (l : List α) (i : Nat) : L2.atI l (i : Int) = l[i]? := by
  unfold L2.atI L2.ixN
  rw [if_pos (by omega)]
  by_cases h : i < l.length
  · rw [if_pos (by omega)]; simp
  · rw [if_neg (by omega)]; simp; omega
@[simp] theorem atI_of {α : Type} (l : List α) (z : Int) (h : 0 ≤ z) : L2.atI l z = l[z.toNat]? := by
  have := atI_nat l z.toNat
  rwa [Int.toNat_of_nonneg h] at this
@[simp] theorem atI_last {α : Type} (l : List α) : L2.atI l (-1) = l.getLast? := by
  unfold L2.atI L2.ixN
  rw [if_neg (by omega)]
  by_cases h : l = []
  · subst h; simp
  · have : 0 < l.length := List.length_pos_iff.mpr h
    rw [if_pos (by omega), Option.bind_some, List.getLast?_eq_getElem?, show ((-1 : Int) + (l.length : Int)).toNat = l.length - 1 by omega]
theorem cutL_from {α : Type} (l : List α) (k : Nat) : cutL l (some (k : Int)) none = l.drop k := by
  unfold cutL
  simp only [HT.sIx_none, HT.sIx_nat]
  by_cases h : k ≤ l.length
  · rw [Nat.min_eq_left h, List.take_of_length_le (by simp)]
  · rw [List.take_of_length_le (by simp), List.drop_eq_nil_of_le (by omega), List.drop_eq_nil_of_le (by omega)]
theorem cutL_to {α : Type} (l : List α) (k : Nat) : cutL l none (some (k : Int)) = l.take k := by
  unfold cutL
  simp only [HT.sIx_none, HT.sIx_nat, List.drop_zero, Nat.sub_zero]
  by_cases h : k ≤ l.length
  · rw [Nat.min_eq_left h]
  · rw [Nat.min_eq_right (by omega), List.take_of_length_le (by omega), List.take_of_length_le (by omega)]
theorem callN_at {fns : List Fd} {f : Nat} {F : Fd} (h : fns[f]? = some F) (n : Nat) (ds : List D) : callN fns (n + 1) f ds = runF (callN fns n) F ds := by
  show (fns[f]?).bind _ = _
  rw [h]
  rfl
theorem enumF_at (l : List D) : ∀ k, enumF k l = (List.range l.length).map fun i => .tup [.int ((k + i : Nat) : Int), l.getD i .non] := by
  induction l with
  | nil => intro k; rfl
  | cons x l ih =>
    intro k
    rw [enumF, ih, List.length_cons, List.range_succ_eq_map, List.map_cons, List.map_map]
    congr 1
    apply List.map_congr_left
    intro i _
    simp only [Function.comp, List.getD_cons_succ]
    rw [show k + 1 + i = k + i.succ by omega]
theorem enumF_ints (l : List Int) : enumF 0 (l.map .int) = (List.range l.length).map fun i => .tup [.int (i : Nat), .int (l.getD i 0)] := by
  rw [enumF_at, List.length_map]
  apply List.map_congr_left
  intro i hi
  have hi : i < l.length := by simpa using hi
  simp [List.getD_eq_getElem?_getD, hi]
@[simp] theorem cast_succ_ne (n : Nat) : ((n : Int) + 1 = 0) = False := by
  simp only [eq_iff_iff, iff_false]
  omega
@[simp] theorem cast_succ_pos (n : Nat) : ((0 : Int) < (n : Int) + 1) = True := by
  simp only [eq_iff_iff, iff_true]
  omega
@[simp] theorem cast_lt_zero (n : Nat) : ((n : Int) < 0) = False := by
  simp only [eq_iff_iff, iff_false]
  omega
@[simp] theorem le_size {n : Nat} (h : n ≤ 1000) : (n ≤ sizeLine) = True := by
  simp only [eq_iff_iff, iff_true]
  unfold sizeLine
  omega
@[simp] theorem lt_size {n : Nat} (h : n ≤ 1000) : (n < sizeLine) = True := by
  simp only [eq_iff_iff, iff_true]
  unfold sizeLine
  omega
@[simp] theorem rng_lo (n : Nat) : (-4611686018427387904 ≤ (n : Int)) = True := by
  simp only [eq_iff_iff, iff_true]
  omega
@[simp] theorem rng_hi {n : Nat} (h : n ≤ 1000) : ((n : Int) < 4611686018427387904) = True := by
  simp only [eq_iff_iff, iff_true]
  omega
theorem range_map_get {xs : List D} {n i : Nat} {x : D} {g : Nat → D} (e : xs = (List.range n).map g) (h : xs[i]? = some x) : i < n ∧ x = g i := by
  subst e
  rw [List.getElem?_map] at h
  obtain ⟨j, h1, rfl⟩ := Option.map_eq_some_iff.mp h
  have hi := (List.getElem?_eq_some_iff.mp h1).1
  rw [List.length_range] at hi
  rw [List.getElem?_range hi] at h1
  cases h1
  exact ⟨hi, rfl⟩
/-- a block in two parts -/
theorem exSs_split (cl : Nat → List D → Option D) (k : Nat) (cs : List CS) (σ : RhoS) : exSs cl cs σ = thenK cl (cs.drop k) (exSs cl (cs.take k) σ) := by
  induction k generalizing cs σ with
  | zero => simp
  | succ k ih =>
    cases cs with
    | nil => simp
    | cons c cs =>
      simp only [List.drop_succ_cons, List.take_succ_cons, exSs_cons]
      cases e : exS cl c σ with
      | none => rfl
      | some r =>
        cases r with
        | nx ρ => rw [thenK_nx, thenK_nx]; exact ih cs ρ
        | br ρ => rfl
        | ct ρ => rfl
        | rt d => rfl
end Dl
set_option Elab.async false
set_option linter.all false
set_option maxRecDepth 100000
set_option maxHeartbeats 4000000
/-! The defs that every law has. -/
namespace Dl
open PySem
def bCell : List CS := [(.ifs (.cmp .lt (.var 1) (.bi .len [(.var 0)])) [(.ret (.idx (.var 0) (.var 1)))] []), (.ret (.bin .add (.bin .mul (.int 5) (.var 1)) (.int 3)))]
def bDraws : List CS := [(.set .b 2 (.bi .abs [(.bi .int [(.var 0)])])), (.set .b 3 (.cmp .ge (.var 2) (.bin .pow (.int 10) (.int 18)))), (.set .b 4 (.var 2)), (.own 5 (.lst [])), (.loop .b (.nm 6) (.rng1 (.var 1)) [(.ifs (.and (.var 3) (.cmp .gt (.var 2) (.int 0))) [(.app .b 5 (.bin .mod (.bi .int [(.var 2)]) (.int 5040))), (.set .b 2 (.bin .fdiv (.var 2) (.int 5040)))] [(.set .b 7 (.bin .mod (.bi .int [(.bin .add (.bin .add (.bin .mul (.var 4) (.int 48271)) (.bin .mul (.bin .add (.var 6) (.int 1)) (.int 69621))) (.int 11))]) (.int 2147483647))), (.set .b 7 (.bin .mod (.bi .int [(.bin .add (.bin .mul (.var 7) (.var 7)) (.bin .mul (.int 40692) (.bin .add (.var 6) (.int 3))))]) (.int 2147483399))), (.app .b 5 (.bin .mod (.bi .int [(.bin .fdiv (.var 7) (.int 64))]) (.int 5040)))])]), (.ret (.var 5))]
def bIsInt : List CS := [(.ret (.and (.isi .int (.var 0)) (.not (.isi .bool (.var 0)))))]
/-- i: _law_is_integer, j: itself -/
def bIs (i j : Nat) : List CS := [(.ifs (.isN (.var 1)) [(.ret (.isN (.var 0)))] []), (.ifs (.isi .bool (.var 1)) [(.ret (.and (.isi .bool (.var 0)) (.cmp .eq (.var 0) (.var 1))))] []), (.ifs (.isi .int (.var 1)) [(.ret (.and (.call i [(.var 0)]) (.cmp .eq (.var 0) (.var 1))))] []), (.ifs (.isi .str (.var 1)) [(.ret (.and (.isi .str (.var 0)) (.cmp .eq (.var 0) (.var 1))))] []), (.ifs (.or (.not (.isi .tuple (.var 0))) (.cmp .ne (.bi .len [(.var 0)]) (.bi .len [(.var 1)]))) [(.ret (.bl false))] []), (.ret (.bi .all [(.lc [2] (.nm 2) (.rng1 (.bi .len [(.var 1)])) [] (.call j [(.idx (.var 0) (.var 2)), (.idx (.var 1) (.var 2))]))]))]
def fdCell : Fd := ⟨2, 2, bCell⟩
def fdDraws : Fd := ⟨2, 8, bDraws⟩
def fdIsInt : Fd := ⟨1, 1, bIsInt⟩
def fdIs (i j : Nat) : Fd := ⟨2, 3, bIs i j⟩
variable (cl : Nat → List D → Option D)
theorem cell_ok (ns : List Int) (k : Nat) : ∃ c : Int, runF cl fdCell [.scr ns, .int k] = some (.int c) := by
  by_cases h : k < ns.length
  · refine ⟨ns[k], ?_⟩
    simp [runF, fdCell, bCell, startS, h, atI_nat]
  · refine ⟨5 * k + 3, ?_⟩
    simp [runF, fdCell, bCell, startS, h]
theorem fmod_bd (a b : Int) (h : 0 < b) : 0 ≤ a.fmod b ∧ a.fmod b < b := ⟨Int.fmod_nonneg_of_pos a h, Int.fmod_lt_of_pos a h⟩
def drawOk (ds : List Int) : Prop := ∀ x ∈ ds, 0 ≤ x ∧ x < 5040
theorem drawOk.snoc {ds : List Int} (h : drawOk ds) (a : Int) : drawOk (ds ++ [a.fmod 5040]) := fun x hx => by
  rcases List.mem_append.mp hx with hx | hx
  · exact h x hx
  · rw [List.mem_singleton.mp hx]
    exact fmod_bd a 5040 (by omega)
theorem drawOk.at {ds : List Int} (h : drawOk ds) {i : Nat} (hi : i < ds.length) : 0 ≤ ds[i] ∧ ds[i] < 5040 := h _ (List.getElem_mem hi)
def drawLoop : List CS := [(.ifs (.and (.var 3) (.cmp .gt (.var 2) (.int 0))) [(.app .b 5 (.bin .mod (.bi .int [(.var 2)]) (.int 5040))), (.set .b 2 (.bin .fdiv (.var 2) (.int 5040)))] [(.set .b 7 (.bin .mod (.bi .int [(.bin .add (.bin .add (.bin .mul (.var 4) (.int 48271)) (.bin .mul (.bin .add (.var 6) (.int 1)) (.int 69621))) (.int 11))]) (.int 2147483647))), (.set .b 7 (.bin .mod (.bi .int [(.bin .add (.bin .mul (.var 7) (.var 7)) (.bin .mul (.int 40692) (.bin .add (.var 6) (.int 3))))]) (.int 2147483399))), (.app .b 5 (.bin .mod (.bi .int [(.bin .fdiv (.var 7) (.int 64))]) (.int 5040)))])]
theorem draw_turn (c n rest : Int) (dg : Bool) (seed k : Int) (ds : List Int) (j6 j7 : Option Sl) (hd : ds.length < 1000000) (ok : drawOk ds) : ∃ (rest' x : Int) (j6' j7' : Option Sl), drawOk (ds ++ [x]) ∧
    exSs cl drawLoop [some (.sh (.int c)), some (.sh (.int n)), some (.sh (.int rest)), some (.sh (.bl dg)), some (.sh (.int seed)), some (.own (ds.map .int)), some (.sh (.int k)), j7] =
      some (.nx [some (.sh (.int c)), some (.sh (.int n)), some (.sh (.int rest')), some (.sh (.bl dg)), some (.sh (.int seed)), some (.own ((ds ++ [x]).map .int)), j6', j7']) := by
  have hs : ds.length < sizeLine := by unfold sizeLine; omega
  have h2 : ∀ m : Int, (-18446744073709551616 < m.fmod 2147483647 ∧ m.fmod 2147483647 < 18446744073709551616) := fun m => by
    have := fmod_bd m 2147483647 (by omega)
    omega
  by_cases h : dg = true ∧ 0 < rest
  · refine ⟨rest.fdiv 5040, rest.fmod 5040, some (.sh (.int k)), j7, ok.snoc _, ?_⟩
    simp [drawLoop, h.1, h.2, hs]
  · have e : (if dg = true then some (D.bl (decide (0 < rest))) else some (.bl dg)) = some (.bl false) := by
      cases dg
      · simp
      · simp at h
        simp [show ¬ 0 < rest by omega]
    refine ⟨rest, _, some (.sh (.int k)), some (.sh (.int ((((seed * 48271 + (k + 1) * 69621 + 11).fmod 2147483647 * (seed * 48271 + (k + 1) * 69621 + 11).fmod 2147483647) + 40692 * (k + 3)).fmod 2147483399))), ok.snoc ((((((seed * 48271 + (k + 1) * 69621 + 11).fmod 2147483647 * (seed * 48271 + (k + 1) * 69621 + 11).fmod 2147483647) + 40692 * (k + 3))).fmod 2147483399).fdiv 64), ?_⟩
    simp [drawLoop, e, h2, hs]
theorem draws_ok (c : Int) (n : Nat) (hn : n ≤ 1000000) : ∃ ds : List Int, ds.length = n ∧ drawOk ds ∧ runF cl fdDraws [.int c, .int n] = some (.lst (ds.map .int)) := by
  let P : Nat → RhoS → Prop := fun k σ => ∃ (rest : Int) (dg : Bool) (seed : Int) (ds : List Int) (j6 j7 : Option Sl), ds.length = k ∧ drawOk ds ∧
    σ = [some (.sh (.int c)), some (.sh (.int n)), some (.sh (.int rest)), some (.sh (.bl dg)), some (.sh (.int seed)), some (.own (ds.map .int)), j6, j7]
  have key := forL_inv (turn cl (.nm 6) drawLoop) P ((List.range n).map fun i => .int (i : Nat)) 0
    [some (.sh (.int c)), some (.sh (.int n)), some (.sh (.int (if c < 0 then -c else c))), some (.sh (.bl (decide ((10 : Int) ^ 18 ≤ if c < 0 then -c else c)))), some (.sh (.int (if c < 0 then -c else c))), some (.own []), none, none]
    ⟨_, _, _, [], _, _, rfl, fun _ h => (nomatch h), rfl⟩ fun i x σ hx hp => by
      obtain ⟨rest, dg, seed, ds, j6, j7, hl, ok, rfl⟩ := hp
      rw [List.getElem?_map] at hx
      have hi : i < n := by
        have := (List.getElem?_eq_some_iff.mp (Option.map_eq_some_iff.mp hx).choose_spec.1).1
        simpa using this
      rw [List.getElem?_range hi] at hx
      cases hx
      obtain ⟨rest', y, j6', j7', ok', e⟩ := draw_turn cl c n rest dg seed i ds j6 j7 (by omega) ok
      refine ⟨_, ?_, rest', dg, seed, ds ++ [y], j6', j7', by simp; omega, ok', rfl⟩
      rw [turn_eq]
      simp only [binds_nm, turnK_some, putS_cons, putS_nil, set_succ, set_zero]
      exact e
  obtain ⟨σ', h1, rest, dg, seed, ds, j6, j7, hl, ok, rfl⟩ := key
  refine ⟨ds, by simpa using hl, ok, ?_⟩
  have hn2 : (-(2 ^ 62) ≤ (n : Int) ∧ (n : Int) < 2 ^ 62) := by omega
  have e2 : exSs cl bDraws [some (.sh (.int c)), some (.sh (.int n)), none, none, none, none, none, none] = some (.rt (.lst (ds.map .int))) := by
    have hn3 : (-4611686018427387904 ≤ (n : Int) ∧ (n : Int) < 4611686018427387904) := by omega
    show exSs cl [(.set .b 2 (.bi .abs [(.bi .int [(.var 0)])])), (.set .b 3 (.cmp .ge (.var 2) (.bin .pow (.int 10) (.int 18)))), (.set .b 4 (.var 2)), (.own 5 (.lst [])), .loop .b (.nm 6) (.rng1 (.var 1)) drawLoop, .ret (.var 5)] _ = _
    have : (10 : Int) ^ 18 = 1000000000000000000 := by decide
    rw [this] at h1
    simp [hn3, h1]
  unfold runF
  rw [if_pos (by rfl), show fdDraws.body = bDraws from rfl]
  show (exSs cl bDraws [some (.sh (.int c)), some (.sh (.int n)), none, none, none, none, none, none]).bind endR = _
  rw [e2]
  rfl
/-- what the law's own test may be asked about -/
def fits : Nat → D → Prop
  | 0, .tup _ => False
  | n + 1, .tup l => l.length ≤ 1000000 ∧ ∀ d ∈ l, fits n d
  | _, .lst _ => False
  | _, .scr _ => False
  | _, _ => True
@[simp] theorem fits_int (n : Nat) (i : Int) : fits n (.int i) := by cases n <;> trivial
@[simp] theorem fits_bl (n : Nat) (i : Bool) : fits n (.bl i) := by cases n <;> trivial
@[simp] theorem fits_str (n : Nat) (i : Str) : fits n (.str i) := by cases n <;> trivial
@[simp] theorem fits_non (n : Nat) : fits n .non := by cases n <;> trivial
theorem fits_tup {n : Nat} {l : List D} (h1 : l.length ≤ 1000000) (h2 : ∀ d ∈ l, fits n d) : fits (n + 1) (.tup l) := ⟨h1, h2⟩
theorem fits_ints {l : List Int} (h1 : l.length ≤ 1000000) : fits 1 (.tup (l.map .int)) := ⟨by simpa using h1, fun d hd => by
  obtain ⟨x, _, rfl⟩ := List.mem_map.mp hd
  exact fits_int _ _⟩
theorem isint_ok (v : D) : runF cl fdIsInt [v] = some (.bl (isiD .int v && !isiD .bool v)) := by
  simp [runF, fdIsInt, bIsInt, startS]
  cases isiD .int v <;> simp
@[simp] theorem isiD_ii (i : Int) : isiD .int (.int i) = true := .trans rfl rfl
@[simp] theorem isiD_bi (i : Int) : isiD .bool (.int i) = false := .trans rfl rfl
@[simp] theorem isiD_si (i : Int) : isiD .str (.int i) = false := .trans rfl rfl
@[simp] theorem isiD_ib (i : Bool) : isiD .int (.bl i) = true := .trans rfl rfl
@[simp] theorem isiD_bb (i : Bool) : isiD .bool (.bl i) = true := .trans rfl rfl
@[simp] theorem isiD_is (i : Str) : isiD .int (.str i) = false := .trans rfl rfl
@[simp] theorem isiD_bs (i : Str) : isiD .bool (.str i) = false := .trans rfl rfl
@[simp] theorem isiD_ss (i : Str) : isiD .str (.str i) = true := .trans rfl rfl
@[simp] theorem isiD_it (i : List D) : isiD .int (.tup i) = false := .trans rfl rfl
@[simp] theorem isiD_bt (i : List D) : isiD .bool (.tup i) = false := .trans rfl rfl
@[simp] theorem isiD_st (i : List D) : isiD .str (.tup i) = false := .trans rfl rfl
@[simp] theorem isiD_tt (i : List D) : isiD .tuple (.tup i) = true := .trans rfl rfl
@[simp] theorem isiD_ti (i : Int) : isiD .tuple (.int i) = false := .trans rfl rfl
@[simp] theorem isiD_tb (i : Bool) : isiD .tuple (.bl i) = false := .trans rfl rfl
@[simp] theorem isiD_tn : isiD .tuple .non = false := .trans rfl rfl
@[simp] theorem isiD_in : isiD .int .non = false := .trans rfl rfl
@[simp] theorem isiD_bn : isiD .bool .non = false := .trans rfl rfl
@[simp] theorem isiD_sn : isiD .str .non = false := .trans rfl rfl
theorem is_ok {fns : List Fd} {i j : Nat} (h1 : fns[i]? = some fdIsInt) (h2 : fns[j]? = some (fdIs i j)) : ∀ (k n : Nat) (d : D), fits k d → k + 2 ≤ n → callN fns n j [d, d] = some (.bl true)
  | k, 0, d, _, hn => by omega
  | k, 1, d, _, hn => by omega
  | k, n + 2, d, hf, hn => by
    rw [callN_at h2]
    simp only [runF, fdIs, List.length_cons, List.length_nil, if_true, startS]
    cases d with
    | non => simp [bIs]
    | bl b => simp [bIs]
    | int i => simp [bIs, callN_at h1, isint_ok]
    | str s => simp [bIs]
    | lst l => cases k <;> exact hf.elim
    | scr l => cases k <;> exact hf.elim
    | tup l =>
      cases k with
      | zero => exact hf.elim
      | succ k =>
        obtain ⟨hl, hd⟩ := hf
        have hl2 : -4611686018427387904 ≤ (l.length : Int) ∧ (l.length : Int) < 4611686018427387904 := by omega
        have hl3 : l.length ≤ sizeLine := by unfold sizeLine; omega
        have step : lcD (lcS (callN fns (n + 1)) [2] (.nm 2) [] (.call j [(.idx (.var 0) (.var 2)), (.idx (.var 1) (.var 2))]) [some (.tup l), some (.tup l), none]) ((List.range l.length).map fun i => .int (i : Nat)) = some ((List.range l.length).map fun _ => .bl true) := by
          refine lcD_map _ _ _ _ fun x hx => ?_
          have hx : x < l.length := by simpa using hx
          rw [lcS_eq]
          have := is_ok h1 h2 k (n + 1) l[x] (hd _ (List.getElem_mem hx)) (by omega)
          simp [atI_nat, List.getElem?_eq_getElem hx, this]
        have e : (List.range l.length).map (fun _ => D.bl true) = (List.replicate l.length true).map D.bl := by
          simp [List.map_const']
        simp [bIs, hl2, step, hl3]
        rw [e, show blsOf _ = some _ from blsOf_map _]
        simp
/-- the law's defs stand in a table -/
structure Has (fns : List Fd) (c d i j : Nat) : Prop where
  cell : fns[c]? = some fdCell
  draws : fns[d]? = some fdDraws
  isInt : fns[i]? = some fdIsInt
  is : fns[j]? = some (fdIs i j)
section
variable {fns : List Fd} {c d i j : Nat} (h : Has fns c d i j)
include h
theorem Has.cellN (n : Nat) (ns : List Int) (k : Nat) : ∃ z : Int, callN fns (n + 1) c [.scr ns, .int k] = some (.int z) := by
  rw [callN_at h.cell]
  exact cell_ok _ ns k
theorem Has.drawsN (n : Nat) (z : Int) (k : Nat) (hk : k ≤ 1000000) : ∃ ds : List Int, ds.length = k ∧ drawOk ds ∧ callN fns (n + 1) d [.int z, .int k] = some (.lst (ds.map .int)) := by
  rw [callN_at h.draws]
  exact draws_ok _ z k hk
theorem Has.isN {k n : Nat} {d : D} (hf : fits k d) (hn : k + 2 ≤ n) : callN fns n j [d, d] = some (.bl true) := is_ok h.isInt h.is k n d hf hn
/-- .. of two that are one -/
theorem Has.isN' {k n : Nat} {d e : D} (hf : fits k d) (hn : k + 2 ≤ n) (he : e = d) : callN fns n j [e, d] = some (.bl true) := by
  subst he
  exact h.isN hf hn
end
end Dl
set_option Elab.async false
set_option linter.all false
set_option maxRecDepth 100000
set_option maxHeartbeats 4000000
/-! Dams: the plain law. -/
namespace Dl
/-- one slide: what is kept, what goes on -/
def slide : List Int → List Int → Int → List Int × Int
  | a :: h, b :: k, w => if b + w ≤ a then ((b + w) :: (slide h k 0).1, (slide h k 0).2) else (0 :: (slide h k (b + w)).1, (slide h k (b + w)).2)
  | _, _, w => ([], w)
def runs (h : List Int) : List Int → List Int → List Int × List Int
  | k, [] => (k, [])
  | k, w :: ws => ((runs h (slide h k w).1 ws).1, (slide h k w).2 :: (runs h (slide h k w).1 ws).2)
def zeros (n : Nat) : List Int := List.replicate n 0
abbrev kept (h ws : List Int) : List Int := (runs h (zeros h.length) ws).1
abbrev flow (h ws : List Int) : List Int := (runs h (zeros h.length) ws).2
theorem slide_len : ∀ (h k : List Int) (w : Int), k.length = h.length → (slide h k w).1.length = h.length
  | [], [], w, _ => rfl
  | a :: h, b :: k, w, e => by
    simp only [List.length_cons, Nat.add_right_cancel_iff] at e
    simp only [slide]
    split <;> simp [slide_len h k _ e]
theorem runs_len (h : List Int) : ∀ (ws k : List Int), k.length = h.length → (runs h k ws).1.length = h.length ∧ (runs h k ws).2.length = ws.length
  | [], k, e => ⟨e, rfl⟩
  | w :: ws, k, e => by
    have := runs_len h ws (slide h k w).1 (slide_len h k w e)
    simp only [runs, List.length_cons]
    omega
theorem slide_snoc (a b : Int) : ∀ (h k : List Int) (w : Int), k.length = h.length → slide (h ++ [a]) (k ++ [b]) w = if b + (slide h k w).2 ≤ a then ((slide h k w).1 ++ [b + (slide h k w).2], 0) else ((slide h k w).1 ++ [0], b + (slide h k w).2)
  | [], [], w, _ => rfl
  | c :: h, d :: k, w, e => by
    simp only [List.length_cons, Nat.add_right_cancel_iff] at e
    have ih := slide_snoc a b h k
    simp only [List.cons_append, slide]
    split
    · rw [ih 0 e]; split <;> rfl
    · rw [ih (d + w) e]; split <;> rfl
theorem slide_sum : ∀ (h k : List Int) (w : Int), k.length = h.length → (slide h k w).1.sum + (slide h k w).2 = k.sum + w
  | [], [], w, _ => by simp [slide]
  | a :: h, b :: k, w, e => by
    simp only [List.length_cons, Nat.add_right_cancel_iff] at e
    simp only [slide]
    split
    · have := slide_sum h k 0 e
      simp only [List.sum_cons]
      omega
    · have := slide_sum h k (b + w) e
      simp only [List.sum_cons]
      omega
theorem runs_sum (h : List Int) : ∀ (ws k : List Int), k.length = h.length → (runs h k ws).1.sum + (runs h k ws).2.sum = k.sum + ws.sum
  | [], k, e => by simp [runs]
  | w :: ws, k, e => by
    have h1 := slide_sum h k w e
    have h2 := runs_sum h ws (slide h k w).1 (slide_len h k w e)
    simp only [runs, List.sum_cons]
    omega
theorem zeros_sum (n : Nat) : (zeros n).sum = 0 := by
  unfold zeros
  induction n with
  | zero => rfl
  | succ n ih => rw [List.replicate_succ, List.sum_cons, ih]; rfl
theorem kept_flow (h ws : List Int) : (kept h ws).sum + (flow h ws).sum = ws.sum := by
  have := runs_sum h ws (zeros h.length) (by simp [zeros])
  rw [zeros_sum] at this
  unfold kept flow
  omega
/-- what holds of the dams at any time: m is the greatest hold above -/
def Val : Int → List Int → List Int → Prop
  | m, a :: h, b :: k => 0 ≤ b ∧ b ≤ a ∧ (a ≤ m → b = 0) ∧ Val (max m a) h k
  | _, [], [] => True
  | _, _, _ => False
theorem Val.zeros : ∀ (h : List Int) (m : Int), (∀ x ∈ h, 0 ≤ x) → Val m h (zeros h.length)
  | [], _, _ => trivial
  | a :: h, m, hp => ⟨Int.le_refl 0, hp a (List.mem_cons_self ..), fun _ => rfl, Val.zeros h _ fun x hx => hp x (List.mem_cons_of_mem _ hx)⟩
theorem Val.len : ∀ {h k : List Int} {m : Int}, Val m h k → k.length = h.length
  | [], [], _, _ => rfl
  | a :: h, b :: k, m, v => by simp [v.2.2.2.len]
/-- a load on its way: none, or more than every dam above could hold -/
def Ld (m w : Int) : Prop := w = 0 ∨ m < w ∧ 0 < w
theorem Val.slide : ∀ {h k : List Int} {m w : Int}, Val m h k → Ld m w → Val m h (slide h k w).1 ∧ 0 ≤ (Dl.slide h k w).2
  | [], [], m, w, _, l => ⟨trivial, by simp only [Dl.slide]; rcases l with l | l <;> omega⟩
  | a :: h, b :: k, m, w, ⟨v1, v2, v3, v4⟩, l => by
    simp only [Dl.slide]
    split
    · rename_i hc
      have ih := Val.slide v4 (w := 0) (.inl rfl)
      refine ⟨⟨?_, hc, fun ha => ?_, ih.1⟩, ih.2⟩
      · rcases l with l | l <;> omega
      · have := v3 ha
        rcases l with l | l <;> omega
    · rename_i hc
      have ld : Ld (max m a) (b + w) := .inr (by rcases l with l | l <;> omega)
      have ih := Val.slide v4 ld
      refine ⟨⟨Int.le_refl 0, by omega, fun _ => rfl, ih.1⟩, ih.2⟩
theorem ld_of {w : Int} (h : 0 ≤ w) : Ld 0 w := by unfold Ld; omega
theorem Val.runs {h : List Int} : ∀ {ws k : List Int}, Val 0 h k → (∀ w ∈ ws, 0 ≤ w) → Val 0 h (Dl.runs h k ws).1 ∧ ∀ g ∈ (Dl.runs h k ws).2, 0 ≤ g
  | [], k, v, _ => ⟨v, fun _ z => nomatch z⟩
  | w :: ws, k, v, hp => by
    have s := v.slide (ld_of (hp w (List.mem_cons_self ..)))
    have ih := Val.runs s.1 fun x hx => hp x (List.mem_cons_of_mem _ hx)
    simp only [Dl.runs]
    exact ⟨ih.1, fun g hg => (List.mem_cons.mp hg).elim (fun e => e ▸ s.2) (ih.2 g)⟩
/-- a dam that holds no more than one above (or than m) keeps nothing -/
theorem Val.idle : ∀ {h k : List Int} {m : Int} {i : Nat} {a b : Int}, Val m h k → h[i]? = some a → k[i]? = some b → (a ≤ m ∨ ∃ j c, j < i ∧ h[j]? = some c ∧ a ≤ c) → b = 0
  | x :: h, y :: k, m, 0, a, b, v, ha, hb, hi => by
    cases ha; cases hb
    rcases hi with hi | ⟨j, _, hj, _⟩
    · exact v.2.2.1 hi
    · omega
  | x :: h, y :: k, m, i + 1, a, b, v, ha, hb, hi => by
    refine v.2.2.2.idle (by simpa using ha) (by simpa using hb) ?_
    rcases hi with hi | ⟨j, c, hj, hc, hl⟩
    · exact .inl (by omega)
    · cases j with
      | zero => simp at hc; subst hc; exact .inl (by omega)
      | succ j => exact .inr ⟨j, c, by omega, by simpa using hc, hl⟩
/-- the working dams: more than every dam above -/
def work : Int → List Int → List Int
  | _, [] => []
  | m, a :: h => if m < a then a :: work a h else work m h
def keepw : Int → List Int → List Int → List Int
  | m, a :: h, b :: k => if m < a then b :: keepw a h k else keepw m h k
  | _, _, _ => []
theorem slide_work : ∀ {h k : List Int} {m w : Int}, Val m h k → 0 ≤ m → (∀ x ∈ h, 0 ≤ x) → Ld m w → slide (work m h) (keepw m h k) w = (keepw m h (slide h k w).1, (slide h k w).2)
  | [], [], m, w, _, _, _, _ => rfl
  | a :: h, b :: k, m, w, ⟨v1, v2, v3, v4⟩, hm, hp, l => by
    have ha := hp a (List.mem_cons_self ..)
    have hp' : ∀ x ∈ h, 0 ≤ x := fun x hx => hp x (List.mem_cons_of_mem _ hx)
    by_cases q : m < a
    · have em : max m a = a := by omega
      rw [em] at v4
      simp only [work, keepw, if_pos q, slide]
      split
      · rw [slide_work v4 ha hp' (.inl rfl)]
        simp only [keepw, if_pos q]
      · rename_i hc
        rw [slide_work v4 ha hp' (.inr (by rcases l with l | l <;> omega))]
        simp only [keepw, if_pos q]
    · have em : max m a = m := by omega
      rw [em] at v4
      have hb := v3 (by omega)
      subst hb
      simp only [work, keepw, if_neg q, slide]
      split
      · have hw : w = 0 := by rcases l with l | l <;> omega
        subst hw
        simp only [keepw, if_neg q]
        exact slide_work v4 hm hp' (.inl rfl)
      · rename_i hc
        rw [show 0 + w = w by omega]
        simp only [keepw, if_neg q]
        exact slide_work v4 hm hp' l
theorem runs_work {h : List Int} (hp : ∀ x ∈ h, 0 ≤ x) : ∀ {ws k : List Int}, Val 0 h k → (∀ w ∈ ws, 0 ≤ w) → (runs (work 0 h) (keepw 0 h k) ws).2 = (runs h k ws).2
  | [], k, _, _ => rfl
  | w :: ws, k, v, hw => by
    have l := ld_of (hw w (List.mem_cons_self ..))
    simp only [runs, slide_work v (Int.le_refl 0) hp l]
    rw [runs_work hp (v.slide l).1 fun x hx => hw x (List.mem_cons_of_mem _ hx)]
theorem keepw_zeros : ∀ (h : List Int) (m : Int), keepw m h (zeros h.length) = zeros (work m h).length
  | [], _ => rfl
  | a :: h, m => by
    show keepw m (a :: h) (0 :: zeros h.length) = _
    simp only [keepw, work]
    split
    · rw [keepw_zeros h a]; rfl
    · exact keepw_zeros h m
theorem flow_work {h ws : List Int} (hp : ∀ x ∈ h, 0 ≤ x) (hw : ∀ w ∈ ws, 0 ≤ w) : flow (work 0 h) ws = flow h ws := by
  unfold flow
  rw [← keepw_zeros h 0]
  exact runs_work hp (Val.zeros h 0 hp) hw
/-- one more dam at the foot -/
def dam1 (f : Int) : Int → List Int → Int × List Int
  | b, [] => (b, [])
  | b, g :: gs => if b + g ≤ f then ((dam1 f (b + g) gs).1, 0 :: (dam1 f (b + g) gs).2) else ((dam1 f 0 gs).1, (b + g) :: (dam1 f 0 gs).2)
theorem runs_snoc (f : Int) (h : List Int) : ∀ (ws k : List Int) (b : Int), k.length = h.length → runs (h ++ [f]) (k ++ [b]) ws = ((runs h k ws).1 ++ [(dam1 f b (runs h k ws).2).1], (dam1 f b (runs h k ws).2).2)
  | [], k, b, _ => rfl
  | w :: ws, k, b, e => by
    simp only [runs, dam1, slide_snoc f b h k w e]
    split
    · rw [runs_snoc f h ws _ _ (slide_len h k w e)]
    · rw [runs_snoc f h ws _ _ (slide_len h k w e)]
theorem dam1_zero (f : Int) : ∀ (gs : List Int) (b : Int), (∀ g ∈ gs, 0 ≤ g) → b + gs.sum ≤ f → (dam1 f b gs).2.sum = 0
  | [], b, _, _ => rfl
  | g :: gs, b, hp, hs => by
    have ns : ∀ l : List Int, (∀ x ∈ l, 0 ≤ x) → 0 ≤ l.sum := fun l => by
      induction l with
      | nil => intro _; simp
      | cons x l ih =>
        intro h
        have := h x (List.mem_cons_self ..)
        have := ih fun y hy => h y (List.mem_cons_of_mem _ hy)
        rw [List.sum_cons]
        omega
    have hp' : ∀ x ∈ gs, 0 ≤ x := fun x hx => hp x (List.mem_cons_of_mem _ hx)
    have := ns gs hp'
    rw [List.sum_cons] at hs
    simp only [dam1]
    rw [if_pos (by omega), List.sum_cons, dam1_zero f gs (b + g) hp' (by omega)]
    omega
theorem dam1_cons (f : Int) (hf : 0 ≤ f) : ∀ (gs : List Int) (b : Int), b ≤ f → (dam1 f b gs).1 + (dam1 f b gs).2.sum = b + gs.sum ∧ (dam1 f b gs).1 ≤ f
  | [], b, hb => by simp [dam1, hb]
  | g :: gs, b, hb => by
    simp only [dam1]
    split
    · rename_i hc
      have := dam1_cons f hf gs (b + g) hc
      simp only [List.sum_cons]
      omega
    · have := dam1_cons f hf gs 0 hf
      simp only [List.sum_cons]
      omega
theorem flow_foot (f : Int) (h ws : List Int) : flow (h ++ [f]) ws = (dam1 f 0 (flow h ws)).2 := by
  have := runs_snoc f h ws (zeros h.length) 0 (by simp [zeros])
  unfold flow
  have e : zeros (h ++ [f]).length = zeros h.length ++ [0] := by
    unfold zeros
    rw [List.length_append, List.length_singleton, List.replicate_succ']
  rw [e, this]
theorem foot_zero {h ws : List Int} (hp : ∀ x ∈ h, 0 ≤ x) (hw : ∀ w ∈ ws, 0 ≤ w) : (flow (h ++ [(flow h ws).sum]) ws).sum = 0 := by
  rw [flow_foot]
  exact dam1_zero _ _ 0 ((Val.zeros h 0 hp).runs hw).2 (by omega)
theorem foot_more {h ws : List Int} (hs : 0 < (flow h ws).sum) : (flow (h ++ [(flow h ws).sum - 1]) ws).sum ≠ 0 := by
  rw [flow_foot]
  have := dam1_cons ((flow h ws).sum - 1) (by omega) (flow h ws) 0 (by omega)
  omega
/-- one slide on empty dams -/
theorem slide_one : ∀ (h : List Int) (w : Int), (∀ x ∈ h, 0 ≤ x) → 0 ≤ w → (slide h (zeros h.length) w).2 = (if ∃ x ∈ h, w ≤ x then 0 else w) ∧
    ∀ (i : Nat) (b : Int), (slide h (zeros h.length) w).1[i]? = some b → (0 < b ↔ 0 < w ∧ (∃ a, h[i]? = some a ∧ w ≤ a) ∧ ∀ (j : Nat) (c : Int), j < i → h[j]? = some c → c < w)
  | [], w, _, _ => by simp [slide, zeros]
  | a :: h, w, hp, hw => by
    have ha := hp a (List.mem_cons_self ..)
    have hp' : ∀ x ∈ h, 0 ≤ x := fun x hx => hp x (List.mem_cons_of_mem _ hx)
    have e : zeros (a :: h).length = 0 :: zeros h.length := rfl
    rw [e]
    simp only [slide]
    split
    · rename_i hc
      have ih := slide_one h 0 hp' (Int.le_refl 0)
      refine ⟨?_, fun i b hb => ?_⟩
      · rw [ih.1, ite_self, if_pos ⟨a, List.mem_cons_self .., by omega⟩]
      · cases i with
        | zero =>
          simp at hb
          subst hb
          simp
          omega
        | succ i =>
          have := (ih.2 i b (by simpa using hb))
          constructor
          · intro h0
            have := this.mp h0
            omega
          · rintro ⟨_, _, h3⟩
            have := h3 0 a (by omega) rfl
            omega
    · rename_i hc
      have ew : 0 + w = w := by omega
      rw [ew] at hc ⊢
      have ih := slide_one h w hp' hw
      refine ⟨?_, fun i b hb => ?_⟩
      · rw [ih.1]
        by_cases q : ∃ x ∈ h, w ≤ x
        · obtain ⟨x, hx, hl⟩ := q
          rw [if_pos ⟨x, hx, hl⟩, if_pos ⟨x, List.mem_cons_of_mem _ hx, hl⟩]
        · rw [if_neg q, if_neg]
          rintro ⟨x, hx, hl⟩
          rcases List.mem_cons.mp hx with rfl | hx
          · exact hc hl
          · exact q ⟨x, hx, hl⟩
      · cases i with
        | zero =>
          simp at hb
          subst hb
          simp
          omega
        | succ i =>
          have := ih.2 i b (by simpa using hb)
          rw [this]
          constructor
          · rintro ⟨h1, h2, h3⟩
            refine ⟨h1, by simpa using h2, fun j c hj hcj => ?_⟩
            cases j with
            | zero => simp at hcj; omega
            | succ j => exact h3 j c (by omega) (by simpa using hcj)
          · rintro ⟨h1, h2, h3⟩
            exact ⟨h1, by simpa using h2, fun j c hj hcj => h3 (j + 1) c (by omega) (by simpa using hcj)⟩
end Dl
set_option Elab.async false
set_option linter.all false
set_option maxRecDepth 100000
set_option maxHeartbeats 4000000
namespace Dl
open PySem PySem.Spec PyProof.Rows L2
abbrev top (i : Nat) : Stmt := PySem.Challenge.pw_slopeward_k37_whole_dams_and_idle_ones.main.body.getD i (.Pass ⟨0, 0, 0, 0⟩)
abbrev fuel : Nat := 1000000
def d_one_slide_L1 : List CS := [(.ifs (.cmp .le (.bin .add (.var 5) (.var 2)) (.var 4)) [(.app .b 3 (.bin .add (.var 5) (.var 2))), (.set .b 2 (.int 0))] [(.app .b 3 (.int 0)), (.set .b 2 (.bin .add (.var 5) (.var 2)))])]
def d_one_slide : Def := ⟨"one_slide", ["holds", "kept", "load"], ["holds", "kept", "load", "after", "hold", "back"],
  [(.own 3 (.lst [])), (.loop (.a []) (.tp [(.nm 4), (.nm 5)]) (.zip (.var 0) (.var 1)) d_one_slide_L1), (.ret (.tup [(.bi .tuple [(.var 3)]), (.var 2)]))]⟩
def d_all_slides_L1 : List CS := [(.put .b (.tp [(.nm 2), (.nm 5)]) (.call 0 [(.var 0), (.var 2), (.var 4)])), (.app .b 3 (.var 5))]
def d_all_slides : Def := ⟨"all_slides", ["holds", "loads"], ["holds", "loads", "kept", "flow", "load", "gone"],
  [(.set .b 2 (.bin .mul (.tup [(.int 0)]) (.bi .len [(.var 0)]))), (.own 3 (.lst [])), (.loop .b (.nm 4) (.var 1) d_all_slides_L1), (.ret (.tup [(.var 2), (.bi .tuple [(.var 3)])]))]⟩
def d_valley_flow : Def := ⟨"valley_flow", ["holds", "loads"], ["holds", "loads"],
  [(.ret (.idx (.call 1 [(.var 0), (.var 1)]) (.int 1)))]⟩
def d_held_back : Def := ⟨"held_back", ["holds", "loads"], ["holds", "loads"],
  [(.ret (.idx (.call 1 [(.var 0), (.var 1)]) (.int 0)))]⟩
def d_told_shield_T1 : List CE := [(.cmp .ge (.idx (.var 0) (.var 3)) (.idx (.var 0) (.var 1)))]
def d_told_shield : Def := ⟨"told_shield", ["holds", "dam"], ["holds", "dam", "shields", "above"],
  [(.own 2 (.lc [3] (.nm 3) (.rng1 (.var 1)) d_told_shield_T1 (.var 3))), (.ret (.ite (.var 2) (.bi .max [(.var 2)]) .non))]⟩
def d_is_idle_dam : Def := ⟨"is_idle_dam", ["holds", "dam"], ["holds", "dam"],
  [(.ret (.or (.cmp .eq (.idx (.var 0) (.var 1)) (.int 0)) (.notN (.call 4 [(.var 0), (.var 1)]))))]⟩
def d_waking_slide : Def := ⟨"waking_slide", ["holds", "dam"], ["holds", "dam"],
  [(.ifs (.call 5 [(.var 0), (.var 1)]) [(.ret .non)] []), (.ret (.bin .add (.bi .max [(.bin .add (.lst [(.int 0)]) (.bi .list [(.slc (.var 0) .non (.var 1))]))]) (.int 1)))]⟩
def d_working_dams_T1 : List CE := [(.not (.call 5 [(.var 0), (.var 1)]))]
def d_working_dams : Def := ⟨"working_dams", ["holds"], ["holds", "dam", "hold"],
  [(.ret (.bi .tuple [(.lc [1, 2] (.tp [(.nm 1), (.nm 2)]) (.enum (.var 0)) d_working_dams_T1 (.var 2))]))]⟩
def d_foot_hold : Def := ⟨"foot_hold", ["holds", "loads"], ["holds", "loads"],
  [(.ret (.bi .sum [(.call 2 [(.var 0), (.var 1)])]))]⟩
def d_law_cell : Def := ⟨"_law_cell", ["script", "k"], ["script", "k"],
  bCell⟩
def d_law_draws : Def := ⟨"_law_draws", ["cell", "count"], ["cell", "count", "rest", "digits", "seed", "draws", "k", "mixed"],
  bDraws⟩
def d_law_is_integer : Def := ⟨"_law_is_integer", ["value"], ["value"],
  bIsInt⟩
def d_law_is : Def := ⟨"_law_is", ["value", "due"], ["value", "due", "at"],
  (bIs 11 12)⟩
def d_law_followed_L1 : List CS := [(.set .b 7 (.bin .add (.idx (.var 2) (.var 6)) (.var 5))), (.sti .b 2 (.var 6) (.ite (.cmp .le (.var 7) (.idx (.var 0) (.var 6))) (.var 7) (.int 0))), (.set .b 5 (.ite (.cmp .le (.var 7) (.idx (.var 0) (.var 6))) (.int 0) (.var 7)))]
def d_law_followed_L2 : List CS := [(.set .b 5 (.var 4)), (.loop .b (.nm 6) (.rng1 (.bi .len [(.var 0)])) d_law_followed_L1), (.app .b 3 (.var 5))]
def d_law_followed : Def := ⟨"_law_followed", ["holds", "slides"], ["holds", "slides", "kept", "flow", "weight", "comes", "at", "whole"],
  [(.own 2 (.bin .mul (.lst [(.int 0)]) (.bi .len [(.var 0)]))), (.own 3 (.lst [])), (.loop .b (.nm 4) (.var 1) d_law_followed_L2), (.ret (.tup [(.bi .tuple [(.var 2)]), (.bi .tuple [(.var 3)])]))]⟩
def d_law_dam_T1 : List CE := [(.cmp .gt (.idx (.idx (.call 13 [(.var 0), (.tup [(.var 4)])]) (.int 0)) (.var 1)) (.int 0))]
def d_law_dam_T2 : List CE := [(.cmp .ge (.idx (.var 0) (.var 7)) (.idx (.var 0) (.var 1)))]
def d_law_dam_L1 : List CS := [(.ifs (.cmp .ne (.idx (.idx (.call 13 [(.var 0), (.slc (.var 2) .non (.var 8))]) (.int 0)) (.var 1)) (.int 0)) [(.ret (.bl false))] [])]
def d_law_dam : Def := ⟨"_law_dam", ["holds", "at", "slides"], ["holds", "at", "slides", "waking", "weight", "idle", "shields", "above", "size"],
  [(.own 3 (.lc [4] (.nm 4) (.rng2 (.int 1) (.bin .add (.idx (.var 0) (.var 1)) (.int 1))) d_law_dam_T1 (.var 4))), (.set .b 5 (.cmp .eq (.bi .len [(.var 3)]) (.int 0))), (.own 6 (.lc [7] (.nm 7) (.rng1 (.var 1)) d_law_dam_T2 (.var 7))), (.ifs (.cmp .ne (.var 5) (.or (.cmp .eq (.idx (.var 0) (.var 1)) (.int 0)) (.cmp .gt (.bi .len [(.var 6)]) (.int 0)))) [(.ret (.bl false))] []), (.ifs (.or (.not (.call 12 [(.call 5 [(.var 0), (.var 1)]), (.var 5)])) (.not (.call 12 [(.call 6 [(.var 0), (.var 1)]), (.ite (.var 5) .non (.idx (.var 3) (.int 0)))]))) [(.ret (.bl false))] []), (.ifs (.not (.call 12 [(.call 4 [(.var 0), (.var 1)]), (.ite (.cmp .gt (.bi .len [(.var 6)]) (.int 0)) (.idx (.var 6) (.bin .sub (.bi .len [(.var 6)]) (.int 1))) .non)])) [(.ret (.bl false))] []), (.ifs (.var 5) [(.loop .b (.nm 8) (.rng1 (.bin .add (.bi .len [(.var 2)]) (.int 1))) d_law_dam_L1)] []), (.ret (.bl true))]⟩
def d_law_E1 : CE := (.bin .mod (.bi .int [(.idx (.var 2) (.bin .add (.int 1) (.var 8)))]) (.var 3))
def d_law_E2 : CE := (.bin .mod (.bi .int [(.idx (.var 2) (.bin .add (.int 8) (.var 8)))]) (.var 5))
def d_law_L1 : List CS := [(.put .b (.tp [(.nm 13), (.nm 10)]) (.call 13 [(.var 4), (.slc (.var 6) .non (.var 7))])), (.ifs (.not (.call 12 [(.call 2 [(.var 4), (.slc (.var 6) .non (.var 7))]), (.var 10)])) [(.ret (.bl false))] []), (.ifs (.not (.call 12 [(.call 3 [(.var 4), (.slc (.var 6) .non (.var 7))]), (.var 13)])) [(.ret (.bl false))] []), (.ifs (.cmp .ne (.bin .add (.bi .sum [(.var 13)]) (.bi .sum [(.var 10)])) (.bi .sum [(.slc (.var 6) .non (.var 7))])) [(.ret (.bl false))] [])]
def d_law_L2 : List CS := [(.ifs (.not (.call 14 [(.var 4), (.var 8), (.var 6)])) [(.ret (.bl false))] [])]
def d_law_T1 : List CE := [(.cmp .ge (.idx (.var 4) (.var 14)) (.idx (.var 4) (.var 8)))]
def d_law_L3 : List CS := [(.ifs (.and (.cmp .eq (.bi .len [(.lc [14] (.nm 14) (.rng1 (.var 8)) d_law_T1 (.var 14))]) (.int 0)) (.cmp .gt (.idx (.var 4) (.var 8)) (.int 0))) [(.app .b 9 (.idx (.var 4) (.var 8)))] [])]
def d_law_L4 : List CS := [(.ifs (.not (.call 12 [(.call 2 [(.var 4), (.tup [(.var 12)])]), (.tup [(.ite (.cmp .le (.var 12) (.bi .max [(.bin .add (.tup [(.int 0)]) (.var 4))])) (.int 0) (.var 12))])])) [(.ret (.bl false))] [])]
def d_law_L5 : List CS := [(.set (.a []) 2 (.call 10 [(.call 9 [(.var 0), (.var 1)]), (.int 40)])), (.set .b 3 (.idx (.tup [(.int 21), (.int 6), (.int 11)]) (.bin .mod (.bi .int [(.idx (.var 2) (.int 0))]) (.int 3)))), (.set .b 4 (.bi .tuple [(.lc [8] (.nm 8) (.rng1 (.idx (.tup [(.int 3), (.int 5), (.int 4), (.int 2), (.int 1), (.int 0), (.int 5)]) (.bin .mod (.bi .int [(.idx (.var 2) (.int 6))]) (.int 7)))) [] d_law_E1)])), (.set .b 5 (.idx (.tup [(.int 8), (.int 26), (.int 4)]) (.bin .mod (.bi .int [(.idx (.var 2) (.int 7))]) (.int 3)))), (.set .b 6 (.bi .tuple [(.lc [8] (.nm 8) (.rng1 (.bin .add (.int 1) (.bin .mod (.bi .int [(.idx (.var 2) (.int 16))]) (.int 8)))) [] d_law_E2)])), (.loop .b (.nm 7) (.rng1 (.bin .add (.bi .len [(.var 6)]) (.int 1))) d_law_L1), (.loop .b (.nm 8) (.rng1 (.bi .len [(.var 4)])) d_law_L2), (.own 9 (.lst [])), (.loop .b (.nm 8) (.rng1 (.bi .len [(.var 4)])) d_law_L3), (.set .b 9 (.bi .tuple [(.var 9)])), (.set .b 10 (.idx (.call 13 [(.var 4), (.var 6)]) (.int 1))), (.ifs (.or (.not (.call 12 [(.call 7 [(.var 4)]), (.var 9)])) (.cmp .ne (.idx (.call 13 [(.var 9), (.var 6)]) (.int 1)) (.var 10))) [(.ret (.bl false))] []), (.ifs (.not (.call 12 [(.call 2 [(.var 9), (.var 6)]), (.var 10)])) [(.ret (.bl false))] []), (.set .b 11 (.bi .sum [(.var 10)])), (.ifs (.or (.not (.call 12 [(.call 8 [(.var 4), (.var 6)]), (.var 11)])) (.cmp .ne (.bi .sum [(.idx (.call 13 [(.bin .add (.var 4) (.tup [(.var 11)])), (.var 6)]) (.int 1))]) (.int 0))) [(.ret (.bl false))] []), (.ifs (.and (.cmp .gt (.var 11) (.int 0)) (.cmp .eq (.bi .sum [(.idx (.call 13 [(.bin .add (.var 4) (.tup [(.bin .sub (.var 11) (.int 1))])), (.var 6)]) (.int 1))]) (.int 0))) [(.ret (.bl false))] []), (.loop .b (.nm 12) (.rng2 (.int 1) (.int 41)) d_law_L4)]
def d_law : Def := ⟨"law", ["script"], ["script", "k", "draws", "most", "holds", "heavy", "slides", "size", "at", "working", "flow", "foot", "weight", "kept", "above"],
  [(.loop .b (.nm 1) (.rng1 (.int 3)) d_law_L5), (.ret (.bl true))]⟩
def tb : Tb := [(d_one_slide, top 1), (d_all_slides, top 2), (d_valley_flow, top 3), (d_held_back, top 4), (d_told_shield, top 5), (d_is_idle_dam, top 6), (d_waking_slide, top 7), (d_working_dams, top 8), (d_foot_hold, top 9), (d_law_cell, top 11), (d_law_draws, top 12), (d_law_is_integer, top 13), (d_law_is, top 14), (d_law_followed, top 15), (d_law_dam, top 16), (d_law, top 17)]
theorem ok_one_slide : DefOk tb.T d_one_slide (top 1) := ⟨by decide +kernel, fun _ _ _ _ _ _ us hl => match us, hl with | [_, _, _], _ => rfl⟩
theorem ok_all_slides : DefOk tb.T d_all_slides (top 2) := ⟨by decide +kernel, fun _ _ _ _ _ _ us hl => match us, hl with | [_, _], _ => rfl⟩
theorem ok_valley_flow : DefOk tb.T d_valley_flow (top 3) := ⟨by decide +kernel, fun _ _ _ _ _ _ us hl => match us, hl with | [_, _], _ => rfl⟩
theorem ok_held_back : DefOk tb.T d_held_back (top 4) := ⟨by decide +kernel, fun _ _ _ _ _ _ us hl => match us, hl with | [_, _], _ => rfl⟩
theorem ok_told_shield : DefOk tb.T d_told_shield (top 5) := ⟨by decide +kernel, fun _ _ _ _ _ _ us hl => match us, hl with | [_, _], _ => rfl⟩
theorem ok_is_idle_dam : DefOk tb.T d_is_idle_dam (top 6) := ⟨by decide +kernel, fun _ _ _ _ _ _ us hl => match us, hl with | [_, _], _ => rfl⟩
theorem ok_waking_slide : DefOk tb.T d_waking_slide (top 7) := ⟨by decide +kernel, fun _ _ _ _ _ _ us hl => match us, hl with | [_, _], _ => rfl⟩
theorem ok_working_dams : DefOk tb.T d_working_dams (top 8) := ⟨by decide +kernel, fun _ _ _ _ _ _ us hl => match us, hl with | [_], _ => rfl⟩
theorem ok_foot_hold : DefOk tb.T d_foot_hold (top 9) := ⟨by decide +kernel, fun _ _ _ _ _ _ us hl => match us, hl with | [_, _], _ => rfl⟩
theorem ok_law_cell : DefOk tb.T d_law_cell (top 11) := ⟨by decide +kernel, fun _ _ _ _ _ _ us hl => match us, hl with | [_, _], _ => rfl⟩
theorem ok_law_draws : DefOk tb.T d_law_draws (top 12) := ⟨by decide +kernel, fun _ _ _ _ _ _ us hl => match us, hl with | [_, _], _ => rfl⟩
theorem ok_law_is_integer : DefOk tb.T d_law_is_integer (top 13) := ⟨by decide +kernel, fun _ _ _ _ _ _ us hl => match us, hl with | [_], _ => rfl⟩
theorem ok_law_is : DefOk tb.T d_law_is (top 14) := ⟨by decide +kernel, fun _ _ _ _ _ _ us hl => match us, hl with | [_, _], _ => rfl⟩
theorem ok_law_followed : DefOk tb.T d_law_followed (top 15) := ⟨by decide +kernel, fun _ _ _ _ _ _ us hl => match us, hl with | [_, _], _ => rfl⟩
theorem ok_law_dam : DefOk tb.T d_law_dam (top 16) := ⟨by decide +kernel, fun _ _ _ _ _ _ us hl => match us, hl with | [_, _, _], _ => rfl⟩
theorem ok_law : DefOk tb.T d_law (top 17) := ⟨by decide +kernel, fun _ _ _ _ _ _ us hl => match us, hl with | [_], _ => rfl⟩
end Dl
set_option Elab.async false
set_option linter.all false
set_option maxRecDepth 100000
set_option maxHeartbeats 4000000
/-! Dams: what each def tells. -/
namespace Dl
open PySem
@[simp] theorem zipD_tup (x y : List D) : zipD (.tup x) (.tup y) = some (List.zipWith (fun d e => .tup [d, e]) x y) := .trans rfl rfl
abbrev tup_ (l : List Int) : D := .tup (l.map .int)
theorem zeros_rep (n : Nat) : List.replicate n (D.int 0) = (zeros n).map .int := by
  unfold zeros
  rw [List.map_replicate]
@[simp] theorem zeros_length (n : Nat) : (zeros n).length = n := by simp [zeros]
section
variable (cl : Nat → List D → Option D) (A B C : Option Sl)
theorem zip_loop : ∀ (h k acc : List Int) (w : Int) (j4 j5 : Option Sl), k.length = h.length → acc.length + h.length ≤ 1000 → ∃ j4' j5', forL (turn cl (.tp [(.nm 4), (.nm 5)]) d_one_slide_L1) (List.zipWith (fun d e => .tup [d, e]) (h.map .int) (k.map .int)) [A, B, some (.sh (.int w)), some (.own (acc.map .int)), j4, j5] =
    some (.nx [A, B, some (.sh (.int (slide h k w).2)), some (.own ((acc ++ (slide h k w).1).map .int)), j4', j5'])
  | [], [], acc, w, j4, j5, _, _ => ⟨j4, j5, by simp [slide]⟩
  | a :: h, b :: k, acc, w, j4, j5, e, hl => by
    simp only [List.length_cons, Nat.add_right_cancel_iff] at e hl
    have hs : acc.length ≤ 1000 := by omega
    by_cases hc : b + w ≤ a
    · obtain ⟨j4', j5', ih⟩ := zip_loop h k (acc ++ [b + w]) 0 (some (.sh (.int a))) (some (.sh (.int b))) e (by simp; omega)
      refine ⟨j4', j5', ?_⟩
      simp [turn_eq, d_one_slide_L1, hc, hs]
      simp [slide, hc] at ih ⊢
      exact ih
    · obtain ⟨j4', j5', ih⟩ := zip_loop h k (acc ++ [0]) (b + w) (some (.sh (.int a))) (some (.sh (.int b))) e (by simp; omega)
      refine ⟨j4', j5', ?_⟩
      simp [turn_eq, d_one_slide_L1, hc, hs]
      simp [slide, hc] at ih ⊢
      exact ih
end
section
variable (n : Nat)
theorem one_ok (h k : List Int) (w : Int) (e : k.length = h.length) (hl : h.length ≤ 1000) : callN tb.fns (n + 1) 0 [tup_ h, tup_ k, .int w] = some (.tup [tup_ (slide h k w).1, .int (slide h k w).2]) := by
  rw [callN_at (show tb.fns[0]? = some d_one_slide.fd from rfl)]
  obtain ⟨j4, j5, ih⟩ := zip_loop (callN tb.fns n) (some (.sh (tup_ h))) (some (.sh (tup_ k))) h k [] w none none e (by simpa using hl)
  simp at ih
  simp [runF, d_one_slide, Def.fd, startS, ih]
theorem all_loop (h : List Int) (hl : h.length ≤ 1000) (A B : Option Sl) : ∀ (ws k acc : List Int) (j4 j5 : Option Sl), k.length = h.length → acc.length + ws.length ≤ 1000 → ∃ j4' j5', forL (turn (callN tb.fns (n + 1)) (.nm 4) d_all_slides_L1) (ws.map .int) [some (.sh (tup_ h)), B, some (.sh (tup_ k)), some (.own (acc.map .int)), j4, j5] =
    some (.nx [some (.sh (tup_ h)), B, some (.sh (tup_ (runs h k ws).1)), some (.own ((acc ++ (runs h k ws).2).map .int)), j4', j5'])
  | [], k, acc, j4, j5, _, _ => ⟨j4, j5, by simp [runs]⟩
  | w :: ws, k, acc, j4, j5, e, hs => by
    simp only [List.length_cons] at hs
    have hs2 : acc.length ≤ 1000 := by omega
    obtain ⟨j4', j5', ih⟩ := all_loop h hl A B ws (slide h k w).1 (acc ++ [(slide h k w).2]) (some (.sh (.int w))) (some (.sh (.int (slide h k w).2))) (slide_len h k w e) (by simp; omega)
    refine ⟨j4', j5', ?_⟩
    have f := one_ok n h k w e hl
    simp [turn_eq, d_all_slides_L1, f, hs2]
    simp [runs] at ih ⊢
    exact ih
theorem all_ok (h ws : List Int) (hl : h.length ≤ 1000) (hw : ws.length ≤ 1000) : callN tb.fns (n + 2) 1 [tup_ h, tup_ ws] = some (.tup [tup_ (kept h ws), tup_ (flow h ws)]) := by
  rw [callN_at (show tb.fns[1]? = some d_all_slides.fd from rfl)]
  obtain ⟨j4, j5, ih⟩ := all_loop n h hl none (some (.sh (tup_ ws))) ws (zeros h.length) [] none none (by simp) (by simpa using hw)
  have hb : (-1000 : Int) ≤ (h.length : Int) ∧ (h.length : Int) ≤ 1000 := by omega
  simp at ih
  simp [runF, d_all_slides, Def.fd, startS, hb, zeros_rep, ih]
theorem valley_ok (h ws : List Int) (hl : h.length ≤ 1000) (hw : ws.length ≤ 1000) : callN tb.fns (n + 3) 2 [tup_ h, tup_ ws] = some (tup_ (flow h ws)) := by
  rw [callN_at (show tb.fns[2]? = some d_valley_flow.fd from rfl)]
  simp [runF, d_valley_flow, Def.fd, startS, all_ok n h ws hl hw]
theorem held_ok (h ws : List Int) (hl : h.length ≤ 1000) (hw : ws.length ≤ 1000) : callN tb.fns (n + 3) 3 [tup_ h, tup_ ws] = some (tup_ (kept h ws)) := by
  rw [callN_at (show tb.fns[3]? = some d_held_back.fd from rfl)]
  simp [runF, d_held_back, Def.fd, startS, all_ok n h ws hl hw]
theorem foot_ok (h ws : List Int) (hl : h.length ≤ 1000) (hw : ws.length ≤ 1000) : callN tb.fns (n + 4) 8 [tup_ h, tup_ ws] = some (.int (flow h ws).sum) := by
  rw [callN_at (show tb.fns[8]? = some d_foot_hold.fd from rfl)]
  simp [runF, d_foot_hold, Def.fd, startS, valley_ok n h ws hl hw]
/-! the law's own slides -/
theorem inner_ok (h k : List Int) (w : Int) (ek : k.length = h.length) (hl : h.length ≤ 1000) (A3 A4 B : Option Sl) (j6 j7 : Option Sl) : ∃ j6' j7', forL (turn (callN tb.fns n) (.nm 6) d_law_followed_L1) ((List.range h.length).map fun i => .int (i : Nat)) [some (.sh (tup_ h)), B, some (.own (k.map .int)), A3, A4, some (.sh (.int w)), j6, j7] =
    some (.nx [some (.sh (tup_ h)), B, some (.own ((slide h k w).1.map .int)), A3, A4, some (.sh (.int (slide h k w).2)), j6', j7']) := by
  have key := forL_inv (turn (callN tb.fns n) (.nm 6) d_law_followed_L1) (fun i σ => ∃ j6' j7', σ = [some (.sh (tup_ h)), B, some (.own (((slide (h.take i) (k.take i) w).1 ++ k.drop i).map .int)), A3, A4, some (.sh (.int (slide (h.take i) (k.take i) w).2)), j6', j7']) ((List.range h.length).map fun i => .int (i : Nat)) 0 [some (.sh (tup_ h)), B, some (.own (k.map .int)), A3, A4, some (.sh (.int w)), j6, j7] ⟨j6, j7, by simp [slide]⟩ fun i x σ hx hp => by
      obtain ⟨i6, i7, rfl⟩ := hp
      obtain ⟨hi, rfl⟩ := range_map_get rfl hx
      simp only [Nat.zero_add]
      have hk : i < k.length := by omega
      have eh : h.take (i + 1) = h.take i ++ [h[i]] := List.take_succ_eq_append_getElem hi
      have ekk : k.take (i + 1) = k.take i ++ [k[i]] := List.take_succ_eq_append_getElem hk
      have ed : k.drop i = k[i] :: k.drop (i + 1) := List.drop_eq_getElem_cons hk
      have el : (k.take i).length = (h.take i).length := by simp; omega
      have sl := slide_len (h.take i) (k.take i) w el
      have ss := slide_snoc h[i] k[i] (h.take i) (k.take i) w el
      rw [← eh, ← ekk] at ss
      have sl2 : (slide (h.take i) (k.take i) w).1.length = i := by rw [sl]; simp; omega
      have gh : h[i]? = some h[i] := List.getElem?_eq_getElem hi
      rw [ss, ed]
      generalize h[i] = a at *
      generalize k[i] = b at *
      generalize k.drop (i + 1) = kd at *
      generalize slide (h.take i) (k.take i) w = r at *
      obtain ⟨p, c⟩ := r
      simp only at sl2 ⊢
      have gp : (p ++ b :: kd)[i]? = some b := by rw [List.getElem?_append_right (by omega), sl2]; simp
      have sp : ∀ v, (p ++ b :: kd).set i v = p ++ v :: kd := fun v => by rw [List.set_append_right _ _ (by omega), sl2]; simp
      have ix : L2.ixN (p.length + (kd.length + 1)) (i : Int) = some i := by
        unfold L2.ixN
        rw [if_pos (by omega), if_pos (by omega)]
        simp
      have gm : ((p ++ b :: kd).map D.int)[i]? = some (.int b) := by rw [List.getElem?_map, gp]; rfl
      have sm : ∀ v, ((p ++ b :: kd).map D.int).set i (.int v) = (p ++ v :: kd).map .int := fun v => by rw [← List.map_set, sp]
      generalize hL : (p ++ b :: kd).map D.int = L at *
      have lL : L.length = p.length + (kd.length + 1) := by rw [← hL]; simp
      by_cases q : b + c ≤ a
      · refine ⟨_, ?_, some (.sh (.int i)), some (.sh (.int (b + c))), rfl⟩
        simp [turn_eq, d_law_followed_L1, gm, gh, q, ix, lL, sm]
      · refine ⟨_, ?_, some (.sh (.int i)), some (.sh (.int (b + c))), rfl⟩
        simp [turn_eq, d_law_followed_L1, gm, gh, q, ix, lL, sm]
  obtain ⟨σ', key, j6', j7', rfl⟩ := key
  refine ⟨j6', j7', ?_⟩
  rw [key]
  simp only [List.length_map, List.length_range, Nat.zero_add]
  rw [List.take_of_length_le (Nat.le_refl _), List.take_of_length_le (by omega), List.drop_eq_nil_of_le (by omega), List.append_nil]
theorem fol_loop (h : List Int) (hl : h.length ≤ 1000) (B : Option Sl) : ∀ (ws k acc : List Int) (j4 j5 j6 j7 : Option Sl), k.length = h.length → acc.length + ws.length ≤ 1000 → ∃ j4' j5' j6' j7', forL (turn (callN tb.fns n) (.nm 4) d_law_followed_L2) (ws.map .int) [some (.sh (tup_ h)), B, some (.own (k.map .int)), some (.own (acc.map .int)), j4, j5, j6, j7] =
    some (.nx [some (.sh (tup_ h)), B, some (.own ((runs h k ws).1.map .int)), some (.own ((acc ++ (runs h k ws).2).map .int)), j4', j5', j6', j7'])
  | [], k, acc, j4, j5, j6, j7, _, _ => ⟨j4, j5, j6, j7, by simp [runs]⟩
  | w :: ws, k, acc, j4, j5, j6, j7, e, hs => by
    simp only [List.length_cons] at hs
    have hs2 : acc.length ≤ 1000 := by omega
    obtain ⟨i6, i7, f⟩ := inner_ok n h k w e hl (some (.own (acc.map .int))) (some (.sh (.int w))) B j6 j7
    obtain ⟨j4', j5', j6', j7', ih⟩ := fol_loop h hl B ws (slide h k w).1 (acc ++ [(slide h k w).2]) (some (.sh (.int w))) (some (.sh (.int (slide h k w).2))) i6 i7 (slide_len h k w e) (by simp; omega)
    refine ⟨j4', j5', j6', j7', ?_⟩
    simp [turn_eq, d_law_followed_L2, hl, f, hs2]
    simp [runs] at ih ⊢
    exact ih
theorem fol_ok (h ws : List Int) (hl : h.length ≤ 1000) (hw : ws.length ≤ 1000) : callN tb.fns (n + 1) 13 [tup_ h, tup_ ws] = some (.tup [tup_ (kept h ws), tup_ (flow h ws)]) := by
  rw [callN_at (show tb.fns[13]? = some d_law_followed.fd from rfl)]
  obtain ⟨j4, j5, j6, j7, ih⟩ := fol_loop n h hl (some (.sh (tup_ ws))) ws (zeros h.length) [] none none none none (by simp) (by simpa using hw)
  have hb : (h.length : Int) ≤ 16777216 ∧ (-16777216 : Int) ≤ (h.length : Int) := by omega
  simp at ih
  simp [runF, d_law_followed, Def.fd, startS, hb, hl, zeros_rep, ih]
end
end Dl
set_option Elab.async false
set_option linter.all false
set_option maxRecDepth 100000
set_option maxHeartbeats 4000000
namespace Dl
open PySem
def shields (h : List Int) (d : Nat) : List Nat := (List.range d).filter fun j => decide (h.getD d 0 ≤ h.getD j 0)
def zs (l : List Nat) : List Int := l.map fun (j : Nat) => (j : Int)
def idl (h : List Int) (d : Nat) : Bool := decide (h.getD d 0 = 0) || !(shields h d).isEmpty
theorem getD_at {h : List Int} {d : Nat} (hd : d < h.length) : h[d]? = some (h.getD d 0) := by
  rw [List.getD_eq_getElem?_getD, List.getElem?_eq_getElem hd]; rfl
theorem shields_len (h : List Int) (d : Nat) : (shields h d).length ≤ d := by
  have := List.length_filter_le (fun j => decide (h.getD d 0 ≤ h.getD j 0)) (List.range d)
  rw [List.length_range] at this
  exact this
theorem nat_ints (l : List Nat) : l.map (fun j => D.int (j : Nat)) = (zs l).map .int := by
  unfold zs
  rw [List.map_map]
  rfl
section
variable (n : Nat) (h : List Int) (hl : h.length ≤ 1000) (d : Nat) (hd : d < h.length)
include hl hd
theorem shield_lc (cl : Nat → List D → Option D) (a2 : Option D) : lcD (lcS cl [3] (.nm 3) d_told_shield_T1 (.var 3) [some (tup_ h), some (.int d), a2, none]) ((List.range d).map fun i => .int (i : Nat)) = some ((zs (shields h d)).map .int) := by
  rw [← nat_ints]
  refine lcD_filter _ (fun i : Nat => .int i) (fun j => decide (h.getD d 0 ≤ h.getD j 0)) (fun i => .int i) _ fun x hx => ?_
  have hx : x < d := by simpa using hx
  have g1 := getD_at hd
  have g2 := getD_at (h := h) (d := x) (by omega)
  generalize h.getD d 0 = y at *
  generalize h.getD x 0 = z at *
  rw [lcS_eq]
  by_cases hp : y ≤ z <;> simp [d_told_shield_T1, g1, g2, hp]
theorem told_ok : callN tb.fns (n + 1) 4 [tup_ h, .int d] = some (if (shields h d).isEmpty = true then .non else .int (maxL (zs (shields h d)))) := by
  rw [callN_at (show tb.fns[4]? = some d_told_shield.fd from rfl)]
  have lc := shield_lc h hl d hd (callN tb.fns n) none
  have hb : d ≤ 1000 := by omega
  have hs : (zs (shields h d)).length ≤ 1000 := by
    have := shields_len h d
    simp only [zs, List.length_map]
    omega
  cases hc : shields h d with
  | nil =>
    rw [hc] at lc hs
    simp [zs] at lc
    simp [runF, d_told_shield, Def.fd, startS, hb, lc]
  | cons x r =>
    rw [hc] at lc hs
    have ne : zs (x :: r) ≠ [] := by simp [zs]
    have ne2 : ((zs (x :: r)).map D.int).isEmpty = false := rfl
    generalize zs (x :: r) = L at *
    simp [runF, d_told_shield, Def.fd, startS, hb, lc, hs, ne]
theorem idle_ok : callN tb.fns (n + 2) 5 [tup_ h, .int d] = some (.bl (idl h d)) := by
  rw [callN_at (show tb.fns[5]? = some d_is_idle_dam.fd from rfl)]
  have f := told_ok n h hl d hd
  have g1 := getD_at hd
  unfold idl
  by_cases q : h.getD d 0 = 0
  · rw [q] at g1 ⊢
    simp [runF, d_is_idle_dam, Def.fd, startS, g1]
  · rw [decide_eq_false q, Bool.false_or]
    generalize h.getD d 0 = y at *
    cases hc : (shields h d).isEmpty with
    | true =>
      rw [hc] at f
      simp only [ite_tt] at f
      simp [runF, d_is_idle_dam, Def.fd, startS, g1, q, f]
    | false =>
      rw [hc] at f
      simp only [ite_ff] at f
      simp [runF, d_is_idle_dam, Def.fd, startS, g1, q, f]
theorem waking_ok : callN tb.fns (n + 3) 6 [tup_ h, .int d] = some (if idl h d = true then .non else .int (maxL (0 :: h.take d) + 1)) := by
  rw [callN_at (show tb.fns[6]? = some d_waking_slide.fd from rfl)]
  have f := idle_ok n h hl d hd
  cases hc : idl h d with
  | true =>
    rw [hc] at f
    simp [runF, d_waking_slide, Def.fd, startS, f]
  | false =>
    rw [hc] at f
    have e : bestD maxDD (D.int 0 :: (h.take d).map D.int) = some (.int (maxL (0 :: h.take d))) := best_max 0 (h.take d)
    have hs : 1 + min d h.length ≤ 1000 := by omega
    have hs2 : min d h.length + 1 ≤ 1000 := by omega
    simp [runF, d_waking_slide, Def.fd, startS, f, cutL_to, hs, hs2, -List.map_take, ← List.map_take, e]
end
section
variable (n : Nat) (h : List Int) (hl : h.length ≤ 1000)
include hl
def works (h : List Int) : List Int := ((List.range h.length).filter fun i => !idl h i).map fun i => h.getD i 0
theorem working_ok : callN tb.fns (n + 3) 7 [tup_ h] = some (tup_ (works h)) := by
  rw [callN_at (show tb.fns[7]? = some d_working_dams.fd from rfl)]
  have lc := lcD_filter (lcS (callN tb.fns (n + 2)) [1, 2] (.tp [(.nm 1), (.nm 2)]) d_working_dams_T1 (.var 2) [some (tup_ h), none, none]) (fun i : Nat => .tup [.int i, .int (h.getD i 0)]) (fun i => !idl h i) (fun i => .int (h.getD i 0)) (List.range h.length) fun x hx => by
    have hx : x < h.length := by simpa using hx
    have f := idle_ok n h hl x hx
    generalize h.getD x 0 = z
    rw [lcS_eq]
    cases hc : idl h x <;> rw [hc] at f <;> simp [d_working_dams_T1, f]
  have hs : ((List.range h.length).filter fun i => !idl h i).length ≤ 1000 := by
    have := List.length_filter_le (fun i => !idl h i) (List.range h.length)
    rw [List.length_range] at this
    omega
  have e : ((List.range h.length).filter fun i => !idl h i).map (fun i => D.int (h.getD i 0)) = (works h).map .int := by
    unfold works
    rw [List.map_map]
    rfl
  have hs2 : (works h).length ≤ 1000 := by unfold works; simpa using hs
  rw [e] at lc
  simp [runF, d_working_dams, Def.fd, startS, enumF_ints, -List.getD_eq_getElem?_getD, lc, hs2]
end
end Dl
set_option Elab.async false
set_option linter.all false
set_option maxRecDepth 100000
set_option maxHeartbeats 4000000
namespace Dl
open PySem
theorem has : Has tb.fns 9 10 11 12 := ⟨rfl, rfl, rfl, rfl⟩
def wk (h : List Int) (d : Nat) : List Nat := (List.range (h.getD d 0).toNat).filter fun i => decide (∀ j, j < d → h.getD j 0 < 1 + (i : Int))
theorem idl_iff {h : List Int} {d : Nat} : idl h d = true ↔ h.getD d 0 = 0 ∨ ∃ j, j < d ∧ h.getD d 0 ≤ h.getD j 0 := by
  unfold idl
  rw [Bool.or_eq_true, decide_eq_true_eq, Bool.not_eq_true', List.isEmpty_eq_false_iff, shields, ne_eq, List.filter_eq_nil_iff]
  constructor
  · rintro (a | a)
    · exact .inl a
    · apply Classical.byContradiction
      intro hc
      refine a fun j hj hp => hc (.inr ⟨j, by simpa using hj, by simpa using hp⟩)
  · rintro (a | ⟨j, h1, h2⟩)
    · exact .inl a
    · exact .inr fun hc => hc j (by simpa using h1) (by simpa using h2)
theorem wk_idle {h : List Int} {d : Nat} (hi : idl h d = true) : wk h d = [] := by
  unfold wk
  rw [List.filter_eq_nil_iff]
  intro i hi2 hp
  have hi2 : i < (h.getD d 0).toNat := by simpa using hi2
  have hp : ∀ j, j < d → h.getD j 0 < 1 + (i : Int) := of_decide_eq_true hp
  rcases idl_iff.mp hi with a | ⟨j, h1, h2⟩
  · omega
  · have := hp j h1
    omega
theorem wk_work {h : List Int} {d : Nat} (hd : d < h.length) (hp : ∀ x ∈ h, 0 ≤ x) (hi : idl h d = false) : ∃ (m : Nat) (r : List Nat), wk h d = m :: r ∧ (m : Int) = maxL (0 :: h.take d) := by
  have ne : (0 :: h.take d) ≠ [] := by simp
  have m0 : 0 ≤ maxL (0 :: h.take d) := maxL_le (List.mem_cons_self ..)
  have mm := maxL_mem ne
  have up : ∀ j, j < d → h.getD j 0 ≤ maxL (0 :: h.take d) := fun j hj => by
    have e := getD_at (h := h) (d := j) (by omega)
    refine maxL_le (List.mem_cons_of_mem _ (List.mem_iff_getElem?.mpr ⟨j, ?_⟩))
    rw [List.getElem?_take_of_lt hj, e]
  have ni : ¬ (h.getD d 0 = 0 ∨ ∃ j, j < d ∧ h.getD d 0 ≤ h.getD j 0) := fun c => by
    rw [idl_iff.mpr c] at hi
    cases hi
  have hd0 : 0 ≤ h.getD d 0 := hp _ (List.mem_iff_getElem?.mpr ⟨d, getD_at hd⟩)
  have below : maxL (0 :: h.take d) < h.getD d 0 := by
    rcases List.mem_cons.mp mm with e | mm
    · rw [e]
      have : h.getD d 0 ≠ 0 := fun c => ni (.inl c)
      omega
    · obtain ⟨j, hj⟩ := List.mem_iff_getElem?.mp mm
      have hj2 : j < d := by
        have := (List.getElem?_eq_some_iff.mp hj).1
        simp at this
        omega
      rw [List.getElem?_take_of_lt hj2, getD_at (h := h) (d := j) (by omega)] at hj
      have e := Option.some.inj hj
      apply Classical.byContradiction
      intro hc
      exact ni (.inr ⟨j, hj2, by omega⟩)
  obtain ⟨m, hm⟩ : ∃ m : Nat, maxL (0 :: h.take d) = m := ⟨(maxL (0 :: h.take d)).toNat, by omega⟩
  obtain ⟨q, hq⟩ : ∃ q : Nat, (h.getD d 0).toNat = m + (q + 1) := ⟨(h.getD d 0).toNat - m - 1, by omega⟩
  refine ⟨m, ((List.range q).map fun i => m + (i + 1)).filter fun i => decide (∀ j, j < d → h.getD j 0 < 1 + (i : Int)), ?_, hm.symm⟩
  have p1 : (List.range m).filter (fun i : Nat => decide (∀ j, j < d → h.getD j 0 < 1 + (i : Int))) = [] := by
    rw [List.filter_eq_nil_iff]
    intro i hi2 hp2
    have hi2 : i < m := by simpa using hi2
    have hp2 : ∀ j, j < d → h.getD j 0 < 1 + (i : Int) := of_decide_eq_true hp2
    rcases List.mem_cons.mp mm with e | mm
    · omega
    · obtain ⟨j, hj⟩ := List.mem_iff_getElem?.mp mm
      have hj2 : j < d := by
        have := (List.getElem?_eq_some_iff.mp hj).1
        simp at this
        omega
      rw [List.getElem?_take_of_lt hj2, getD_at (h := h) (d := j) (by omega)] at hj
      have e := Option.some.inj hj
      have := hp2 j hj2
      omega
  have p2 : decide (∀ j, j < d → h.getD j 0 < 1 + (m : Int)) = true := decide_eq_true fun j hj => by
    have := up j hj
    omega
  unfold wk
  rw [hq, List.range_add, List.filter_append, p1, List.nil_append, List.range_succ_eq_map, List.map_cons, List.filter_cons, Nat.add_zero, p2, if_pos rfl, List.map_map]
  rfl
theorem last_max : ∀ (l : List Nat), l.Pairwise (· < ·) → ∀ x, l.getLast? = some x → maxL (zs l) = x := fun l hp x hx => by
  have ne : zs l ≠ [] := by
    intro e
    have : l = [] := by simpa [zs] using e
    rw [this] at hx
    cases hx
  have a := maxL_mem ne
  obtain ⟨y, hy, ey⟩ := List.mem_map.mp a
  have hx2 : x ∈ l := List.mem_of_getLast? hx
  have b : (x : Int) ≤ maxL (zs l) := maxL_le (List.mem_map.mpr ⟨x, hx2, rfl⟩)
  have c : y ≤ x := by
    obtain ⟨m, rfl⟩ : ∃ m, l = m ++ [x] := by
      rw [List.getLast?_eq_some_iff] at hx
      exact hx
    rcases List.mem_append.mp hy with hy | hy
    · exact Nat.le_of_lt ((List.pairwise_append.mp hp).2.2 y hy x (by simp))
    · exact Nat.le_of_eq (List.mem_singleton.mp hy)
  omega
theorem shields_inc (h : List Int) (d : Nat) : (shields h d).Pairwise (· < ·) := List.Pairwise.filter _ List.pairwise_lt_range
abbrev cl := callN tb.fns 23
theorem wk_lc (h : List Int) (hl : h.length ≤ 1000) (hp : ∀ x ∈ h, 0 ≤ x) (d : Nat) (hd : d < h.length) (a2 a3 a5 a6 a7 a8 : Option D) : lcD (lcS cl [4] (.nm 4) d_law_dam_T1 (.var 4) [some (tup_ h), some (.int d), a2, a3, none, a5, a6, a7, a8]) ((List.range (h.getD d 0).toNat).map fun i => .int (1 + (i : Nat))) = some ((wk h d).map fun i => .int (1 + (i : Nat))) := by
  refine lcD_filter _ (fun i : Nat => .int (1 + i)) (fun i => decide (∀ j, j < d → h.getD j 0 < 1 + (i : Int))) (fun i => .int (1 + i)) _ fun x hx => ?_
  have hx : x < (h.getD d 0).toNat := by simpa using hx
  have f : cl 13 [tup_ h, .tup [.int (1 + (x : Nat))]] = _ := fol_ok 22 h [1 + (x : Nat)] hl (by simp)
  have so := (slide_one h (1 + (x : Nat)) hp (by omega)).2 d ((kept h [1 + (x : Int)]).getD d 0) (getD_at (by
    rw [slide_len _ _ _ (by simp)]
    exact hd))
  have g := getD_at (h := kept h [1 + (x : Int)]) (d := d) (by
    show d < (slide h (zeros h.length) (1 + (x : Int))).1.length
    rw [slide_len _ _ _ (by simp)]
    exact hd)
  have gd := getD_at hd
  generalize (kept h [1 + (x : Int)]).getD d 0 = b at *
  have iff : 0 < b ↔ ∀ j, j < d → h.getD j 0 < 1 + (x : Int) := by
    rw [so]
    constructor
    · rintro ⟨_, _, h3⟩ j hj
      exact h3 j _ hj (getD_at (by omega))
    · intro hj
      refine ⟨by omega, ⟨_, gd, by omega⟩, fun j c h1 h2 => ?_⟩
      have := hj j h1
      rw [List.getD_eq_getElem?_getD, h2] at this
      exact this
  rw [lcS_eq]
  by_cases q : 0 < b
  · rw [decide_eq_true (iff.mp q)]
    simp [d_law_dam_T1, f, g, q]
  · rw [decide_eq_false fun c => q (iff.mpr c)]
    simp [d_law_dam_T1, f, g, q]
theorem sh2_lc (h : List Int) (d : Nat) (hd : d < h.length) (a2 a3 a4 a5 a6 a8 : Option D) : lcD (lcS cl [7] (.nm 7) d_law_dam_T2 (.var 7) [some (tup_ h), some (.int d), a2, a3, a4, a5, a6, none, a8]) ((List.range d).map fun i => .int (i : Nat)) = some ((zs (shields h d)).map .int) := by
  rw [← nat_ints]
  refine lcD_filter _ (fun i : Nat => .int i) (fun j => decide (h.getD d 0 ≤ h.getD j 0)) (fun i => .int i) _ fun x hx => ?_
  have hx : x < d := by simpa using hx
  have g1 := getD_at hd
  have g2 := getD_at (h := h) (d := x) (by omega)
  generalize h.getD d 0 = y at *
  generalize h.getD x 0 = z at *
  rw [lcS_eq]
  by_cases hp : y ≤ z <;> simp [d_law_dam_T2, g1, g2, hp]
end Dl
set_option Elab.async false
set_option linter.all false
set_option maxRecDepth 100000
set_option maxHeartbeats 4000000
namespace Dl
open PySem
theorem last_at {L : List Int} {l : List Nat} (e : L = zs l) (hp : l.Pairwise (· < ·)) (ne : L ≠ []) : L2.atI (L.map D.int) ((L.length : Int) - 1) = some (.int (maxL L)) := by
  subst e
  have ln : 0 < l.length := by
    cases l with
    | nil => exact absurd rfl ne
    | cons x r => simp
  have hl : (zs l).length = l.length := by simp [zs]
  rw [hl, atI_of _ _ (by omega), show ((l.length : Int) - 1).toNat = l.length - 1 by omega]
  have g : l[l.length - 1]? = some l[l.length - 1] := List.getElem?_eq_getElem (by omega)
  have h2 : l.getLast? = some l[l.length - 1] := by rw [List.getLast?_eq_getElem?, g]
  rw [last_max l hp _ h2]
  simp [zs, g]
theorem kept_idle {h ws : List Int} {d : Nat} (hd : d < h.length) (hp : ∀ x ∈ h, 0 ≤ x) (hw : ∀ w ∈ ws, 0 ≤ w) (hi : idl h d = true) : (kept h ws)[d]? = some 0 := by
  have v := ((Val.zeros h 0 hp).runs hw).1
  have len : (kept h ws).length = h.length := (runs_len h ws (zeros h.length) (by simp)).1
  have g := getD_at (h := kept h ws) (d := d) (by omega)
  have gd := getD_at hd
  rw [g]
  congr 1
  refine v.idle gd g ?_
  rcases idl_iff.mp hi with a | ⟨j, h1, h2⟩
  · exact .inl (by omega)
  · exact .inr ⟨j, _, h1, getD_at (by omega), h2⟩
theorem dam_ok (h ws : List Int) (hl : h.length ≤ 100) (hw : ws.length ≤ 100) (hp : ∀ x ∈ h, 0 ≤ x) (hq : ∀ w ∈ ws, 0 ≤ w) (hb : ∀ x ∈ h, x ≤ 500) (d : Nat) (hd : d < h.length) : callN tb.fns 24 14 [tup_ h, .int d, tup_ ws] = some (.bl true) := by
  rw [callN_at (show tb.fns[14]? = some d_law_dam.fd from rfl)]
  have gd := getD_at hd
  have y0 : 0 ≤ h.getD d 0 := hp _ (List.mem_iff_getElem?.mpr ⟨d, gd⟩)
  have y1 : h.getD d 0 ≤ 500 := hb _ (List.mem_iff_getElem?.mpr ⟨d, gd⟩)
  have l1 := wk_lc h (by omega) hp d hd (some (tup_ ws)) none none none none none
  have l2 := sh2_lc h d hd (some (tup_ ws))
  have f4 : cl 4 [tup_ h, .int d] = _ := told_ok 22 h (by omega) d hd
  have f5 : cl 5 [tup_ h, .int d] = _ := idle_ok 21 h (by omega) d hd
  have f6 : cl 6 [tup_ h, .int d] = _ := waking_ok 20 h (by omega) d hd
  have isB : ∀ b, cl 12 [.bl b, .bl b] = some (.bl true) := fun b => has.isN (fits_bl 1 b) (by omega)
  have isI : ∀ b, cl 12 [.int b, .int b] = some (.bl true) := fun b => has.isN (fits_int 1 b) (by omega)
  have isN : cl 12 [.non, .non] = some (.bl true) := has.isN (fits_non 1) (by omega)
  have sl : (zs (shields h d)).length ≤ 1000 := by
    have := shields_len h d
    simp only [zs, List.length_map]
    omega
  have wl : (wk h d).length ≤ 1000 := by
    unfold wk
    refine Nat.le_trans (List.length_filter_le _ _) ?_
    rw [List.length_range]
    omega
  have la := last_at (L := zs (shields h d)) rfl (shields_inc h d)
  have db : d ≤ 1000 := by omega
  have yb : -4611686018427387904 ≤ h.getD d 0 + 1 ∧ h.getD d 0 + 1 < 4611686018427387904 := by omega
  have yt : (h.getD d 0 + 1 - 1).toNat = (h.getD d 0).toNat := by rw [Int.add_sub_cancel]
  have wb : -4611686018427387904 ≤ (ws.length : Int) + 1 ∧ (ws.length : Int) + 1 < 4611686018427387904 := by omega
  have se : (shields h d).isEmpty = (zs (shields h d)).isEmpty := by cases shields h d <;> simp [zs]
  have hy : h.getD d 0 = 0 ∨ zs (shields h d) ≠ [] ↔ idl h d = true := by
    unfold idl
    rw [Bool.or_eq_true, decide_eq_true_eq, se]
    cases zs (shields h d) <;> simp
  rw [se] at f4
  cases hi : idl h d with
  | true =>
    have hy := hy.mpr hi
    rw [hi] at f5 f6
    simp only [ite_tt] at f6
    have e := wk_idle hi
    rw [e] at l1
    have loop : ∀ (A3 A4 A5 A6 A7 j8 : Option Sl), ∃ j8', forL (turn cl (.nm 8) d_law_dam_L1) ((List.range (ws.length + 1)).map fun i => .int (i : Nat)) [some (.sh (tup_ h)), some (.sh (.int d)), some (.sh (tup_ ws)), A3, A4, A5, A6, A7, j8] = some (.nx [some (.sh (tup_ h)), some (.sh (.int d)), some (.sh (tup_ ws)), A3, A4, A5, A6, A7, j8']) := fun A3 A4 A5 A6 A7 j8 => by
      obtain ⟨σ', key, j8', rfl⟩ := forL_inv (turn cl (.nm 8) d_law_dam_L1) (fun _ σ => ∃ j8, σ = [some (.sh (tup_ h)), some (.sh (.int d)), some (.sh (tup_ ws)), A3, A4, A5, A6, A7, j8]) ((List.range (ws.length + 1)).map fun i => .int (i : Nat)) 0 [some (.sh (tup_ h)), some (.sh (.int d)), some (.sh (tup_ ws)), A3, A4, A5, A6, A7, j8] ⟨j8, rfl⟩ fun i x σ hx hp2 => by
        obtain ⟨q8, rfl⟩ := hp2
        obtain ⟨hi2, rfl⟩ := range_map_get rfl hx
        have k := kept_idle (ws := ws.take i) hd hp (fun w hw => hq w (List.mem_of_mem_take hw)) hi
        have f : cl 13 [tup_ h, tup_ (ws.take i)] = some (.tup [tup_ (kept h (ws.take i)), tup_ (flow h (ws.take i))]) := fol_ok 22 h (ws.take i) (by omega) (by simp; omega)
        simp only [tup_, List.map_take] at f
        refine ⟨_, ?_, some (.sh (.int i)), rfl⟩
        simp [turn_eq, d_law_dam_L1, cutL_to, f, k]
      exact ⟨j8', key⟩
    generalize h.getD d 0 = y at *
    generalize zs (shields h d) = L at *
    have l3 := loop (some (.own [])) none (some (.sh (.bl true))) (some (.own (L.map .int))) none none
    obtain ⟨j8', l3⟩ := l3
    have wt : ((ws.length : Int) + 1).toNat = ws.length + 1 := by omega
    by_cases q : L = []
    · subst q
      have q1 : y = 0 := hy.resolve_right fun c => c rfl
      subst q1
      simp at f4 l1 l2 l3
      simp [runF, d_law_dam, Def.fd, startS, gd, l1, l2, l3, f4, f5, f6, isB, isI, isN, db, wb, wt]
    · have q2 : L.isEmpty = false := by cases L with | nil => exact absurd rfl q | cons _ _ => rfl
      have q3 : 0 < L.length := List.length_pos_iff.mpr q
      have la := la q
      rw [q2] at f4
      simp only [ite_ff] at f4
      by_cases q1 : y = 0
      · subst q1
        simp at l1
        simp [runF, d_law_dam, Def.fd, startS, gd, l1, l2, l3, f4, f5, f6, isB, isI, isN, db, wb, wt, sl, q3, la]
      · simp [runF, d_law_dam, Def.fd, startS, gd, l1, l2, l3, f4, f5, f6, isB, isI, isN, db, wb, wt, sl, q1, q3, la, yb, yt]
  | false =>
    obtain ⟨m, r, e, em⟩ := wk_work hd hp hi
    have hy : ¬ (h.getD d 0 = 0 ∨ zs (shields h d) ≠ []) := fun c => by rw [hy.mp c] at hi; cases hi
    rw [hi] at f5 f6
    simp only [ite_ff] at f6
    rw [← em] at f6
    rw [e] at l1 wl
    generalize h.getD d 0 = y at *
    have q1 : y ≠ 0 := fun c => hy (.inl c)
    have q : zs (shields h d) = [] := Classical.byContradiction fun c => hy (.inr c)
    rw [q] at f4 l2 sl
    simp at f4 l1 l2
    have wl2 : r.length + 1 ≤ 1000 := by simpa using wl
    have ec : (1 + (m : Int)) = m + 1 := by omega
    simp [runF, d_law_dam, Def.fd, startS, gd, l1, l2, f4, f5, f6, isB, isI, isN, db, q1, yb, yt, wl2, ec]
end Dl
set_option Elab.async false
set_option linter.all false
set_option maxRecDepth 100000
set_option maxHeartbeats 4000000
namespace Dl
open PySem
def wsel (m : Int) (h : List Int) : List Int := ((List.range h.length).filter fun i => decide (m < h.getD i 0 ∧ ∀ j, j < i → h.getD j 0 < h.getD i 0)).map fun i => h.getD i 0
theorem wsel_work : ∀ (h : List Int) (m : Int), wsel m h = work m h
  | [], _ => rfl
  | a :: h, m => by
    have ih := wsel_work h (max m a)
    have e : ((List.range h.length).map Nat.succ).filter (fun i => decide (m < (a :: h).getD i 0 ∧ ∀ j, j < i → (a :: h).getD j 0 < (a :: h).getD i 0)) = ((List.range h.length).filter fun i => decide (max m a < h.getD i 0 ∧ ∀ j, j < i → h.getD j 0 < h.getD i 0)).map Nat.succ := by
      rw [List.filter_map]
      congr 1
      apply List.filter_congr
      intro i _
      simp only [Function.comp, Nat.succ_eq_add_one, List.getD_cons_succ]
      congr 1
      rw [eq_iff_iff]
      constructor
      · rintro ⟨h1, h2⟩
        have := h2 0 (by omega)
        rw [List.getD_cons_zero] at this
        refine ⟨by omega, fun j hj => ?_⟩
        have := h2 (j + 1) (by omega)
        rwa [List.getD_cons_succ] at this
      · rintro ⟨h1, h2⟩
        refine ⟨by omega, fun j hj => ?_⟩
        cases j with
        | zero => rw [List.getD_cons_zero]; omega
        | succ j => rw [List.getD_cons_succ]; exact h2 j (by omega)
    unfold wsel at ih ⊢
    rw [List.length_cons, List.range_succ_eq_map, List.filter_cons, e]
    have z : (m < (a :: h).getD 0 0 ∧ ∀ j, j < 0 → (a :: h).getD j 0 < (a :: h).getD 0 0) ↔ m < a := by simp
    by_cases q : m < a
    · rw [if_pos (decide_eq_true (z.mpr q)), List.map_cons, List.map_map]
      simp only [Function.comp_def, Nat.succ_eq_add_one, List.getD_cons_succ, List.getD_cons_zero]
      rw [ih, work, if_pos q, show max m a = a by omega]
    · rw [if_neg (by rw [decide_eq_false fun c => q (z.mp c)]; exact Bool.false_ne_true), List.map_map]
      simp only [Function.comp_def, Nat.succ_eq_add_one, List.getD_cons_succ]
      rw [ih, work, if_neg q, show max m a = m by omega]
theorem works_work {h : List Int} (hp : ∀ x ∈ h, 0 ≤ x) : works h = work 0 h := by
  rw [← wsel_work]
  unfold works wsel
  congr 1
  apply List.filter_congr
  intro i hi
  have hi : i < h.length := by simpa using hi
  have p0 := hp _ (List.mem_iff_getElem?.mpr ⟨i, getD_at hi⟩)
  rw [Bool.eq_iff_iff, Bool.not_eq_true', ← Bool.not_eq_true, idl_iff, decide_eq_true_eq]
  constructor
  · intro hn
    refine ⟨?_, fun j hj => ?_⟩
    · have : h.getD i 0 ≠ 0 := fun c => hn (.inl c)
      omega
    · apply Classical.byContradiction
      intro hc
      exact hn (.inr ⟨j, hj, by omega⟩)
  · rintro ⟨h1, h2⟩ (c | ⟨j, hj, hc⟩)
    · omega
    · have := h2 j hj
      omega
theorem work_sub : ∀ (h : List Int) (m : Int), (work m h).length ≤ h.length
  | [], _ => Nat.le_refl _
  | a :: h, m => by
    unfold work
    split
    · have := work_sub h a
      simp only [List.length_cons]
      omega
    · have := work_sub h m
      simp only [List.length_cons]
      omega
abbrev cl4 := callN tb.fns 24
theorem pick (l : List Int) (z : Int) (h0 : 0 ≤ z) (h1 : z < l.length) : ∃ v, v ∈ l ∧ L2.atI (l.map D.int) z = some (.int v) := by
  have hz : z.toNat < l.length := by omega
  refine ⟨l[z.toNat], List.getElem_mem hz, ?_⟩
  rw [atI_of _ _ h0, List.getElem?_map, List.getElem?_eq_getElem hz]
  rfl
/-- draws made smaller -/
theorem drawn_ok (ds : List Int) (o c : Nat) (hd : o + c ≤ ds.length) (m : Int) (hm : 0 < m) : ∃ l : List Int, l.length = c ∧ (∀ x ∈ l, 0 ≤ x ∧ x < m) ∧ (List.range c).map (fun i => (ds.getD (o + i) 0).fmod m) = l :=
  ⟨_, by simp, fun x hx => by
    obtain ⟨i, _, rfl⟩ := List.mem_map.mp hx
    exact fmod_bd _ m hm, rfl⟩
theorem e1_ok (ds : List Int) (hd : ds.length = 40) (m : Int) (hm : m ≠ 0) (c : Nat) (hc : c ≤ 5) (a0 a1 a4 a5 a6 a7 a8 a9 b0 b1 b2 b3 b4 : Option D) :
    lcD (lcS cl4 [8] (.nm 8) [] d_law_E1 [a0, a1, some (.lst (ds.map .int)), some (.int m), a4, a5, a6, a7, a8, a9, b0, b1, b2, b3, b4]) ((List.range c).map fun i => .int (i : Nat)) = some (((List.range c).map fun i => (ds.getD (1 + i) 0).fmod m).map .int) := by
  rw [List.map_map]
  refine lcD_map _ (fun i : Nat => .int i) _ _ fun x hx => ?_
  have hx : x < c := by simpa using hx
  have e := getD_at (h := ds) (d := 1 + x) (by omega)
  have e0 : (0 : Int) ≤ 1 + (x : Int) := by omega
  have e1 : (1 + (x : Int)).toNat = 1 + x := by omega
  rw [lcS_eq]
  simp only [Function.comp]
  generalize ds.getD (1 + x) 0 = y at e ⊢
  simp [d_law_E1, e, e0, e1, hm]
theorem e2_ok (ds : List Int) (hd : ds.length = 40) (m : Int) (hm : m ≠ 0) (c : Nat) (hc : c ≤ 8) (a0 a1 a3 a4 a6 a7 a8 a9 b0 b1 b2 b3 b4 : Option D) :
    lcD (lcS cl4 [8] (.nm 8) [] d_law_E2 [a0, a1, some (.lst (ds.map .int)), a3, a4, some (.int m), a6, a7, a8, a9, b0, b1, b2, b3, b4]) ((List.range c).map fun i => .int (i : Nat)) = some (((List.range c).map fun i => (ds.getD (8 + i) 0).fmod m).map .int) := by
  rw [List.map_map]
  refine lcD_map _ (fun i : Nat => .int i) _ _ fun x hx => ?_
  have hx : x < c := by simpa using hx
  have e := getD_at (h := ds) (d := 8 + x) (by omega)
  have e0 : (0 : Int) ≤ 8 + (x : Int) := by omega
  have e1 : (8 + (x : Int)).toNat = 8 + x := by omega
  rw [lcS_eq]
  simp only [Function.comp]
  generalize ds.getD (8 + x) 0 = y at e ⊢
  simp [d_law_E2, e, e0, e1, hm]
end Dl
set_option Elab.async false
set_option linter.all false
set_option maxRecDepth 100000
set_option maxHeartbeats 4000000
namespace Dl
open PySem
/-- the drawn input -/
structure Inp (h ws : List Int) : Prop where
  hl : h.length ≤ 5
  wl : ws.length ≤ 8
  hp : ∀ x ∈ h, 0 ≤ x
  wp : ∀ w ∈ ws, 0 ≤ w
  hb : ∀ x ∈ h, x ≤ 500
theorem pre_ok (ns : List Int) (t : Nat) (j2 j3 j4 j5 j6 j7 j8 j9 j10 j11 j12 j13 j14 : Option Sl) : ∃ (h ws : List Int) (C E F : Option Sl), Inp h ws ∧
    exSs cl4 (d_law_L5.take 5) [some (.sh (.scr ns)), some (.sh (.int t)), j2, j3, j4, j5, j6, j7, j8, j9, j10, j11, j12, j13, j14] =
      some (.nx [some (.sh (.scr ns)), some (.sh (.int t)), C, E, some (.sh (tup_ h)), F, some (.sh (tup_ ws)), j7, j8, j9, j10, j11, j12, j13, j14]) := by
  obtain ⟨z, hz⟩ := has.cellN 23 ns t
  obtain ⟨ds, hd, hok, hds⟩ := has.drawsN 23 z 40 (by omega)
  have hz : cl4 9 [.scr ns, .int t] = some (.int z) := hz
  have hds : cl4 10 [.int z, .int 40] = some (.lst (ds.map .int)) := hds
  have g0 := getD_at (h := ds) (d := 0) (by omega)
  have g6 := getD_at (h := ds) (d := 6) (by omega)
  have g7 := getD_at (h := ds) (d := 7) (by omega)
  have g16 := getD_at (h := ds) (d := 16) (by omega)
  obtain ⟨m, hm, em⟩ := pick [21, 6, 11] ((ds.getD 0 0).fmod 3) (fmod_bd _ 3 (by omega)).1 (fmod_bd _ 3 (by omega)).2
  obtain ⟨c, hc, ec⟩ := pick [3, 5, 4, 2, 1, 0, 5] ((ds.getD 6 0).fmod 7) (fmod_bd _ 7 (by omega)).1 (fmod_bd _ 7 (by omega)).2
  obtain ⟨v, hv, ev⟩ := pick [8, 26, 4] ((ds.getD 7 0).fmod 3) (fmod_bd _ 3 (by omega)).1 (fmod_bd _ 3 (by omega)).2
  have b16 := fmod_bd (ds.getD 16 0) 8 (by omega)
  have m1 : 0 < m ∧ m ≤ 21 := by simp at hm; omega
  have c1 : 0 ≤ c ∧ c ≤ 5 := by simp at hc; omega
  have v1 : 0 < v ∧ v ≤ 26 := by simp at hv; omega
  obtain ⟨cn, rfl⟩ : ∃ cn : Nat, c = cn := ⟨c.toNat, by omega⟩
  obtain ⟨wn, hwn⟩ : ∃ wn : Nat, 1 + (ds.getD 16 0).fmod 8 = wn := ⟨(1 + (ds.getD 16 0).fmod 8).toNat, by omega⟩
  obtain ⟨h, h1, h2, h3⟩ := drawn_ok ds 1 cn (by omega) m m1.1
  obtain ⟨ws, w1, w2, w3⟩ := drawn_ok ds 8 wn (by omega) v v1.1
  have l1 := e1_ok ds hd m (by omega) cn (by omega)
  have l2 := e2_ok ds hd v (by omega) wn (by omega)
  rw [h3] at l1
  rw [w3] at l2
  simp only [List.map_cons, List.map_nil] at em ec ev
  generalize (ds.getD 0 0) = y0 at *
  generalize (ds.getD 6 0) = y6 at *
  generalize (ds.getD 7 0) = y7 at *
  generalize (ds.getD 16 0) = y16 at *
  generalize hq0 : y0.fmod 3 = q0 at *
  generalize hq6 : y6.fmod 7 = q6 at *
  generalize hq7 : y7.fmod 3 = q7 at *
  generalize hq16 : y16.fmod 8 = q16 at *
  have cn5 : cn ≤ 1000 := by omega
  have wn5 : wn ≤ 1000 := by omega
  refine ⟨h, ws, some (.sh (.lst (ds.map .int))), some (.sh (.int m)), some (.sh (.int v)), ⟨by omega, by omega, fun x hx => (h2 x hx).1, fun x hx => (w2 x hx).1, fun x hx => by have := h2 x hx; omega⟩, ?_⟩
  simp [d_law_L5, hz, hds, g0, g6, g7, g16, hq0, hq6, hq7, hq16, em, ec, ev, hwn, l1, l2, cn5, wn5, h1, w1]
section
variable {h ws : List Int} (I : Inp h ws) (A B C E F : Option Sl)
include I
theorem loopA (j7 j8 j9 j10 j11 j12 j13 j14 : Option Sl) : ∃ i7 i10 i13, forL (turn cl4 (.nm 7) d_law_L1) ((List.range (ws.length + 1)).map fun i => .int (i : Nat)) [A, B, C, E, some (.sh (tup_ h)), F, some (.sh (tup_ ws)), j7, j8, j9, j10, j11, j12, j13, j14] =
    some (.nx [A, B, C, E, some (.sh (tup_ h)), F, some (.sh (tup_ ws)), i7, j8, j9, i10, j11, j12, i13, j14]) := by
  have key := forL_inv (turn cl4 (.nm 7) d_law_L1) (fun _ σ => ∃ i7 i10 i13, σ = [A, B, C, E, some (.sh (tup_ h)), F, some (.sh (tup_ ws)), i7, j8, j9, i10, j11, j12, i13, j14]) ((List.range (ws.length + 1)).map fun i => .int (i : Nat)) 0 [A, B, C, E, some (.sh (tup_ h)), F, some (.sh (tup_ ws)), j7, j8, j9, j10, j11, j12, j13, j14] ⟨_, _, _, rfl⟩ fun i x σ hx hp => by
    obtain ⟨q7, q10, q13, rfl⟩ := hp
    obtain ⟨hi, rfl⟩ := range_map_get rfl hx
    have hl := I.hl
    have wl := I.wl
    have wl2 : (ws.take i).length ≤ 8 := by simp; omega
    have f13 : cl4 13 [tup_ h, tup_ (ws.take i)] = some (.tup [tup_ (kept h (ws.take i)), tup_ (flow h (ws.take i))]) := fol_ok 23 h (ws.take i) (by omega) (by omega)
    have f2 : cl4 2 [tup_ h, tup_ (ws.take i)] = some (tup_ (flow h (ws.take i))) := valley_ok 21 h (ws.take i) (by omega) (by omega)
    have f3 : cl4 3 [tup_ h, tup_ (ws.take i)] = some (tup_ (kept h (ws.take i))) := held_ok 21 h (ws.take i) (by omega) (by omega)
    have len : (kept h (ws.take i)).length = h.length ∧ (flow h (ws.take i)).length = (ws.take i).length := runs_len h (ws.take i) (zeros h.length) (by simp)
    have t1 : cl4 12 [tup_ (kept h (ws.take i)), tup_ (kept h (ws.take i))] = some (.bl true) := has.isN (fits_ints (by omega)) (by omega)
    have t2 : cl4 12 [tup_ (flow h (ws.take i)), tup_ (flow h (ws.take i))] = some (.bl true) := has.isN (fits_ints (by omega)) (by omega)
    have s := kept_flow h (ws.take i)
    generalize kept h (ws.take i) = K at *
    generalize flow h (ws.take i) = L at *
    refine ⟨_, ?_, some (.sh (.int i)), some (.sh (tup_ L)), some (.sh (tup_ K)), rfl⟩
    simp only [tup_, List.map_take] at f13 f2 f3 t1 t2
    simp [turn_eq, d_law_L1, cutL_to, f13, f2, f3, t1, t2, s]
  obtain ⟨σ', key, i7, i10, i13, rfl⟩ := key
  exact ⟨i7, i10, i13, key⟩
theorem loopB (j7 j8 j9 j10 j11 j12 j13 j14 : Option Sl) : ∃ i8, forL (turn cl4 (.nm 8) d_law_L2) ((List.range h.length).map fun i => .int (i : Nat)) [A, B, C, E, some (.sh (tup_ h)), F, some (.sh (tup_ ws)), j7, j8, j9, j10, j11, j12, j13, j14] =
    some (.nx [A, B, C, E, some (.sh (tup_ h)), F, some (.sh (tup_ ws)), j7, i8, j9, j10, j11, j12, j13, j14]) := by
  have key := forL_inv (turn cl4 (.nm 8) d_law_L2) (fun _ σ => ∃ i8, σ = [A, B, C, E, some (.sh (tup_ h)), F, some (.sh (tup_ ws)), j7, i8, j9, j10, j11, j12, j13, j14]) ((List.range h.length).map fun i => .int (i : Nat)) 0 [A, B, C, E, some (.sh (tup_ h)), F, some (.sh (tup_ ws)), j7, j8, j9, j10, j11, j12, j13, j14] ⟨_, rfl⟩ fun i x σ hx hp => by
    obtain ⟨q8, rfl⟩ := hp
    obtain ⟨hi, rfl⟩ := range_map_get rfl hx
    have f : cl4 14 [tup_ h, .int i, tup_ ws] = some (.bl true) := dam_ok h ws (by have := I.hl; omega) (by have := I.wl; omega) I.hp I.wp I.hb i hi
    refine ⟨_, ?_, some (.sh (.int i)), rfl⟩
    simp [turn_eq, d_law_L2, f]
  obtain ⟨σ', key, i8, rfl⟩ := key
  exact ⟨i8, key⟩
theorem sh3_lc (d : Nat) (hd : d < h.length) (a0 a1 a2 a3 a5 a6 a7 a9 b0 b1 b2 b3 : Option D) : lcD (lcS cl4 [14] (.nm 14) d_law_T1 (.var 14) [a0, a1, a2, a3, some (tup_ h), a5, a6, a7, some (.int d), a9, b0, b1, b2, b3, none]) ((List.range d).map fun i => .int (i : Nat)) = some ((zs (shields h d)).map .int) := by
  rw [← nat_ints]
  refine lcD_filter _ (fun i : Nat => .int i) (fun j => decide (h.getD d 0 ≤ h.getD j 0)) (fun i => .int i) _ fun x hx => ?_
  have hx : x < d := by simpa using hx
  have g1 := getD_at hd
  have g2 := getD_at (h := h) (d := x) (by omega)
  generalize h.getD d 0 = y at *
  generalize h.getD x 0 = z at *
  rw [lcS_eq]
  by_cases hp : y ≤ z <;> simp [d_law_T1, g1, g2, hp]
def worksTo (h : List Int) (k : Nat) : List Int := ((List.range k).filter fun i => !idl h i).map fun i => h.getD i 0
theorem loopC (j7 j8 j10 j11 j12 j13 : Option Sl) : ∃ i8, forL (turn cl4 (.nm 8) d_law_L3) ((List.range h.length).map fun i => .int (i : Nat)) [A, B, C, E, some (.sh (tup_ h)), F, some (.sh (tup_ ws)), j7, j8, some (.own []), j10, j11, j12, j13, none] =
    some (.nx [A, B, C, E, some (.sh (tup_ h)), F, some (.sh (tup_ ws)), j7, i8, some (.own ((works h).map .int)), j10, j11, j12, j13, none]) := by
  have key := forL_inv (turn cl4 (.nm 8) d_law_L3) (fun k σ => ∃ i8, σ = [A, B, C, E, some (.sh (tup_ h)), F, some (.sh (tup_ ws)), j7, i8, some (.own ((worksTo h k).map .int)), j10, j11, j12, j13, none]) ((List.range h.length).map fun i => .int (i : Nat)) 0 [A, B, C, E, some (.sh (tup_ h)), F, some (.sh (tup_ ws)), j7, j8, some (.own []), j10, j11, j12, j13, none] ⟨_, rfl⟩ fun i x σ hx hp => by
    obtain ⟨q8, rfl⟩ := hp
    obtain ⟨hi, rfl⟩ := range_map_get rfl hx
    simp only [Nat.zero_add]
    have hl := I.hl
    have lc := sh3_lc I i hi
    have gd := getD_at hi
    have p0 := I.hp _ (List.mem_iff_getElem?.mpr ⟨i, gd⟩)
    have ib : i ≤ 1000 := by omega
    have sl : (zs (shields h i)).length ≤ 1000 := by
      have := shields_len h i
      simp only [zs, List.length_map]
      omega
    have wl : (worksTo h i).length ≤ 1000 := by
      unfold worksTo
      rw [List.length_map]
      refine Nat.le_trans (List.length_filter_le _ _) ?_
      rw [List.length_range]
      omega
    have se : (shields h i).isEmpty = (zs (shields h i)).isEmpty := by cases shields h i <;> simp [zs]
    have st : worksTo h (i + 1) = if idl h i = true then worksTo h i else worksTo h i ++ [h.getD i 0] := by
      unfold worksTo
      rw [List.range_succ, List.filter_append, List.map_append]
      cases hc : idl h i <;> simp [hc]
    refine ⟨_, ?_, some (.sh (.int i)), rfl⟩
    rw [st]
    unfold idl
    rw [se]
    generalize worksTo h i = W at *
    generalize h.getD i 0 = y at *
    generalize zs (shields h i) = L at *
    by_cases q : L = []
    · subst q
      simp at lc
      by_cases q2 : y = 0
      · subst q2
        simp [turn_eq, d_law_L3, lc, gd, ib]
      · have q3 : 0 < y := by omega
        simp [turn_eq, d_law_L3, lc, gd, ib, q2, q3, wl]
    · have q2 : L.isEmpty = false := by cases L with | nil => exact absurd rfl q | cons _ _ => rfl
      simp [turn_eq, d_law_L3, lc, gd, ib, q, q2, sl]
  obtain ⟨σ', key, i8, rfl⟩ := key
  refine ⟨i8, ?_⟩
  rw [key]
  simp only [List.length_map, List.length_range, Nat.zero_add]
  rfl
theorem loopE (j7 j8 j9 j10 j11 j12 j13 j14 : Option Sl) : ∃ i12, forL (turn cl4 (.nm 12) d_law_L4) ((List.range 40).map fun i => .int (1 + (i : Nat))) [A, B, C, E, some (.sh (tup_ h)), F, some (.sh (tup_ ws)), j7, j8, j9, j10, j11, j12, j13, j14] =
    some (.nx [A, B, C, E, some (.sh (tup_ h)), F, some (.sh (tup_ ws)), j7, j8, j9, j10, j11, i12, j13, j14]) := by
  have key := forL_inv (turn cl4 (.nm 12) d_law_L4) (fun _ σ => ∃ i12, σ = [A, B, C, E, some (.sh (tup_ h)), F, some (.sh (tup_ ws)), j7, j8, j9, j10, j11, i12, j13, j14]) ((List.range 40).map fun i => .int (1 + (i : Nat))) 0 [A, B, C, E, some (.sh (tup_ h)), F, some (.sh (tup_ ws)), j7, j8, j9, j10, j11, j12, j13, j14] ⟨_, rfl⟩ fun i x σ hx hp => by
    obtain ⟨q12, rfl⟩ := hp
    obtain ⟨hi, rfl⟩ := range_map_get rfl hx
    have hl := I.hl
    have f : cl4 2 [tup_ h, .tup [.int (1 + (i : Nat))]] = some (tup_ (flow h [1 + (i : Int)])) := valley_ok 21 h [1 + (i : Nat)] (by omega) (by simp)
    have so := (slide_one h (1 + (i : Nat)) I.hp (by omega)).1
    have ef : flow h [1 + (i : Int)] = [if ∃ x ∈ h, 1 + (i : Int) ≤ x then 0 else 1 + (i : Int)] := by
      rw [← so]; rfl
    have mx : 1 + (i : Int) ≤ maxL (0 :: h) ↔ ∃ x ∈ h, 1 + (i : Int) ≤ x := by
      constructor
      · intro hm
        rcases List.mem_cons.mp (maxL_mem (l := 0 :: h) (by simp)) with e | m
        · omega
        · exact ⟨_, m, hm⟩
      · rintro ⟨x, hx, hm⟩
        exact Int.le_trans hm (maxL_le (List.mem_cons_of_mem _ hx))
    have bm : bestD maxDD (D.int 0 :: h.map D.int) = some (.int (maxL (0 :: h))) := best_max 0 h
    have hs : 1 + h.length ≤ 1000 := by omega
    have t : ∀ b : Int, cl4 12 [.tup [.int b], .tup [.int b]] = some (.bl true) := fun b => has.isN (fits_ints (l := [b]) (by simp)) (by omega)
    rw [ef] at f
    refine ⟨_, ?_, some (.sh (.int (1 + i))), rfl⟩
    by_cases q : ∃ x ∈ h, 1 + (i : Int) ≤ x
    · have q2 := mx.mpr q
      rw [if_pos q] at f
      simp only [tup_, List.map_cons, List.map_nil] at f
      simp [turn_eq, d_law_L4, f, bm, hs, q2, t]
    · have q2 : ¬ 1 + (i : Int) ≤ maxL (0 :: h) := fun c => q (mx.mp c)
      rw [if_neg q] at f
      simp only [tup_, List.map_cons, List.map_nil] at f
      simp [turn_eq, d_law_L4, f, bm, hs, q2, t]
  obtain ⟨σ', key, i12, rfl⟩ := key
  exact ⟨i12, key⟩
end
end Dl
set_option Elab.async false
set_option linter.all false
set_option maxRecDepth 100000
set_option maxHeartbeats 4000000
namespace Dl
open PySem
theorem sum_nonneg : ∀ l : List Int, (∀ x ∈ l, 0 ≤ x) → 0 ≤ l.sum
  | [], _ => Int.le_refl 0
  | x :: l, h => by
    have := h x (List.mem_cons_self ..)
    have := sum_nonneg l fun y hy => h y (List.mem_cons_of_mem _ hy)
    rw [List.sum_cons]
    omega
theorem tail_ok {h ws : List Int} (I : Inp h ws) (A B C E F j7 j8 j10 j11 j12 j13 j14 : Option Sl) : ∃ i9 i10 i11, exSs cl4 ((d_law_L5.drop 9).take 7) [A, B, C, E, some (.sh (tup_ h)), F, some (.sh (tup_ ws)), j7, j8, some (.own ((works h).map .int)), j10, j11, j12, j13, j14] =
    some (.nx [A, B, C, E, some (.sh (tup_ h)), F, some (.sh (tup_ ws)), j7, j8, i9, i10, i11, j12, j13, j14]) := by
  have hl := I.hl
  have wl := I.wl
  have wk : (works h).length ≤ 5 := by
    rw [works_work I.hp]
    exact Nat.le_trans (work_sub h 0) hl
  have fw : flow (works h) ws = flow h ws := by
    rw [works_work I.hp]
    exact flow_work I.hp I.wp
  have f13 : cl4 13 [tup_ h, tup_ ws] = some (.tup [tup_ (kept h ws), tup_ (flow h ws)]) := fol_ok 23 h ws (by omega) (by omega)
  have f13w : cl4 13 [tup_ (works h), tup_ ws] = some (.tup [tup_ (kept (works h) ws), tup_ (flow (works h) ws)]) := fol_ok 23 (works h) ws (by omega) (by omega)
  have f2w : cl4 2 [tup_ (works h), tup_ ws] = some (tup_ (flow (works h) ws)) := valley_ok 21 (works h) ws (by omega) (by omega)
  have f7 : cl4 7 [tup_ h] = some (tup_ (works h)) := working_ok 21 h (by omega)
  have f8 : cl4 8 [tup_ h, tup_ ws] = some (.int (flow h ws).sum) := foot_ok 20 h ws (by omega) (by omega)
  have ff : ∀ v : Int, cl4 13 [.tup (h.map .int ++ [.int v]), tup_ ws] = some (.tup [tup_ (kept (h ++ [v]) ws), tup_ (flow (h ++ [v]) ws)]) := fun v => by
    have : cl4 13 [tup_ (h ++ [v]), tup_ ws] = some (.tup [tup_ (kept (h ++ [v]) ws), tup_ (flow (h ++ [v]) ws)]) := fol_ok 23 (h ++ [v]) ws (by simp; omega) (by omega)
    have e : tup_ (h ++ [v]) = .tup (h.map .int ++ [.int v]) := by simp [tup_]
    rw [e] at this
    exact this
  have len : (flow h ws).length = ws.length := (runs_len h ws (zeros h.length) (by simp)).2
  have t1 : cl4 12 [tup_ (works h), tup_ (works h)] = some (.bl true) := has.isN (fits_ints (by omega)) (by omega)
  have t2 : cl4 12 [tup_ (flow h ws), tup_ (flow h ws)] = some (.bl true) := has.isN (fits_ints (by omega)) (by omega)
  have isI : ∀ b, cl4 12 [.int b, .int b] = some (.bl true) := fun b => has.isN (fits_int 1 b) (by omega)
  have z0 := foot_zero I.hp I.wp
  have fp : 0 ≤ (flow h ws).sum := sum_nonneg _ ((Val.zeros h 0 I.hp).runs I.wp).2
  have z1 := foot_more (h := h) (ws := ws)
  have hs : h.length + 1 ≤ 1000 := by omega
  rw [fw] at f13w f2w
  generalize kept h ws = K at *
  generalize works h = W at *
  generalize kept W ws = K2 at *
  generalize flow h ws = L at *
  refine ⟨some (.sh (tup_ W)), some (.sh (tup_ L)), some (.sh (.int L.sum)), ?_⟩
  by_cases q : 0 < L.sum
  · have z1 := z1 q
    simp [d_law_L5, f13, f13w, f2w, f7, f8, ff, t1, t2, isI, z0, z1, q, hs]
  · simp [d_law_L5, f13, f13w, f2w, f7, f8, ff, t1, t2, isI, z0, q, hs]
theorem law_true : Law1 tb 25 15 := by
  intro ns hns
  rw [callN_at (show tb.fns[15]? = some d_law.fd from rfl)]
  have key := forL_inv (turn cl4 (.nm 1) d_law_L5) (fun _ σ => ∃ (j1 j2 j3 j4 j5 j6 j7 j9 j10 j11 j12 j13 : Option Sl) (j8 : Option Sl), σ = [some (.sh (.scr ns)), j1, j2, j3, j4, j5, j6, j7, j8, j9, j10, j11, j12, j13, none])
    ((List.range 3).map fun i => .int (i : Nat)) 0 [some (.sh (.scr ns)), none, none, none, none, none, none, none, none, none, none, none, none, none, none] ⟨_, _, _, _, _, _, _, _, _, _, _, _, _, rfl⟩ fun i x σ hx hp => by
      obtain ⟨j1, j2, j3, j4, j5, j6, j7, j9, j10, j11, j12, j13, j8, rfl⟩ := hp
      obtain ⟨hi, rfl⟩ := range_map_get rfl hx
      obtain ⟨h, ws, C, E, F, I, e1⟩ := pre_ok ns i j2 j3 j4 j5 j6 j7 j8 j9 j10 j11 j12 j13 none
      obtain ⟨a7, a10, a13, e2⟩ := loopA I (some (.sh (.scr ns))) (some (.sh (.int i))) C E F j7 j8 j9 j10 j11 j12 j13 none
      obtain ⟨a8, e3⟩ := loopB I (some (.sh (.scr ns))) (some (.sh (.int i))) C E F a7 j8 j9 a10 j11 j12 a13 none
      obtain ⟨b8, e4⟩ := loopC I (some (.sh (.scr ns))) (some (.sh (.int i))) C E F a7 a8 a10 j11 j12 a13
      obtain ⟨b9, b10, b11, e5⟩ := tail_ok I (some (.sh (.scr ns))) (some (.sh (.int i))) C E F a7 b8 a10 j11 j12 a13 none
      obtain ⟨b12, e6⟩ := loopE I (some (.sh (.scr ns))) (some (.sh (.int i))) C E F a7 b8 b9 b10 b11 j12 a13 none
      have hl := I.hl
      have wl := I.wl
      have hb : h.length ≤ 1000 := by omega
      have wb : -4611686018427387904 ≤ (ws.length : Int) + 1 ∧ (ws.length : Int) + 1 < 4611686018427387904 := by omega
      have wt : ((ws.length : Int) + 1).toNat = ws.length + 1 := by omega
      refine ⟨_, ?_, some (.sh (.int i)), C, E, some (.sh (tup_ h)), F, some (.sh (tup_ ws)), a7, b9, b10, b11, b12, a13, b8, rfl⟩
      rw [turn_eq]
      simp only [binds_nm, turnK_some, putS_cons, putS_nil, set_succ, set_zero]
      rw [exSs_split cl4 5, e1, thenK_nx, exSs_split cl4 4]
      have p1 : (d_law_L5.drop 5).take 4 = [.loop .b (.nm 7) (.rng1 (.bin .add (.bi .len [(.var 6)]) (.int 1))) d_law_L1, .loop .b (.nm 8) (.rng1 (.bi .len [(.var 4)])) d_law_L2, .own 9 (.lst []), .loop .b (.nm 8) (.rng1 (.bi .len [(.var 4)])) d_law_L3] := rfl
      have p2 : (d_law_L5.drop 5).drop 4 = d_law_L5.drop 9 := rfl
      have p3 : (d_law_L5.drop 9).drop 7 = [.loop .b (.nm 12) (.rng2 (.int 1) (.int 41)) d_law_L4] := rfl
      have q1 : exSs cl4 ((d_law_L5.drop 5).take 4) [some (.sh (.scr ns)), some (.sh (.int i)), C, E, some (.sh (tup_ h)), F, some (.sh (tup_ ws)), j7, j8, j9, j10, j11, j12, j13, none] = some (.nx [some (.sh (.scr ns)), some (.sh (.int i)), C, E, some (.sh (tup_ h)), F, some (.sh (tup_ ws)), a7, b8, some (.own ((works h).map .int)), a10, j11, j12, a13, none]) := by
        rw [p1]
        simp [wb, wt, hb, e2, e3, e4]
      rw [q1, thenK_nx, p2, exSs_split cl4 7, e5, thenK_nx, p3]
      simp [e6]
  obtain ⟨σ', key, j1, j2, j3, j4, j5, j6, j7, j9, j10, j11, j12, j13, j8, rfl⟩ := key
  simp [runF, d_law, Def.fd, startS, key]
end Dl
set_option Elab.async false
set_option linter.all false
set_option maxRecDepth 100000
set_option maxHeartbeats 0
namespace Dl
open PySem PySem.Spec PyProof.Rows L2
theorem ok_all : ∀ (i : Nat) (d : Def) (st : Stmt), tb[i]? = some (d, st) → DefOk tb.T d st
  | 0, _, _, h => by cases h; exact ok_one_slide
  | 1, _, _, h => by cases h; exact ok_all_slides
  | 2, _, _, h => by cases h; exact ok_valley_flow
  | 3, _, _, h => by cases h; exact ok_held_back
  | 4, _, _, h => by cases h; exact ok_told_shield
  | 5, _, _, h => by cases h; exact ok_is_idle_dam
  | 6, _, _, h => by cases h; exact ok_waking_slide
  | 7, _, _, h => by cases h; exact ok_working_dams
  | 8, _, _, h => by cases h; exact ok_foot_hold
  | 9, _, _, h => by cases h; exact ok_law_cell
  | 10, _, _, h => by cases h; exact ok_law_draws
  | 11, _, _, h => by cases h; exact ok_law_is_integer
  | 12, _, _, h => by cases h; exact ok_law_is
  | 13, _, _, h => by cases h; exact ok_law_followed
  | 14, _, _, h => by cases h; exact ok_law_dam
  | 15, _, _, h => by cases h; exact ok_law
  | n + 16, _, _, h => by cases h
abbrev R : PySem.W.OpenRow := PySem.W.OpenLaw.row PySem.Challenge.rw_slopeward_k37_whole_dams_and_idle_ones
abbrev hk : PySem.W.Hook := He.hookD 4 (topFa tb) (topFn tb)
def ob (s : PySem.W.SharedT) : He.AlD := He.obsDG 4 (topFa tb) (topFn tb) (HandSHeadRun.getT s)
theorem ob_eq (s : PySem.W.SharedT) : ob s = hk.obs s.abs := He.obsDG_eq (HandSHeadRun.getT_eq s)
abbrev loose : List Str := ["one_slide", "all_slides", "valley_flow", "held_back", "told_shield", "is_idle_dam", "waking_slide", "working_dams", "foot_hold", "_law_cell", "_law_draws", "_law_is_integer", "_law_is", "_law_followed", "_law_dam"]
theorem run (w : World) : HandSHeadRun.RunEq R (PySem.W.view R.prog [17]) hk ob 1000 loose w := by
  intro os
  kernel_rfl
theorem law_facts_here : Law1 tb 25 15 → ∀ (w : World) (mg : Str → Option Value) (fa : Addr) (h : Heap) (K : PySem.W.Frag), K.In h → He.SaysD (topFa tb) (topFn tb) K → h.Ns mainGlobals mg → mg ("law" : PySem.Str) = some (.ref fa) →
    ∃ (K : PySem.W.Frag) (fd : FuncData) (sp : L2.Sp), K.In h ∧ (∀ (s : Shared) (u : Value), BindsTo s fd ⟨[u], []⟩ [("script", u)]) ∧
      (∀ (H : L2.Hp) (a : Addr) (ns : List Int), ns.length ≤ 63 → L2.Only H → L2.SqL K H a (ns.map L2.V.int) → sp [.ref a] H (fun v _ => v = .bl true) fun _ _ _ => False) ∧
      ∀ base : Heap, K.In base → base.Ns mainGlobals mg → L2.FnOk (PySem.Challenge.rw_slopeward_k37_whole_dams_and_idle_ones).prog w K mg base L2.CX0 25 fa fd ["script"] sp := by
  intro law w mg fa h K KX c G hmg
  obtain ⟨fd, sp, h1, h2, h3⟩ := law_facts (P := (PySem.Challenge.rw_slopeward_k37_whole_dams_and_idle_ones).prog) (w := w) (x := "script") (d := d_law) (st := top 17) (j := 15) ok_all rfl rfl law KX G hmg c
  exact ⟨K, fd, sp, KX, h1, h2, h3⟩
end Dl
open PySem PySem.W PySem.Calls PyProof.Rows
theorem PySem.Challenge.cw_slopeward_k37_whole_dams_and_idle_ones_holds : PySem.Challenge.rw_slopeward_k37_whole_dams_and_idle_ones.Holds := by
  w_on; o_law
  refine HandSHeadRun.head_any (r := OpenLaw.row PySem.Challenge.rw_slopeward_k37_whole_dams_and_idle_ones) (q := view (OpenLaw.row PySem.Challenge.rw_slopeward_k37_whole_dams_and_idle_ones).prog [17]) (H := Dl.hk) (ob := Dl.ob) (M := 1000) (loose := Dl.loose) (d := HandSHeadRun.topDef (OpenLaw.row PySem.Challenge.rw_slopeward_k37_whole_dams_and_idle_ones).prog 17) (kwd := []) Dl.ob_eq
    (by kernel_rfl) (fun s => by kernel_rfl) Dl.run (by kernel_rfl) (by kernel_rfl) (by kernel_rfl) (by rfl) (by first | assumption | decide +kernel) (by decide +kernel) ⟨rfl, rfl, rfl, rfl, rfl, by decide +kernel⟩ ?hw ?hc
  case hw => w_witness2
  case hc =>
    refine L2.walk_ofE (l := PySem.Challenge.rw_slopeward_k37_whole_dams_and_idle_ones) (n := 63) (k := 25) (x := "script") (CX := L2.CX0) rfl (by decide) (by kernel_rfl) ⟨rfl, by decide, by decide⟩ ?F (fun _ _ _ _ z => z)
    intro w mg fa h Y G hmg0
    obtain ⟨K, KX, c⟩ := Y
    refine Dl.law_facts_here Dl.law_true w mg fa h K KX c G ?_
    have e : (HandSHeadRun.topDef (OpenLaw.row PySem.Challenge.rw_slopeward_k37_whole_dams_and_idle_ones).prog 17).name = ("law" : PySem.Str) := by kernel_rfl
    rw [← e]
    exact hmg0
